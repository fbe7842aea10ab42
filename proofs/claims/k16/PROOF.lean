import PyProof.Rows.All
import Wide.All
import OpenK.AllK
import Wide.FinOn
import PyProof.EqAt
import PyProof.EqKinds
import PyProof.TupleCall
import KE.KExcSuper
import KE.KExcIs
import HandS.ForMost
import HandS.ForExc
import HandS.ExcInit
import HandS.ExcField
import HandS.ExcIs
import HandS.TryMany
import HandS.Walk
import HandS.Wide
import HandS.EndBits
import HandS.Flow
import HandS.Codes
import HandS.IsInst
import HandS.More
import HandS.Conv
import HandS.DictTup
import KE.KDictWalk
import HandS.Style
import HandS.Text
import HandS.Steps
import HandS.CallLocal
import HandS.TupLe
import HandS.TupAny
import HandS.Zip
import HandS.FStr
import HandS.Star
import HandS.DictComp
import PyProof.EqLayable
import HandS.Iter
import HandS.Strs
import PyProof.Rows.StrMul
import HandS.CallSlots
import HandS.Defaults
import HandS.Deep
import KE.KOpsOwn
import KE.KFmtOwn
import HandS.TupLen
import HandS.WordsDict
import HandS.MakeKwOnly
import HandS.ClsMeth
import PySem.Challenge.RW_heldsteps_k16_whole_joined_or_why_not
set_option Elab.async false
set_option linter.all false
set_option maxRecDepth 100000
set_option maxHeartbeats 4000000
namespace PySem
namespace HErr
open PySem.W PySem.Calls PyProof.Rows PySem.HandSPX
abbrev FP := Str × Pos × Pos × Pos × Pos
def stF (q : FP) : Stmt := .Assign [.Attribute (.Name "self" q.2.1) q.1 q.2.2.1] (.Name q.1 q.2.2.2.1) q.2.2.2.2
def stS (msg : Expr) (p1 p2 p3 p4 p5 : Pos) : Stmt := .Expr (.Call (.Attribute (.Call (.Name "super" p1) [] [] p2) "__init__" p3) [msg] [] p4) p5
section
variable {prog : Program} {w : World} {A : Around} {E : Value → Shared → Prop} {s : Shared} {K : Frag} {C : Addr}
/-- what is known of the class for its stores -/
structure ClsK (K : Frag) (C : Addr) (fs : List Str) : Prop where
  cls : ∃ nm q N bs bm sn sub ab col dd k0 k1 k2 k3 k5, K.lookup C = some (excClassObj nm q C N bs bm true sn sub ab col dd k0 k1 k2 k3 k5 "ValueError.__new__") ∧ refsVE bm = true
  sa : findIn K (.ref C) "__setattr__" = some (some (.builtin "object.__setattr__"))
  noN : ∀ f ∈ fs, findIn K (.ref C) f = some none
theorem ClsK.data {fs : List Str} (T : ClsK K C fs) : ∃ cd, clsIn K C = some cd ∧ refsVE cd.mro = true ∧ cd.hasDict = true := by
  obtain ⟨nm, q, N, bs, bm, sn, sub, ab, col, dd, k0, k1, k2, k3, k5, hC, hbm⟩ := T.cls
  exact ⟨{ name := nm, bases := bs, mro := .ref C :: bm, ns := N, qualname := q, hasDict := true, slotNames := sn, subclasses := sub, abstract := ab, collection := col, hasDel := false }, by unfold clsIn; rw [hC] <;> rfl, hbm, rfl⟩
theorem ld {M : Model} {env : Env} {m : Str → Option Value} {x : Str} {pos : Pos} {v : Value} {Q : Value → Shared → Prop} (hn : s.heap.Ns env.locals m) (hv : m x = some v) (h : Q v s)
    (hk : env.scope.kind = .function) (hl : env.kindOf x = some .local) (hd : (x == ("__debug__" : Str)) = false) :
    wpAny M A (eval (.Name x pos) env) Q E s := wpAny_Name (wpAny_loadName_local hk hl hn hv h) hd
theorem swaps_attr (env : Env) (q : FP) : swapsWith (.Name q.1 q.2.2.2.1) (some (.Attribute (.Name "self" q.2.1) q.1 q.2.2.1)) q.2.2.2.2.line env = pure false := rfl
/-- the stores behind the first -/
theorem stores_old {names : List Str} (T : ClsK K C names) {env : Env} (hk : env.scope.kind = .function) (hself : env.kindOf "self" = some .local) {m : Str → Option Value} {x dx t0 : Addr} (hmx : m "self" = some (.ref x)) :
    ∀ (fs : List FP) (us : List Value) (vs : List L2.V) (hv : L2.Vals vs us) (hfn : ∀ q ∈ fs, q.1 ∈ names ∧ env.kindOf q.1 = some .local ∧ (q.1 == ("__debug__" : Str)) = false) (hm : Paired (fun (q : FP) u => m q.1 = some u) fs us) (fV : List (Str × L2.V)) (mA : Str → Option Value) (s : Shared) (Q : Flow → Shared → Prop),
      K.In s.heap → s.heap.Ns env.locals m → env.locals ≠ dx → K.lookup dx = none →
      s.heap.get? x = some { cls := .ref C, dict := some dx, data := .fields #[.ref t0, .none, .none, .none, .bool false, .none] } → s.heap.Ns1 dx mA → (∀ f, L2.RelO (fV.lookup f) (mA f)) → fV.length + fs.length ≤ 900 →
      (∀ h' tk mB, (∀ b o, b ≠ dx → s.heap.get? b = some o → h'.get? b = some o) → h'.Ns1 dx mB → (∀ f, L2.RelO ((((fs.map (·.1)).zip vs).reverse ++ fV).lookup f) (mB f)) → Q .next { s with heap := h', toks := tk }) →
      wpAny (model prog w) A (execs (fs.map stF) env) Q E s
  | [], us, vs, hv, hfn, hm, fV, mA, s, Q, X, hn, hL, hKd, hx, hns, hr, hl, hq => by
    refine wpAny_execs_nil ?_
    have := hq s.heap s.toks mA (fun _ _ _ e => e) hns (by simpa using hr)
    exact this
  | q :: fs, us, vs, hv, hfn, hm, fV, mA, s, Q, X, hn, hL, hKd, hx, hns, hr, hl, hq => by
    cases hm with
    | cons hu hm' =>
      rename_i u us'
      cases hv with
      | cons ru hv' =>
        rename_i v vs'
        obtain ⟨hmem, hloc, hdb⟩ := hfn q (List.mem_cons_self ..)
        obtain ⟨cd, hcd, hmro, hhd⟩ := T.data
        have hw := L2.within_of hr
        obtain ⟨hp, g, d, tk, os⟩ := s
        obtain ⟨oD, _, _, hoD, _, _⟩ := hns.count hw
        show wpAny _ _ (execs (stF q :: fs.map stF) env) _ _ _
        refine wpAny_execs_cons (plainObj_wpAny_Assign_Attribute ?_ (swaps_attr env q))
        refine ld hn hu (ld hn hmx ?_ hk hself (by decide)) hk hloc hdb
        refine set_plain X (ox := { cls := .ref C, dict := some dx, data := .fields #[.ref t0, .none, .none, .none, .bool false, .none] }) (od := some oD) ⟨hx, rfl, rfl, hoD⟩ T.sa ?_
        refine PySem.OEX.osa_old X hx hns hw (by rw [List.length_map]; omega) hcd hmro hhd (T.noN _ hmem) (fun h' tk' k hn' => ?_)
        have hxd : x ≠ dx := fun z => by
          obtain ⟨o, es, ep, e1, e2, _⟩ := hns
          rw [← z, hx] at e1
          cases e1
          cases e2
        refine stores_old T hk hself hmx fs us' vs' hv' (fun q' hq' => hfn q' (List.mem_cons_of_mem _ hq')) hm' ((q.1, v) :: fV) _ ⟨h', g, d, tk', os⟩ Q
          (fun a o e => k a o (fun z => by rw [z, hKd] at e; cases e) (X a o e)) ?_ hL hKd (k _ _ hxd hx) hn' (L2.relO_put ru hr) (by simp only [List.length_cons] at hl ⊢; omega) (fun h2 tk2 mB k2 hn2 r2 => ?_)
        · obtain ⟨o, es, ep, e1, e2⟩ := hn
          exact ⟨o, es, ep, k _ _ hL e1, e2⟩
        · refine hq h2 tk2 mB (fun b o hb e => k2 b o hb (k b o hb e)) hn2 fun f => ?_
          have := r2 f
          simpa using this
/-- all stores: from an exception without a dict -/
theorem stores_new {names : List Str} (T : ClsK K C names) {env : Env} (hk : env.scope.kind = .function) (hself : env.kindOf "self" = some .local) {m : Str → Option Value} {x t0 : Addr} (hmx : m "self" = some (.ref x))
    (q : FP) (fs : List FP) (us : List Value) (vs : List L2.V) (hv : L2.Vals vs us) (hfn : ∀ q' ∈ q :: fs, q'.1 ∈ names ∧ env.kindOf q'.1 = some .local ∧ (q'.1 == ("__debug__" : Str)) = false) (hm : Paired (fun (q : FP) u => m q.1 = some u) (q :: fs) us) (s : Shared) (Q : Flow → Shared → Prop)
    (X : K.In s.heap) (hn : s.heap.Ns env.locals m) (hLx : env.locals ≠ x) (hKx : K.lookup x = none)
    (hx : s.heap.get? x = some { cls := .ref C, data := .fields #[.ref t0, .none, .none, .none, .bool false, .none] }) (hl : fs.length ≤ 800)
    (hq : ∀ h' tk dx mB, (∀ b o, b ≠ x → s.heap.get? b = some o → h'.get? b = some o) → s.heap.objs.size ≤ dx → dx ≠ x → h'.get? x = some { cls := .ref C, dict := some dx, data := .fields #[.ref t0, .none, .none, .none, .bool false, .none] } →
      h'.Ns1 dx mB → (∀ f, L2.RelO (((((q :: fs).map (·.1)).zip vs).reverse).lookup f) (mB f)) → Q .next { s with heap := h', toks := tk }) :
    wpAny (model prog w) A (execs ((q :: fs).map stF) env) Q E s := by
  cases hm with
  | cons hu hm' =>
    rename_i u us'
    cases hv with
    | cons ru hv' =>
      rename_i v vs'
      obtain ⟨hmem, hloc, hdb⟩ := hfn q (List.mem_cons_self ..)
      obtain ⟨cd, hcd, hmro, hhd⟩ := T.data
      obtain ⟨hp, g, d, tk, os⟩ := s
      show wpAny _ _ (execs (stF q :: fs.map stF) env) _ _ _
      refine wpAny_execs_cons (plainObj_wpAny_Assign_Attribute ?_ (swaps_attr env q))
      refine ld hn hu (ld hn hmx ?_ hk hself (by decide)) hk hloc hdb
      refine set_plain X (ox := { cls := .ref C, dict := none, data := .fields #[.ref t0, .none, .none, .none, .bool false, .none] }) (od := none) ⟨hx, rfl, rfl, trivial⟩ T.sa ?_
      refine exc_osa X hx hcd hmro hhd (T.noN _ hmem) (fun h' tk' dx k dn dne hx' hn' => ?_)
      have hbig : ∀ {b : Addr} {o : Obj}, hp.get? b = some o → b ≠ dx := fun {b o} e => Nat.ne_of_lt (Nat.lt_of_lt_of_le (Heap.lt_size e) dn)
      have hKd : K.lookup dx = none := by
        cases e : K.lookup dx with
        | none => rfl
        | some o => exact absurd rfl (hbig (X _ _ e))
      have hLd : env.locals ≠ dx := by
        obtain ⟨o, es, ep, e1, e2⟩ := hn
        exact hbig e1
      refine stores_old T hk hself hmx fs us' vs' hv' (fun q' hq' => hfn q' (List.mem_cons_of_mem _ hq')) hm' [(q.1, v)] _ ⟨h', g, d, tk', os⟩ Q
        (fun a o e => k a o (fun z => by rw [z, hKx] at e; cases e) (X a o e)) ?_ hLd hKd hx' hn' (L2.relO_put (fs := []) ru fun _ => True.intro) (by simp only [List.length_cons, List.length_nil] at hl ⊢; omega) (fun h2 tk2 mB k2 hn2 r2 => ?_)
      · obtain ⟨o, es, ep, e1, e2⟩ := hn
        exact ⟨o, es, ep, k _ _ hLx e1, e2⟩
      · refine hq h2 tk2 dx mB (fun b o hb e => k2 b o (hbig e) (k b o hb e)) dn dne (k2 _ _ (Ne.symm dne) hx') hn2 fun f => ?_
        have := r2 f
        simpa using this
/-- what the written part says of the class at C and of its __init__, at fI: its name is cn, its fields fs -/
structure ErrTxt (P : Program) (K : Frag) (mg : Str → Option Value) (tm : Bool) (cn : Str) (C fI : Addr) (fs : List Str) : Prop extends ClsK K C fs where
  gC : mg cn = some (.ref C)
  ga : findIn K (.ref C) "__getattribute__" = some (some (.builtin "BaseException.__getattribute__"))
  gg : findIn K (.ref C) "__getattr__" = some none
  iC : findIn K (.ref C) "__init__" = some (some (.ref fI))
  tC : typeIn K (.ref fI) = some (.type "function")
  kC : keepIn K (.ref C) = true
  exC : subIn K (.ref C) (.type "BaseException") = some true
  veC : subIn K (.ref C) (.type "ValueError") = some true
  tyC : typeIn K (.ref C) = some (.type "type")
  hdC : hasDictIn K C = true
  sup : ks_superIn K C C "__init__" = some (some (.builtin "ValueError.__init__"))
  mro : mroIn K C (.ref C) = some true
  sub : subIn K (.ref C) (.ref C) = some true
  ca : findIn K (.ref C) "__class__" = some (some (.builtin "object.__class__"))
  cg : specialIn K (.builtin "object.__class__") "__get__" = some (some (.builtin "getset_descriptor.__get__"))
  ct : takesIn K (.builtin "object.__class__") = some true
  mo : mroIn K C (.type "object") = some true
  opq : nsIn K cStatics "thirdparty.any" = some none
  msup : mg "super" = none
  top : (P.main.scope.names.lookup ("super" : Str)).isSome = false
  fn : ∃ (oc : Value) (od : Option Addr) (qual : Str) (par : Arguments) (sc : Scope) (msg : Expr) (p1 p2 p3 p4 p5 : Pos) (fp : List FP) (dV kV doc pm : Value) (an : Option Addr) (cda cc : Addr) (ct : Value) (osl : Array (Option Value)) (ar : Arg)
      (ccl cl : Value) (cdd cld : Option Addr) (ccs csl : Array (Option Value)) (vs : Array Value) (file : Str) (tf : Tok),
    K.lookup fI = some ⟨oc, od, .func (ksFn "__init__" qual par (stS msg p1 p2 p3 p4 p5 :: fp.map stF) sc dV kV doc pm an (.ref cda) ct cc), osl⟩ ∧ codeIn K (.ref cda) qual = true ∧
    (par.posonlyargs ++ par.args).head? = some ar ∧ ar.arg = "self" ∧ K.lookup cda = some ⟨ccl, cdd, .fields vs, ccs⟩ ∧ vs[2]? = some (.str file tf) ∧ ((P.main.file : Str) == file) = true ∧
    K.lookup cc = some ⟨cl, cld, .cell (some (.ref C)), csl⟩ ∧ fp.map (·.1) = fs ∧ (p3.endLine == p4.line) = true ∧
    (sc.names.lookup ("super" : Str) = some .globalImplicit ∧ sc.names.lookup ("__class__" : Str) = some .free ∧ sc.names.lookup ("self" : Str) = some .local ∧ (∀ f ∈ fs, sc.names.lookup f = some .local) ∧ (∀ f ∈ fs, (f == ("__debug__" : Str)) = false) ∧ (∀ y ∈ sc.names, y.2 ≠ .cell)) ∧
    (sc.kind = .function ∧ sc.isGenerator = false ∧ sc.isCoroutine = false) ∧
    (∀ (s : Shared) (x : Value) (us : List Value), us.length = fs.length → BindsTo s (ksFn "__init__" qual par (stS msg p1 p2 p3 p4 p5 :: fp.map stF) sc dV kV doc pm an (.ref cda) ct cc) ⟨x :: us, []⟩ (("self", x) :: fs.zip us)) ∧
    (∀ (x : Value) (us : List Value), us.length = fs.length → ((("self" : Str), x) :: fs.zip us).reverse.lookup ("self" : Str) = some x ∧ Paired (fun f u => ((("self" : Str), x) :: fs.zip us).reverse.lookup f = some u) fs us) ∧
    ((tm = false ∧ ∃ (z : Str) (i : Nat) (p : Pos), msg = .Constant (.str z) i p) ∨ tm = true ∧ ∃ (z f : Str) (i : Nat) (p p' p'' : Pos), msg = .BinOp (.Constant (.str z) i p) .Add (.Name f p') p'' ∧ z.length ≤ 100 ∧ fs.head? = some f)
/-- what __init__ leaves of a fresh exception at x -/
structure InitEnd (h h' : Heap) (x C dx t1 : Addr) (fs : List Str) (vs : List L2.V) : Prop where
  keep : ∀ b o, b ≠ x → h.get? b = some o → h'.get? b = some o
  obj : h'.get? x = some { cls := .ref C, dict := some dx, data := .fields #[.ref t1, .none, .none, .none, .bool false, .none] }
  dbig : h.objs.size ≤ dx
  dne : dx ≠ x
  ns : ∃ mB, h'.Ns1 dx mB ∧ ∀ f, L2.RelO ((fs.zip vs).reverse.lookup f) (mB f)
/-- the built-in __init__, bound, called -/
theorem call_bw {h : Heap} {g : Array GenState} {d : Drawn} {t : Nat} {os : OsState} {u e t0 : Addr} {rest : List Value} {names : List Str} {Q : Value → Shared → Prop} (T : ClsK K C names) (X : K.In h)
    (he : h.get? e = some (excO C t0)) (hu : h.get? u = some (kxs_mw "ValueError.__init__" e)) (hrest : rest.length ≤ sizeLine)
    (hq : ∀ h' t1, (∀ b o, b ≠ e → h.get? b = some o → h'.get? b = some o) → h'.get? e = some (excO C t1) → Q .none ⟨h', g, d, t, os⟩) :
    wpAny (model prog w) A (call (.ref u) rest) Q E ⟨h, g, d, t, os⟩ := by
  obtain ⟨nm, q, N, bs, bm, sn, sub, ab, col, dd, k0, k1, k2, k3, k5, hC, hbm⟩ := T.cls
  refine wpAny_call (codeAny_of_tree ?_)
  show wpAny _ A.in1 (callAny (.ref u) ⟨rest, []⟩) _ _ _
  simp only [callAny]
  refine wpAny_bind (wpAny_load hu ?_)
  simp only [kxs_mw, show (Value.type "method-wrapper" == Value.type "method" || Value.type "method-wrapper" == Value.type "builtin_function_or_method" || Value.type "method-wrapper" == Value.type "method-wrapper") = true by decide, if_true]
  refine W.KFB.if_so (by decide) ?_
  refine wpAny_bind (PySem.W.check_bound_init F.excBase_ValueError.toExcCallFacts (X _ _ hC) he rfl ?_)
  refine wpAny_bind (wpAny_pure (wpAny_pure ?_))
  refine ⟨plainId_quiet F.excBase_ValueError.init.plain _, codeAny_builtin F.excBase_ValueError.initEntry ?_⟩
  exact exc_init_tree (cls := .ref C) (t0 := t0) (dv := none) (c2 := .none) (c3 := .none) (b4 := .bool false) he hrest fun h' k e' _ => hq h' _ k e'
/-- the text that super().__init__ gets -/
def MsgOk (msg : Expr) (env : Env) (m : Str → Option Value) : Prop := ∀ (prog : Program) (w : World) (A : Around) (E : Value → Shared → Prop) (s : Shared) (Q : Value → Shared → Prop), s.heap.Ns env.locals m → (∀ v tk, Q v { s with toks := tk }) → wpAny (model prog w) A (eval msg env) Q E s
/-- its __init__, called -/
theorem err_init {mg : Str → Option Value} {cn : Str} {fI : Addr} {fs : List Str} {tm : Bool} (T : ErrTxt prog K mg tm cn C fI fs) {x t0 : Addr} {us : List Value} {vs : List L2.V} {mb : Str → Option Value} {R : Result → Shared → Prop} (hv : L2.Vals vs us) (hl : us.length = fs.length) (hl8 : fs.length ≤ 8) (hne : fs ≠ [])
    (hmsg : tm = true → ∀ u, us.head? = some u → ∃ (z : Str) (t : Tok), u = .str z t ∧ z.length ≤ 1000)
    (X : K.In s.heap) (hlim : s.heap.NoLimit) (hg : s.heap.Ns mainGlobals mg) (hb : s.heap.Ns builtinsNs mb) (hbs : mb "super" = bootBuiltins "super") (hx : s.heap.get? x = some (excO C t0)) (hnx : K.lookup x = none) (hroom : A.depth < recursionLimit)
    (hq : ∀ h' tk dx t1, InitEnd s.heap h' x C dx t1 fs vs → R (.ok (.ret .none)) { s with heap := h', toks := tk }) :
    codeAny (model prog w) A (.call (.ref fI) ⟨.ref x :: us, []⟩) R s := by
  obtain ⟨oc, od, qual, par, sc, msg, p1, p2, p3, p4, p5, fp, dV, kV, doc, pm, an, cda, cc, ct, osl, ar, ccl, cl, cdd, cld, ccs, csl, avs, file, tf, ho, hcd, har, hself, hcda, hfile, hfe, hcell, hfp, hpos, ⟨nS, nC, nSelf, nF, nD, nCell⟩, ⟨kF, kG, kCo⟩, hbind, hlook, hm⟩ := T.fn
  obtain ⟨lself, lf⟩ := hlook (.ref x) us hl
  obtain ⟨cd, hcd2, hmro, hhd⟩ := T.toClsK.data
  obtain ⟨oD, hD1, hD2⟩ : ∃ oD, s.heap.get? C = some oD ∧ oD.data = .cls cd := by
    unfold clsIn at hcd2
    split at hcd2
    · rename_i c d cd' sl ho'
      cases hcd2
      exact ⟨_, X _ _ ho', rfl⟩
    · cases hcd2
  have hxC : x ≠ C := fun z => by
    rw [z, hD1] at hx
    cases hx
    cases hD2
  refine ks_codeAny_call_defAt (fd := ksFn "__init__" qual par (stS msg p1 p2 p3 p4 p5 :: fp.map stF) sc dV kV doc pm an (.ref cda) ct cc) (body := stS msg p1 p2 p3 p4 p5 :: fp.map stF) (binds := ("self", .ref x) :: fs.zip us) hroom (X _ _ ho) rfl hlim (codeRec_of X hcd) rfl (hbind s (.ref x) us hl) nCell ?_ (fun h₁ hns hk₁ => ?_) kCo kG kF
  · intro y hy
    rcases List.mem_cons.mp hy with rfl | hy
    · exact nSelf
    · exact nF _ (List.of_mem_zip hy).1
  have X₁ : K.In h₁ := X.keeps hk₁
  have hx₁ := hk₁ _ _ hx
  have hLx : s.heap.objs.size ≠ x := Nat.ne_of_gt (Heap.lt_size hx)
  have hMsg : MsgOk msg (ksEnv qual sc s.heap.objs.size fI (.ref cda) cc) (fun y => (((("self" : Str), Value.ref x) :: fs.zip us).reverse.lookup y)) := by
    intro prog w A E s1 Q hn1 hq1
    rcases hm with ⟨_, z, i, p, rfl⟩ | ⟨htm, z, f, i, p, p', p'', rfl, hz, hf⟩
    · exact wpAny_Constant_str (hq1 _ _)
    · cases lf with
      | nil => cases hf
      | cons h1 _ =>
        cases hf
        obtain ⟨z2, t2, rfl, hz2⟩ := hmsg htm _ rfl
        refine wpAny_BinOp (wpAny_Constant_str (ld (env := ksEnv qual sc s.heap.objs.size fI (.ref cda) cc) hn1 h1 ?_ kF (nF _ (List.mem_cons_self ..)) (nD _ (List.mem_cons_self ..))))
        exact add_str (fun t' tk => hq1 _ _) (by rw [sizeLine_eq]; omega)
  obtain ⟨kind, names, isG, isC, more⟩ := sc
  dsimp only at kF kG kCo nS nC nSelf nF nCell
  subst kF kG kCo
  obtain ⟨pl, he⟩ : ∃ pl, eval (.Call (.Attribute (.Call (.Name "super" p1) [] [] p2) "__init__" p3) [msg] [] p4) (ksEnv qual ⟨.function, names, false, false, more⟩ s.heap.objs.size fI (.ref cda) cc) = (do
      let ov ← attributeBase (.Call (.Name "super" p1) [] [] p2) "__init__" (ksEnv qual ⟨.function, names, false, false, more⟩ s.heap.objs.size fI (.ref cda) cc) (eval (.Call (.Name "super" p1) [] [] p2) (ksEnv qual ⟨.function, names, false, false, more⟩ s.heap.objs.size fI (.ref cda) cc))
      standAt p3.atName
      let (f, first) ← holding [ov] (getMethod ov "__init__" pl)
      callWith p4 f first (backTo p4 (starEach [msg] (ksEnv qual ⟨.function, names, false, false, more⟩ s.heap.objs.size fI (.ref cda) cc))) []) := by
    have hmp : ∀ o env, methodCallPos true o env p3 p4 = pure p4 := fun o env => by
      unfold methodCallPos
      rw [hpos] <;> rfl
    have key : ∀ ms : Expr, methodCallForm ([ms].length + ([] : List Keyword).length) (backTo p4 (starEach [ms] (ksEnv qual ⟨.function, names, false, false, more⟩ s.heap.objs.size fI (.ref cda) cc))) (backToKw p4 (keywordEach [] (ksEnv qual ⟨.function, names, false, false, more⟩ s.heap.objs.size fI (.ref cda) cc))) = true →
        eval (.Call (.Attribute (.Call (.Name "super" p1) [] [] p2) "__init__" p3) [ms] [] p4) (ksEnv qual ⟨.function, names, false, false, more⟩ s.heap.objs.size fI (.ref cda) cc) = (do
      let ov ← attributeBase (.Call (.Name "super" p1) [] [] p2) "__init__" (ksEnv qual ⟨.function, names, false, false, more⟩ s.heap.objs.size fI (.ref cda) cc) (eval (.Call (.Name "super" p1) [] [] p2) (ksEnv qual ⟨.function, names, false, false, more⟩ s.heap.objs.size fI (.ref cda) cc))
      standAt p3.atName
      let (f, first) ← holding [ov] (getMethod ov "__init__" (do return (← importBound (.Call (.Name "super" p1) [] [] p2) (ksEnv qual ⟨.function, names, false, false, more⟩ s.heap.objs.size fI (.ref cda) cc)).getD true))
      callWith p4 f first (backTo p4 (starEach [ms] (ksEnv qual ⟨.function, names, false, false, more⟩ s.heap.objs.size fI (.ref cda) cc))) []) := by
      intro ms hf
      show (do
        let ov ← attributeBase (.Call (.Name "super" p1) [] [] p2) "__init__" (ksEnv qual ⟨.function, names, false, false, more⟩ s.heap.objs.size fI (.ref cda) cc) (eval (.Call (.Name "super" p1) [] [] p2) (ksEnv qual ⟨.function, names, false, false, more⟩ s.heap.objs.size fI (.ref cda) cc))
        standAt p3.atName
        methodCall (.Call (.Name "super" p1) [] [] p2) "__init__" p3 p4 (ksEnv qual ⟨.function, names, false, false, more⟩ s.heap.objs.size fI (.ref cda) cc) ov ([ms].length + ([] : List Keyword).length) (backTo p4 (starEach [ms] (ksEnv qual ⟨.function, names, false, false, more⟩ s.heap.objs.size fI (.ref cda) cc))) (backToKw p4 (keywordEach [] (ksEnv qual ⟨.function, names, false, false, more⟩ s.heap.objs.size fI (.ref cda) cc)))) = _
      unfold methodCall
      simp only [hf, hmp, pure_bind]
      rfl
    rcases hm with ⟨_, z, i, p, rfl⟩ | ⟨htm, z, f, i, p, p', p'', rfl, hz, hf⟩
    · exact ⟨_, key _ rfl⟩
    · exact ⟨_, key _ rfl⟩
  have hst : starEach [msg] (ksEnv qual ⟨.function, names, false, false, more⟩ s.heap.objs.size fI (.ref cda) cc) = [(false, eval msg (ksEnv qual ⟨.function, names, false, false, more⟩ s.heap.objs.size fI (.ref cda) cc))] := by
    rcases hm with ⟨_, z, i, p, rfl⟩ | ⟨htm, z, f, i, p, p', p'', rfl, hz, hf⟩
    · rfl
    · rfl
  -- super().__init__(..)
  refine ks_wpAt_execs_cons (ks_wpAt_Expr_any (ks_wpAt_MethodCall (pl := pl) ?_ he))
  refine ks_wpAt_super_base (env := ksEnv qual ⟨.function, names, false, false, more⟩ s.heap.objs.size fI (.ref cda) cc) nS nC (by decide) rfl (hk₁ _ _ (X _ _ ho)) rfl har rfl (X₁ _ _ hcda) rfl hfile hfe T.top ?_
  refine ks_loadName_global rfl nS (loadGlobal_builtin (env := ksEnv qual ⟨.function, names, false, false, more⟩ s.heap.objs.size fI (.ref cda) cc) (hg.keeps hk₁) T.msup (hb.keeps hk₁) (hbs.trans (by first | boot_by_name | rfl | kernel_rfl)) ⟨rfl, ?_⟩)
  refine wpAny_loadName_free rfl nC rfl ⟨_, X₁ _ _ hcell, rfl⟩ ?_
  rw [hself]
  refine wpAny_loadName_local rfl nSelf hns lself ?_
  refine ks_wpAny_isType_cls (hk₁ _ _ hD1) hD2 ⟨rfl, ?_⟩
  refine ks_wpAny_call_super (hk₁ _ _ hD1) hD2 hx₁ rfl (fun c e => by cases e) (looks_mroIn X₁ T.mro) (fun h₂ eso k₂ => ?_)
  have X₂ : K.In h₂ := X₁.keeps k₂
  have hx₂ := k₂ _ _ hx₁
  have hnsU : ∀ {h : Heap}, (∀ b o, h₁.get? b = some o → h.get? b = some o) → h.Ns s.heap.objs.size (fun y => ((("self" : Str), Value.ref x) :: fs.zip us).reverse.lookup y) := fun {h} k => hns.keeps k
  have hsup := T.sup
  unfold ks_superIn at hsup
  rw [hcd2] at hsup
  refine kxs_getMethod kxs_ValueError (K := K) eso (looks_opaque X₂ T.opq) (l₀ := cd.mro) ?_ rfl X₂ hsup ?_ hxC (by decide) ?_
  · exact fun A Q E s k q => wpAny_bind ((looks_clsIn X₂ hcd2) A _ E s k (wpAny_pure q))
  · exact (InstAt.type (od := none) ⟨hx₂, rfl, rfl, trivial⟩).andThen (looks_subIn X₂ T.veC)
  · have k₃ : ∀ b o, h₂.get? b = some o → (h₂.push (kxs_mw "ValueError.__init__" x)).get? b = some o := fun b o e => Heap.get?_push_of_some _ e
    show wpAny _ _ (callWith p4 (.ref h₂.objs.size) [] (backTo p4 (starEach [msg] (ksEnv qual ⟨.function, names, false, false, more⟩ s.heap.objs.size fI (.ref cda) cc))) []) _ _ _
    rw [hst]
    refine kxs_callWith (i := "ValueError.__init__") (x := x) rfl (evalArgs_plain ?_)
    refine spliced_cons ?_
    refine hMsg prog w _ _ _ _ (hnsU fun b o e => k₃ b o (k₂ b o e)) (fun v tk => spliced_nil ⟨?_, ?_⟩)
    · exact Heap.get?_push_at rfl rfl
    · refine call_bw T.toClsK (X₂.keeps k₃) (k₃ _ _ hx₂) (Heap.get?_push_at rfl rfl) (by rw [sizeLine_eq]; exact (by decide : 1 ≤ 16777216)) (fun h₄ t1 k₄ hx₄ => ?_)
      have hsz : ∀ {b : Addr} {o : Obj}, s.heap.get? b = some o → b ≠ x → h₄.get? b = some o := fun {b o} e hb => k₄ b o hb (k₃ b o (k₂ b o (hk₁ b o e)))
      have hL4 : h₄.Ns s.heap.objs.size (fun y => ((("self" : Str), Value.ref x) :: fs.zip us).reverse.lookup y) := by
        obtain ⟨o, es, ep, e1, e2⟩ := hns
        exact ⟨o, es, ep, k₄ _ _ hLx (k₃ _ _ (k₂ _ _ e1)), e2⟩
      cases fp with
      | nil => exact absurd hfp.symm (by simpa using hne)
      | cons q fp =>
        have hP : Paired (fun (q : FP) u => ((("self" : Str), Value.ref x) :: fs.zip us).reverse.lookup q.1 = some u) (q :: fp) us := by
          rw [← hfp] at lf
          have key : ∀ (m : Str → Option Value) (l : List FP) (us : List Value), Paired (fun f u => m f = some u) (l.map (·.1)) us → Paired (fun (q : FP) u => m q.1 = some u) l us := by
            intro m l
            induction l with
            | nil => intro us h; cases h; exact .nil
            | cons a l ih => intro us h; cases h with | cons h1 h2 => exact .cons h1 (ih _ h2)
          have := key (fun y => ((("self" : Str), Value.ref x) :: fs.zip us).reverse.lookup y) (q :: fp) us (by simpa [hfp] using lf)
          exact this
        show wpAt _ _ _ (execs ((q :: fp).map stF) _) _ _ _
        refine wpAt_of_wpAny (stores_new (m := fun y => (((("self" : Str), Value.ref x) :: fs.zip us).reverse.lookup y)) T.toClsK (env := ksEnv qual ⟨.function, names, false, false, more⟩ s.heap.objs.size fI (.ref cda) cc) rfl nSelf lself q fp us vs hv (fun q' hq' => ?_) hP ⟨h₄, s.gens, s.drawn, tk, s.os⟩ _ ((fun a o e => hsz (X a o e) (fun z => by rw [z, hnx] at e; cases e))) hL4 hLx hnx hx₄ ?_ (fun h' tk' dx mB k5 dn dne hx5 hn5 r5 => ?_))
        · have hin : q'.1 ∈ fs := by rw [← hfp]; exact List.mem_map_of_mem hq'
          exact ⟨hin, nF _ hin, nD _ hin⟩
        · have : (q :: fp).length = fs.length := by rw [← hfp, List.length_map]
          simp only [List.length_cons] at this
          omega
        · refine hq h' tk' dx t1 ⟨fun b o hb e => k5 b o hb (hsz e hb), hx5, ?_, dne, mB, hn5, ?_⟩
          · refine Nat.le_trans ?_ dn
            have z1 : s.heap.objs.size < h₄.objs.size := by
              obtain ⟨o, es, ep, e1, e2⟩ := hL4
              exact Heap.lt_size e1
            exact Nat.le_of_lt z1
          · intro f
            have := r5 f
            rw [hfp] at this
            exact this
/-- a made error -/
structure OwnMade (h h' : Heap) (e C d : Addr) (fs : List Str) (vs : List L2.V) : Prop where
  keep : ∀ b o, h.get? b = some o → h'.get? b = some o
  new : h.objs.size ≤ e
  obj : ∃ oe as, h'.get? e = some oe ∧ oe.cls = .ref C ∧ oe.dict = some d ∧ oe.data = .fields as ∧ as[1]? = some .none
  dbig : h.objs.size ≤ d
  dne : d ≠ e
  ns : ∃ mB, h'.Ns1 d mB ∧ ∀ f, L2.RelO ((fs.zip vs).reverse.lookup f) (mB f)
theorem err_made {mg : Str → Option Value} {cn : Str} {fI : Addr} {fs : List Str} {tm : Bool} (T : ErrTxt prog K mg tm cn C fI fs) {us : List Value} {vs : List L2.V} {mb : Str → Option Value} {R : Result → Shared → Prop} (hv : L2.Vals vs us) (hl : us.length = fs.length) (hl8 : fs.length ≤ 8) (hne : fs ≠ [])
    (hmsg : tm = true → ∀ u, us.head? = some u → ∃ (z : Str) (t : Tok), u = .str z t ∧ z.length ≤ 1000)
    (X : K.In s.heap) (hlim : s.heap.NoLimit) (hg : s.heap.Ns mainGlobals mg) (hb : s.heap.Ns builtinsNs mb) (hbs : mb "super" = bootBuiltins "super") (hroom : A.depth + 1 < recursionLimit)
    (hq : ∀ h' tk e d, OwnMade s.heap h' e C d fs vs → R (.ok (.ret (.ref e))) { s with heap := h', toks := tk }) :
    codeAny (model prog w) A (.call (.ref C) ⟨us, []⟩) R s := by
  obtain ⟨nm, q, N, bs, bm, sn, sub, ab, col, dd, k0, k1, k2, k3, k5, hC, hbm⟩ := T.cls
  obtain ⟨hp, g, dr, tk, os⟩ := s
  have k : ∀ b o, hp.get? b = some o → ((hp.push (kdv_tup us)).push (excO C hp.objs.size)).get? b = some o := fun b o e => Heap.get?_push_of_some _ (Heap.get?_push_of_some _ e)
  have hget : ((hp.push (kdv_tup us)).push (excO C hp.objs.size)).get? (hp.objs.size + 1) = some (excO C hp.objs.size) := by heap_get
  have hnx : K.lookup (hp.objs.size + 1) = none := by
    cases e : K.lookup (hp.objs.size + 1) with
    | none => rfl
    | some o =>
      have z : hp.get? (hp.objs.size + 1) = some o := X _ _ e
      exact absurd (Nat.lt_of_succ_lt (Heap.lt_size z)) (Nat.lt_irrefl _)
  refine call_own F.excBase_ValueError (fun X => refsVE_contains X bm hbm) (X _ _ hC) (looks_findIn X T.iC) (fun self => bind_fn X self T.tC) (by rw [sizeLine_eq]; omega) ?_
  refine err_init (s := ⟨(hp.push (kdv_tup us)).push (excO C hp.objs.size), g, dr, tk, os⟩) T hv hl hl8 hne hmsg (X.keeps k) (hlim.keeps k) (hg.keeps k) (hb.keeps k) hbs hget hnx ?_ fun h' tk' dx t1 ⟨k', hx, dn, dne, hns⟩ => ?_
  · show A.depth + 1 < recursionLimit
    exact hroom
  · have old : ∀ b o, hp.get? b = some o → h'.get? b = some o := fun b o e => k' b o (Nat.ne_of_lt (Nat.lt_succ_of_lt (Heap.lt_size e))) (k b o e)
    have z : hp.objs.size + 1 + 1 ≤ dx := by
      first
        | (simpa only [Heap.size_push] using dn)
        | exact dn
        | (have q := dn; rw [Heap.size_push, Heap.size_push] at q; exact q)
    exact ⟨rfl, hq h' tk' (hp.objs.size + 1) dx ⟨old, Nat.le_succ _, ⟨_, _, hx, rfl, rfl, rfl, rfl⟩, Nat.le_trans (Nat.le_trans (Nat.le_succ _) (Nat.le_succ _)) z, dne, hns⟩⟩
end
end HErr
end PySem
namespace L2
open PySem PySem.Spec PyProof.Rows PySem.HErr
section
variable {X : Cx} {C fI : Addr} {cn : Str} {fs : List Str} {tm : Bool}
/-- C(e, ..), an error of the package -/
def tMkE (tm : Bool) (C : Addr) (fs : List Str) (ta : TA) : St → Hp → XK → Prop := fun σ H Q => ta σ H fun vs H1 => vs.length = fs.length ∧ (tm = true → ∃ (z : Str) (r : List V), vs = .str z :: r ∧ z.length ≤ 1000) ∧
  ∀ d, H1 d = none → Q (.ref C) (some d) (upd H1 d (.xd (fs.zip vs).reverse))
theorem pmk_err {a : Expr} {as : List Expr} {ta : TA} {p pos : Pos} {k : Nat} (T : ErrTxt X.prog X.K X.mg tm cn C fI fs) (hr : Room k X.A) (ha : PA X (a :: as) ta) (hl8 : fs.length ≤ 8) (hne : fs ≠ []) (hg : Gl X cn := by rfl) (hdb : (cn == ("__debug__" : Str)) = false := by decide)
    (he : starEach (a :: as) X.env = (false, eval a X.env) :: starEach as X.env := by rfl) (hpl : (backTo pos (starEach as X.env)).any (·.1) = false := by rfl) :
    PMk X (.Call (.Name cn p) (a :: as) [] pos) (tMkE tm C fs ta) := by
  intro pins s σ H Q I h
  refine wpAny_Call_Name_kw (ld_glob I hg T.gC ?_ hdb)
  refine PySem.W.callWith_K (h₀ := X.base) I.ok.mod.kin T.kC (thn (ha.run pos pins s σ H _ I h) fun us s1 hh => ?_) he hpl
  obtain ⟨vs, H1, I1, r1, hl, hz, q1⟩ := hh
  refine ⟨I1.kIn, ?_⟩
  show wpAny _ _ (call (.ref C) us) _ _ _
  have hlim := I1.nolimit
  obtain ⟨mb, hb1, hb2⟩ := I1.mod.blt
  have hgl := I1.mod.glob.keeps I1.bk
  have hbl := hb1.keeps I1.bk
  obtain ⟨hp, g, dr, tk, os⟩ := s1
  refine wpAny_call (err_made (mb := mb) T r1 (r1.length.symm.trans hl) hl8 hne ?_ I1.kIn hlim hgl hbl (hb2 "super" (by decide)) (by have := hr.dp; omega) fun h' tk' e d M => ?_)
  · intro ht u hu
    obtain ⟨z, r, rfl, hz5⟩ := hz ht
    cases r1 with
    | cons r0 _ =>
      cases hu
      obtain ⟨t, rfl⟩ := r0
      exact ⟨z, t, rfl, hz5⟩
  show MkP X pins σ Q (.ref e) ⟨h', g, dr, tk', os⟩
  obtain ⟨oe, fv, hoe, hc, hd, hdat, h1⟩ := M.obj
  obtain ⟨mB, hns, hrel⟩ := M.ns
  obtain ⟨G', g1, g2⟩ := restrict h' fun b => decide (b ≠ e)
  have gk : ∀ b, b ≠ e → G'.get? b = h'.get? b := fun b hb => g1 b (decide_eq_true hb)
  have ge : G'.get? e = none := g2 e (by simp)
  have old : ∀ b o, hp.get? b = some o → G'.get? b = some o := fun b o q => (gk b (Nat.ne_of_lt (Nat.lt_of_lt_of_le (Heap.lt_size q) M.new))).trans (M.keep b o q)
  have ob : ObjOk X.prog X.w (upd H1 d (.xd (fs.zip vs).reverse)) G' d (.xd (fs.zip vs).reverse) :=
    ⟨mB, hns.at (fun o q => (gk d M.dne).trans q), hrel⟩
  have J : Inv X pins σ (upd H1 d (.xd (fs.zip vs).reverse)) ⟨G', g, dr, tk', os⟩ := I1.laid (t' := tk') old M.dbig ob
  refine ⟨e, oe, fv, ⟨G', g, dr, tk', os⟩, _, .ref C, some d, rfl, J, fun b o q => ?_, ge, hoe, ⟨hc, hd⟩, hdat, h1, ?_, rfl, I1.bare, raises_own T.exC T.tyC, q1 d (I1.hok.fresh M.dbig)⟩
  · by_cases hb : b = e
    · have q' : G'.get? b = some o := q
      rw [hb, ge] at q'; cases q'
    · exact (gk b hb).symm.trans q
  · rw [upd_ne (Ne.symm M.dne)]
    exact I1.hok.fresh M.new
/-- raise C(e, ..) -/
def tRaiseE (tm : Bool) (C : Addr) (fs : List Str) (W : WX) (ta : TA) : TS := fun _ σ H => tMkE tm C fs ta σ H fun cls d H' => W cls d σ H'
theorem ps_raiseE {a : Expr} {as : List Expr} {ta : TA} {W : WX} {p pos pos2 : Pos} {k : Nat} (hc : X.calm = true) (T : ErrTxt X.prog X.K X.mg tm cn C fI fs) (hr : Room k X.A) (tk : Takes X W) (ha : PA X (a :: as) ta) (hl8 : fs.length ≤ 8 := by decide) (hne : fs ≠ [] := by decide) (hg : Gl X cn := by rfl) (hdb : (cn == ("__debug__" : Str)) = false := by decide)
    (he : starEach (a :: as) X.env = (false, eval a X.env) :: starEach as X.env := by rfl) (hpl : (backTo pos (starEach as X.env)).any (·.1) = false := by rfl) :
    PS X (.Raise (some (.Call (.Name cn p) (a :: as) [] pos)) none pos2) (tRaiseE tm C fs W ta) := ps_raise hc tk (pmk_err T hr ha hl8 hne hg hdb he hpl)
end
end L2
set_option Elab.async false
set_option linter.all false
set_option maxRecDepth 100000
set_option maxHeartbeats 4000000
namespace L2
open PySem PySem.Spec PyProof.Rows PySem.HErr
end L2
set_option Elab.async false
set_option linter.all false
set_option maxRecDepth 100000
set_option maxHeartbeats 4000000
namespace L2
open PySem PySem.Spec PyProof.Rows PySem.HErr
/-- none of these built-ins is shadowed -/
structure Bl (mg : Str → Option Value) : Prop where
  len : mg "len" = none
  range : mg "range" = none
  abs : mg "abs" = none
  sum : mg "sum" = none
  sorted : mg "sorted" = none
  isinstance : mg "isinstance" = none
  zip : mg "zip" = none
  enumerate : mg "enumerate" = none
  reversed : mg "reversed" = none
  int' : mg "int" = none
  str' : mg "str" = none
  list' : mg "list" = none
  tuple' : mg "tuple" = none
  bool' : mg "bool" = none
  all' : mg "all" = none
  any' : mg "any" = none
  ValueError : mg "ValueError" = none
/-- the module's name x is the value v -/
def Glo (mg : Str → Option Value) (x : Str) (v : V) : Prop := ∃ u, mg x = some u ∧ RelV v u
/-- where a def's text stands -/
def LkF (K : PySem.W.Frag) (f : Addr) (fd : FuncData) : Prop := ∃ (oc : Value) (od : Option Addr) (osl : Array (Option Value)), K.lookup f = some ⟨oc, od, .func fd, osl⟩
/-- a def, with whatever defaults -/
structure FunA (K : PySem.W.Frag) (x qual : Str) (st : Stmt) (f : Addr) (fd : FuncData) : Prop where
  ex : ∃ (oc : Value) (od : Option Addr) (dV kV doc pm : Value) (an : Option Addr) (cdv ct : Value) (osl : Array (Option Value)),
    fd = PySem.W.fnOf x qual (defArgs st) (defBody st) (defScope st) dV kV doc pm an cdv ct ∧ K.lookup f = some ⟨oc, od, .func fd, osl⟩ ∧ PySem.W.codeIn K cdv qual = true
  kp : PySem.W.keepIn K (.ref f) = true
section
variable {P : Program} {w : World} {K : PySem.W.Frag} {mg : Str → Option Value} {base : Heap}
theorem FunA.lk {x qual : Str} {st : Stmt} {f : Addr} {fd : FuncData} (F : FunA K x qual st f fd) : LkF K f fd := by
  obtain ⟨oc, od, dV, kV, doc, pm, an, cdv, ct, osl, _, lk, _⟩ := F.ex
  exact ⟨oc, od, osl, lk⟩
theorem PySem_Fun_a {x qual : Str} {st : Stmt} {f : Addr} {fd : FuncData} (F : Fun K x qual st f fd) : FunA K x qual st f fd := by
  obtain ⟨oc, od, kV, doc, pm, an, cdv, ct, osl, e, lk, hcd⟩ := F.ex
  exact ⟨⟨oc, od, .none, kV, doc, pm, an, cdv, ct, osl, e, lk, hcd⟩, F.kp⟩
theorem FunA.ok {x qual : Str} {st : Stmt} {f : Addr} {fd : FuncData} {N ps : List Str} {k : Nat} {sp : Sp} (F : FunA K x qual st f fd) (S : FnScope N ps (defScope st)) (len : ∀ vs H Q E, sp vs H Q E → vs.length = ps.length)
    (hbody : ∀ (cdv : Value) (A : Around) (outer : List Env) (s : Shared) (H : Hp) (vs : List V) (Q : VK) (E : XK), Room k (A.deeper (envOfC qual (defScope st) s.heap.objs.size f cdv)) → sp vs H Q E →
      ∃ t, PSs (cxOf CX0 P w K mg base N qual (defScope st) f cdv A outer s H E).nox (defBody st) t ∧ t { nx := fun _ H' => Q .non H', rt := Q } (start N vs) H) : FnOk P w K mg base CX0 (k + 1) f fd ps sp := by
  obtain ⟨oc, od, dV, kV, doc, pm, an, cdv, ct, osl, rfl, lk, hcd⟩ := F.ex
  refine fn_of lk hcd S len fun A outer s H vs Q E hr hsp => ?_
  obtain ⟨t, h, q⟩ := hbody cdv A outer s H vs Q E hr hsp
  exact ⟨t, h.nox, q⟩
theorem FunA.okX {x qual : Str} {st : Stmt} {f : Addr} {fd : FuncData} {N ps : List Str} {k : Nat} {sp : Sp} (F : FunA K x qual st f fd) (S : FnScope N ps (defScope st)) (len : ∀ vs H Q E, sp vs H Q E → vs.length = ps.length)
    (hbody : ∀ (cdv : Value) (A : Around) (outer : List Env) (s : Shared) (H : Hp) (vs : List V) (Q : VK) (E : XK), Room k (A.deeper (envOfC qual (defScope st) s.heap.objs.size f cdv)) → sp vs H Q E →
      ∃ t, PSs (cxOf (L2.CX P w) P w K mg base N qual (defScope st) f cdv A outer s H E) (defBody st) t ∧ t { nx := fun _ H' => Q .non H', rt := Q } (start N vs) H) : FnOk P w K mg base (L2.CX P w) (k + 1) f fd ps sp := by
  obtain ⟨oc, od, dV, kV, doc, pm, an, cdv, ct, osl, rfl, lk, hcd⟩ := F.ex
  exact fn_of lk hcd S len fun A outer s H vs Q E hr hsp => hbody cdv A outer s H vs Q E hr hsp
end
/-- a def of the text stands where its name says -/
structure Src (K : PySem.W.Frag) (mg : Str → Option Value) (x : Str) (st : Stmt) (ps : List Str) : Prop where
  ex : ∃ f fd, FunA K x x st f fd ∧ mg x = some (.ref f) ∧ Binds K fd ps []
/-- the def x keeps the promise sp -/
structure Def (P : Program) (w : World) (K : PySem.W.Frag) (mg : Str → Option Value) (base : Heap) (CX : CXT) (k : Nat) (x : Str) (ps : List Str) (sp : Sp) : Prop where
  ex : ∃ f fd, LkF K f fd ∧ mg x = some (.ref f) ∧ PySem.W.keepIn K (.ref f) = true ∧ Binds K fd ps [] ∧ FnOk P w K mg base CX k f fd ps sp
section
variable {P : Program} {w : World} {K : PySem.W.Frag} {mg : Str → Option Value} {base : Heap} {CX : CXT} {x : Str} {st : Stmt} {N ps : List Str} {k : Nat} {sp : Sp}
theorem Def.mono {j : Nat} (D : Def P w K mg base CX j x ps sp) (h : j ≤ k) : Def P w K mg base CX k x ps sp := by
  obtain ⟨f, fd, hlk, h1, h2, h3, h4⟩ := D.ex
  exact ⟨f, fd, hlk, h1, h2, h3, h4.mono h⟩
theorem Def.imp {sp' : Sp} (D : Def P w K mg base CX k x ps sp) (h : ∀ vs H Q E, sp' vs H Q E → sp vs H Q E) : Def P w K mg base CX k x ps sp' := by
  obtain ⟨f, fd, hlk, h1, h2, h3, h4⟩ := D.ex
  exact ⟨f, fd, hlk, h1, h2, h3, h4.imp h⟩
theorem Src.ok (F : Src K mg x st ps) (S : FnScope N ps (defScope st)) (len : ∀ vs H Q E, sp vs H Q E → vs.length = ps.length)
    (hbody : ∀ (f : Addr) (cdv : Value) (A : Around) (outer : List Env) (s : Shared) (H : Hp) (vs : List V) (Q : VK) (E : XK), Room k (A.deeper (envOfC x (defScope st) s.heap.objs.size f cdv)) → sp vs H Q E →
      ∃ t, PSs (cxOf CX0 P w K mg base N x (defScope st) f cdv A outer s H E).nox (defBody st) t ∧ t { nx := fun _ H' => Q .non H', rt := Q } (start N vs) H) : Def P w K mg base CX0 (k + 1) x ps sp := by
  obtain ⟨f, fd, h1, h2, h3⟩ := F.ex
  exact ⟨f, fd, h1.lk, h2, h1.kp, h3, h1.ok S len (hbody f)⟩
theorem Src.okX (F : Src K mg x st ps) (S : FnScope N ps (defScope st)) (len : ∀ vs H Q E, sp vs H Q E → vs.length = ps.length)
    (hbody : ∀ (f : Addr) (cdv : Value) (A : Around) (outer : List Env) (s : Shared) (H : Hp) (vs : List V) (Q : VK) (E : XK), Room k (A.deeper (envOfC x (defScope st) s.heap.objs.size f cdv)) → sp vs H Q E →
      ∃ t, PSs (cxOf (L2.CX P w) P w K mg base N x (defScope st) f cdv A outer s H E) (defBody st) t ∧ t { nx := fun _ H' => Q .non H', rt := Q } (start N vs) H) : Def P w K mg base (L2.CX P w) (k + 1) x ps sp := by
  obtain ⟨f, fd, h1, h2, h3⟩ := F.ex
  exact ⟨f, fd, h1.lk, h2, h1.kp, h3, h1.okX S len (hbody f)⟩
end
section
variable {X : Cx} {CX : CXT} {k : Nat} {ps : List Str} {sp : Sp} {x : Str} {p pos : Pos} {e : Expr} {es : List Expr} {t : TA}
theorem pe_def {E : XK} (D : Def X.prog X.w X.K X.mg X.base CX k x ps sp) (hr : Room k X.A) (hx : Passes CX X E) (ha : PA X (e :: es) t) (hg : Gl X x := by rfl)
    (hdb : (x == ("__debug__" : Str)) = false := by decide) (he : starEach (e :: es) X.env = (false, eval e X.env) :: starEach es X.env := by rfl) (hpl : (backTo pos (starEach es X.env)).any (·.1) = false := by rfl) :
    PE X (.Call (.Name x p) (e :: es) [] pos) (tCall sp [] E t) := by
  obtain ⟨f, fd, hlk, h1, h2, h3, h4⟩ := D.ex
  exact pe_call h4 hr hg h1 h2 h3 .nil hx ha hdb he hpl
theorem pe_glo {v : V} (h : Glo X.mg x v) (hg : Gl X x := by rfl) (hd : (x == ("__debug__" : Str)) = false := by decide) : PE X (.Name x p) (tC v) := by
  obtain ⟨u, h1, h2⟩ := h
  exact pe_glob hg h1 h2 hd
end
section
variable {X : Cx} {K : PySem.W.Frag}
def rLenQ (K : PySem.W.Frag) : List V → Hp → VK → Prop := fun xs H Q => ∃ p ys, xs = [.ref p] ∧ (SqL K H p ys ∨ SqT K H p ys) ∧ Q (.int ys.length) H
def rListQ (K : PySem.W.Frag) : List V → Hp → VK → Prop := fun xs H Q => ∃ p ys, xs = [.ref p] ∧ (SqL K H p ys ∨ SqT K H p ys) ∧ ∀ l, H l = none → Q (.ref l) (upd H l (.lst ys))
def rTupQ (K : PySem.W.Frag) : List V → Hp → VK → Prop := fun xs H Q => ∃ p ys, xs = [.ref p] ∧ ((SqL K H p ys ∧ ∀ l, H l = none → Q (.ref l) (upd H l (.tup ys))) ∨ (SqT K H p ys ∧ Q (.ref p) H))
theorem kix_list (h : X.K = K := by rfl) : IxR X (rIxL K) := h ▸ ix_list
theorem kix_tup (h : X.K = K := by rfl) : IxR X (rIxT K) := h ▸ ix_tup
theorem ksl_list (h : X.K = K := by rfl) : SlR X (rSlL K) := h ▸ sl_list
theorem kop_in (h : X.K = K := by rfl) : OpR X (compareOp .In) (rIn K false) := h ▸ op_in_seq
theorem kop_notIn (h : X.K = K := by rfl) : OpR X (compareOp .NotIn) (rIn K true) := h ▸ op_notIn_seq
theorem kop_eqD (hu : X.A.units + 64 < cLine) (h : X.K = K := by rfl) : OpR X (compareOp .Eq) (rEqD K) := h ▸ op_eqD hu
theorem kop_neD (hu : X.A.units + 64 < cLine) (h : X.K = K := by rfl) : OpR X (compareOp .NotEq) (rNeD K) := h ▸ op_neD hu
theorem kcall_len (h : X.K = K := by rfl) : CallR X (.builtin "len") (rLenQ K) := h ▸ call_len_seq
theorem kcall_list (h : X.K = K := by rfl) : CallR X (.type "list") (rListQ K) := h ▸ call_list_of
theorem kcall_tuple (h : X.K = K := by rfl) : CallR X (.type "tuple") (rTupQ K) := h ▸ call_tuple_of
theorem kcr_any (hc : X.calm = true) (h : X.K = K := by rfl) : CallR X (.builtin "any") (rAny K) := h ▸ cr_any hc
theorem kcr_all (hc : X.calm = true) (h : X.K = K := by rfl) : CallR X (.builtin "all") (rAll K) := h ▸ cr_all hc
theorem kpi_list {tg l : Expr} {tl : TE} (hl : PE X l tl) (h : X.K = K := by rfl) : PI X tg l (iList K tl) := h ▸ pi_list hl
theorem kpi_tup {tg l : Expr} {tl : TE} (hl : PE X l tl) (h : X.K = K := by rfl) : PI X tg l (iTup K tl) := h ▸ pi_tup hl
theorem kpe_fld {e : Expr} {f : Str} {pos : Pos} {ta : TE} (he : PE X e ta) (hb : attributeBase e f X.env (eval e X.env) = eval e X.env := by rfl) (h : X.K = K := by rfl) : PE X (.Attribute e f pos) (tFld K ta f) := h ▸ pe_fld he hb
end
/-- a comprehension without an if; with one -/
theorem yes_if {σ : St} {H : Hp} {A B : Hp → Prop} (h : A H) : tYes σ H (fun b H3 => if b = true then A H3 else B H3) := by
  show (if true = true then A H else B H)
  rw [if_pos rfl]
  exact h
theorem same_upd {H : Hp} {p : Addr} {o : HO} (h : H p = none) : Same H (upd H p o) := fun b x e => by
  rw [upd_ne (ne_of_none e h)]
  exact e
theorem upd_twice {H : Hp} {b : Addr} {o o' : HO} : upd (upd H b o) b o' = upd H b o' := by
  funext a
  by_cases ha : a = b
  · rw [ha, upd_same, upd_same]
  · rw [upd_ne ha, upd_ne ha, upd_ne ha]
/-- all that was tracked is as it was, but for what stands at b -/
def SameB (b : Addr) (H H' : Hp) : Prop := ∀ a o, a ≠ b → H a = some o → H' a = some o
theorem SameB.refl (b : Addr) (H : Hp) : SameB b H H := fun _ _ _ h => h
theorem SameB.trans {b : Addr} {H H1 H2 : Hp} (x : SameB b H H1) (y : SameB b H1 H2) : SameB b H H2 := fun a o n h => y a o n (x a o n h)
theorem Same.b {b : Addr} {H H' : Hp} (h : Same H H') : SameB b H H' := fun a o _ e => h a o e
theorem SameB.upd {b : Addr} {H H' : Hp} {o : HO} (h : SameB b H H') : SameB b H (upd H' b o) := fun a u n e => by
  rw [upd_ne n]
  exact h a u n e
theorem SameB.new {b p : Addr} {H H' : Hp} {o : HO} (h : SameB b H H') (n : H' p = none) : SameB b H (L2.upd H' p o) := fun a u hn e => by
  have := h a u hn e
  rw [upd_ne (ne_of_none this n)]
  exact this
/-- an object that H does not know may change -/
theorem SameB.mut {b p : Addr} {H H' : Hp} {o : HO} (h : SameB b H H') (n : H p = none) : SameB b H (L2.upd H' p o) := fun a u hn e => by
  rw [upd_ne (ne_of_none e n)]
  exact h a u hn e
theorem SameB.free {b l : Addr} {H H' : Hp} (e : SameB b H H') (hb : l ≠ b) (h : H' l = none) : H l = none := by
  cases q : H l with
  | none => rfl
  | some o =>
    rw [e l o hb q] at h
    cases h
theorem SameB.seq {K : PySem.W.Frag} {b : Addr} {H H' : Hp} {a : Addr} {xs : List V} (e : SameB b H H') (n : a ≠ b) (h : SqL K H a xs) : SqL K H' a xs := by
  rcases h with (h | ⟨o, h⟩) | h
  · exact .inl (.inl (e _ _ n h))
  · exact .inl (.inr ⟨o, e _ _ n h⟩)
  · exact .inr h
/-- an error of the class at C with these fields is what E wants, whatever was made meanwhile -/
def Rais (E : XK) (H : Hp) (C : Addr) (fs : List (Str × V)) : Prop := ∀ H' d, Same H H' → H d = none → H' d = some (.xd fs) → E (.ref C) (some d) H'
theorem Rais.go {E : XK} {H H' : Hp} {C d : Addr} {fs : List (Str × V)} (h : Rais E H C fs) (sm : Same H H') (n : H' d = none) : E (.ref C) (some d) (upd H' d (.xd fs)) :=
  h _ d (sm.trans (same_upd n)) (sm.free n) upd_same
/-- the law's box of draws stands at b, its script at l -/
structure Box (H : Hp) (b l : Addr) : Prop where
  ex : ∃ (ns : List Int) (i c r : Int), H b = some (.lst [.int i, .int c, .int r, .ref l]) ∧ H l = some (.lst (ns.map V.int)) ∧ 0 ≤ i ∧ l ≠ b
theorem Box.keep {H H' : Hp} {b l : Addr} (h : Box H b l) (e : Same H H') : Box H' b l := by
  obtain ⟨ns, i, c, r, h1, h2, h3, h4⟩ := h.ex
  exact ⟨ns, i, c, r, e _ _ h1, e _ _ h2, h3, h4⟩
theorem Box.neb {H : Hp} {b l p : Addr} (h : Box H b l) (n : H p = none) : p ≠ b := fun e => by
  obtain ⟨ns, i, c, r, h1, h2, h3, h4⟩ := h.ex
  rw [e, h1] at n
  cases n
theorem Box.nel {H : Hp} {b l p : Addr} (h : Box H b l) (n : H p = none) : p ≠ l := fun e => by
  obtain ⟨ns, i, c, r, h1, h2, h3, h4⟩ := h.ex
  rw [e, h2] at n
  cases n
theorem Box.mut {H : Hp} {b l p : Addr} {o : HO} (h : Box H b l) (nb : p ≠ b) (nl : p ≠ l) : Box (upd H p o) b l := by
  obtain ⟨ns, i, c, r, h1, h2, h3, h4⟩ := h.ex
  exact ⟨ns, i, c, r, by rw [upd_ne (Ne.symm nb)]; exact h1, by rw [upd_ne (Ne.symm nl)]; exact h2, h3, h4⟩
/-- from H to H' only draws were taken and new objects made -/
structure Bx (b l : Addr) (H H' : Hp) : Prop where
  sm : SameB b H H'
  b0 : Box H b l
  b1 : Box H' b l
theorem Box.bx {H : Hp} {b l : Addr} (h : Box H b l) : Bx b l H H := ⟨SameB.refl b H, h, h⟩
theorem Bx.trans {b l : Addr} {H H1 H2 : Hp} (x : Bx b l H H1) (y : Bx b l H1 H2) : Bx b l H H2 := ⟨x.sm.trans y.sm, x.b0, y.b1⟩
theorem Bx.same {b l : Addr} {H H1 H2 : Hp} (x : Bx b l H H1) (y : Same H1 H2) : Bx b l H H2 := ⟨x.sm.trans y.b, x.b0, x.b1.keep y⟩
theorem Bx.new {b l p : Addr} {H H' : Hp} {o : HO} (x : Bx b l H H') (n : H' p = none) : Bx b l H (upd H' p o) := x.same (same_upd n)
theorem Bx.mut {b l p : Addr} {H H' : Hp} {o : HO} (x : Bx b l H H') (n : H p = none) : Bx b l H (upd H' p o) := ⟨x.sm.mut n, x.b0, x.b1.mut (x.b0.neb n) (x.b0.nel n)⟩
theorem Bx.free {b l p : Addr} {H H' : Hp} (x : Bx b l H H') (n : H' p = none) : H p = none := x.sm.free (x.b1.neb n) n
theorem Bx.at {b l a : Addr} {H H' : Hp} {o : HO} (x : Bx b l H H') (h : H a = some o) (n : a ≠ b) : H' a = some o := x.sm a o n h
theorem Bx.seq {K : PySem.W.Frag} {b l : Addr} {H H' : Hp} {a : Addr} {xs : List V} (x : Bx b l H H') (n : a ≠ b) (h : SqL K H a xs) : SqL K H' a xs := x.sm.seq n h
/-- _law_next(box, many) -/
def spNext : Sp := fun vs H Q _ => ∃ (b l : Addr) (many : Int), vs = [.ref b, .int many] ∧ 0 < many ∧ many ≤ 10 ^ 40 ∧ Box H b l ∧ ∀ (n : Int) (H' : Hp), 0 ≤ n → n < many → Bx b l H H' → Q (.int n) H'
/-- _law_box(script) -/
def spBox (K : PySem.W.Frag) : Sp := fun vs H Q _ => ∃ (a : Addr) (ns : List Int), vs = [.ref a] ∧ SqL K H a (ns.map V.int) ∧ ns.length ≤ 63 ∧ ∀ (b l : Addr) (H' : Hp), H b = none → Same H H' → Box H' b l → Q (.ref b) H'
/-- a text of ASCII signs -/
def Asc (z : Str) : Prop := ∀ c ∈ z.cps.toList, c < 128
theorem Asc.ok {z : Str} (h : Asc z) : PyData.strOk z = true := by
  unfold PyData.strOk
  rw [← Array.all_toList, List.all_eq_true]
  intro c hc
  have := h c hc
  exact decide_eq_true (by omega)
theorem Asc.app {x y : Str} (hx : Asc x) (hy : Asc y) : Asc (x ++ y) := by
  intro c hc
  rw [Str.cps_append, Array.toList_append] at hc
  rcases List.mem_append.mp hc with h | h
  · exact hx c h
  · exact hy c h
theorem Asc.one {c : Nat} (h : c < 128) : Asc ⟨#[c]⟩ := by
  intro d hd
  have : d = c := by simpa using hd
  omega
mutual
def nb : PyData → Bool
  | .none => true
  | .int _ => true
  | .str x => PyData.strOk x
  | .list xs => nbAll xs
  | .tuple xs => nbAll xs
  | .bool _ => false
  | .dict _ => false
def nbAll : List PyData → Bool
  | [] => true
  | x :: xs => nb x && nbAll xs
end
mutual
theorem lay_nb : ∀ d : PyData, nb d = true → PyData.canLay0 d = true
  | .none, _ => by simp only [PyData.canLay0]
  | .int _, _ => by simp only [PyData.canLay0]
  | .str x, h => by simp only [nb] at h; simp only [PyData.canLay0, h]
  | .list xs, h => by simp only [nb] at h; simp only [PyData.canLay0]; exact lay_nbAll xs h
  | .tuple xs, h => by simp only [nb] at h; simp only [PyData.canLay0]; exact lay_nbAll xs h
  | .bool _, h => by simp only [nb] at h; cases h
  | .dict _, h => by simp only [nb] at h; cases h
theorem lay_nbAll : ∀ ds : List PyData, nbAll ds = true → PyData.canLayAll0 ds = true
  | [], _ => by simp only [PyData.canLayAll0]
  | x :: xs, h => by
    simp only [nbAll, Bool.and_eq_true] at h
    simp only [PyData.canLayAll0, lay_nb x h.1, lay_nbAll xs h.2, Bool.and_self]
end
mutual
theorem eqv_nb : ∀ d e : PyData, nb d = true → nb e = true → (PyData.eqv d e = true ↔ d = e)
  | .none, e, _, he => by cases e <;> simp [PyData.eqv]
  | .int i, e, _, he => by cases e <;> simp [PyData.eqv, nb] at he ⊢
  | .str x, e, _, he => by cases e <;> simp [PyData.eqv]
  | .list xs, e, hd, he => by
    cases e with
    | list ys =>
      simp only [nb] at hd he
      simp only [PyData.eqv, eqv_nbAll xs ys hd he, PyData.list.injEq]
    | _ => simp [PyData.eqv]
  | .tuple xs, e, hd, he => by
    cases e with
    | tuple ys =>
      simp only [nb] at hd he
      simp only [PyData.eqv, eqv_nbAll xs ys hd he, PyData.tuple.injEq]
    | _ => simp [PyData.eqv]
  | .bool _, _, h, _ => by simp only [nb] at h; cases h
  | .dict _, _, h, _ => by simp only [nb] at h; cases h
theorem eqv_nbAll : ∀ ds es : List PyData, nbAll ds = true → nbAll es = true → (PyData.eqvAll ds es = true ↔ ds = es)
  | [], [], _, _ => by simp [PyData.eqvAll]
  | [], _ :: _, _, _ => by simp [PyData.eqvAll]
  | _ :: _, [], _, _ => by simp [PyData.eqvAll]
  | x :: xs, y :: ys, hd, he => by
    simp only [nbAll, Bool.and_eq_true] at hd he
    simp only [PyData.eqvAll, Bool.and_eq_true, eqv_nb x y hd.1 he.1, eqv_nbAll xs ys hd.2 he.2, List.cons.injEq]
end
theorem depthAll_le {n : Nat} : ∀ {ds : List PyData}, (∀ d ∈ ds, d.depth ≤ n) → PyData.depthAll ds ≤ n
  | [], _ => by simp [PyData.depthAll]
  | d :: ds, h => by
    simp only [PyData.depthAll]
    exact Nat.max_le.mpr ⟨h d (List.mem_cons_self ..), depthAll_le fun x hx => h x (List.mem_cons_of_mem _ hx)⟩
theorem shaped_of {d : PyData} (h : nb d = true) (hd : d.depth ≤ 64) : SeqAt.shaped d = true := by
  unfold SeqAt.shaped
  rw [lay_nb d h, decide_eq_true hd]
  rfl
theorem inV_strs (n : Str) (ws : List Str) : inV (.str n) (ws.map V.str) = decide (n ∈ ws) := by
  unfold inV
  rw [Bool.eq_iff_iff, List.any_eq_true, decide_eq_true_iff]
  constructor
  · rintro ⟨y, hy, e⟩
    obtain ⟨z, hz, rfl⟩ := List.mem_map.mp hy
    have e : z = n := by simpa [eqV] using e
    exact e ▸ hz
  · intro h
    exact ⟨.str n, List.mem_map_of_mem h, by simp [eqV]⟩
theorem flat_strsB (ws : List Str) : (ws.map V.str).all flatV = true := by
  rw [List.all_eq_true]
  intro y hy
  obtain ⟨z, hz, rfl⟩ := List.mem_map.mp hy
  rfl
/-- a list or a tuple -/
def Sq (K : PySem.W.Frag) (H : Hp) (a : Addr) (xs : List V) : Prop := SqL K H a xs ∨ SqT K H a xs
theorem Same.seqT {K : PySem.W.Frag} {H H' : Hp} {a : Addr} {xs : List V} (e : Same H H') (h : SqT K H a xs) : SqT K H' a xs := by
  rcases h with (h | ⟨o, h⟩) | h
  · exact .inl (.inl (e _ _ h))
  · exact .inl (.inr ⟨o, e _ _ h⟩)
  · exact .inr h
theorem Same.sq {K : PySem.W.Frag} {H H' : Hp} {a : Addr} {xs : List V} (e : Same H H') (h : Sq K H a xs) : Sq K H' a xs := h.elim (fun h => .inl (e.seq h)) (fun h => .inr (e.seqT h))
theorem map_get {α : Type} {f : α → V} {l : List α} {i : Nat} {x : V} (h : (l.map f)[i]? = some x) : ∃ z, l[i]? = some z ∧ x = f z := by
  rw [List.getElem?_map] at h
  cases e : l[i]? with
  | none => rw [e] at h; cases h
  | some z => rw [e] at h; exact ⟨z, rfl, (Option.some.inj h).symm⟩
theorem take_more {α : Type} {l : List α} {i : Nat} {x : α} (h : l[i]? = some x) : l.take (i + 1) = l.take i ++ [x] := by
  rw [List.take_add_one, h]
  rfl
section
variable {K : PySem.W.Frag} {H H' : Hp}
mutual
theorem Dp.keep (e : Same H H') : ∀ (d : PyData) (v : V), Dp K H v d → Dp K H' v d
  | .none, _, h => by cases h; exact .non
  | .bool _, _, h => by cases h; exact .bl _
  | .int _, _, h => by cases h; exact .int _
  | .str _, _, h => by cases h; exact .str _
  | .list ds, _, h => by
    cases h with
    | lst hs ha => exact .lst (e.seq hs) (DpAll.keep e ds _ ha)
  | .tuple ds, _, h => by
    cases h with
    | tup hs ha => exact .tup (e.seqT hs) (DpAll.keep e ds _ ha)
  | .dict _, _, h => by cases h
theorem DpAll.keep (e : Same H H') : ∀ (ds : List PyData) (vs : List V), DpAll K H vs ds → DpAll K H' vs ds
  | [], _, h => by cases h; exact .nil
  | d :: ds, _, h => by
    cases h with
    | cons h1 h2 => exact .cons (Dp.keep e d _ h1) (DpAll.keep e ds _ h2)
end
end
def LETTERS : Str := "abcdefghijklmnopqrstuvwxyz"
def DIGITS : Str := "0123456789"
def okc (c : Nat) : Bool := decide (c ∈ LETTERS.cps.toList) || decide (c ∈ DIGITS.cps.toList)
def wd (l : List Nat) : Bool := decide (1 ≤ l.length ∧ l.length ≤ 12) && (decide (l.headD 0 ∈ LETTERS.cps.toList) && l.all okc)
theorem len_cps (z : Str) : z.length = z.cps.toList.length := rfl
theorem all_take {α : Type} {p : α → Bool} {l : List α} {i : Nat} {c : α} (h : l[i]? = some c) : (l.take (i + 1)).map p = (l.take i).map p ++ [p c] := by
  rw [List.take_add_one, h, List.map_append]
  rfl
theorem all_id {α : Type} (p : α → Bool) (l : List α) : (l.map p).all id = l.all p := by
  rw [List.all_map]
  rfl
theorem wd_cons {c : Nat} {r : List Nat} (hc : c ∈ LETTERS.cps.toList) (hr : ∀ d ∈ r, okc d = true) (hl : r.length ≤ 11) : wd (c :: r) = true := by
  unfold wd
  rw [decide_eq_true (show 1 ≤ (c :: r).length ∧ (c :: r).length ≤ 12 by rw [List.length_cons]; omega), Bool.true_and, List.headD_cons, decide_eq_true hc, Bool.true_and, List.all_cons, Bool.and_eq_true]
  refine ⟨?_, List.all_eq_true.mpr hr⟩
  unfold okc
  rw [decide_eq_true hc, Bool.true_or]
theorem wd_inv {l : List Nat} (h : wd l = true) : ∃ c r, l = c :: r ∧ c ∈ LETTERS.cps.toList ∧ (∀ d ∈ l, okc d = true) ∧ l.length ≤ 12 := by
  unfold wd at h
  rw [Bool.and_eq_true, Bool.and_eq_true] at h
  obtain ⟨h1, h2, h3⟩ := h
  have h1 := of_decide_eq_true h1
  have h2 := of_decide_eq_true h2
  cases l with
  | nil => exact absurd h1.1 (by decide)
  | cons c r => exact ⟨c, r, rfl, h2, List.all_eq_true.mp h3, h1.2⟩
theorem okc_lt {c : Nat} (h : okc c = true) : c < 128 := by
  unfold okc at h
  rw [Bool.or_eq_true, decide_eq_true_iff, decide_eq_true_iff] at h
  rcases h with h | h
  · exact of_decide_eq_true (List.all_eq_true.mp (show LETTERS.cps.toList.all (fun c => decide (c < 128)) = true by decide) c h)
  · exact of_decide_eq_true (List.all_eq_true.mp (show DIGITS.cps.toList.all (fun c => decide (c < 128)) = true by decide) c h)
/-- a text that is a word -/
def Wd (z : Str) : Prop := wd z.cps.toList = true
theorem Wd.asc {z : Str} (h : Wd z) : Asc z := fun c hc => by
  obtain ⟨_, _, _, _, ho, _⟩ := wd_inv h
  exact okc_lt (ho c hc)
theorem Wd.len {z : Str} (h : Wd z) : z.length ≤ 12 := by
  obtain ⟨_, _, _, _, _, hl⟩ := wd_inv h
  exact hl
def spare (z : Str) (k : Nat) : Str := cutS z none (some 9) ++ "x" ++ (toString (k : Int) : Str)
theorem cut_take (z : Str) (n : Nat) : (cutS z none (some (n : Int))).cps.toList = z.cps.toList.take n := by
  unfold cutS
  rw [HT.sIx_none, HT.sIx_nat]
  show (List.take (min n z.length - 0) (List.drop 0 z.cps.toList)).toArray.toList = _
  rw [List.drop_zero, Nat.sub_zero]
  show List.take (min n z.length) z.cps.toList = _
  rw [len_cps, Nat.min_comm]
  by_cases h : n ≤ z.cps.toList.length
  · rw [Nat.min_eq_right h]
  · rw [Nat.min_eq_left (by omega), List.take_length, List.take_of_length_le (by omega)]
theorem spare_cps (z : Str) (k : Nat) : (spare z k).cps.toList = z.cps.toList.take 9 ++ ([120] ++ (toString (k : Int) : Str).cps.toList) := by
  unfold spare
  rw [Str.cps_append, Array.toList_append, Str.cps_append, Array.toList_append, show (9 : Int) = ((9 : Nat) : Int) from rfl, cut_take, List.append_assoc]
  rfl
theorem digs30 : (List.range 30).all (fun k => decide ((toString (k : Int) : Str).cps.toList.length ≤ 2) && (toString (k : Int) : Str).cps.toList.all fun c => decide (c ∈ DIGITS.cps.toList)) = true := by decide +kernel
theorem digs_inj : (List.range 30).all (fun k => (List.range 30).all fun j => decide ((toString (k : Int) : Str).cps.toList = (toString (j : Int) : Str).cps.toList → k = j)) = true := by decide +kernel
theorem spare_wd {z : Str} (h : Wd z) {k : Nat} (hk : k < 30) : Wd (spare z k) := by
  obtain ⟨c, r, e, hc, ho, hl⟩ := wd_inv h
  have hd := List.all_eq_true.mp digs30 k (List.mem_range.mpr hk)
  rw [Bool.and_eq_true, decide_eq_true_iff, List.all_eq_true] at hd
  show wd (spare z k).cps.toList = true
  rw [spare_cps, e, List.take_succ_cons, List.cons_append]
  refine wd_cons hc (fun d hd' => ?_) ?_
  · rcases List.mem_append.mp hd' with h1 | h1
    · exact ho d (by rw [e]; exact List.mem_cons_of_mem _ (List.mem_of_mem_take h1))
    · rcases List.mem_append.mp h1 with h2 | h2
      · rw [List.mem_singleton.mp h2]
        decide
      · have := of_decide_eq_true (hd.2 d h2)
        unfold okc
        rw [decide_eq_true this, Bool.or_true]
  · rw [List.length_append, List.length_take, List.length_append]
    have := hd.1
    show min 8 r.length + (1 + _) ≤ 11
    omega
theorem spare_inj {z : Str} {k j : Nat} (hk : k < 30) (hj : j < 30) (h : spare z k = spare z j) : k = j := by
  have e : (spare z k).cps.toList = (spare z j).cps.toList := by rw [h]
  rw [spare_cps, spare_cps] at e
  have e2 := List.append_cancel_left (List.append_cancel_left e)
  have d := List.all_eq_true.mp (List.all_eq_true.mp digs_inj k (List.mem_range.mpr hk)) j (List.mem_range.mpr hj)
  exact of_decide_eq_true d e2
theorem nodup_sub {α : Type} [DecidableEq α] : ∀ {l m : List α}, l.Nodup → (∀ x ∈ l, x ∈ m) → l.length ≤ m.length
  | [], _, _, _ => Nat.zero_le _
  | a :: l, m, hn, hs => by
    obtain ⟨ha, hn⟩ := List.nodup_cons.mp hn
    have h1 : a ∈ m := hs a (List.mem_cons_self ..)
    have h2 : l.length ≤ (m.erase a).length := nodup_sub hn fun x hx => by
      have ne : x ≠ a := fun e => ha (e ▸ hx)
      exact (List.mem_erase_of_ne ne).mpr (hs x (List.mem_cons_of_mem _ hx))
    rw [List.length_erase_of_mem h1] at h2
    have : 0 < m.length := List.length_pos_of_mem h1
    rw [List.length_cons]
    omega
def spares (z : Str) : List Str := (List.range 30).map (spare z)
theorem spares_nodup (z : Str) : (spares z).Nodup := by
  unfold spares
  rw [List.nodup_iff_pairwise_ne, List.pairwise_map]
  refine List.Pairwise.imp_of_mem (R := fun a b => a ≠ b) (fun {a b} ha hb hab e => hab ?_) List.nodup_range
  exact spare_inj (List.mem_range.mp ha) (List.mem_range.mp hb) e
theorem spare_some {z : Str} {ws : List Str} (h : ws.length < 30) : ∃ y r, (spares z).filter (fun o => decide (o ∉ ws)) = y :: r := by
  cases e : (spares z).filter (fun o => decide (o ∉ ws)) with
  | cons y r => exact ⟨y, r, rfl⟩
  | nil =>
    have h1 := List.filter_eq_nil_iff.mp e
    have h2 : (spares z).length ≤ ws.length := nodup_sub (spares_nodup z) fun x hx => by
      have := h1 x hx
      simpa using this
    unfold spares at h2
    rw [List.length_map, List.length_range] at h2
    omega
theorem spares_wd {z y : Str} (h : Wd z) (hy : y ∈ spares z) : Wd y := by
  obtain ⟨k, hk, rfl⟩ := List.mem_map.mp hy
  exact spare_wd h (List.mem_range.mp hk)
/-- the first name at fault: true: not known; false: it occurred before -/
def chk (ks : List Str) : List Str → List Str → Option (Bool × Str)
  | _, [] => none
  | seen, n :: r => if n ∈ ks then (if n ∈ seen then some (false, n) else chk ks (seen ++ [n]) r) else some (true, n)
theorem chk_cons (ks seen : List Str) (n : Str) (r : List Str) : chk ks seen (n :: r) = if n ∈ ks then (if n ∈ seen then some (false, n) else chk ks (seen ++ [n]) r) else some (true, n) := rfl
theorem chk_none {ks : List Str} : ∀ {ws seen : List Str}, chk ks seen ws = none ↔ ws.Nodup ∧ (∀ w ∈ ws, w ∈ ks ∧ w ∉ seen)
  | [], seen => by simp [chk]
  | n :: r, seen => by
    rw [chk_cons]
    by_cases h1 : n ∈ ks
    · rw [if_pos h1]
      by_cases h2 : n ∈ seen
      · rw [if_pos h2]
        constructor
        · intro h; cases h
        · intro h; exact absurd h2 (h.2 n (List.mem_cons_self ..)).2
      · rw [if_neg h2, chk_none, List.nodup_cons]
        constructor
        · rintro ⟨a, b⟩
          refine ⟨⟨fun hn => ?_, a⟩, fun w hw => ?_⟩
          · exact (b n hn).2 (List.mem_append_right _ (List.mem_singleton.mpr rfl))
          · rcases List.mem_cons.mp hw with rfl | hw
            · exact ⟨h1, h2⟩
            · exact ⟨(b w hw).1, fun h => (b w hw).2 (List.mem_append_left _ h)⟩
        · rintro ⟨⟨a, b⟩, c⟩
          refine ⟨b, fun w hw => ⟨(c w (List.mem_cons_of_mem _ hw)).1, fun h => ?_⟩⟩
          rcases List.mem_append.mp h with h | h
          · exact (c w (List.mem_cons_of_mem _ hw)).2 h
          · rw [List.mem_singleton.mp h] at hw
            exact a hw
    · rw [if_neg h1]
      constructor
      · intro h; cases h
      · intro h; exact absurd (h.2 n (List.mem_cons_self ..)).1 h1
theorem chk_mem {ks : List Str} {b : Bool} {n : Str} : ∀ {ws seen : List Str}, chk ks seen ws = some (b, n) → n ∈ ws
  | [], _, h => by cases h
  | m :: r, seen, h => by
    rw [chk_cons] at h
    by_cases h1 : m ∈ ks
    · rw [if_pos h1] at h
      by_cases h2 : m ∈ seen
      · rw [if_pos h2] at h
        cases h
        exact List.mem_cons_self ..
      · rw [if_neg h2] at h
        exact List.mem_cons_of_mem _ (chk_mem h)
    · rw [if_neg h1] at h
      cases h
      exact List.mem_cons_self ..
section
variable {P : Program} {K : PySem.W.Frag} {h : Heap} {mg : Str → Option Value}
theorem src_mk {x : Str} {st : Stmt} {ps : List Str} {f : Addr} {oc : Value} {od an : Option Addr} {osl : Array (Option Value)} {kV doc pm cdv ct : Value} (X : K.In h) (G : h.Ns mainGlobals mg)
    (a : PySem.W.nsIn K mainGlobals x = some (some (.ref f))) (l : K.lookup f = some ⟨oc, od, .func (PySem.W.fnOf x x (defArgs st) (defBody st) (defScope st) .none kV doc pm an cdv ct), osl⟩)
    (c : PySem.W.codeIn K cdv x = true) (k : PySem.W.keepIn K (.ref f) = true)
    (hb : ∀ (kV doc pm : Value) (an : Option Addr) (cdv ct : Value) (us : List Value), us.length = ps.length → bindArgs (PySem.W.fnOf x x (defArgs st) (defBody st) (defScope st) .none kV doc pm an cdv ct) ⟨us, []⟩ = pure (ps.zip us)) : Src K mg x st ps :=
  ⟨f, _, PySem_Fun_a (fun_mk l c k), PySem.W.mg_of X G a, (fun_mk (st := st) l c k).binds hb⟩
theorem glo_str {x z : Str} {t : Tok} (X : K.In h) (G : h.Ns mainGlobals mg) (a : PySem.W.nsIn K mainGlobals x = some (some (.str z t))) : Glo mg x (.str z) := ⟨_, PySem.W.mg_of X G a, t, rfl⟩
theorem glo_int {x : Str} {i : Int} {t : Tok} (X : K.In h) (G : h.Ns mainGlobals mg) (a : PySem.W.nsIn K mainGlobals x = some (some (.int i t))) : Glo mg x (.int i) := ⟨_, PySem.W.mg_of X G a, t, rfl⟩
theorem glo_ref {x : Str} {a : Addr} (X : K.In h) (G : h.Ns mainGlobals mg) (e : PySem.W.nsIn K mainGlobals x = some (some (.ref a))) : Glo mg x (.ref a) := ⟨_, PySem.W.mg_of X G e, rfl⟩
theorem err_mk {cn qual : Str} {tm : Bool} {C fI : Addr} {fs : List Str} {st : Stmt} {nm q : Str} {N : Addr} {bs bm : List Value} {sn : List Str} {sub : List Value} {ab : Bool} {col : Option Bool} {dd : Option Addr} {m0 m1 m2 m3 m5 : Option Value}
    {oc : Value} {od an : Option Addr} {osl : Array (Option Value)} {kV doc pm ct : Value} {cda cc : Addr} {ccl cl : Value} {cdd cld : Option Addr} {ccs csl : Array (Option Value)} {vs : Array Value} {file : Str} {tf : Tok} {msg : Expr} {p1 p2 p3 p4 p5 : Pos} {fp : List FP} {ar : Arg}
    (X : K.In h) (G : h.Ns mainGlobals mg) (aC : PySem.W.nsIn K mainGlobals cn = some (some (.ref C))) (aS : PySem.W.nsIn K mainGlobals "super" = some none)
    (xL : K.lookup C = some (excClassObj nm q C N bs bm true sn sub ab col dd m0 m1 m2 m3 m5 "ValueError.__new__")) (hbm : PySem.HandSPX.refsVE bm = true)
    (sa : PySem.W.findIn K (.ref C) "__setattr__" = some (some (.builtin "object.__setattr__"))) (ga : PySem.W.findIn K (.ref C) "__getattribute__" = some (some (.builtin "BaseException.__getattribute__"))) (gg : PySem.W.findIn K (.ref C) "__getattr__" = some none)
    (noN : ∀ f ∈ fs, PySem.W.findIn K (.ref C) f = some none)
    (iC : PySem.W.findIn K (.ref C) "__init__" = some (some (.ref fI))) (tI : PySem.W.typeIn K (.ref fI) = some (.type "function")) (kC : PySem.W.keepIn K (.ref C) = true)
    (exC : PySem.W.subIn K (.ref C) (.type "BaseException") = some true) (veC : PySem.W.subIn K (.ref C) (.type "ValueError") = some true) (tyC : PySem.W.typeIn K (.ref C) = some (.type "type")) (hdC : PySem.W.hasDictIn K C = true)
    (sup : PySem.W.ks_superIn K C C "__init__" = some (some (.builtin "ValueError.__init__"))) (mro : PySem.W.mroIn K C (.ref C) = some true) (su : PySem.W.subIn K (.ref C) (.ref C) = some true)
    (ca : PySem.W.findIn K (.ref C) "__class__" = some (some (.builtin "object.__class__"))) (cg : PySem.W.specialIn K (.builtin "object.__class__") "__get__" = some (some (.builtin "getset_descriptor.__get__"))) (ct' : PySem.W.takesIn K (.builtin "object.__class__") = some true)
    (mo : PySem.W.mroIn K C (.type "object") = some true) (opq : PySem.W.nsIn K cStatics "thirdparty.any" = some none)
    (top : (P.main.scope.names.lookup ("super" : Str)).isSome = false)
    (l : K.lookup fI = some ⟨oc, od, .func (PySem.W.ksFn "__init__" qual (defArgs st) (defBody st) (defScope st) .none kV doc pm an (.ref cda) ct cc), osl⟩) (c : PySem.W.codeIn K (.ref cda) qual = true)
    (lc : K.lookup cda = some ⟨ccl, cdd, .fields vs, ccs⟩) (hv2 : vs[2]? = some (.str file tf)) (hfile : ((P.main.file : Str) == file) = true) (lcc : K.lookup cc = some ⟨cl, cld, .cell (some (.ref C)), csl⟩)
    (hbody : defBody st = stS msg p1 p2 p3 p4 p5 :: fp.map stF) (har : ((defArgs st).posonlyargs ++ (defArgs st).args).head? = some ar) (hself : ar.arg = "self") (hfp : fp.map (·.1) = fs) (hpos : (p3.endLine == p4.line) = true)
    (h1 : (defScope st).names.lookup ("super" : Str) = some .globalImplicit) (h2 : (defScope st).names.lookup ("__class__" : Str) = some .free) (h3 : (defScope st).names.lookup ("self" : Str) = some .local) (h4 : ∀ f ∈ fs, (defScope st).names.lookup f = some .local) (h5 : ∀ f ∈ fs, (f == ("__debug__" : Str)) = false) (h6 : ∀ y ∈ (defScope st).names, y.2 ≠ .cell)
    (h7 : (defScope st).kind = .function) (h8 : (defScope st).isGenerator = false) (h9 : (defScope st).isCoroutine = false)
    (hbind : ∀ (kV doc pm : Value) (an : Option Addr) (cda : Addr) (ct : Value) (cc : Addr) (s : Shared) (x : Value) (us : List Value), us.length = fs.length → BindsTo s (PySem.W.ksFn "__init__" qual (defArgs st) (defBody st) (defScope st) .none kV doc pm an (.ref cda) ct cc) ⟨x :: us, []⟩ (("self", x) :: fs.zip us))
    (hlook : ∀ (x : Value) (us : List Value), us.length = fs.length → ((("self" : Str), x) :: fs.zip us).reverse.lookup ("self" : Str) = some x ∧ Paired (fun f u => ((("self" : Str), x) :: fs.zip us).reverse.lookup f = some u) fs us)
    (hmsg : (tm = false ∧ ∃ (z : Str) (i : Nat) (p : Pos), msg = .Constant (.str z) i p) ∨ tm = true ∧ ∃ (z f : Str) (i : Nat) (p p' p'' : Pos), msg = .BinOp (.Constant (.str z) i p) .Add (.Name f p') p'' ∧ z.length ≤ 100 ∧ fs.head? = some f) :
    ErrTxt P K mg tm cn C fI fs where
  cls := ⟨nm, q, N, bs, bm, sn, sub, ab, col, dd, m0, m1, m2, m3, m5, xL, hbm⟩
  sa := sa
  noN := noN
  gC := PySem.W.mg_of X G aC
  ga := ga
  gg := gg
  iC := iC
  tC := tI
  kC := kC
  exC := exC
  veC := veC
  tyC := tyC
  hdC := hdC
  sup := sup
  mro := mro
  sub := su
  ca := ca
  cg := cg
  ct := ct'
  mo := mo
  opq := opq
  msup := PySem.W.mg_none_of X G aS
  top := top
  fn := by
    rw [hbody] at l
    refine ⟨oc, od, qual, defArgs st, defScope st, msg, p1, p2, p3, p4, p5, fp, .none, kV, doc, pm, an, cda, cc, ct, osl, ar, ccl, cl, cdd, cld, ccs, csl, vs, file, tf, l, c, har, hself, lc, hv2, hfile, lcc, hfp, hpos, ⟨h1, h2, h3, h4, h5, h6⟩, ⟨h7, h8, h9⟩, ?_, hlook, hmsg⟩
    intro s x us hl
    have := hbind kV doc pm an cda ct cc s x us hl
    rw [hbody] at this
    exact this
end
end L2
set_option Elab.async false
set_option linter.all false
set_option maxRecDepth 100000
set_option maxHeartbeats 4000000
namespace L2
open PySem PySem.Spec PyProof.Rows PySem.HErr
/-- a method of the text stands in its class -/
structure SrcM (K : PySem.W.Frag) (C : Addr) (m qual : Str) (st : Stmt) (ps : List Str) : Prop where
  ex : ∃ f fd, FunA K m qual st f fd ∧ Meth K C m f ∧ Binds K fd ps []
/-- the method m of the class at C keeps the promise sp -/
structure DefM (P : Program) (w : World) (K : PySem.W.Frag) (mg : Str → Option Value) (base : Heap) (CX : CXT) (k : Nat) (C : Addr) (m : Str) (ps : List Str) (sp : Sp) : Prop where
  ex : ∃ f fd, LkF K f fd ∧ Meth K C m f ∧ Binds K fd ps [] ∧ FnOk P w K mg base CX k f fd ps sp
/-- __init__ of the class at C stands in it; ds: the values of defaults that are left out -/
structure SrcI (K : PySem.W.Frag) (C : Addr) (qual : Str) (st : Stmt) (ps : List Str) : Prop where
  ex : ∃ f fd, FunA K "__init__" qual st f fd ∧ Mk K C f ∧ Binds K fd ps []
structure DefI (P : Program) (w : World) (K : PySem.W.Frag) (mg : Str → Option Value) (base : Heap) (CX : CXT) (k : Nat) (C : Addr) (ps : List Str) (sp : Sp) : Prop where
  ex : ∃ f fd, LkF K f fd ∧ Mk K C f ∧ Binds K fd ps [] ∧ FnOk P w K mg base CX k f fd ps sp
section
variable {P : Program} {w : World} {K : PySem.W.Frag} {mg : Str → Option Value} {base : Heap} {CX : CXT} {m qual : Str} {C : Addr} {st : Stmt} {N ps : List Str} {k : Nat} {sp : Sp}
theorem DefM.mono {j : Nat} (D : DefM P w K mg base CX j C m ps sp) (h : j ≤ k) : DefM P w K mg base CX k C m ps sp := by
  obtain ⟨f, fd, hlk, h1, h2, h3⟩ := D.ex
  exact ⟨f, fd, hlk, h1, h2, h3.mono h⟩
theorem DefI.mono {j : Nat} (D : DefI P w K mg base CX j C ps sp) (h : j ≤ k) : DefI P w K mg base CX k C ps sp := by
  obtain ⟨f, fd, hlk, h1, h2, h3⟩ := D.ex
  exact ⟨f, fd, hlk, h1, h2, h3.mono h⟩
theorem SrcM.ok (F : SrcM K C m qual st ps) (S : FnScope N ps (defScope st)) (len : ∀ vs H Q E, sp vs H Q E → vs.length = ps.length)
    (hbody : ∀ (f : Addr) (cdv : Value) (A : Around) (outer : List Env) (s : Shared) (H : Hp) (vs : List V) (Q : VK) (E : XK), Room k (A.deeper (envOfC qual (defScope st) s.heap.objs.size f cdv)) → sp vs H Q E →
      ∃ t, PSs (cxOf CX0 P w K mg base N qual (defScope st) f cdv A outer s H E).nox (defBody st) t ∧ t { nx := fun _ H' => Q .non H', rt := Q } (start N vs) H) : DefM P w K mg base CX0 (k + 1) C m ps sp := by
  obtain ⟨f, fd, h1, h2, h3⟩ := F.ex
  exact ⟨f, fd, h1.lk, h2, h3, h1.ok S len (hbody f)⟩
theorem SrcM.okX (F : SrcM K C m qual st ps) (S : FnScope N ps (defScope st)) (len : ∀ vs H Q E, sp vs H Q E → vs.length = ps.length)
    (hbody : ∀ (f : Addr) (cdv : Value) (A : Around) (outer : List Env) (s : Shared) (H : Hp) (vs : List V) (Q : VK) (E : XK), Room k (A.deeper (envOfC qual (defScope st) s.heap.objs.size f cdv)) → sp vs H Q E →
      ∃ t, PSs (cxOf (L2.CX P w) P w K mg base N qual (defScope st) f cdv A outer s H E) (defBody st) t ∧ t { nx := fun _ H' => Q .non H', rt := Q } (start N vs) H) : DefM P w K mg base (L2.CX P w) (k + 1) C m ps sp := by
  obtain ⟨f, fd, h1, h2, h3⟩ := F.ex
  exact ⟨f, fd, h1.lk, h2, h3, h1.okX S len (hbody f)⟩
theorem SrcI.okX (F : SrcI K C qual st ps) (S : FnScope N ps (defScope st)) (len : ∀ vs H Q E, sp vs H Q E → vs.length = ps.length)
    (hbody : ∀ (f : Addr) (cdv : Value) (A : Around) (outer : List Env) (s : Shared) (H : Hp) (vs : List V) (Q : VK) (E : XK), Room k (A.deeper (envOfC qual (defScope st) s.heap.objs.size f cdv)) → sp vs H Q E →
      ∃ t, PSs (cxOf (L2.CX P w) P w K mg base N qual (defScope st) f cdv A outer s H E) (defBody st) t ∧ t { nx := fun _ H' => Q .non H', rt := Q } (start N vs) H) : DefI P w K mg base (L2.CX P w) (k + 1) C ps sp := by
  obtain ⟨f, fd, h1, h2, h3⟩ := F.ex
  exact ⟨f, fd, h1.lk, h2, h3, h1.okX S len (hbody f)⟩
theorem SrcI.ok (F : SrcI K C qual st ps) (S : FnScope N ps (defScope st)) (len : ∀ vs H Q E, sp vs H Q E → vs.length = ps.length)
    (hbody : ∀ (f : Addr) (cdv : Value) (A : Around) (outer : List Env) (s : Shared) (H : Hp) (vs : List V) (Q : VK) (E : XK), Room k (A.deeper (envOfC qual (defScope st) s.heap.objs.size f cdv)) → sp vs H Q E →
      ∃ t, PSs (cxOf CX0 P w K mg base N qual (defScope st) f cdv A outer s H E).nox (defBody st) t ∧ t { nx := fun _ H' => Q .non H', rt := Q } (start N vs) H) : DefI P w K mg base CX0 (k + 1) C ps sp := by
  obtain ⟨f, fd, h1, h2, h3⟩ := F.ex
  exact ⟨f, fd, h1.lk, h2, h3, h1.ok S len (hbody f)⟩
end
theorem passAt0 {X : Cx} (σ : St) : PassesAt CX0 X σ E0 := fun _ _ _ _ _ _ h => h.elim
theorem Passes.at {CX : CXT} {X : Cx} {E : XK} (h : Passes CX X E) (σ : St) : PassesAt CX X σ E := fun pins H s e s' I c => h pins σ H s e s' I c
/-- o.m(..) -/
def tMetD (C : Addr) (m : Str) (sp : Sp) (E : St → XK) (ta : TE) (t : TA) : TE := fun σ H Q => ta σ H fun x H1 => ∃ a dx fs, x = .ref a ∧ H1 a = some (.ins C dx fs) ∧ fs.lookup m = none ∧ t σ H1 fun vs H2 => sp (x :: vs) H2 Q (E σ)
/-- C(..) -/
def tMkD (C : Addr) (sp : Sp) (E : St → XK) (t : TA) : TE := fun σ H Q => t σ H fun vs H1 => ∀ x dx, H1 x = none → H1 dx = none → dx ≠ x →
  sp (.ref x :: vs) (upd (upd H1 dx (.own x)) x (.ins C dx [])) (fun v H2 => v = .non ∧ Q (.ref x) H2) (E σ)
section
variable {X : Cx} {CX : CXT} {k : Nat} {C : Addr} {ps : List Str} {sp : Sp} {E : St → XK} {x m : Str} {p pos apos : Pos} {e o : Expr} {es : List Expr} {ta : TE} {t : TA}
theorem pe_metD {pl : Sem Bool} (D : DefM X.prog X.w X.K X.mg X.base CX k C m ps sp) (c : Cls X.K C) (hr : Room k X.A) (hx : ∀ σ, PassesAt CX X σ (E σ)) (he : PE X o ta) (ha : PA X (e :: es) t)
    (hst : starEach (e :: es) X.env = (false, eval e X.env) :: starEach es X.env := by rfl) (hpl : (backTo pos (starEach es X.env)).any (·.1) = false := by rfl)
    (ht : eval (.Call (.Attribute o m apos) (e :: es) [] pos) X.env = (do
      let ov ← eval o X.env
      standAt apos.atName
      let (f, first) ← holding [ov] (getMethod ov m pl)
      callWith pos f first (backTo pos (starEach (e :: es) X.env)) (backToKw pos (keywordEach [] X.env))) := by rfl) :
    PE X (.Call (.Attribute o m apos) (e :: es) [] pos) (tMetD C m sp E ta t) := by
  obtain ⟨f, fd, hlk, hm, hb, F⟩ := D.ex
  refine ⟨fun pins s σ H Q I h => ?_⟩
  refine PySem.W.methodCall_KW (pl := pl) (thn (he.run pins s σ H _ I h) fun u s1 ⟨x, H1, I1, rx, a, dx, fs, ex, ea, l, q⟩ => ?_) ht
  subst ex
  obtain rfl : u = Value.ref a := rx
  refine getmeth_ok I1 ea c hm l ?_
  refine PySem.W.callWith_K (first := [.ref a]) (h₀ := X.base) I.ok.mod.kin hm.kp (thn (ha.run pos pins s1 σ H1 _ I1 q) fun us s2 ⟨vs, H2, I2, r, q2⟩ => ⟨I2.kIn, ?_⟩) hst hpl
  exact run_fnS (us := .ref a :: us) (vs := .ref a :: vs) F hr hb (hx σ) I2 (.cons rfl r) q2
theorem pe_mkD (D : DefI X.prog X.w X.K X.mg X.base CX k C ps sp) (hm : X.mg x = some (.ref C)) (hr : Room (k + 1) X.A) (hx : ∀ σ, PassesAt CX X σ (E σ)) (ha : PA X (e :: es) t) (hg : Gl X x := by rfl)
    (hdb : (x == ("__debug__" : Str)) = false := by decide) (he : starEach (e :: es) X.env = (false, eval e X.env) :: starEach es X.env := by rfl) (hpl : (backTo pos (starEach es X.env)).any (·.1) = false := by rfl) :
    PE X (.Call (.Name x p) (e :: es) [] pos) (tMkD C sp E t) := by
  obtain ⟨f, fd, hlk, M, hb, F⟩ := D.ex
  refine ⟨fun pins s0 σ H0 Q I0 h0 => ?_⟩
  refine wpAny_Call_Name_kw (ld_glob I0 hg hm ?_ hdb)
  refine PySem.W.callWith_K (h₀ := X.base) I0.ok.mod.kin M.kp (thn (ha.run pos pins s0 σ H0 _ I0 h0) fun us s ⟨vs, H, I, r, h⟩ => ⟨I.kIn, ?_⟩) he hpl
  show wpAny _ _ (call (.ref C) us) _ _ _
  have hq := h (s.heap.objs.size + 1) s.heap.objs.size (I.hok.fresh (Nat.le_succ _)) (I.hok.fresh (Nat.le_refl _)) (Nat.ne_of_lt (Nat.lt_succ_self _))
  have I2 := Inv.made (C := C) I
  have r2 : Vals (V.ref (s.heap.objs.size + 1) :: vs) (Value.ref (s.heap.objs.size + 1) :: us) := .cons rfl r
  have hl : ((Value.ref (s.heap.objs.size + 1) :: us) ++ []).length = ps.length := by
    have e := r2.length
    rw [F.len _ _ _ _ hq] at e
    rw [List.append_nil]
    exact e.symm
  have hbb := hb _ (Value.ref (s.heap.objs.size + 1) :: us) I2.kIn hl
  rw [List.append_nil] at hbb
  refine wpAny_call (make_map (f := f) I.kIn M.makes M.init (beq_iff_eq.mp M.fn) (codeAny_mono (F.run _ X.stack _ _ ⟨Value.ref (s.heap.objs.size + 1) :: us, []⟩ (Value.ref (s.heap.objs.size + 1) :: us) _ _ (E σ) (hr.make C us [])
    (I2.env0.make C us []) hbb r2 hq) fun r s' hq' => ?_))
  cases r with
  | error e => exact hx σ pins _ _ e s' I2 hq'
  | ok fl =>
    cases fl with
    | ret u =>
      obtain ⟨v, H', I3, rv, ev, q3⟩ := I2.after hq'
      subst ev
      exact ⟨rv, ⟨V.ref (s.heap.objs.size + 1), H', I3, rfl, q3⟩⟩
    | next => exact False.elim hq'
    | brk => exact False.elim hq'
    | cont => exact False.elim hq'
theorem kps_fld {K : PySem.W.Frag} {f : Str} {value : Expr} {pos' : Pos} {tv : TE} (ha : PE X o ta) (hv : PE X value tv) (hs : swapsWith value (some (.Attribute o f pos')) pos.line X.env = pure false := by rfl) (hK : X.K = K := by rfl) :
    PS X (.Assign [.Attribute o f pos'] value pos) (sFld K ta tv f) := hK ▸ ps_fld ha hv hs
theorem srcM_mk {K : PySem.W.Frag} {qual : Str} {st : Stmt} {f : Addr} {oc : Value} {od an : Option Addr} {osl : Array (Option Value)} {kV doc pm cdv ct : Value}
    (a : PySem.W.findIn K (.ref C) m = some (some (.ref f))) (i : PySem.W.isFn K (.ref f) = true) (l : K.lookup f = some ⟨oc, od, .func (PySem.W.fnOf m qual (defArgs st) (defBody st) (defScope st) .none kV doc pm an cdv ct), osl⟩)
    (c : PySem.W.codeIn K cdv qual = true) (k : PySem.W.keepIn K (.ref f) = true)
    (hb : ∀ (kV doc pm : Value) (an : Option Addr) (cdv ct : Value) (us : List Value), us.length = ps.length → bindArgs (PySem.W.fnOf m qual (defArgs st) (defBody st) (defScope st) .none kV doc pm an cdv ct) ⟨us, []⟩ = pure (ps.zip us)) : SrcM K C m qual st ps :=
  ⟨f, _, PySem_Fun_a (fun_mk l c k), ⟨a, i, k⟩, (fun_mk (st := st) l c k).binds hb⟩
theorem srcI_mk {K : PySem.W.Frag} {qual : Str} {st : Stmt} {f : Addr} {oc : Value} {od an : Option Addr} {osl : Array (Option Value)} {kV doc pm cdv ct : Value}
    (mk : PySem.W.makesIn K C = true) (kc : PySem.W.keepIn K (.ref C) = true)
    (a : PySem.W.findIn K (.ref C) "__init__" = some (some (.ref f))) (i : PySem.W.isFn K (.ref f) = true) (l : K.lookup f = some ⟨oc, od, .func (PySem.W.fnOf "__init__" qual (defArgs st) (defBody st) (defScope st) .none kV doc pm an cdv ct), osl⟩)
    (c : PySem.W.codeIn K cdv qual = true) (k : PySem.W.keepIn K (.ref f) = true)
    (hb : ∀ (kV doc pm : Value) (an : Option Addr) (cdv ct : Value) (us : List Value), us.length = ps.length → bindArgs (PySem.W.fnOf "__init__" qual (defArgs st) (defBody st) (defScope st) .none kV doc pm an cdv ct) ⟨us, []⟩ = pure (ps.zip us)) : SrcI K C qual st ps :=
  ⟨f, _, PySem_Fun_a (fun_mk l c k), ⟨mk, a, i, kc⟩, (fun_mk (st := st) l c k).binds hb⟩
end
end L2
set_option Elab.async false
set_option linter.all false
set_option maxRecDepth 100000
set_option maxHeartbeats 4000000
namespace L2
open PySem PySem.Spec PyProof.Rows PySem.HErr
/-- an error of a plan -/
inductive PErr where
  | tooMany (kind : Str) (limit : Int)
  | badWord (w : Str)
  | double (n : Str)
  | badNumber (n : Int)
  | empty (n : Str)
  | unknown (n : Str)
def nameErr : Bool × Str → PErr
  | (true, n) => .unknown n
  | (false, n) => .double n
def placesDue : List Str → List (Str × Int) → Option PErr
  | _, [] => none
  | seen, (w, n) :: r => if wd w.cps.toList = true then (if w ∈ seen then some (.double w) else if 0 ≤ n ∧ n ≤ 99 then placesDue (seen ++ [w]) r else some (.badNumber n)) else some (.badWord w)
abbrev SRow := Str × List Str × List Str
def stepDue (places seen : List Str) (s : SRow) : Option PErr :=
  if wd s.1.cps.toList = true then (if s.1 ∈ seen then some (.double s.1) else if s.2.1 = [] then some (.empty s.1) else
    match chk places [] s.2.1 with
    | some x => some (nameErr x)
    | none => (chk places [] s.2.2).map nameErr) else some (.badWord s.1)
def stepsDue (places : List Str) : List Str → List SRow → Option PErr
  | _, [] => none
  | seen, s :: r => match stepDue places seen s with
    | some e => some e
    | none => stepsDue places (seen ++ [s.1]) r
def planDue (prs : List (Str × Int)) (srs : List SRow) : Option PErr :=
  if 12 < prs.length then some (.tooMany "places" 12) else if 16 < srs.length then some (.tooMany "steps" 16) else
    match placesDue [] prs with
    | some e => some e
    | none => stepsDue (prs.map (·.1)) [] srs
theorem placesDue_cons (seen : List Str) (w : Str) (n : Int) (r : List (Str × Int)) : placesDue seen ((w, n) :: r) = if wd w.cps.toList = true then (if w ∈ seen then some (.double w) else if 0 ≤ n ∧ n ≤ 99 then placesDue (seen ++ [w]) r else some (.badNumber n)) else some (.badWord w) := rfl
theorem stepsDue_cons (places seen : List Str) (s : SRow) (r : List SRow) : stepsDue places seen (s :: r) = match stepDue places seen s with
    | some e => some e
    | none => stepsDue places (seen ++ [s.1]) r := rfl
/-- names in the order of the places -/
def inOrd (places ns : List Str) : List Str := places.filter fun p => decide (p ∈ ns)
/-- a plan -/
structure PlanD where
  places : List Str
  begin : List Int
  steps : List SRow
def planOf (prs : List (Str × Int)) (srs : List SRow) : PlanD := ⟨prs.map (·.1), prs.map (·.2), srs.map fun s => (s.1, inOrd (prs.map (·.1)) s.2.1, inOrd (prs.map (·.1)) s.2.2)⟩
def PlanD.names (d : PlanD) : List Str := d.steps.map (·.1)
/-- a dict from words to tuples of words -/
def TabAt (H : Hp) (kvs : List (Key × V)) (rows : List (Str × List Str)) : Prop := Paired (fun (kv : Key × V) r => kv.1 = Sum.inr r.1 ∧ ∃ t, kv.2 = .ref t ∧ H t = some (.tup (r.2.map V.str))) kvs rows
/-- a tuple whose place is known to be bare -/
def TupK (F : Hp) (a : Addr) (vs : List V) : Prop := ∃ o, F a = some (.frz o (.tup vs)) ∧ o.cls = .type "tuple" ∧ o.dict = none
theorem TupK.mono {F F' : Hp} {a : Addr} {vs : List V} (e : Same F F') (h : TupK F a vs) : TupK F' a vs := let ⟨o, h, q⟩ := h; ⟨o, e _ _ h, q⟩
def TupX (n : Bool) (F : Hp) (a : Addr) (vs : List V) : Prop := (n = true ∧ F a = some (.tup vs)) ∨ (n = false ∧ TupK F a vs)
theorem TupX.mono {n : Bool} {F F' : Hp} {a : Addr} {vs : List V} (e : Same F F') (h : TupX n F a vs) : TupX n F' a vs := h.imp (fun ⟨h0, h⟩ => ⟨h0, e _ _ h⟩) fun ⟨h0, h⟩ => ⟨h0, h.mono e⟩
def TupB (n : Bool) (F : Hp) (a : Addr) (vs : List V) : Prop := F a = some (.tup vs) ∨ (n = false ∧ TupK F a vs)
theorem TupB.mono {n : Bool} {F F' : Hp} {a : Addr} {vs : List V} (e : Same F F') (h : TupB n F a vs) : TupB n F' a vs := h.imp (fun h => e _ _ h) fun ⟨h0, o, h, q⟩ => ⟨h0, o, e _ _ h, q⟩
/-- the plan d stands at x -/
structure PlanAt (H : Hp) (C x : Addr) (d : PlanD) : Prop where
  ex : ∃ (dx tp tb td tg ts : Addr) (kt kg : List (Key × V)), H x = some (.ins C dx [("places", .ref tp), ("begin", .ref tb), ("taken", .ref td), ("given", .ref tg), ("steps", .ref ts)]) ∧
    TupX d.places.isEmpty H tp (d.places.map V.str) ∧ H tb = some (.tup (d.begin.map V.int)) ∧ H td = some (.dK kt) ∧ H tg = some (.dK kg) ∧ TupB d.names.isEmpty H ts (d.names.map V.str) ∧
    TabAt H kt (d.steps.map fun s => (s.1, s.2.1)) ∧ TabAt H kg (d.steps.map fun s => (s.1, s.2.2))
theorem Paired.imp2 {α β : Type} {R S : α → β → Prop} (h : ∀ a b, R a b → S a b) : ∀ {l : List α} {m : List β}, Paired R l m → Paired S l m
  | _, _, .nil => .nil
  | _, _, .cons x y => .cons (h _ _ x) (Paired.imp2 h y)
theorem TabAt.keep {H H' : Hp} {kvs : List (Key × V)} {rows : List (Str × List Str)} (h : TabAt H kvs rows) (e : ∀ t l, H t = some (.tup l) → H' t = some (.tup l)) : TabAt H' kvs rows :=
  Paired.imp2 (fun _ _ ⟨h1, t, h2, h3⟩ => ⟨h1, t, h2, e t _ h3⟩) h
theorem PlanAt.keep {H H' : Hp} {C x : Addr} {d : PlanD} (h : PlanAt H C x d) (e : Same H H') : PlanAt H' C x d := by
  obtain ⟨dx, tp, tb, td, tg, ts, kt, kg, h1, h2, h3, h4, h5, h6, h7, h8⟩ := h.ex
  exact ⟨dx, tp, tb, td, tg, ts, kt, kg, e _ _ h1, h2.mono e, e _ _ h3, e _ _ h4, e _ _ h5, h6.mono e, h7.keep fun _ _ => e _ _, h8.keep fun _ _ => e _ _⟩
/-- rows of places, rows of steps, in the heap -/
def PRows (H : Hp) (a : Addr) (prs : List (Str × Int)) : Prop := ∃ ts : List Addr, H a = some (.lst (ts.map V.ref)) ∧ Paired (fun t (r : Str × Int) => H t = some (.tup [.str r.1, .int r.2])) ts prs
/-- a row of a step at t, its lists other than the one at a -/
def SRowIn (H : Hp) (a t : Addr) (r : SRow) : Prop := ∃ b c, H t = some (.tup [.str r.1, .ref b, .ref c]) ∧ H b = some (.lst (r.2.1.map V.str)) ∧ H c = some (.lst (r.2.2.map V.str)) ∧ b ≠ a ∧ c ≠ a
def SRows (H : Hp) (a : Addr) (srs : List SRow) : Prop := ∃ ts : List Addr, H a = some (.lst (ts.map V.ref)) ∧ Paired (SRowIn H a) ts srs
theorem PRows.keep {H H' : Hp} {a : Addr} {prs : List (Str × Int)} (h : PRows H a prs) (e : Same H H') : PRows H' a prs := by
  obtain ⟨ts, h1, h2⟩ := h
  exact ⟨ts, e _ _ h1, Paired.imp2 (fun _ _ h => e _ _ h) h2⟩
theorem SRows.keep {H H' : Hp} {a : Addr} {srs : List SRow} (h : SRows H a srs) (e : Same H H') : SRows H' a srs := by
  obtain ⟨ts, h1, h2⟩ := h
  exact ⟨ts, e _ _ h1, Paired.imp2 (fun _ _ ⟨b, c, x, y, z, u⟩ => ⟨b, c, e _ _ x, e _ _ y, e _ _ z, u⟩) h2⟩
theorem Paired.get {α β : Type} {R : α → β → Prop} : ∀ {l : List α} {m : List β} {i : Nat} {a : α}, Paired R l m → l[i]? = some a → ∃ b, m[i]? = some b ∧ R a b
  | _, _, _, _, .nil, h => by simp at h
  | _, _, 0, _, .cons x _, h => by cases h; exact ⟨_, rfl, x⟩
  | _, _, i + 1, _, .cons _ y, h => Paired.get (i := i) y h
theorem Paired.len {α β : Type} {R : α → β → Prop} : ∀ {l : List α} {m : List β}, Paired R l m → l.length = m.length
  | _, _, .nil => rfl
  | _, _, .cons _ y => by rw [List.length_cons, List.length_cons, Paired.len y]
theorem Paired.snoc {α β : Type} {R : α → β → Prop} {a : α} {b : β} (h : R a b) : ∀ {l : List α} {m : List β}, Paired R l m → Paired R (l ++ [a]) (m ++ [b])
  | _, _, .nil => .cons h .nil
  | _, _, .cons x y => .cons x (Paired.snoc h y)
/-- the classes of the errors of a plan -/
structure ECs where
  tooMany : Addr
  badWord : Addr
  double : Addr
  badNumber : Addr
  empty : Addr
  unknown : Addr
def PErr.cls (cs : ECs) : PErr → Addr
  | .tooMany _ _ => cs.tooMany
  | .badWord _ => cs.badWord
  | .double _ => cs.double
  | .badNumber _ => cs.badNumber
  | .empty _ => cs.empty
  | .unknown _ => cs.unknown
def PErr.fields : PErr → List (Str × V)
  | .tooMany k l => [("limit", .int l), ("kind", .str k)]
  | .badWord w => [("word", .str w)]
  | .double n => [("name", .str n)]
  | .badNumber n => [("number", .int n)]
  | .empty n => [("name", .str n)]
  | .unknown n => [("name", .str n)]
/-- an error e is what E wants -/
def RaisP (cs : ECs) (E : XK) (H : Hp) (e : PErr) : Prop := Rais E H (e.cls cs) e.fields
/-- the same, but the object at x may have changed -/
def RaisX (cs : ECs) (E : XK) (x : Addr) (H : Hp) (e : PErr) : Prop := ∀ H' d, SameB x H H' → H d = none → H' d = some (.xd e.fields) → E (.ref (e.cls cs)) (some d) H'
theorem RaisX.go {cs : ECs} {E : XK} {x d : Addr} {H H' : Hp} {e : PErr} (h : RaisX cs E x H e) (sm : SameB x H H') (n : H' d = none) (hx : ∃ o, H' x = some o) : E (.ref (e.cls cs)) (some d) (upd H' d (.xd e.fields)) := by
  have hd : d ≠ x := fun q => by
    obtain ⟨o, ho⟩ := hx
    rw [q, ho] at n
    cases n
  exact h _ d (fun a o ha e => by rw [upd_ne (ne_of_none (sm a o ha e) n)]; exact sm a o ha e) (sm.free hd n) upd_same
theorem valV_tab {H : Hp} : ∀ {kvs : List (Key × V)} {rows : List (Str × List Str)}, TabAt H kvs rows → ∀ n : Str,
    (n ∈ rows.map (·.1) → ∃ t l, valV kvs (Sum.inr n) = some (.ref t) ∧ H t = some (.tup (l.map V.str)) ∧ rows.lookup n = some l) ∧ (n ∉ rows.map (·.1) → valV kvs (Sum.inr n) = none)
  | _, _, .nil, n => ⟨(fun h => by cases h), fun _ => rfl⟩
  | kv :: kvs, r :: rows, .cons ⟨h1, t, h2, h3⟩ hr, n => by
    obtain ⟨ih1, ih2⟩ := valV_tab hr n
    by_cases e : r.1 = n
    · refine ⟨fun _ => ⟨t, r.2, ?_, h3, ?_⟩, fun h => absurd (List.mem_cons_self ..) (by rw [← e] at h; exact h)⟩
      · rw [valV_pos (by rw [h1, e]), h2]
      · obtain ⟨r1, r2⟩ := r
        have e : r1 = n := e
        rw [List.lookup_cons, e]
        simp
    · have hk : ¬ kv.1 = Sum.inr n := fun q => by rw [h1] at q; exact e (Sum.inr.inj q)
      refine ⟨fun h => ?_, fun h => ?_⟩
      · rcases List.mem_cons.mp h with h | h
        · exact absurd h.symm e
        · obtain ⟨t', l, a, b, c⟩ := ih1 h
          refine ⟨t', l, by rw [valV_neg hk]; exact a, b, ?_⟩
          obtain ⟨r1, r2⟩ := r
          have hne : (n == r1) = false := by simpa using fun q : n = r1 => e q.symm
          rw [List.lookup_cons, hne]
          exact c
      · rw [valV_neg hk]
        exact ih2 fun q => h (List.mem_cons_of_mem _ q)
/-- rows without what stands at b -/
theorem PRows.bx {b l : Addr} {H H' : Hp} {a : Addr} {prs : List (Str × Int)} (h : PRows H a prs) (e : Bx b l H H') : PRows H' a prs := by
  obtain ⟨ts, h1, h2⟩ := h
  obtain ⟨ns, i, c, r, hb, _⟩ := e.b0.ex
  have nt : ∀ {t : Addr} {xs : List V}, H t = some (.tup xs) → t ≠ b := fun {t xs} h q => by rw [q, hb] at h; cases h
  have nl : a ≠ b := fun q => by
    rw [q, hb] at h1
    have h1 : [V.int i, V.int c, V.int r, V.ref l] = ts.map V.ref := HO.lst.inj (Option.some.inj h1)
    cases ts with
    | nil => cases h1
    | cons t ts => cases h1
  exact ⟨ts, e.at h1 nl, Paired.imp2 (fun _ _ h => e.at h (nt h)) h2⟩
theorem lst_strs_ne {b l : Addr} {H : Hp} {a : Addr} {ws : List Str} (hb : Box H b l) (h : H a = some (.lst (ws.map V.str))) : a ≠ b := fun q => by
  obtain ⟨ns, i, c, r, hb, _⟩ := hb.ex
  rw [q, hb] at h
  have h1 : [V.int i, V.int c, V.int r, V.ref l] = ws.map V.str := HO.lst.inj (Option.some.inj h)
  cases ws with
  | nil => cases h1
  | cons t ts => cases h1
theorem lst_refs_ne {b l : Addr} {H : Hp} {a : Addr} {ts : List Addr} (hb : Box H b l) (h : H a = some (.lst (ts.map V.ref))) : a ≠ b := fun q => by
  obtain ⟨ns, i, c, r, hb, _⟩ := hb.ex
  rw [q, hb] at h
  have h1 : [V.int i, V.int c, V.int r, V.ref l] = ts.map V.ref := HO.lst.inj (Option.some.inj h)
  cases ts with
  | nil => cases h1
  | cons t ts => cases h1
theorem tup_ne {b l : Addr} {H : Hp} {a : Addr} {xs : List V} (hb : Box H b l) (h : H a = some (.tup xs)) : a ≠ b := fun q => by
  obtain ⟨ns, i, c, r, hb, _⟩ := hb.ex
  rw [q, hb] at h
  cases h
theorem SRows.bx {b l : Addr} {H H' : Hp} {a : Addr} {srs : List SRow} (h : SRows H a srs) (e : Bx b l H H') : SRows H' a srs := by
  obtain ⟨ts, h1, h2⟩ := h
  exact ⟨ts, e.at h1 (lst_refs_ne e.b0 h1), Paired.imp2 (fun _ _ ⟨x, y, h3, h4, h5, u⟩ => ⟨x, y, e.at h3 (tup_ne e.b0 h3), e.at h4 (lst_strs_ne e.b0 h4), e.at h5 (lst_strs_ne e.b0 h5), u⟩) h2⟩
end L2
set_option Elab.async false
set_option linter.all false
set_option maxRecDepth 100000
set_option maxHeartbeats 4000000
namespace L2
open PySem PySem.Spec PyProof.Rows PySem.HErr
theorem Same.mut {p : Addr} {H H' : Hp} {o : HO} (h : Same H H') (n : H p = none) : Same H (upd H' p o) := fun a u e => by
  rw [upd_ne (ne_of_none e n)]
  exact h a u e
theorem Bx.tup {b l : Addr} {H H' : Hp} {a : Addr} {xs : List V} (x : Bx b l H H') (h : H a = some (.tup xs)) : H' a = some (.tup xs) := x.at h (tup_ne x.b0 h)
theorem go_name {i : Nat} {v : V} {σ : L2.St} {H : Hp} {Q : L2.St → Hp → Prop} (h : Q (σ.set i (some v)) H) : gName i v σ H Q := h
theorem Paired.take {α β : Type} {R : α → β → Prop} : ∀ {l : List α} {m : List β} (i : Nat), Paired R l m → Paired R (l.take i) (m.take i)
  | _, _, 0, _ => .nil
  | _, _, _ + 1, .nil => .nil
  | _, _, i + 1, .cons x y => .cons x (Paired.take i y)
theorem Paired.drop {α β : Type} {R : α → β → Prop} : ∀ {l : List α} {m : List β} (i : Nat), Paired R l m → Paired R (l.drop i) (m.drop i)
  | _, _, 0, h => h
  | _, _, _ + 1, .nil => .nil
  | _, _, i + 1, .cons _ y => Paired.drop i y
theorem Paired.app {α β : Type} {R : α → β → Prop} : ∀ {l : List α} {m : List β} {l' : List α} {m' : List β}, Paired R l m → Paired R l' m' → Paired R (l ++ l') (m ++ m')
  | _, _, _, _, .nil, h => h
  | _, _, _, _, .cons x y, h => .cons x (Paired.app y h)
theorem Paired.get' {α β : Type} {R : α → β → Prop} : ∀ {l : List α} {m : List β} {i : Nat} {b : β}, Paired R l m → m[i]? = some b → ∃ a, l[i]? = some a ∧ R a b
  | _, _, _, _, .nil, h => by simp at h
  | _, _, 0, _, .cons x _, h => by cases h; exact ⟨_, rfl, x⟩
  | _, _, i + 1, _, .cons _ y, h => Paired.get' (i := i) y h
theorem drop_at {α : Type} {l : List α} {i : Nat} {n : α} (h : l[i]? = some n) : l.drop i = n :: l.drop (i + 1) := List.drop_eq_getElem?_toList_append.trans (by rw [h]; rfl)
theorem SRowIn.keep {H H' : Hp} {a t : Addr} {r : SRow} (h : SRowIn H a t r) (e : Same H H') : SRowIn H' a t r := by
  obtain ⟨b, c, x, y, z, u⟩ := h
  exact ⟨b, c, e _ _ x, e _ _ y, e _ _ z, u⟩
theorem Paired.same {H H' : Hp} {ts : List Addr} {prs : List (Str × Int)} (h : Paired (fun t (r : Str × Int) => H t = some (.tup [.str r.1, .int r.2])) ts prs) (e : Same H H') : Paired (fun t (r : Str × Int) => H' t = some (.tup [.str r.1, .int r.2])) ts prs := Paired.imp2 (fun _ _ h => e _ _ h) h
/-- good rows: a plan of them is built -/
structure GoodRows (prs : List (Str × Int)) (srs : List SRow) : Prop where
  pw : ∀ r ∈ prs, Wd r.1 ∧ 0 ≤ r.2 ∧ r.2 ≤ 2
  pn : (prs.map (·.1)).Nodup
  sw : ∀ r ∈ srs, Wd r.1 ∧ r.2.1 ≠ [] ∧ r.2.1.Nodup ∧ (∀ y ∈ r.2.1, y ∈ prs.map (·.1)) ∧ r.2.2.Nodup ∧ (∀ y ∈ r.2.2, y ∈ prs.map (·.1))
  sn : (srs.map (·.1)).Nodup
  p1 : 1 ≤ prs.length
  p7 : prs.length ≤ 7
  s1 : 1 ≤ srs.length
  s13 : srs.length ≤ 13
theorem nodup_snoc {α : Type} {l : List α} {a : α} (h : l.Nodup) (n : a ∉ l) : (l ++ [a]).Nodup := by
  rw [List.nodup_append]
  exact ⟨h, by simp, fun x hx y hy e => by rw [List.mem_singleton.mp hy] at e; rw [e] at hx; exact n hx⟩
theorem placesDue_none : ∀ {prs : List (Str × Int)} {seen : List Str}, (∀ r ∈ prs, Wd r.1 ∧ 0 ≤ r.2 ∧ r.2 ≤ 99) → (seen ++ prs.map (·.1)).Nodup → placesDue seen prs = none
  | [], _, _, _ => rfl
  | (w, n) :: r, seen, h, hn => by
    obtain ⟨h1, h2⟩ := h _ (List.mem_cons_self ..)
    have hn2 : ((seen ++ [w]) ++ r.map (·.1)).Nodup := by
      rw [List.append_assoc]
      exact hn
    have hw : w ∉ seen := fun q => by
      rw [List.nodup_append] at hn
      exact hn.2.2 w q w (List.mem_cons_self ..) rfl
    have h1 : wd w.cps.toList = true := h1
    have h2 : 0 ≤ n ∧ n ≤ 99 := h2
    rw [placesDue_cons, if_pos h1, if_neg hw, if_pos h2]
    exact placesDue_none (fun r hr => h r (List.mem_cons_of_mem _ hr)) hn2
theorem stepsDue_none {places : List Str} : ∀ {srs : List SRow} {seen : List Str}, (∀ r ∈ srs, Wd r.1 ∧ r.2.1 ≠ [] ∧ r.2.1.Nodup ∧ (∀ y ∈ r.2.1, y ∈ places) ∧ r.2.2.Nodup ∧ (∀ y ∈ r.2.2, y ∈ places)) → (seen ++ srs.map (·.1)).Nodup → stepsDue places seen srs = none
  | [], _, _, _ => rfl
  | s :: r, seen, h, hn => by
    obtain ⟨h1, h2, h3, h4, h5, h6⟩ := h _ (List.mem_cons_self ..)
    have hn2 : ((seen ++ [s.1]) ++ r.map (·.1)).Nodup := by
      rw [List.append_assoc]
      exact hn
    have hw : s.1 ∉ seen := fun q => by
      rw [List.nodup_append] at hn
      exact hn.2.2 s.1 q s.1 (List.mem_cons_self ..) rfl
    have e1 : chk places [] s.2.1 = none := chk_none.mpr ⟨h3, fun w hw => ⟨h4 w hw, by simp⟩⟩
    have e2 : chk places [] s.2.2 = none := chk_none.mpr ⟨h5, fun w hw => ⟨h6 w hw, by simp⟩⟩
    have e : stepDue places seen s = none := by
      unfold stepDue
      have h1 : wd s.1.cps.toList = true := h1
      rw [if_pos h1, if_neg hw, if_neg h2, e1, e2]
      rfl
    rw [stepsDue_cons, e]
    exact stepsDue_none (fun r hr => h r (List.mem_cons_of_mem _ hr)) hn2
theorem planDue_none {prs : List (Str × Int)} {srs : List SRow} (hp : ∀ r ∈ prs, Wd r.1 ∧ 0 ≤ r.2 ∧ r.2 ≤ 99) (hn : (prs.map (·.1)).Nodup)
    (hs : ∀ r ∈ srs, Wd r.1 ∧ r.2.1 ≠ [] ∧ r.2.1.Nodup ∧ (∀ y ∈ r.2.1, y ∈ prs.map (·.1)) ∧ r.2.2.Nodup ∧ (∀ y ∈ r.2.2, y ∈ prs.map (·.1))) (hm : (srs.map (·.1)).Nodup) (l1 : prs.length ≤ 12) (l2 : srs.length ≤ 16) : planDue prs srs = none := by
  unfold planDue
  rw [if_neg (by omega), if_neg (by omega), placesDue_none hp (by simpa using hn)]
  exact stepsDue_none hs (by simpa using hm)
theorem GoodRows.due {prs : List (Str × Int)} {srs : List SRow} (h : GoodRows prs srs) : planDue prs srs = none :=
  planDue_none (fun r hr => by have := h.pw r hr; exact ⟨this.1, this.2.1, by omega⟩) h.pn h.sw h.sn (by have := h.p7; omega) (by have := h.s13; omega)
end L2
set_option Elab.async false
set_option linter.all false
set_option maxRecDepth 100000
set_option maxHeartbeats 4000000
namespace L2
open PySem PySem.Spec PyProof.Rows PySem.HErr
section
variable {X : Cx}
theorem putK_add {κ : Type} [DecidableEq κ] {kvs : List (κ × V)} {k : κ} {v : V} (h : valV kvs k = none) : putK kvs k v = kvs ++ [(k, v)] := by
  unfold putK
  rw [if_neg]
  rw [valV_any, h]
  exact Bool.false_ne_true
/-- d.setdefault(k, x) -/
def rSetDefT : V → List V → Hp → VK → Prop := fun x xs H Q => ∃ (a : Addr) (kvs : List (List L2.Key × V)) (k : List L2.Key) (b : Addr) (d : V), x = .ref a ∧ xs = [.ref b, d] ∧ H a = some (.dT kvs) ∧ H b = some (.tup (k.map kV)) ∧ kvs.length < sizeLine ∧
  (∀ v, valV kvs k = some v → Q v H) ∧ (valV kvs k = none → Q d (upd H a (.dT (kvs ++ [(k, d)]))))
theorem mt_setdefT (hu : X.A.units + 1 < cLine) : MtR X "dict.setdefault" rSetDefT := by
  intro pins s σ H x xs v us Q I rx rxs h
  obtain ⟨a, kvs, k, b, d, rfl, rfl, ha, hb, hlt, q1, q2⟩ := h
  cases rx
  obtain ⟨u1, u2, rfl, r1, r2⟩ := vals2 rxs
  cases r1
  obtain ⟨z, hd, xs', rel, dd⟩ := dt_of I.hok ha
  have hz : xs'.length ≤ sizeLine := by rw [← Paired.length rel]; exact z
  refine call_meetsIn PySem.F.slot_dict_setdefault dd.typeIs PySem.F.entry_dict_setdefault (PySem.F.args_dict_setdefault_3 _ _ _) (meetsH_dict_setdefault (tupleKind (mixKind X.prog X.w)) a b hd u2)
    ⟨tupleKind_room_in1 hu, k, xs', key_of I.hok hb, dd, hz, fun p hp => ?_, fun hn h' dd' hs => ?_⟩
  · have r := rel.val k
    rw [hp] at r
    obtain ⟨v0, ev, rv⟩ : ∃ v0, valV kvs k = some v0 ∧ RelV v0 p.2 := by
      cases ev : valV kvs k with
      | none =>
        rw [ev] at r
        exact (show False from r).elim
      | some v0 =>
        rw [ev] at r
        exact ⟨v0, rfl, r⟩
    show EP X pins σ Q p.2 _
    exact ⟨v0, H, I.tok _, rv, q1 v0 ev⟩
  · have r := rel.val k
    rw [hn] at r
    have e : valV kvs k = none := by
      cases ev : valV kvs k with
      | none => rfl
      | some v0 =>
        rw [ev] at r
        exact (show False from r).elim
    have q := q2 e
    rw [← putK_add e] at q
    obtain ⟨o, es, ep, hq, h2, h3, h4, _, h5⟩ := dd'
    have I2 : Inv X pins σ (upd H a (.dT (putK kvs k d))) { s with heap := h', toks := s.toks + (tupleKind (mixKind X.prog X.w)).draws k } :=
      d_write I (by rw [ha]; exact True.intro) hs ⟨o, hq⟩ ⟨by rw [putK_add e, List.length_append]; exact hlt, hd, _, (rel.put k hb r2).keeps (fun c ys ec => (by rw [upd_ne (ne_of ec ha (fun z => nomatch z))]; exact ec)), o, es, ep, hq, h2, h3, h4, h5⟩
    show EP X pins σ Q u2 _
    exact ⟨d, _, I2, r2, q⟩
end
/-- the values of a locked dict with tuples as keys -/
def Itdt (d : Addr) (o : Obj) (kvs : List (List Key × V)) : It :=
  ⟨fun i H => H d = some (.frz o (.dT kvs)) ∧ i < kvs.length, fun i H x H' => H' = H ∧ ∃ k, kvs[i]? = some (k, x), fun i H => H d = some (.frz o (.dT kvs)) ∧ kvs.length ≤ i⟩
theorem Inv.frzTv {X : Cx} {pins : List (Addr × Obj)} {σ : St} {H : Hp} {s : Shared} {d : Addr} {o : Obj} {kvs : List (List Key × V)} (I : Inv X pins σ H s) (h : H d = some (.frz o (.dT kvs))) :
    (d == sysModules) = false ∧ s.heap.get? d = some o ∧ o.ExactDict ∧ ∃ (es : Array DictEntry) (ep : Nat), o.data = .dict es ep ∧ es.size = kvs.length ∧
      ∀ (i : Nat) (k : List Key) (v : V), kvs[i]? = some (k, v) → ∃ en : DictEntry, es[i]? = some en ∧ RelV v en.val := by
  obtain ⟨hd, z, hs, xs, pr, o', es, ep, ho, hx, hdt, he, _⟩ := I.hok d _ h
  rw [hd] at ho
  cases ho
  refine ⟨hs, hd, hx, es, ep, hdt, ?_, fun i k v e => ?_⟩
  · have l1 : es.size = xs.length := size_of_entries he
    have l2 : kvs.length = xs.length := Paired.length pr
    omega
  · obtain ⟨b, hb, e1, e2, e3⟩ := paired_get pr e
    have q := entry_at he i
    rw [hb] at q
    exact ⟨_, q, e3⟩
theorem turn_valsT {P : Program} {w : World} {K : PySem.W.Frag} {tg : Expr} {d : Addr} {o : Obj} {es : Array DictEntry} {ep : Nat} {kvs : List (List Key × V)} (it : Addr) (hod : o.data = .dict es ep) :
    Turn P w K tg (Itdt d o kvs) [it] it (fun i h => h.IsValIter it d i kvs.length ep) where
  mem := by simp
  obj := fun i h st b hb => by
    have e : b = it := by simpa using hb
    subst e
    obtain ⟨oi, e, c, dd⟩ := st
    exact ⟨oi, e, fun v z => by rw [dd] at z; cases z⟩
  keep := fun i h h' st k => st.at fun oi e => k it (by simp) oi e
  item := by
    intro X hP hw hK hc i pins s σ H E I hf st hg
    subst hP hw hK
    obtain ⟨hd, hi⟩ := hg
    obtain ⟨f0, f1, f2, f3, f4, f5⟩ := hf it (by simp)
    obtain ⟨hs, hgd, hx, es', ep', hdt, hsz, ent⟩ := I.frzTv hd
    obtain ⟨rfl, rfl⟩ := dict_ep hod hdt
    obtain ⟨⟨k, v⟩, hkv⟩ : ∃ p, kvs[i]? = some p := ⟨kvs[i], List.getElem?_eq_getElem hi⟩
    obtain ⟨en, hen, rv⟩ := ent i k v hkv
    rw [← hsz] at st
    have hie : i < es'.size := by omega
    have een : es'[i] = en := by
      rw [Array.getElem?_eq_getElem hie] at hen
      exact Option.some.inj hen
    refine wpAny_pyNext_values_item_raw st ⟨o, hgd, hx, hdt⟩ hie fun h' st' sb => ?_
    have I1 : Inv X pins σ H { s with heap := h' } := I.turned (t' := s.toks) (fun b ob hb e => (sb.2 b hb).trans e) f0 f1 f3 f4 f5
    obtain ⟨oi, e, c, dd⟩ := id st'
    rw [een]
    refine ⟨en.val, rfl, go_of (s := { s with heap := h' }) e c dd (by decide) ⟨v, H, I1, rv, ⟨rfl, k, hkv⟩, ?_, fun b hb => (hf b hb).1⟩⟩
    show h'.IsValIter it d (i + 1) kvs.length _
    rw [← hsz]
    exact st'
  done := by
    intro X hP hw hK hc i pins s σ H E I hf st hg
    subst hP hw hK
    obtain ⟨hd, hi⟩ := hg
    obtain ⟨f0, f1, f2, f3, f4, f5⟩ := hf it (by simp)
    obtain ⟨hs, hgd, hx, es', ep', hdt, hsz, ent⟩ := I.frzTv hd
    obtain ⟨rfl, rfl⟩ := dict_ep hod hdt
    rw [← hsz] at st
    exact wpAny_pyNext_values_end_raw (I.ok.hd hc) st ⟨o, hgd, hx, hdt⟩ (by omega) fun h' eb => ⟨rfl, I.turned (t' := s.toks) (fun b ob hb e => eb b ob hb e) f0 f1 f3 f4 f5⟩
  self := fun A i s Q E st h => wpAny_pyIter_valiter st h
def iValsT (td : TE) : TI := fun σ H R => td σ H fun x H1 => ∃ d o kvs, x = .ref d ∧ H1 d = some (.frz o (.dT kvs)) ∧ R (Itdt d o kvs) H1
theorem pi_valuesT {X : Cx} {tg e : Expr} {td : TE} {apos cpos : Pos} (he : PE X e td) (hbase : attributeBase e "values" X.env (eval e X.env) = eval e X.env := by rfl) (hline : (apos.endLine == cpos.line) = true := by rfl) : PI X tg (.Call (.Attribute e "values" apos) [] [] cpos) (iValsT td) := by
  refine ⟨fun pins s σ H R I h => ?_⟩
  refine wpAny_Call_method (T := "dict") (id := "dict.values") hbase rfl hline F.plainAttrs_dict F.slot_dict_values F.type_dict_values (thn (he.run pins s σ H _ I h) fun u s1 ⟨x, H1, I1, rx, d, o, kvs, ex, hd, q⟩ => ?_)
  subst ex
  obtain rfl : u = Value.ref d := rx
  obtain ⟨hs, hgd, hx, es, ep, hdt, hsz, ent⟩ := I1.frzTv hd
  have raw : s1.heap.DictRaw d es ep := ⟨o, hgd, hx, hdt⟩
  refine ⟨raw.typeIs, ?_, ?_⟩
  · intro b e
    cases e
    exact ⟨o, hgd, hx.2.1⟩
  have I2 : Inv X pins σ H1 { s1 with heap := s1.heap.push { cls := .type "dict_values", data := .fields #[.ref d] } } := I1.kept (t' := s1.toks) fun b ob q => Heap.get?_push_of_some _ q
  have fin : wpAny (model X.prog X.w) X.A (pyIter (.ref s1.heap.objs.size)) (PIE X pins σ tg R) X.xe { s1 with heap := s1.heap.push { cls := .type "dict_values", data := .fields #[.ref d] } } := by
    refine wpAny_pyIter_values_raw (d := d) ⟨_, Heap.get?_push_size _ rfl, rfl, rfl⟩ (raw.at fun ob e => Heap.get?_push_of_some _ e) (pi_one (tk := s1.toks) I2 _ (turn_valsT _ hdt) ⟨_, Heap.get?_push_size _ rfl, rfl, ?_⟩ q)
    rw [hsz] <;> rfl
  show wpAny _ _ (callWith cpos (.builtin "dict.values") [.ref d] [] []) _ X.xe s1
  exact method_meetsIn F.slot_dict_values F.entry_dict_values rfl (PySem.evalArgs_none ⟨rfl, raw.typeIs, F.args_dict_values_1 _, _, meets_dict_values_raw d hs, ⟨es, ep, raw⟩, fin⟩)
theorem walk_valuesT {d : Addr} {o : Obj} {kvs : List (List Key × V)} : Walk (Itdt d o kvs) kvs.length (fun H => H d = some (.frz o (.dT kvs))) (fun i H x H' => H' = H ∧ ∃ k, kvs[i]? = some (k, x)) :=
  ⟨fun _ _ hi q => ⟨q, hi⟩, fun _ q => ⟨q, Nat.le_refl _⟩, fun _ _ _ _ _ _ y => y⟩
end L2
set_option Elab.async false
set_option linter.all false
set_option maxRecDepth 100000
set_option maxHeartbeats 4000000
namespace L2
open PySem PySem.Spec PyProof.Rows PySem.HErr
/-- what a value is, in the frozen heap -/
structure Vp where
  p : Hp → V → Prop
  mono : ∀ {F F' : Hp} {v : V}, Same F F' → p F v → p F' v
/-- how a thing of Lean stands for a value -/
structure Rep (α : Type) where
  p : Hp → V → α → Prop
  mono : ∀ {F F' : Hp} {v : V} {x : α}, Same F F' → p F v x → p F' v x
def iz {α : Type} (r : Rep α) (x : α) : Vp := ⟨fun F v => r.p F v x, fun e h => r.mono e h⟩
def zAt (a : Addr) : Vp := ⟨fun _ v => v = .ref a, fun _ h => h⟩
def zNon : Vp := ⟨fun _ v => v = .non, fun _ h => h⟩
def zI : Rep Int := ⟨fun _ v x => v = .int x, fun _ h => h⟩
def zB : Rep Bool := ⟨fun _ v x => v = .bl x, fun _ h => h⟩
def zS : Rep Str := ⟨fun _ v x => v = .str x ∧ Asc x, fun _ h => h⟩
abbrev PVs {α : Type} (r : Rep α) (F : Hp) (vs : List V) (xs : List α) : Prop := Paired (fun v x => r.p F v x) vs xs
def zL {α : Type} (r : Rep α) : Rep (List α) := ⟨fun F v xs => ∃ a vs, v = .ref a ∧ F a = some (.lst vs) ∧ PVs r F vs xs, fun e ⟨a, vs, h1, h2, h3⟩ => ⟨a, vs, h1, e _ _ h2, Paired.imp2 (fun _ _ h => r.mono e h) h3⟩⟩
def isSD : PyData → Bool
  | .str _ => true
  | _ => false
def isSDs (ds : List PyData) : Bool := !ds.isEmpty && ds.all isSD
/-- which tuples stand at a place that holds nothing but the tuple (such may be keys of dicts); the place of another one may be known to be bare -/
class TNar (α : Type) where
  nar : List α → Bool
/-- all of them do -/
class TAll (α : Type) [TNar α] : Prop where
  all : ∀ xs : List α, TNar.nar xs = true
instance : TNar Int := ⟨fun _ => true⟩
instance : TAll Int := ⟨fun _ => rfl⟩
instance : TNar Str := ⟨fun xs => xs.isEmpty⟩
instance : TNar PyData := ⟨fun ds => !isSDs ds⟩
instance : TNar Bool := ⟨fun _ => true⟩
instance : TAll Bool := ⟨fun _ => rfl⟩
instance : TNar Unit := ⟨fun _ => true⟩
instance : TAll Unit := ⟨fun _ => rfl⟩
instance {α β : Type} : TNar (α × β) := ⟨fun _ => true⟩
instance {α β : Type} : TAll (α × β) := ⟨fun _ => rfl⟩
instance {α : Type} : TNar (List α) := ⟨fun _ => true⟩
instance {α : Type} : TAll (List α) := ⟨fun _ => rfl⟩
instance {α : Type} : TNar (Option α) := ⟨fun _ => true⟩
instance {α : Type} : TAll (Option α) := ⟨fun _ => rfl⟩
instance {α β : Type} : TNar (α ⊕ β) := ⟨fun _ => true⟩
instance {α β : Type} : TAll (α ⊕ β) := ⟨fun _ => rfl⟩
theorem TupX.tb {n : Bool} {F : Hp} {a : Addr} {vs : List V} (h : TupX n F a vs) : TupB n F a vs := h.imp (fun h => h.2) id
theorem TupB.rd {n : Bool} {F : Hp} {a : Addr} {vs : List V} (h : TupB n F a vs) : Rd F a (.tup vs) := h.elim .inl fun ⟨_, o, h, _⟩ => .inr ⟨o, h⟩
theorem TupB.nar {n : Bool} {F : Hp} {a : Addr} {vs : List V} (h : TupB n F a vs) (e : n = true) : F a = some (.tup vs) := h.elim id fun ⟨h0, _⟩ => by rw [e] at h0; cases h0
theorem TupB.sq {n : Bool} {K : PySem.W.Frag} {F H : Hp} {a : Addr} {vs : List V} (h : TupB n F a vs) (e : Same F H) : SqT K H a vs := .inl (h.mono e).rd
def zT {α : Type} [k : TNar α] (r : Rep α) : Rep (List α) := ⟨fun F v xs => ∃ a vs, v = .ref a ∧ TupB (k.nar xs) F a vs ∧ PVs r F vs xs, fun e ⟨a, vs, h1, h2, h3⟩ => ⟨a, vs, h1, h2.mono e, Paired.imp2 (fun _ _ h => r.mono e h) h3⟩⟩
/-- a tuple at a place that holds nothing but the tuple; a tuple of words at a bare place -/
def zN {α : Type} (r : Rep α) : Rep (List α) := ⟨fun F v xs => ∃ a vs, v = .ref a ∧ F a = some (.tup vs) ∧ PVs r F vs xs, fun e ⟨a, vs, h1, h2, h3⟩ => ⟨a, vs, h1, e _ _ h2, Paired.imp2 (fun _ _ h => r.mono e h) h3⟩⟩
def zK : Rep (List Str) := ⟨fun F v xs => ∃ a vs, v = .ref a ∧ TupX xs.isEmpty F a vs ∧ PVs zS F vs xs, fun e ⟨a, vs, h1, h2, h3⟩ => ⟨a, vs, h1, h2.mono e, Paired.imp2 (fun _ _ h => zS.mono e h) h3⟩⟩
def z2 {α β : Type} (r : Rep α) (s : Rep β) : Rep (α × β) := ⟨fun F v x => ∃ a u w, v = .ref a ∧ F a = some (.tup [u, w]) ∧ r.p F u x.1 ∧ s.p F w x.2, fun e ⟨a, u, w, h1, h2, h3, h4⟩ => ⟨a, u, w, h1, e _ _ h2, r.mono e h3, s.mono e h4⟩⟩
def z3 {α β γ : Type} (r : Rep α) (s : Rep β) (t : Rep γ) : Rep (α × β × γ) := ⟨fun F v x => ∃ a u w z, v = .ref a ∧ F a = some (.tup [u, w, z]) ∧ r.p F u x.1 ∧ s.p F w x.2.1 ∧ t.p F z x.2.2, fun e ⟨a, u, w, z, h1, h2, h3, h4, h5⟩ => ⟨a, u, w, z, h1, e _ _ h2, r.mono e h3, s.mono e h4, t.mono e h5⟩⟩
structure Cel where
  a : Addr
  own : Bool
  φ : Hp → HO → Prop
  mono : ∀ {F F' : Hp} {o : HO}, Same F F' → φ F o → φ F' o
  nt : ∀ {F : Hp} {o : HO} {vs : List V}, φ F o → o = .tup vs → False
/-- what F' may know beyond F: what is new, and tuples -/
def Nwr (F H : Hp) (a : Addr) (o : HO) : Prop := (∃ o', F a = some o') ∨ H a = none ∨ ∃ vs, o = .tup vs
def cL {α : Type} (a : Addr) (r : Rep α) (xs : List α) : Cel := ⟨a, true, fun F o => ∃ vs, o = .lst vs ∧ PVs r F vs xs, fun e ⟨vs, h1, h2⟩ => ⟨vs, h1, Paired.imp2 (fun _ _ h => r.mono e h) h2⟩, fun h e => by subst e; simp at h⟩
/-- the law's box at b, its script at l -/
def cBox (own : Bool) (b l : Addr) : Cel := ⟨b, own, fun F o => ∃ (ns : List Int) (i c r : Int), o = .lst [.int i, .int c, .int r, .ref l] ∧ F l = some (.lst (ns.map V.int)) ∧ 0 ≤ i, fun e ⟨ns, i, c, r, h1, h2, h3⟩ => ⟨ns, i, c, r, h1, e _ _ h2, h3⟩, fun h e => by subst e; simp at h⟩
/-- what stood at the beginning: F0 frozen, H0 all, B lent -/
structure Fr where
  F0 : Hp
  H0 : Hp
  B : List Addr
structure OkF (fr : Fr) (Θ : List Cel) (F H : Hp) : Prop where
  fh : Same F H
  f0 : Same fr.F0 F
  nw : ∀ a o, F a = some o → Nwr fr.F0 fr.H0 a o
  h0 : ∀ a o, a ∉ fr.B → fr.H0 a = some o → H a = some o
  al : ∀ a o, fr.H0 a = some o → ∃ o', H a = some o'
  nd : (Θ.map Cel.a).Nodup
  ce : ∀ c ∈ Θ, F c.a = none ∧ (∃ o, H c.a = some o ∧ c.φ F o) ∧ (if c.own = true then fr.H0 c.a = none else c.a ∈ fr.B)
section
variable {fr : Fr} {Θ : List Cel} {F F' H H' : Hp}
theorem OkF.h0n (k : OkF fr Θ F H) {p : Addr} (n : H p = none) : fr.H0 p = none := by
  cases q : fr.H0 p with
  | none => rfl
  | some o =>
    obtain ⟨o', h⟩ := k.al p o q
    rw [n] at h
    cases h
theorem OkF.new {p : Addr} {o : HO} (k : OkF fr Θ F H) (n : H p = none) : OkF fr Θ (upd F p o) (upd H p o) := by
  have nF : F p = none := k.fh.free n
  refine ⟨fun a u h => ?_, k.f0.trans (same_upd nF), fun a u h => ?_, fun a u hB h => ?_, fun a u h => ?_, k.nd, fun c hc => ?_⟩
  · by_cases e : a = p
    · subst e
      rw [upd_same] at h ⊢
      exact h
    · rw [upd_ne e] at h ⊢
      exact k.fh a u h
  · by_cases e : a = p
    · subst e
      exact .inr (.inl (k.h0n n))
    · rw [upd_ne e] at h
      exact k.nw a u h
  · have := k.h0 a u hB h
    rw [upd_ne (ne_of_none this n)]
    exact this
  · obtain ⟨o', h'⟩ := k.al a u h
    exact ⟨o', by rw [upd_ne (ne_of_none h' n)]; exact h'⟩
  · obtain ⟨h1, ⟨u, h2, h3⟩, h4⟩ := k.ce c hc
    have ne := ne_of_none h2 n
    exact ⟨by rw [upd_ne ne]; exact h1, ⟨u, by rw [upd_ne ne]; exact h2, c.mono (same_upd nF) h3⟩, h4⟩
theorem OkF.sameF {p : Addr} {o : HO} (k : OkF fr Θ F H) (n : H p = none) : Same F (upd F p o) := same_upd (k.fh.free n)
theorem OkF.mkOwn {c : Cel} {o : HO} (k : OkF fr Θ F H) (n : H c.a = none) (ho : c.own = true) (h : c.φ F o) : OkF fr (c :: Θ) F (upd H c.a o) := by
  refine ⟨k.fh.trans (same_upd n), k.f0, k.nw, fun a u hB h => ?_, fun a u h => ?_, ?_, fun d hd => ?_⟩
  · have := k.h0 a u hB h
    rw [upd_ne (ne_of_none this n)]
    exact this
  · obtain ⟨o', h'⟩ := k.al a u h
    exact ⟨o', by rw [upd_ne (ne_of_none h' n)]; exact h'⟩
  · rw [List.map_cons, List.nodup_cons]
    refine ⟨fun hm => ?_, k.nd⟩
    obtain ⟨d, hd, e⟩ := List.mem_map.mp hm
    obtain ⟨_, ⟨u, h2, _⟩, _⟩ := k.ce d hd
    rw [e, n] at h2
    cases h2
  · rcases List.mem_cons.mp hd with rfl | hd
    · exact ⟨k.fh.free n, ⟨o, upd_same, h⟩, by rw [if_pos ho]; exact k.h0n n⟩
    · obtain ⟨h1, ⟨u, h2, h3⟩, h4⟩ := k.ce d hd
      exact ⟨h1, ⟨u, by rw [upd_ne (ne_of_none h2 n)]; exact h2, h3⟩, h4⟩
theorem nodup_at {l : List Cel} (h : (l.map Cel.a).Nodup) {i : Nat} {c d : Cel} (hi : l[i]? = some c) {j : Nat} (hj : l[j]? = some d) (e : d.a = c.a) : i = j := by
  have hi' : (l.map Cel.a)[i]? = some c.a := by rw [List.getElem?_map, hi]; rfl
  have hj' : (l.map Cel.a)[j]? = some c.a := by rw [List.getElem?_map, hj, ← e]; rfl
  exact (List.getElem?_inj (List.getElem?_eq_some_iff.mp hi').1 h).mp (hi'.trans hj'.symm)
/-- a cell's content changes -/
theorem OkF.mut {i : Nat} {c c' : Cel} {o : HO} (k : OkF fr Θ F H) (hi : Θ[i]? = some c) (ha : c'.a = c.a) (ho : c'.own = c.own) (h : c'.φ F o) : OkF fr (Θ.set i c') F (upd H c.a o) := by
  have hm := List.mem_of_getElem? hi
  obtain ⟨h1, ⟨u0, h2, h3⟩, h4⟩ := k.ce c hm
  refine ⟨fun a u h => ?_, k.f0, k.nw, fun a u hB h => ?_, fun a u h => ?_, ?_, fun d hd => ?_⟩
  · have ne : a ≠ c.a := fun e => by rw [e, h1] at h; cases h
    rw [upd_ne ne]
    exact k.fh a u h
  · have ne : a ≠ c.a := fun e => by
      cases q : c.own with
      | true =>
        rw [if_pos q] at h4
        rw [e, h4] at h
        cases h
      | false =>
        rw [if_neg (by rw [q]; exact Bool.false_ne_true)] at h4
        rw [e] at hB
        exact hB h4
    rw [upd_ne ne]
    exact k.h0 a u hB h
  · by_cases e : a = c.a
    · exact ⟨o, by rw [e]; exact upd_same⟩
    · rw [upd_ne e]
      exact k.al a u h
  · have : (Θ.set i c').map Cel.a = Θ.map Cel.a := by
      rw [List.map_set, ha]
      apply List.ext_getElem?
      intro j
      rw [List.getElem?_set]
      split
      · rename_i e
        subst e
        rw [List.getElem?_map, hi]
        have hlt : i < (Θ.map Cel.a).length := by
          rw [List.length_map]
          exact (List.getElem?_eq_some_iff.mp hi).1
        rw [if_pos hlt]
        rfl
      · rfl
    rw [this]
    exact k.nd
  · obtain ⟨j, hj⟩ := List.getElem?_of_mem hd
    rw [List.getElem?_set] at hj
    split at hj
    · rename_i e
      split at hj
      · cases hj
        rw [ha, ho]
        exact ⟨h1, ⟨o, upd_same, h⟩, h4⟩
      · cases hj
    · rename_i e
      have hd' := List.mem_of_getElem? hj
      obtain ⟨g1, ⟨u, g2, g3⟩, g4⟩ := k.ce d hd'
      have ne : d.a ≠ c.a := fun q => e (nodup_at k.nd hi hj q)
      exact ⟨g1, ⟨u, by rw [upd_ne ne]; exact g2, g3⟩, g4⟩
/-- a cell of one's own is frozen -/
theorem OkF.frz {i : Nat} {c : Cel} {o : HO} (k : OkF fr Θ F H) (hi : Θ[i]? = some c) (ho : c.own = true) (h : H c.a = some o) : OkF fr (Θ.eraseIdx i) (upd F c.a o) H := by
  have hm := List.mem_of_getElem? hi
  obtain ⟨h1, _, h4⟩ := k.ce c hm
  rw [if_pos ho] at h4
  have hlt := (List.getElem?_eq_some_iff.mp hi).1
  refine ⟨fun a u e => ?_, k.f0.trans (same_upd h1), fun a u e => ?_, k.h0, k.al, ?_, fun d hd => ?_⟩
  · by_cases q : a = c.a
    · rw [q, upd_same] at e
      rw [q, h, e]
    · rw [upd_ne q] at e
      exact k.fh a u e
  · by_cases q : a = c.a
    · rw [q]
      exact .inr (.inl h4)
    · rw [upd_ne q] at e
      exact k.nw a u e
  · exact (List.Sublist.map Cel.a (List.eraseIdx_sublist Θ i)).nodup k.nd
  · obtain ⟨j, hj⟩ := List.getElem?_of_mem hd
    rw [List.getElem?_eraseIdx] at hj
    have key : ∀ j', j' ≠ i → Θ[j']? = some d → (upd F c.a o) d.a = none ∧ (∃ u, H d.a = some u ∧ d.φ (upd F c.a o) u) ∧ (if d.own = true then fr.H0 d.a = none else d.a ∈ fr.B) := fun j' hne hj' => by
      obtain ⟨g1, ⟨u, g2, g3⟩, g4⟩ := k.ce d (List.mem_of_getElem? hj')
      have ne : d.a ≠ c.a := fun q => hne (nodup_at k.nd hi hj' q).symm
      exact ⟨by rw [upd_ne ne]; exact g1, ⟨u, g2, d.mono (same_upd h1) g3⟩, g4⟩
    split at hj
    · exact key j (by omega) hj
    · exact key (j + 1) (by omega) hj
theorem OkF.nwr {a : Addr} {o : HO} (k : OkF fr Θ F H) (ff : Same F F') (h : F' a = some o) (n : Nwr F H a o) : Nwr fr.F0 fr.H0 a o := by
  rcases n with ⟨o', h'⟩ | h' | h'
  · have e := ff a o' h'
    rw [h] at e
    cases e
    exact k.nw a o h'
  · exact .inr (.inl (k.h0n h'))
  · exact .inr (.inr h')
/-- after a call that lets all stand -/
theorem OkF.grow (k : OkF fr Θ F H) (hh : Same H H') (ff : Same F F') (fh : Same F' H') (nw : ∀ a o, F' a = some o → Nwr F H a o) : OkF fr Θ F' H' := by
  refine ⟨fh, k.f0.trans ff, fun a o h => ?_, fun a o hB h => hh _ _ (k.h0 a o hB h), fun a o h => ?_, k.nd, fun c hc => ?_⟩
  · exact k.nwr ff h (nw a o h)
  · obtain ⟨o', h'⟩ := k.al a o h
    exact ⟨o', hh _ _ h'⟩
  · obtain ⟨h1, ⟨u, h2, h3⟩, h4⟩ := k.ce c hc
    refine ⟨?_, ⟨u, hh _ _ h2, c.mono ff h3⟩, h4⟩
    cases q : F' c.a with
    | none => rfl
    | some o =>
      rcases nw _ _ q with ⟨o', h'⟩ | h' | ⟨vs, ht⟩
      · rw [h1] at h'
        cases h'
      · rw [h2] at h'
        cases h'
      · have e1 := fh _ _ q
        rw [hh _ _ h2] at e1
        exact (c.nt h3 ((Option.some.inj e1).trans ht)).elim
/-- at the start of a def: all that stands is frozen -/
theorem OkF.start (fh : Same F H) : OkF ⟨F, H, []⟩ [] F H := ⟨fh, Same.refl F, fun a o h => .inl ⟨o, h⟩, fun _ _ _ h => h, fun _ o h => ⟨o, h⟩, List.nodup_nil, fun c hc => by cases hc⟩
end
abbrev Gam := List (Option Vp)
def EnvF (Γ : Gam) (σ : L2.St) (F : Hp) : Prop := Paired (fun (e : Option Vp) (s : Option V) => ∀ p, e = some p → ∃ v, s = some v ∧ p.p F v) Γ σ
section
variable {Γ : Gam} {σ : L2.St} {F F' : Hp}
theorem EnvF.mono (h : EnvF Γ σ F) (e : Same F F') : EnvF Γ σ F' := Paired.imp2 (fun _ _ h p hp => by
  obtain ⟨v, h1, h2⟩ := h p hp
  exact ⟨v, h1, p.mono e h2⟩) h
theorem EnvF.get {i : Nat} {p : Vp} (h : EnvF Γ σ F) (hi : Γ[i]? = some (some p)) : ∃ v, σ[i]? = some (some v) ∧ p.p F v := by
  obtain ⟨s, h1, h2⟩ := Paired.get h hi
  obtain ⟨v, rfl, h3⟩ := h2 p rfl
  exact ⟨v, h1, h3⟩
theorem Paired.set {α β : Type} {R : α → β → Prop} {a : α} {b : β} (r : R a b) : ∀ {l : List α} {m : List β} (i : Nat), Paired R l m → Paired R (l.set i a) (m.set i b)
  | _, _, _, .nil => .nil
  | _, _, 0, .cons _ t => .cons r t
  | _, _, i + 1, .cons x t => .cons x (Paired.set r i t)
theorem EnvF.set {i : Nat} {p : Vp} {v : V} (h : EnvF Γ σ F) (hp : p.p F v) : EnvF (Γ.set i (some p)) (σ.set i (some v)) F :=
  Paired.set (fun q hq => by cases hq; exact ⟨v, rfl, hp⟩) i h
theorem EnvF.drop {i : Nat} {s : Option V} (h : EnvF Γ σ F) : EnvF (Γ.set i none) (σ.set i s) F := Paired.set (fun q hq => by cases hq) i h
theorem EnvF.len (h : EnvF Γ σ F) : Γ.length = σ.length := Paired.len h
end
/-- wherever the names hold Γ and the cells Θ, P holds -/
def Kn (fr : Fr) (Γ : Gam) (Θ : List Cel) (P : L2.St → Hp → Prop) : Prop := ∀ σ F H, OkF fr Θ F H → EnvF Γ σ F → P σ H
def Kq (fr : Fr) (F : Hp) (K : Vp → List Cel → Prop) (Q : VK) : Prop := ∀ p Θ', K p Θ' → ∀ v F' H', Same F F' → OkF fr Θ' F' H' → p.p F' v → Q v H'
def Kb (fr : Fr) (F : Hp) (K : Bool → List Cel → Prop) (Q : Bool → Hp → Prop) : Prop := ∀ b Θ', K b Θ' → ∀ F' H', Same F F' → OkF fr Θ' F' H' → Q b H'
def Ka (fr : Fr) (F : Hp) (K : List Vp → List Cel → Prop) (Q : List V → Hp → Prop) : Prop := ∀ ps Θ', K ps Θ' → ∀ vs F' H', Same F F' → OkF fr Θ' F' H' → Paired (fun (p : Vp) v => p.p F' v) ps vs → Q vs H'
def Ko (fr : Fr) (F : Hp) (K : Option Int → List Cel → Prop) (Q : Option Int → Hp → Prop) : Prop := ∀ b Θ', K b Θ' → ∀ F' H', Same F F' → OkF fr Θ' F' H' → Q b H'
def We (fr : Fr) (Γ : Gam) (Θ : List Cel) (t : TE) (K : Vp → List Cel → Prop) : Prop := ∀ σ F H, OkF fr Θ F H → EnvF Γ σ F → ∀ Q, Kq fr F K Q → t σ H Q
def Wt (fr : Fr) (Γ : Gam) (Θ : List Cel) (t : TT) (K : Bool → List Cel → Prop) : Prop := ∀ σ F H, OkF fr Θ F H → EnvF Γ σ F → ∀ Q, Kb fr F K Q → t σ H Q
def Wa (fr : Fr) (Γ : Gam) (Θ : List Cel) (t : TA) (K : List Vp → List Cel → Prop) : Prop := ∀ σ F H, OkF fr Θ F H → EnvF Γ σ F → ∀ Q, Ka fr F K Q → t σ H Q
def Wo (fr : Fr) (Γ : Gam) (Θ : List Cel) (t : TO) (K : Option Int → List Cel → Prop) : Prop := ∀ σ F H, OkF fr Θ F H → EnvF Γ σ F → ∀ Q, Ko fr F K Q → t σ H Q
/-- by values -/
def Ops (fr : Fr) (Θ : List Cel) (r : R2) (p q : Vp) (K : Vp → List Cel → Prop) : Prop := ∀ F H v w, OkF fr Θ F H → p.p F v → q.p F w → ∀ Q, Kq fr F K Q → r v w H Q
def Uns (fr : Fr) (Θ : List Cel) (r : V → Hp → VK → Prop) (p : Vp) (K : Vp → List Cel → Prop) : Prop := ∀ F H v, OkF fr Θ F H → p.p F v → ∀ Q, Kq fr F K Q → r v H Q
def Cbs (fr : Fr) (Θ : List Cel) (r : List V → Hp → VK → Prop) (ps : List Vp) (K : Vp → List Cel → Prop) : Prop := ∀ F H vs, OkF fr Θ F H → Paired (fun (p : Vp) v => p.p F v) ps vs → ∀ Q, Kq fr F K Q → r vs H Q
def Mts (fr : Fr) (Θ : List Cel) (r : V → List V → Hp → VK → Prop) (p : Vp) (ps : List Vp) (K : Vp → List Cel → Prop) : Prop := ∀ F H v vs, OkF fr Θ F H → p.p F v → Paired (fun (p : Vp) v => p.p F v) ps vs → ∀ Q, Kq fr F K Q → r v vs H Q
def Sls (fr : Fr) (Θ : List Cel) (r : V → Option Int → Option Int → Hp → VK → Prop) (p : Vp) (lo hi : Option Int) (K : Vp → List Cel → Prop) : Prop := ∀ F H v, OkF fr Θ F H → p.p F v → ∀ Q, Kq fr F K Q → r v lo hi H Q
/-- the value alone, and nothing else changes -/
abbrev Ev (fr : Fr) (Γ : Gam) (Θ : List Cel) (t : TE) (p : Vp) : Prop := We fr Γ Θ t fun q Θ' => q = p ∧ Θ' = Θ
abbrev Et (fr : Fr) (Γ : Gam) (Θ : List Cel) (t : TT) (b : Bool) : Prop := Wt fr Γ Θ t fun c Θ' => c = b ∧ Θ' = Θ
section
variable {fr : Fr} {Γ Γ' : Gam} {Θ : List Cel} {F F' H H' : Hp} {K : Vp → List Cel → Prop} {Q : VK}
theorem Kq.mono (h : Kq fr F K Q) (e : Same F F') : Kq fr F' K Q := fun p Θ' k v F2 H2 s2 => h p Θ' k v F2 H2 (e.trans s2)
theorem Kq.go {p : Vp} {v : V} (h : Kq fr F K Q) (k : K p Θ) (ok : OkF fr Θ F H) (hp : p.p F v) : Q v H := h p Θ k v F H (Same.refl F) ok hp
/-- a new object -/
theorem Kq.new {p : Vp} {a : Addr} {o : HO} (h : Kq fr F K Q) (k : K p Θ) (ok : OkF fr Θ F H) (n : H a = none) (hp : p.p (upd F a o) (.ref a)) : Q (.ref a) (upd H a o) := h p Θ k _ _ _ (ok.sameF n) (ok.new n) hp
theorem We.imp {t : TE} {K' : Vp → List Cel → Prop} (w : We fr Γ Θ t K) (h : ∀ p Θ', K p Θ' → K' p Θ') : We fr Γ Θ t K' := fun σ F H ok env Q q => w σ F H ok env Q fun p Θ' k => q p Θ' (h p Θ' k)
theorem we_var {i : Nat} {p : Vp} (h : Γ[i]? = some (some p)) (k : K p Θ) : We fr Γ Θ (tVar i) K := fun σ F H ok env Q q => by
  obtain ⟨v, h1, h2⟩ := env.get h
  exact ⟨v, h1, q.go k ok h2⟩
theorem we_c {v : V} {p : Vp} (hp : ∀ F, p.p F v) (k : K p Θ) : We fr Γ Θ (tC v) K := fun σ F H ok env Q q => q.go k ok (hp F)
theorem we_cI {n : Int} (k : K (iz zI n) Θ) : We fr Γ Θ (tC (.int n)) K := we_c (fun _ => rfl) k
theorem we_cS {z : Str} (h : Asc z) (k : K (iz zS z) Θ) : We fr Γ Θ (tC (.str z)) K := we_c (p := iz zS z) (fun _ => ⟨rfl, h⟩) k
theorem we_cB {b : Bool} (k : K (iz zB b) Θ) : We fr Γ Θ (tC (.bl b)) K := we_c (fun _ => rfl) k
theorem we_cN (k : K zNon Θ) : We fr Γ Θ (tC .non) K := we_c (fun _ => rfl) k
theorem we_op {r : R2} {ta tb : TE} (w : We fr Γ Θ ta fun p Θ1 => We fr Γ Θ1 tb fun q Θ2 => Ops fr Θ2 r p q K) : We fr Γ Θ (tOp r ta tb) K := fun σ F H ok env Q q =>
  w σ F H ok env _ fun p Θ1 k v F1 H1 s1 ok1 hp => k σ F1 H1 ok1 (env.mono s1) _ fun p2 Θ2 k2 v2 F2 H2 s2 ok2 hp2 => k2 F2 H2 v v2 ok2 (p.mono s2 hp) hp2 Q (q.mono (s1.trans s2))
theorem we_un {r : V → Hp → VK → Prop} {ta : TE} (w : We fr Γ Θ ta fun p Θ1 => Uns fr Θ1 r p K) : We fr Γ Θ (tUn r ta) K := fun σ F H ok env Q q =>
  w σ F H ok env _ fun p Θ1 k v F1 H1 s1 ok1 hp => k F1 H1 v ok1 hp Q (q.mono s1)
theorem wa_nil {K : List Vp → List Cel → Prop} (k : K [] Θ) : Wa fr Γ Θ tNil K := fun σ F H ok env Q q => q [] Θ k [] F H (Same.refl F) ok .nil
theorem wa_cons {K : List Vp → List Cel → Prop} {ta : TE} {tr : TA} (w : We fr Γ Θ ta fun p Θ1 => Wa fr Γ Θ1 tr fun ps Θ2 => K (p :: ps) Θ2) : Wa fr Γ Θ (tCons ta tr) K := fun σ F H ok env Q q =>
  w σ F H ok env _ fun p Θ1 k v F1 H1 s1 ok1 hp => k σ F1 H1 ok1 (env.mono s1) _ fun ps Θ2 k2 vs F2 H2 s2 ok2 hps => q (p :: ps) Θ2 k2 (v :: vs) F2 H2 (s1.trans s2) ok2 (.cons (p.mono s2 hp) hps)
theorem we_cb {r : List V → Hp → VK → Prop} {t : TA} (w : Wa fr Γ Θ t fun ps Θ1 => Cbs fr Θ1 r ps K) : We fr Γ Θ (tCB r t) K := fun σ F H ok env Q q =>
  w σ F H ok env _ fun ps Θ1 k vs F1 H1 s1 ok1 hps => k F1 H1 vs ok1 hps Q (q.mono s1)
theorem we_bm {Kf : PySem.W.Frag} {T : String} {r : V → List V → Hp → VK → Prop} {to : TE} {t : TA} (w : We fr Γ Θ to fun p Θ1 => (∀ F H v, OkF fr Θ1 F H → p.p F v → tyV Kf T v H) ∧ Wa fr Γ Θ1 t fun ps Θ2 => Mts fr Θ2 r p ps K) : We fr Γ Θ (tBM Kf T r to t) K := fun σ F H ok env Q q =>
  w σ F H ok env _ fun p Θ1 ⟨kt, k⟩ v F1 H1 s1 ok1 hp => ⟨kt F1 H1 v ok1 hp, k σ F1 H1 ok1 (env.mono s1) _ fun ps Θ2 k2 vs F2 H2 s2 ok2 hps => k2 F2 H2 v vs ok2 (p.mono s2 hp) hps Q (q.mono (s1.trans s2))⟩
theorem wo_none {K : Option Int → List Cel → Prop} (k : K none Θ) : Wo fr Γ Θ tNoPart K := fun σ F H ok env Q q => q none Θ k F H (Same.refl F) ok
theorem wo_some {K : Option Int → List Cel → Prop} {t : TE} (w : We fr Γ Θ t fun p Θ1 => ∃ n, p = iz zI n ∧ K (some n) Θ1) : Wo fr Γ Θ (tPart t) K := fun σ F H ok env Q q =>
  w σ F H ok env _ fun p Θ1 ⟨n, e, k⟩ v F1 H1 s1 ok1 hp => by
    subst e
    exact ⟨n, hp, q (some n) Θ1 k F1 H1 s1 ok1⟩
theorem we_sl {r : V → Option Int → Option Int → Hp → VK → Prop} {te : TE} {tl th : TO} (w : We fr Γ Θ te fun p Θ1 => Wo fr Γ Θ1 tl fun lo Θ2 => Wo fr Γ Θ2 th fun hi Θ3 => Sls fr Θ3 r p lo hi K) : We fr Γ Θ (tSl r te tl th) K := fun σ F H ok env Q q =>
  w σ F H ok env _ fun p Θ1 k v F1 H1 s1 ok1 hp => k σ F1 H1 ok1 (env.mono s1) _ fun lo Θ2 k2 F2 H2 s2 ok2 => k2 σ F2 H2 ok2 ((env.mono s1).mono s2) _ fun hi Θ3 k3 F3 H3 s3 ok3 =>
    k3 F3 H3 v ok3 (p.mono (s2.trans s3) hp) Q (q.mono ((s1.trans s2).trans s3))
theorem wt_test {K : Bool → List Cel → Prop} {t : TE} (w : We fr Γ Θ t fun p Θ1 => ∃ b, p = iz zB b ∧ K b Θ1) : Wt fr Γ Θ (tTest t) K := fun σ F H ok env Q q =>
  w σ F H ok env _ fun p Θ1 ⟨b, e, k⟩ v F1 H1 s1 ok1 hp => by
    subst e
    exact ⟨b, hp, q b Θ1 k F1 H1 s1 ok1⟩
theorem wt_b {K : Bool → List Cel → Prop} {t : TE} (w : We fr Γ Θ t fun p Θ1 => ∃ b, p = iz zB b ∧ K b Θ1) : Wt fr Γ Θ (tB t) K := wt_test (fr := fr) w
theorem wt_not {K : Bool → List Cel → Prop} {t : TT} (w : Wt fr Γ Θ t fun b Θ1 => K (!b) Θ1) : Wt fr Γ Θ (tNot t) K := fun σ F H ok env Q q =>
  w σ F H ok env _ fun b Θ1 k F1 H1 s1 ok1 => q (!b) Θ1 k F1 H1 s1 ok1
theorem wt_and {K : Bool → List Cel → Prop} {t u : TT} {b c : Bool} (w : Et fr Γ Θ t b) (x : b = true → Et fr Γ Θ u c) (k : K (b && c) Θ) : Wt fr Γ Θ (tAnd t u) K := fun σ F H ok env Q q =>
  w σ F H ok env _ fun b1 Θ1 ⟨e1, e2⟩ F1 H1 s1 ok1 => by
    subst e1 e2
    cases b1 with
    | true =>
      rw [if_pos rfl]
      refine x rfl σ F1 H1 ok1 (env.mono s1) _ fun c1 Θ2 ⟨e1, e2⟩ F2 H2 s2 ok2 => ?_
      subst e1 e2
      exact q c1 _ k F2 H2 (s1.trans s2) ok2
    | false =>
      rw [if_neg Bool.false_ne_true]
      exact q false _ k F1 H1 s1 ok1
theorem wt_or {K : Bool → List Cel → Prop} {t u : TT} {b c : Bool} (w : Et fr Γ Θ t b) (x : b = false → Et fr Γ Θ u c) (k : K (b || c) Θ) : Wt fr Γ Θ (tOr t u) K := fun σ F H ok env Q q =>
  w σ F H ok env _ fun b1 Θ1 ⟨e1, e2⟩ F1 H1 s1 ok1 => by
    subst e1 e2
    cases b1 with
    | false =>
      rw [if_neg Bool.false_ne_true]
      refine x rfl σ F1 H1 ok1 (env.mono s1) _ fun c1 Θ2 ⟨e1, e2⟩ F2 H2 s2 ok2 => ?_
      subst e1 e2
      exact q c1 _ k F2 H2 (s1.trans s2) ok2
    | true =>
      rw [if_pos rfl]
      exact q true _ k F1 H1 s1 ok1
theorem we_not {t : TE} (w : We fr Γ Θ t fun p Θ1 => ∃ b, p = iz zB b ∧ K (iz zB (!b)) Θ1) : We fr Γ Θ (tNotV t) K := fun σ F H ok env Q q =>
  w σ F H ok env _ fun p Θ1 ⟨b, e, k⟩ v F1 H1 s1 ok1 hp => by
    subst e
    exact ⟨b, hp, q _ Θ1 k _ F1 H1 s1 ok1 rfl⟩
/-- a if c else b, by ways -/
theorem we_if {c : TT} {ta tb : TE} (w : Wt fr Γ Θ c fun b Θ1 => (b = true → We fr Γ Θ1 ta K) ∧ (b = false → We fr Γ Θ1 tb K)) : We fr Γ Θ (tIf c ta tb) K := fun σ F H ok env Q q =>
  w σ F H ok env _ fun b Θ1 ⟨k1, k2⟩ F1 H1 s1 ok1 => by
    cases b with
    | true =>
      rw [if_pos rfl]
      exact k1 rfl σ F1 H1 ok1 (env.mono s1) Q (q.mono s1)
    | false =>
      rw [if_neg Bool.false_ne_true]
      exact k2 rfl σ F1 H1 ok1 (env.mono s1) Q (q.mono s1)
/-- a if c else b, joined -/
theorem we_ifJ {α : Type} {r : Rep α} {x y : α} {c : TT} {ta tb : TE} {b : Bool} (w : Et fr Γ Θ c b) (wa : b = true → Ev fr Γ Θ ta (iz r x)) (wb : b = false → Ev fr Γ Θ tb (iz r y)) (k : K (iz r (if b = true then x else y)) Θ) : We fr Γ Θ (tIf c ta tb) K :=
  we_if fun σ F H ok env Q q => w σ F H ok env Q fun b1 Θ1 ⟨e1, e2⟩ => q b1 Θ1 (by
    subst e1 e2
    refine ⟨fun h => (wa h).imp fun p Θ' ⟨e1, e2⟩ => ?_, fun h => (wb h).imp fun p Θ' ⟨e1, e2⟩ => ?_⟩
    · subst e1 e2
      rw [if_pos h] at k
      exact k
    · subst e1 e2
      rw [if_neg (by rw [h]; exact Bool.false_ne_true)] at k
      exact k)
theorem kn_seq {t u : TS} {D : Ends} (h : Kn fr Γ Θ (t { D with nx := u D })) : Kn fr Γ Θ (tSeq t u D) := h
theorem kn_next {D : Ends} (h : Kn fr Γ Θ D.nx) : Kn fr Γ Θ (tNext D) := h
/-- a target -/
def TgR (g : TG) (vs : List Nat) (p : Vp) (Γ Γ' : Gam) : Prop := ∀ σ F H v, Same F H → EnvF Γ σ F → p.p F v → ∀ Q : L2.St → Hp → Prop, (∀ σ', EnvF Γ' σ' F → wipe σ' vs = wipe σ vs → Q σ' H) → g v σ H Q
theorem tg_name {i : Nat} {p : Vp} : TgR (gName i) [i] p Γ (Γ.set i (some p)) := fun σ F H v fh env hp Q q => q _ (env.set hp) (by
  show (σ.set i (some v)).set i none = σ.set i none
  rw [List.set_set])
theorem set_comm' {α : Type} {l : List α} {i j : Nat} {a b : α} (h : i ≠ j) : (l.set i a).set j b = (l.set j b).set i a := List.set_comm a b h
theorem tg2 {Kf : PySem.W.Frag} {i j : Nat} {α β : Type} {r : Rep α} {s : Rep β} {x : α × β} (hij : i ≠ j) : TgR (gTup Kf 2 (gCons (gName i) (gCons (gName j) gNil))) [i, j] (iz (z2 r s) x) Γ ((Γ.set i (some (iz r x.1))).set j (some (iz s x.2))) := fun σ F H v fh env hp Q q => by
  obtain ⟨a, u, w, rfl, h2, h3, h4⟩ := hp
  refine ⟨a, _, rfl, SqT.of (fh _ _ h2), rfl, u, _, rfl, w, _, rfl, rfl, q _ ((env.set (p := iz r x.1) h3).set (p := iz s x.2) h4) ?_⟩
  show ((((σ.set i (some u)).set j (some w)).set j none).set i none) = (σ.set j none).set i none
  rw [List.set_set, set_comm' hij, List.set_set]
theorem tg3 {Kf : PySem.W.Frag} {i j l : Nat} {α β γ : Type} {r : Rep α} {s : Rep β} {t : Rep γ} {x : α × β × γ} (hij : i ≠ j) (hil : i ≠ l) (hjl : j ≠ l) : TgR (gTup Kf 3 (gCons (gName i) (gCons (gName j) (gCons (gName l) gNil)))) [i, j, l] (iz (z3 r s t) x) Γ (((Γ.set i (some (iz r x.1))).set j (some (iz s x.2.1))).set l (some (iz t x.2.2))) := fun σ F H v fh env hp Q q => by
  obtain ⟨a, u, w, z, rfl, h2, h3, h4, h5⟩ := hp
  refine ⟨a, _, rfl, SqT.of (fh _ _ h2), rfl, u, _, rfl, w, _, rfl, z, _, rfl, rfl, q _ (((env.set (p := iz r x.1) h3).set (p := iz s x.2.1) h4).set (p := iz t x.2.2) h5) ?_⟩
  show ((((((σ.set i (some u)).set j (some w)).set l (some z)).set l none).set j none).set i none) = ((σ.set l none).set j none).set i none
  rw [List.set_set, set_comm' hjl, List.set_set, set_comm' hil, set_comm' hij, List.set_set]
theorem kn_asg {te : TE} {i : Nat} {D : Ends} (w : We fr Γ Θ te fun p Θ1 => Kn fr (Γ.set i (some p)) Θ1 D.nx) : Kn fr Γ Θ (tAsg te (gName i) D) := fun σ F H ok env =>
  w σ F H ok env _ fun p Θ1 k v F1 H1 s1 ok1 hp => k _ F1 H1 ok1 ((env.mono s1).set hp)
theorem kn_asgT {te : TE} {g : TG} {D : Ends} (w : We fr Γ Θ te fun p Θ1 => ∃ vs Γ', TgR g vs p Γ Γ' ∧ Kn fr Γ' Θ1 D.nx) : Kn fr Γ Θ (tAsg te g D) := fun σ F H ok env =>
  w σ F H ok env _ fun p Θ1 ⟨vs, Γ', tg, k⟩ v F1 H1 s1 ok1 hp => tg σ F1 H1 v ok1.fh (env.mono s1) hp _ fun σ' env' _ => k σ' F1 H1 ok1 env'
theorem kn_if {c : TT} {t u : TS} {D : Ends} (w : Wt fr Γ Θ c fun b Θ1 => (b = true → Kn fr Γ Θ1 (t D)) ∧ (b = false → Kn fr Γ Θ1 (u D))) : Kn fr Γ Θ (tIfS c t u D) := fun σ F H ok env =>
  w σ F H ok env _ fun b Θ1 ⟨k1, k2⟩ F1 H1 s1 ok1 => by
    cases b with
    | true =>
      rw [if_pos rfl]
      exact k1 rfl σ F1 H1 ok1 (env.mono s1)
    | false =>
      rw [if_neg Bool.false_ne_true]
      exact k2 rfl σ F1 H1 ok1 (env.mono s1)
/-- what is returned -/
def Rt (fr : Fr) (Θ : List Cel) (rt : VK) (p : Vp) : Prop := ∀ v F H, OkF fr Θ F H → p.p F v → rt v H
theorem kn_ret {te : TE} {D : Ends} (w : We fr Γ Θ te fun p Θ1 => Rt fr Θ1 D.rt p) : Kn fr Γ Θ (tRet te D) := fun σ F H ok env =>
  w σ F H ok env _ fun p Θ1 k v F1 H1 s1 ok1 hp => k v F1 H1 ok1 hp
theorem kn_drop {te : TE} {D : Ends} (w : We fr Γ Θ te fun p Θ1 => Kn fr Γ Θ1 D.nx) : Kn fr Γ Θ (tDrop te D) := fun σ F H ok env =>
  w σ F H ok env _ fun p Θ1 k v F1 H1 s1 ok1 hp => k σ F1 H1 ok1 (env.mono s1)
/-- a cell is frozen, at a name -/
theorem kn_frz {α : Type} {r : Rep α} {xs : List α} {a : Addr} {i j : Nat} {P : L2.St → Hp → Prop} (hi : Γ[i]? = some (some (zAt a))) (hj : Θ[j]? = some (cL a r xs)) (k : Kn fr (Γ.set i (some (iz (zL r) xs))) (Θ.eraseIdx j) P) : Kn fr Γ Θ P := fun σ F H ok env => by
  obtain ⟨v, h1, h2⟩ := env.get hi
  have h2 : v = .ref a := h2
  subst h2
  obtain ⟨_, ⟨o, h3, vs, rfl, h5⟩, _⟩ := ok.ce _ (List.mem_of_getElem? hj)
  have h3 : H a = some (.lst vs) := h3
  have ok2 := ok.frz hj rfl h3
  have s2 : Same F (upd F a (.lst vs)) := same_upd (ok.ce _ (List.mem_of_getElem? hj)).1
  have e : σ.set i (some (V.ref a)) = σ := by
    apply List.ext_getElem?
    intro m
    rw [List.getElem?_set]
    split
    · rename_i q
      subst q
      rw [if_pos (List.getElem?_eq_some_iff.mp h1).1, h1]
    · rfl
  have := (env.mono s2).set (i := i) (p := iz (zL r) xs) (v := .ref a) ⟨a, vs, rfl, upd_same, Paired.imp2 (fun _ _ h => r.mono s2 h) h5⟩
  rw [e] at this
  exact k σ _ H ok2 this
theorem rt_frz {α : Type} {r : Rep α} {xs : List α} {a : Addr} {j : Nat} {rt : VK} (hj : Θ[j]? = some (cL a r xs)) (k : Rt fr (Θ.eraseIdx j) rt (iz (zL r) xs)) : Rt fr Θ rt (zAt a) := fun v F H ok hp => by
  have hp : v = .ref a := hp
  subst hp
  obtain ⟨h0, ⟨o, h3, vs, rfl, h5⟩, _⟩ := ok.ce _ (List.mem_of_getElem? hj)
  have h3 : H a = some (.lst vs) := h3
  have ok2 := ok.frz hj rfl h3
  exact k _ _ H ok2 ⟨a, vs, rfl, upd_same, Paired.imp2 (fun _ _ h => r.mono (same_upd h0) h) h5⟩
/-- less is known -/
def GLe (Γ Γ' : Gam) : Prop := Paired (fun (e e' : Option Vp) => e' = none ∨ e' = e) Γ Γ'
theorem EnvF.le {σ : L2.St} (h : EnvF Γ σ F) (l : GLe Γ Γ') : EnvF Γ' σ F := by
  induction l generalizing σ with
  | nil => exact h
  | cons a _ ih =>
    cases h with
    | cons b c =>
      refine .cons (fun p hp => ?_) (ih c)
      rcases a with a | a
      · rw [a] at hp
        cases hp
      · rw [a] at hp
        exact b p hp
theorem Kn.le {P : L2.St → Hp → Prop} (k : Kn fr Γ' Θ P) (l : GLe Γ Γ') : Kn fr Γ Θ P := fun σ F H ok env => k σ F H ok (env.le l)
/-- a point where ways meet -/
def Mid (fr : Fr) (I : Gam → List Cel → Prop) (σ : L2.St) (H : Hp) : Prop := ∃ Γ Θ F, I Γ Θ ∧ OkF fr Θ F H ∧ EnvF Γ σ F
theorem kn_mid {I : Gam → List Cel → Prop} (h : ∃ Γ', GLe Γ Γ' ∧ I Γ' Θ) : Kn fr Γ Θ (Mid fr I) := fun σ F H ok env => by
  obtain ⟨Γ', l, i⟩ := h
  exact ⟨Γ', Θ, F, i, ok, env.le l⟩
end
end L2
set_option Elab.async false
set_option linter.all false
set_option maxRecDepth 100000
set_option maxHeartbeats 4000000
namespace L2
open PySem PySem.Spec PyProof.Rows PySem.HErr
section
variable {fr : Fr} {Γ Γ' : Gam} {Θ : List Cel} {F F' H H' : Hp} {K : Vp → List Cel → Prop} {Q : VK}
theorem ops_I0 {h : Int → Int → Int} {m n : Int} (k : K (iz zI (h m n)) Θ) : Ops fr Θ (rI0 fun i j => .int (h i j)) (iz zI m) (iz zI n) K := fun F H v w ok hv hw Q q => ⟨m, n, hv, hw, q.go k ok rfl⟩
theorem ops_B0 {h : Int → Int → Bool} {m n : Int} (k : K (iz zB (h m n)) Θ) : Ops fr Θ (rI0 fun i j => .bl (h i j)) (iz zI m) (iz zI n) K := fun F H v w ok hv hw Q q => ⟨m, n, hv, hw, q.go k ok rfl⟩
theorem ops_IC {C : Int → Int → Prop} {h : Int → Int → Int} {m n : Int} (c : C m n) (k : K (iz zI (h m n)) Θ) : Ops fr Θ (rI C fun i j => .int (h i j)) (iz zI m) (iz zI n) K := fun F H v w ok hv hw Q q => ⟨m, n, hv, hw, c, q.go k ok rfl⟩
theorem uns_I {h : Int → Int} {m : Int} (k : K (iz zI (h m)) Θ) : Uns fr Θ (rU fun i => .int (h i)) (iz zI m) K := fun F H v ok hv Q q => ⟨m, hv, q.go k ok rfl⟩
theorem dec_inj {α : Type} [DecidableEq α] {c : α → V} (hc : ∀ x y, c x = c y → x = y) (x y : α) : decide (c x = c y) = decide (x = y) := by
  by_cases e : x = y
  · rw [e, decide_eq_true rfl, decide_eq_true rfl]
  · rw [decide_eq_false e, decide_eq_false fun q => e (hc _ _ q)]
theorem ops_eqI {m n : Int} (k : K (iz zB (decide (m = n))) Θ) : Ops fr Θ rEq (iz zI m) (iz zI n) K := fun F H v w ok hv hw Q q => by
  have hv : v = .int m := hv
  have hw : w = .int n := hw
  subst hv hw
  refine ⟨rfl, ?_⟩
  rw [dec_inj (fun x y => V.int.inj)]
  exact q.go k ok rfl
theorem ops_neI {m n : Int} (k : K (iz zB (!decide (m = n))) Θ) : Ops fr Θ rNe (iz zI m) (iz zI n) K := fun F H v w ok hv hw Q q => by
  have hv : v = .int m := hv
  have hw : w = .int n := hw
  subst hv hw
  refine ⟨rfl, ?_⟩
  rw [dec_inj (fun x y => V.int.inj)]
  exact q.go k ok rfl
theorem ops_eqS {m n : Str} (k : K (iz zB (decide (m = n))) Θ) : Ops fr Θ rEq (iz zS m) (iz zS n) K := fun F H v w ok hv hw Q q => by
  obtain ⟨hv, _⟩ := hv
  obtain ⟨hw, _⟩ := hw
  subst hv hw
  refine ⟨rfl, ?_⟩
  rw [dec_inj (fun x y => V.str.inj)]
  exact q.go k ok rfl
theorem ops_neS {m n : Str} (k : K (iz zB (!decide (m = n))) Θ) : Ops fr Θ rNe (iz zS m) (iz zS n) K := fun F H v w ok hv hw Q q => by
  obtain ⟨hv, _⟩ := hv
  obtain ⟨hw, _⟩ := hw
  subst hv hw
  refine ⟨rfl, ?_⟩
  rw [dec_inj (fun x y => V.str.inj)]
  exact q.go k ok rfl
theorem ops_eqB {m n : Bool} (k : K (iz zB (decide (m = n))) Θ) : Ops fr Θ rEq (iz zB m) (iz zB n) K := fun F H v w ok hv hw Q q => by
  have hv : v = .bl m := hv
  have hw : w = .bl n := hw
  subst hv hw
  refine ⟨rfl, ?_⟩
  rw [dec_inj (fun x y => V.bl.inj)]
  exact q.go k ok rfl
theorem ops_neB {m n : Bool} (k : K (iz zB (!decide (m = n))) Θ) : Ops fr Θ rNe (iz zB m) (iz zB n) K := fun F H v w ok hv hw Q q => by
  have hv : v = .bl m := hv
  have hw : w = .bl n := hw
  subst hv hw
  refine ⟨rfl, ?_⟩
  rw [dec_inj (fun x y => V.bl.inj)]
  exact q.go k ok rfl
theorem ops_addS {m n : Str} (hl : m.length + n.length ≤ sizeLine) (k : K (iz zS (m ++ n)) Θ) : Ops fr Θ (fun x y H Q => ∃ i j, x = .str i ∧ y = .str j ∧ i.length + j.length ≤ sizeLine ∧ Q (.str (i ++ j)) H) (iz zS m) (iz zS n) K := fun F H v w ok hv hw Q q => by
  obtain ⟨hv, a1⟩ := hv
  obtain ⟨hw, a2⟩ := hw
  exact ⟨m, n, hv, hw, hl, q.go k ok ⟨rfl, a1.app a2⟩⟩
theorem pvs_S {vs : List V} {xs : List Str} (h : PVs zS F vs xs) : vs = xs.map V.str ∧ ∀ x ∈ xs, Asc x := by
  induction h with
  | nil => exact ⟨rfl, fun x hx => by cases hx⟩
  | cons a _ ih =>
    obtain ⟨a1, a2⟩ := a
    refine ⟨by rw [a1, ih.1]; rfl, fun x hx => ?_⟩
    rcases List.mem_cons.mp hx with rfl | hx
    · exact a2
    · exact ih.2 x hx
theorem pvs_I {vs : List V} {xs : List Int} (h : PVs zI F vs xs) : vs = xs.map V.int := by
  induction h with
  | nil => rfl
  | cons a _ ih =>
    have a : _ = V.int _ := a
    rw [a, ih]
    rfl
theorem pvs_B {vs : List V} {xs : List Bool} (h : PVs zB F vs xs) : vs = xs.map V.bl := by
  induction h with
  | nil => rfl
  | cons a _ ih =>
    have a : _ = V.bl _ := a
    rw [a, ih]
    rfl
theorem inV_ints (n : Int) (ws : List Int) : inV (.int n) (ws.map V.int) = decide (n ∈ ws) := by
  induction ws with
  | nil => rfl
  | cons a ws ih =>
    unfold inV at ih ⊢
    rw [List.map_cons, List.any_cons, ih]
    have e : eqV (V.int a) (V.int n) = decide (a = n) := rfl
    rw [e]
    by_cases h : a = n
    · rw [h]
      simp
    · rw [decide_eq_false h, Bool.false_or]
      by_cases h2 : n ∈ ws
      · rw [decide_eq_true h2, decide_eq_true (List.mem_cons_of_mem _ h2)]
      · rw [decide_eq_false h2, decide_eq_false fun q => (List.mem_cons.mp q).elim (fun e => h e.symm) h2]
theorem flat_intsG (ws : List Int) : (ws.map V.int).all flatV = true := by
  rw [List.all_map, List.all_eq_true]
  intro x _
  rfl
/-- a thing whose entries are xs, to be read: a frozen list, a frozen tuple, a cell -/
def SeqP {α : Type} (fr : Fr) (Θ : List Cel) (p : Vp) (r : Rep α) (xs : List α) : Prop := ∀ F H v, OkF fr Θ F H → p.p F v → ∃ a vs, v = .ref a ∧ (Rd H a (.lst vs) ∨ Rd H a (.tup vs)) ∧ PVs r F vs xs
theorem seq_L {α : Type} {r : Rep α} {xs : List α} : SeqP fr Θ (iz (zL r) xs) r xs := fun F H v ok ⟨a, vs, h1, h2, h3⟩ => ⟨a, vs, h1, .inl (.inl (ok.fh _ _ h2)), h3⟩
theorem seq_T {α : Type} [TNar α] {r : Rep α} {xs : List α} : SeqP fr Θ (iz (zT r) xs) r xs := fun F H v ok ⟨a, vs, h1, h2, h3⟩ => ⟨a, vs, h1, .inr (h2.mono ok.fh).rd, h3⟩
theorem seq_C {α : Type} {r : Rep α} {xs : List α} {a : Addr} (hc : cL a r xs ∈ Θ) : SeqP fr Θ (zAt a) r xs := fun F H v ok hv => by
  obtain ⟨_, ⟨o, h2, vs, rfl, h4⟩, _⟩ := ok.ce _ hc
  exact ⟨a, vs, hv, .inl (.inl h2), h4⟩
theorem sq_or {Kf : PySem.W.Frag} {a : Addr} {vs : List V} (h : Rd H a (.lst vs) ∨ Rd H a (.tup vs)) : SqL Kf H a vs ∨ SqT Kf H a vs := h.elim (fun h => .inl (.inl h)) fun h => .inr (.inl h)
theorem ops_inS {Kf : PySem.W.Frag} {p : Vp} {z : Str} {xs : List Str} (h : SeqP fr Θ p zS xs) (k : K (iz zB (decide (z ∈ xs))) Θ) : Ops fr Θ (rIn Kf false) (iz zS z) p K := fun F H v w ok hv hw Q q => by
  obtain ⟨hv, _⟩ := hv
  obtain ⟨a, vs, rfl, h2, h3⟩ := h F H w ok hw
  obtain ⟨rfl, _⟩ := pvs_S h3
  subst hv
  refine ⟨a, _, rfl, sq_or h2, rfl, flat_strsB _, ?_⟩
  rw [inV_strs]
  exact q.go k ok rfl
theorem ops_ninS {Kf : PySem.W.Frag} {p : Vp} {z : Str} {xs : List Str} (h : SeqP fr Θ p zS xs) (k : K (iz zB (!decide (z ∈ xs))) Θ) : Ops fr Θ (rIn Kf true) (iz zS z) p K := fun F H v w ok hv hw Q q => by
  obtain ⟨hv, _⟩ := hv
  obtain ⟨a, vs, rfl, h2, h3⟩ := h F H w ok hw
  obtain ⟨rfl, _⟩ := pvs_S h3
  subst hv
  refine ⟨a, _, rfl, sq_or h2, rfl, flat_strsB _, ?_⟩
  rw [inV_strs]
  exact q.go k ok rfl
theorem ops_inI {Kf : PySem.W.Frag} {p : Vp} {z : Int} {xs : List Int} (h : SeqP fr Θ p zI xs) (k : K (iz zB (decide (z ∈ xs))) Θ) : Ops fr Θ (rIn Kf false) (iz zI z) p K := fun F H v w ok hv hw Q q => by
  have hv : v = .int z := hv
  obtain ⟨a, vs, rfl, h2, h3⟩ := h F H w ok hw
  have := pvs_I h3
  subst hv this
  refine ⟨a, _, rfl, sq_or h2, rfl, flat_intsG _, ?_⟩
  rw [inV_ints]
  exact q.go k ok rfl
theorem ops_ninI {Kf : PySem.W.Frag} {p : Vp} {z : Int} {xs : List Int} (h : SeqP fr Θ p zI xs) (k : K (iz zB (!decide (z ∈ xs))) Θ) : Ops fr Θ (rIn Kf true) (iz zI z) p K := fun F H v w ok hv hw Q q => by
  have hv : v = .int z := hv
  obtain ⟨a, vs, rfl, h2, h3⟩ := h F H w ok hw
  have := pvs_I h3
  subst hv this
  refine ⟨a, _, rfl, sq_or h2, rfl, flat_intsG _, ?_⟩
  rw [inV_ints]
  exact q.go k ok rfl
theorem pvs_at {α : Type} {r : Rep α} {vs : List V} {xs : List α} {n : Int} {x : α} (h : PVs r F vs xs) (e : atI xs n = some x) : ∃ v, atI vs n = some v ∧ r.p F v x := by
  unfold atI at e ⊢
  rw [Paired.len h]
  cases q : ixN xs.length n with
  | none =>
    rw [q] at e
    cases e
  | some j =>
    rw [q] at e
    exact Paired.get' h e
theorem ops_ixL {Kf : PySem.W.Frag} {α : Type} {r : Rep α} {xs : List α} {n : Int} {x : α} (e : atI xs n = some x) (k : K (iz r x) Θ) : Ops fr Θ (rIxL Kf) (iz (zL r) xs) (iz zI n) K := fun F H v w ok hv hw Q q => by
  obtain ⟨a, vs, rfl, h2, h3⟩ := hv
  obtain ⟨u, h4, h5⟩ := pvs_at h3 e
  exact ⟨a, vs, n, u, rfl, hw, SqL.of (ok.fh _ _ h2), h4, q.go k ok h5⟩
theorem ops_ixC {Kf : PySem.W.Frag} {α : Type} {r : Rep α} {xs : List α} {n : Int} {x : α} {a : Addr} (hc : cL a r xs ∈ Θ) (e : atI xs n = some x) (k : K (iz r x) Θ) : Ops fr Θ (rIxL Kf) (zAt a) (iz zI n) K := fun F H v w ok hv hw Q q => by
  obtain ⟨_, ⟨o, h2, vs, rfl, h3⟩, _⟩ := ok.ce _ hc
  obtain ⟨u, h4, h5⟩ := pvs_at h3 e
  exact ⟨a, vs, n, u, hv, hw, SqL.of h2, h4, q.go k ok h5⟩
theorem ops_ixT {Kf : PySem.W.Frag} {α : Type} [TNar α] {r : Rep α} {xs : List α} {n : Int} {x : α} (e : atI xs n = some x) (k : K (iz r x) Θ) : Ops fr Θ (rIxT Kf) (iz (zT r) xs) (iz zI n) K := fun F H v w ok hv hw Q q => by
  obtain ⟨a, vs, rfl, h2, h3⟩ := hv
  obtain ⟨u, h4, h5⟩ := pvs_at h3 e
  exact ⟨a, vs, n, u, rfl, hw, h2.sq ok.fh, h4, q.go k ok h5⟩
/-- x[0], x[1] of a pair; x[0], x[1], x[2] of a triple -/
theorem ops_ix20 {Kf : PySem.W.Frag} {α β : Type} {r : Rep α} {s : Rep β} {x : α × β} (k : K (iz r x.1) Θ) : Ops fr Θ (rIxT Kf) (iz (z2 r s) x) (iz zI 0) K := fun F H v w ok hv hw Q q => by
  obtain ⟨a, u, z, rfl, h2, h3, h4⟩ := hv
  exact ⟨a, _, 0, u, rfl, hw, SqT.of (ok.fh _ _ h2), rfl, q.go k ok h3⟩
theorem ops_ix21 {Kf : PySem.W.Frag} {α β : Type} {r : Rep α} {s : Rep β} {x : α × β} (k : K (iz s x.2) Θ) : Ops fr Θ (rIxT Kf) (iz (z2 r s) x) (iz zI 1) K := fun F H v w ok hv hw Q q => by
  obtain ⟨a, u, z, rfl, h2, h3, h4⟩ := hv
  exact ⟨a, _, 1, z, rfl, hw, SqT.of (ok.fh _ _ h2), rfl, q.go k ok h4⟩
theorem ops_ix30 {Kf : PySem.W.Frag} {α β γ : Type} {r : Rep α} {s : Rep β} {t : Rep γ} {x : α × β × γ} (k : K (iz r x.1) Θ) : Ops fr Θ (rIxT Kf) (iz (z3 r s t) x) (iz zI 0) K := fun F H v w ok hv hw Q q => by
  obtain ⟨a, u, z, y, rfl, h2, h3, h4, h5⟩ := hv
  exact ⟨a, _, 0, u, rfl, hw, SqT.of (ok.fh _ _ h2), rfl, q.go k ok h3⟩
theorem ops_ix31 {Kf : PySem.W.Frag} {α β γ : Type} {r : Rep α} {s : Rep β} {t : Rep γ} {x : α × β × γ} (k : K (iz s x.2.1) Θ) : Ops fr Θ (rIxT Kf) (iz (z3 r s t) x) (iz zI 1) K := fun F H v w ok hv hw Q q => by
  obtain ⟨a, u, z, y, rfl, h2, h3, h4, h5⟩ := hv
  exact ⟨a, _, 1, z, rfl, hw, SqT.of (ok.fh _ _ h2), rfl, q.go k ok h4⟩
theorem ops_ix32 {Kf : PySem.W.Frag} {α β γ : Type} {r : Rep α} {s : Rep β} {t : Rep γ} {x : α × β × γ} (k : K (iz t x.2.2) Θ) : Ops fr Θ (rIxT Kf) (iz (z3 r s t) x) (iz zI 2) K := fun F H v w ok hv hw Q q => by
  obtain ⟨a, u, z, y, rfl, h2, h3, h4, h5⟩ := hv
  exact ⟨a, _, 2, y, rfl, hw, SqT.of (ok.fh _ _ h2), rfl, q.go k ok h5⟩
def TupR (ps : List Vp) (q : Vp) : Prop := ∀ F a vs, F a = some (HO.tup vs) → Paired (fun (p : Vp) v => p.p F v) ps vs → q.p F (.ref a)
theorem small_len {α β : Type} {R : α → β → Prop} {l : List α} {m : List β} (h : Paired R l m) (hl : l.length ≤ 1000) : m.length ≤ sizeLine := by
  rw [← Paired.len h]
  exact Nat.le_of_lt (small1000 hl)
theorem ps_mono {ps : List Vp} {vs : List V} (e : Same F F') (h : Paired (fun (p : Vp) v => p.p F v) ps vs) : Paired (fun (p : Vp) v => p.p F' v) ps vs := Paired.imp2 (fun p _ h => p.mono e h) h
theorem we_tup {t : TA} (w : Wa fr Γ Θ t fun ps Θ1 => ps.length ≤ 1000 ∧ ∃ q, TupR ps q ∧ K q Θ1) : We fr Γ Θ (tTup t) K := fun σ F H ok env Q q =>
  w σ F H ok env _ fun ps Θ1 ⟨hl, p, tr, k⟩ vs F1 H1 s1 ok1 hps => ⟨small_len hps hl, fun a na => (q.mono s1).new k ok1 na (tr _ a vs upd_same (ps_mono (ok1.sameF na) hps))⟩
theorem tr2 {α β : Type} {r : Rep α} {s : Rep β} {x : α} {y : β} : TupR [iz r x, iz s y] (iz (z2 r s) (x, y)) := fun F a vs h hp => by
  cases hp with
  | cons h1 hp => cases hp with
    | cons h2 hp => cases hp with
      | nil => exact ⟨a, _, _, rfl, h, h1, h2⟩
theorem tr3 {α β γ : Type} {r : Rep α} {s : Rep β} {t : Rep γ} {x : α} {y : β} {z : γ} : TupR [iz r x, iz s y, iz t z] (iz (z3 r s t) (x, y, z)) := fun F a vs h hp => by
  cases hp with
  | cons h1 hp => cases hp with
    | cons h2 hp => cases hp with
      | cons h3 hp => cases hp with
        | nil => exact ⟨a, _, _, _, rfl, h, h1, h2, h3⟩
theorem pvs_map {α : Type} {r : Rep α} {vs : List V} : ∀ {xs : List α}, Paired (fun (p : Vp) v => p.p F v) (xs.map (iz r)) vs → PVs r F vs xs := fun {xs} h => by
  induction xs generalizing vs with
  | nil => cases h; exact .nil
  | cons x xs ih => cases h with
    | cons a b => exact .cons a (ih b)
/-- a list, frozen -/
theorem we_lst {α : Type} {r : Rep α} {t : TA} (w : Wa fr Γ Θ t fun ps Θ1 => ∃ xs : List α, ps = xs.map (iz r) ∧ ps.length ≤ 1000 ∧ K (iz (zL r) xs) Θ1) : We fr Γ Θ (tLst t) K := fun σ F H ok env Q q =>
  w σ F H ok env _ fun ps Θ1 ⟨xs, e, hl, k⟩ vs F1 H1 s1 ok1 hps => ⟨small_len hps hl, fun a na => by
    subst e
    exact (q.mono s1).new k ok1 na ⟨a, vs, rfl, upd_same, pvs_map (ps_mono (ok1.sameF na) hps)⟩⟩
/-- a list, one's own -/
theorem we_own {α : Type} (r : Rep α) {t : TA} (w : Wa fr Γ Θ t fun ps Θ1 => ∃ xs : List α, ps = xs.map (iz r) ∧ ps.length ≤ 1000 ∧ ∀ a, K (zAt a) (cL a r xs :: Θ1)) : We fr Γ Θ (tLst t) K := fun σ F H ok env Q q =>
  w σ F H ok env _ fun ps Θ1 ⟨xs, e, hl, k⟩ vs F1 H1 s1 ok1 hps => ⟨small_len hps hl, fun a na => by
    subst e
    exact q _ _ (k a) _ F1 _ s1 (ok1.mkOwn (c := cL a r xs) na rfl ⟨vs, rfl, pvs_map hps⟩) rfl⟩
theorem cb_len {Kf : PySem.W.Frag} {α : Type} {r : Rep α} {xs : List α} {p : Vp} (h : SeqP fr Θ p r xs) (k : K (iz zI xs.length) Θ) : Cbs fr Θ (rLenQ Kf) [p] K := fun F H vs ok hps Q q => by
  cases hps with
  | cons h1 hp => cases hp with
    | nil =>
      obtain ⟨a, us, rfl, h2, h3⟩ := h F H _ ok h1
      refine ⟨a, us, rfl, sq_or h2, ?_⟩
      rw [Paired.len h3]
      exact q.go k ok rfl
theorem cb_list {Kf : PySem.W.Frag} {α : Type} {r : Rep α} {xs : List α} {p : Vp} (h : SeqP fr Θ p r xs) (k : K (iz (zL r) xs) Θ) : Cbs fr Θ (rListQ Kf) [p] K := fun F H vs ok hps Q q => by
  cases hps with
  | cons h1 hp => cases hp with
    | nil =>
      obtain ⟨a, us, rfl, h2, h3⟩ := h F H _ ok h1
      exact ⟨a, us, rfl, sq_or h2, fun l nl => q.new k ok nl ⟨l, us, rfl, upd_same, Paired.imp2 (fun _ _ h => r.mono (ok.sameF nl) h) h3⟩⟩
theorem cb_tuple {Kf : PySem.W.Frag} {α : Type} [TNar α] {r : Rep α} {xs : List α} {p : Vp} (h : ∀ F H v, OkF fr Θ F H → p.p F v → ∃ a vs, v = .ref a ∧ (H a = some (.lst vs) ∨ TupB (TNar.nar xs) F a vs) ∧ PVs r F vs xs) (k : K (iz (zT r) xs) Θ) : Cbs fr Θ (rTupQ Kf) [p] K := fun F H vs ok hps Q q => by
  cases hps with
  | cons h1 hp => cases hp with
    | nil =>
      obtain ⟨a, us, rfl, h2, h3⟩ := h F H _ ok h1
      refine ⟨a, us, rfl, ?_⟩
      rcases h2 with h2 | h2
      · exact .inl ⟨SqL.of h2, fun l nl => q.new k ok nl ⟨l, us, rfl, .inl upd_same, Paired.imp2 (fun _ _ h => r.mono (ok.sameF nl) h) h3⟩⟩
      · exact .inr ⟨h2.sq ok.fh, q.go k ok ⟨a, us, rfl, h2, h3⟩⟩
theorem cb_tupleL {Kf : PySem.W.Frag} {α : Type} [TNar α] {r : Rep α} {xs : List α} (k : K (iz (zT r) xs) Θ) : Cbs fr Θ (rTupQ Kf) [iz (zL r) xs] K := cb_tuple (fun F H v ok ⟨a, vs, h1, h2, h3⟩ => ⟨a, vs, h1, .inl (ok.fh _ _ h2), h3⟩) k
theorem le_KT {xs : List Str} : ∀ F v, (iz zK xs).p F v → (iz (zT zS) xs).p F v := fun F v ⟨a, vs, h1, h2, h3⟩ => ⟨a, vs, h1, h2.tb, h3⟩
theorem cb_tupleLN {Kf : PySem.W.Frag} {α : Type} {r : Rep α} {xs : List α} (k : K (iz (zN r) xs) Θ) : Cbs fr Θ (rTupQ Kf) [iz (zL r) xs] K := fun F H vs ok hps Q q => by
  cases hps with
  | cons h1 hp => cases hp with
    | nil =>
      obtain ⟨a, us, rfl, h2, h3⟩ := h1
      exact ⟨a, us, rfl, .inl ⟨SqL.of (ok.fh _ _ h2), fun l nl => q.new k ok nl ⟨l, us, rfl, upd_same, Paired.imp2 (fun _ _ h => r.mono (ok.sameF nl) h) h3⟩⟩⟩
/-- tuple(l): the new place is bare -/
def rTupX (K : PySem.W.Frag) : List V → Hp → VK → Prop := fun xs H Q => ∃ p ys, xs = [.ref p] ∧ SqL K H p ys ∧ ∀ l, H l = none → ∀ o : Obj, o.cls = .type "tuple" → o.dict = none → Q (.ref l) (upd H l (if ys.isEmpty = true then .tup ys else .frz o (.tup ys)))
theorem call_tupleX {X : Cx} : CallR X (.type "tuple") (rTupX X.K) := by
  intro pins s σ H xs us Q I r h
  obtain ⟨p, ys, rfl, hq, q⟩ := h
  obtain ⟨u, rfl, rx⟩ := vals1 r
  cases rx
  obtain ⟨its, r', pl, hz⟩ := I.list hq
  have hlen := r'.length
  refine call_tuple_list pl.isList (fun h' kp => ?_) (by simp only [List.size_toArray] <;> omega)
  have I1 : Inv X pins σ H { s with heap := h' } := I.kept (t' := s.toks) kp
  have q := q h'.objs.size (I1.hok.fresh (Nat.le_refl _)) { cls := .type "tuple", data := .seq its.toArray } rfl rfl
  have I2 : Inv X pins σ (upd H h'.objs.size (if ys.isEmpty = true then .tup ys else .frz { cls := .type "tuple", data := .seq its.toArray } (.tup ys))) { s with heap := h'.push { cls := .type "tuple", data := .seq its.toArray } } := by
    refine I1.laid (t' := s.toks) (fun b o e => Heap.get?_push_of_some _ e) (Nat.le_refl _) ?_
    by_cases e : ys.isEmpty = true
    · rw [if_pos e]
      exact (show ObjOk X.prog X.w _ _ _ (.tup ys) from ⟨hz, its, r', IsTup.new _ _⟩)
    · rw [if_neg e]
      exact (show ObjOk X.prog X.w _ _ _ (.frz _ (.tup ys)) from ⟨Heap.get?_push_size _ (by rfl), hz, its, r', IsTup.new _ _⟩)
  exact ⟨.ref h'.objs.size, _, I2, rfl, q⟩
theorem kcall_tupleX {X : Cx} {K : PySem.W.Frag} (h : X.K = K := by rfl) : CallR X (.type "tuple") (rTupX K) := h ▸ call_tupleX
theorem cb_tupleX {Kf : PySem.W.Frag} {xs : List Str} {a : Addr} (hc : cL a zS xs ∈ Θ) (k : K (iz zK xs) Θ) : Cbs fr Θ (rTupX Kf) [zAt a] K := fun F H vs ok hps Q q => by
  cases hps with
  | cons h1 hp => cases hp with
    | nil =>
      have h1 : _ = V.ref a := h1
      subst h1
      obtain ⟨_, ⟨o, h2, us, rfl, h4⟩, _⟩ := ok.ce _ hc
      refine ⟨a, us, rfl, SqL.of h2, fun l nl o oc od => q.new k ok nl ⟨l, us, rfl, ?_, Paired.imp2 (fun _ _ h => zS.mono (ok.sameF nl) h) h4⟩⟩
      cases h4 with
      | nil => exact .inl ⟨rfl, by rw [upd_same]; rfl⟩
      | cons b c => exact .inr ⟨rfl, o, by rw [upd_same]; rfl, oc, od⟩
theorem cb_tupleT {Kf : PySem.W.Frag} {α : Type} [TNar α] {r : Rep α} {xs : List α} (k : K (iz (zT r) xs) Θ) : Cbs fr Θ (rTupQ Kf) [iz (zT r) xs] K := cb_tuple (fun F H v ok ⟨a, vs, h1, h2, h3⟩ => ⟨a, vs, h1, .inr h2, h3⟩) k
theorem cb_tupleC {Kf : PySem.W.Frag} {α : Type} [TNar α] {r : Rep α} {xs : List α} {a : Addr} (hc : cL a r xs ∈ Θ) (k : K (iz (zT r) xs) Θ) : Cbs fr Θ (rTupQ Kf) [zAt a] K := cb_tuple (fun F H v ok hv => by
  obtain ⟨_, ⟨o, h2, vs, rfl, h4⟩, _⟩ := ok.ce _ hc
  exact ⟨a, vs, hv, .inl h2, h4⟩) k
theorem cb_any {Kf : PySem.W.Frag} {xs : List Bool} (k : K (iz zB (xs.any id)) Θ) : Cbs fr Θ (rAny Kf) [iz (zL zB) xs] K := fun F H vs ok hps Q q => by
  cases hps with
  | cons h1 hp => cases hp with
    | nil =>
      obtain ⟨a, us, rfl, h2, h3⟩ := h1
      have := pvs_B h3
      subst this
      exact ⟨a, xs, rfl, SqL.of (ok.fh _ _ h2), q.go k ok rfl⟩
theorem cb_all {Kf : PySem.W.Frag} {xs : List Bool} (k : K (iz zB (xs.all id)) Θ) : Cbs fr Θ (rAll Kf) [iz (zL zB) xs] K := fun F H vs ok hps Q q => by
  cases hps with
  | cons h1 hp => cases hp with
    | nil =>
      obtain ⟨a, us, rfl, h2, h3⟩ := h1
      have := pvs_B h3
      subst this
      exact ⟨a, xs, rfl, SqL.of (ok.fh _ _ h2), q.go k ok rfl⟩
theorem cb_sum {Kf : PySem.W.Frag} {xs : List Int} (k : K (iz zI xs.sum) Θ) : Cbs fr Θ (rSum Kf) [iz (zL zI) xs] K := fun F H vs ok hps Q q => by
  cases hps with
  | cons h1 hp => cases hp with
    | nil =>
      obtain ⟨a, us, rfl, h2, h3⟩ := h1
      have := pvs_I h3
      subst this
      exact ⟨a, xs, rfl, SqL.of (ok.fh _ _ h2), q.go k ok rfl⟩
theorem cb_int {n : Int} (k : K (iz zI n) Θ) : Cbs fr Θ (fun xs H Q => (∃ i, xs = [.int i] ∧ Q (.int i) H) ∨ ∃ k, xs = [.bl k] ∧ Q (.int (if k then 1 else 0)) H) [iz zI n] K := fun F H vs ok hps Q q => by
  cases hps with
  | cons h1 hp => cases hp with
    | nil =>
      have h1 : _ = V.int n := h1
      subst h1
      exact .inl ⟨n, rfl, q.go k ok rfl⟩
theorem cb_abs {n : Int} (k : K (iz zI (if n < 0 then -n else n)) Θ) : Cbs fr Θ (fun xs H Q => ∃ i, xs = [.int i] ∧ Q (.int (if i < 0 then -i else i)) H) [iz zI n] K := fun F H vs ok hps Q q => by
  cases hps with
  | cons h1 hp => cases hp with
    | nil =>
      have h1 : _ = V.int n := h1
      subst h1
      exact ⟨n, rfl, q.go k ok rfl⟩
def cutX {α : Type} (xs : List α) (lo hi : Option Int) : List α := (xs.drop (HT.sIx xs.length 0 lo)).take (HT.sIx xs.length xs.length hi - HT.sIx xs.length 0 lo)
theorem pvs_cut {α : Type} {r : Rep α} {vs : List V} {xs : List α} {lo hi : Option Int} (h : PVs r F vs xs) : PVs r F (cutV vs lo hi) (cutX xs lo hi) := by
  unfold cutV cutX
  rw [Paired.len h]
  exact Paired.take _ (Paired.drop _ h)
theorem sls_L {Kf : PySem.W.Frag} {α : Type} {r : Rep α} {xs : List α} {lo hi : Option Int} (k : K (iz (zL r) (cutX xs lo hi)) Θ) : Sls fr Θ (rSlL Kf) (iz (zL r) xs) lo hi K := fun F H v ok hv Q q => by
  obtain ⟨a, vs, rfl, h2, h3⟩ := hv
  exact ⟨a, vs, rfl, SqL.of (ok.fh _ _ h2), fun l nl => q.new k ok nl ⟨l, _, rfl, upd_same, Paired.imp2 (fun _ _ h => r.mono (ok.sameF nl) h) (pvs_cut h3)⟩⟩
theorem ops_cat {α : Type} {r : Rep α} {xs ys : List α} (hl : xs.length + ys.length ≤ sizeLine) (k : K (iz (zL r) (xs ++ ys)) Θ) : Ops fr Θ rCat (iz (zL r) xs) (iz (zL r) ys) K := fun F H v w ok hv hw Q q => by
  obtain ⟨a, vs, rfl, h2, h3⟩ := hv
  obtain ⟨b, us, rfl, h4, h5⟩ := hw
  exact ⟨a, b, vs, us, rfl, rfl, ok.fh _ _ h2, ok.fh _ _ h4, by rw [Paired.len h3, Paired.len h5]; exact hl, fun l nl => q.new k ok nl ⟨l, _, rfl, upd_same, Paired.imp2 (fun _ _ h => r.mono (ok.sameF nl) h) (Paired.app h3 h5)⟩⟩
def Newer (F H F' : Hp) : Prop := ∀ a o, F' a = some o → Nwr F H a o
theorem Newer.refl (F H : Hp) : Newer F H F := fun _ o h => .inl ⟨o, h⟩
/-- the iterator J gives the things its, as long as F stands -/
def JOk (J : It) (F : Hp) (its : List Vp) : Prop := ∀ F1 H1, Same F F1 → Same F1 H1 → (∀ i p, its[i]? = some p → J.go i H1 ∧ ∀ x H2, J.yld i H1 x H2 → ∃ F2, Same F1 F2 ∧ Same H1 H2 ∧ Same F2 H2 ∧ Newer F1 H1 F2 ∧ p.p F2 x) ∧ J.stop its.length H1
def Wi (fr : Fr) (Γ : Gam) (Θ : List Cel) (wi : TI) (K : List Vp → List Cel → Prop) : Prop := ∀ σ F H, OkF fr Θ F H → EnvF Γ σ F → ∀ R : It → Hp → Prop, (∀ its Θ', K its Θ' → ∀ J F' H', Same F F' → OkF fr Θ' F' H' → JOk J F' its → R J H') → wi σ H R
theorem get_izs {α : Type} {r : Rep α} {xs : List α} {i : Nat} {p : Vp} (h : (xs.map (iz r))[i]? = some p) : ∃ x, xs[i]? = some x ∧ p = iz r x := by
  rw [List.getElem?_map] at h
  obtain ⟨x, hx, e⟩ := Option.map_eq_some_iff.mp h
  exact ⟨x, hx, e.symm⟩
theorem wi_list {Kf : PySem.W.Frag} {tl : TE} {K : List Vp → List Cel → Prop} (w : We fr Γ Θ tl fun p Θ1 => ∃ (α : Type) (r : Rep α) (xs : List α), p = iz (zL r) xs ∧ K (xs.map (iz r)) Θ1) : Wi fr Γ Θ (iList Kf tl) K := fun σ F H ok env R q =>
  w σ F H ok env _ fun p Θ1 ⟨α, r, xs, e, k⟩ v F1 H1 s1 ok1 hp => by
    subst e
    obtain ⟨a, vs, rfl, h2, h3⟩ := hp
    refine ⟨a, rfl, ⟨_, SqL.of (ok1.fh _ _ h2)⟩, q _ Θ1 k _ F1 H1 s1 ok1 fun F2 H2 s2 fh => ⟨fun i p hi => ?_, ?_⟩⟩
    · obtain ⟨x, hx, rfl⟩ := get_izs hi
      obtain ⟨u, hu, hux⟩ := Paired.get' h3 hx
      have sq : SqL Kf H2 a vs := SqL.of (fh _ _ (s2 _ _ h2))
      refine ⟨⟨vs, u, sq, hu⟩, fun y H3 ⟨e, hy⟩ => ?_⟩
      subst e
      have hy := hy vs sq
      rw [hu] at hy
      cases hy
      exact ⟨F2, Same.refl _, Same.refl _, fh, Newer.refl _ _, r.mono s2 hux⟩
    · rw [List.length_map, ← Paired.len h3]
      exact ⟨vs, SqL.of (fh _ _ (s2 _ _ h2)), Nat.le_refl _⟩
theorem wi_tup {Kf : PySem.W.Frag} {tl : TE} {K : List Vp → List Cel → Prop} (w : We fr Γ Θ tl fun p Θ1 => ∃ (α : Type) (_ : TNar α) (r : Rep α) (xs : List α), p = iz (zT r) xs ∧ K (xs.map (iz r)) Θ1) : Wi fr Γ Θ (iTup Kf tl) K := fun σ F H ok env R q =>
  w σ F H ok env _ fun p Θ1 ⟨α, _, r, xs, e, k⟩ v F1 H1 s1 ok1 hp => by
    subst e
    obtain ⟨a, vs, rfl, h2, h3⟩ := hp
    refine ⟨a, rfl, ⟨_, h2.sq ok1.fh⟩, q _ Θ1 k _ F1 H1 s1 ok1 fun F2 H2 s2 fh => ⟨fun i p hi => ?_, ?_⟩⟩
    · obtain ⟨x, hx, rfl⟩ := get_izs hi
      obtain ⟨u, hu, hux⟩ := Paired.get' h3 hx
      have sq : SqT Kf H2 a vs := (h2.mono s2).sq fh
      refine ⟨⟨vs, u, sq, hu⟩, fun y H3 ⟨e, hy⟩ => ?_⟩
      subst e
      have hy := hy vs sq
      rw [hu] at hy
      cases hy
      exact ⟨F2, Same.refl _, Same.refl _, fh, Newer.refl _ _, r.mono s2 hux⟩
    · rw [List.length_map, ← Paired.len h3]
      exact ⟨vs, (h2.mono s2).sq fh, Nat.le_refl _⟩
def intsF (lo : Int) (n : Nat) : List Int := (List.range n).map fun i : Nat => lo + (i : Int)
theorem intsF_get {lo : Int} {n i : Nat} {x : Int} (h : (intsF lo n)[i]? = some x) : i < n ∧ x = lo + i := by
  unfold intsF at h
  rw [List.getElem?_map] at h
  obtain ⟨j, hj, e⟩ := Option.map_eq_some_iff.mp h
  rcases Nat.lt_or_ge i n with h | h
  · rw [List.getElem?_range h] at hj
    cases hj
    exact ⟨h, e.symm⟩
  · rw [List.getElem?_eq_none (by rw [List.length_range]; exact h)] at hj
    cases hj
theorem intsF_len (lo : Int) (n : Nat) : (intsF lo n).length = n := by
  unfold intsF
  rw [List.length_map, List.length_range]
theorem jok_r (lo : Int) (n : Nat) : JOk (Itr lo n) F ((intsF lo n).map (iz zI)) := fun F2 H2 s2 fh => ⟨fun i p hi => by
    obtain ⟨x, hx, rfl⟩ := get_izs hi
    obtain ⟨h1, rfl⟩ := intsF_get hx
    exact ⟨h1, fun y H3 ⟨e, hy⟩ => by
      subst e
      exact ⟨F2, Same.refl _, Same.refl _, fh, Newer.refl _ _, hy⟩⟩, by
    rw [List.length_map, intsF_len]
    exact Nat.le_refl _⟩
theorem wi_range {ta : TA} {K : List Vp → List Cel → Prop} (w : Wa fr Γ Θ ta fun ps Θ1 => ∃ n : Int, ps = [iz zI n] ∧ -(2 ^ 62) ≤ n ∧ n < 2 ^ 62 ∧ K ((intsF 0 n.toNat).map (iz zI)) Θ1) : Wi fr Γ Θ (iRng1 ta) K := fun σ F H ok env R q =>
  w σ F H ok env _ fun ps Θ1 ⟨n, e, b1, b2, k⟩ vs F1 H1 s1 ok1 hps => by
    subst e
    cases hps with
    | cons h1 hp => cases hp with
      | nil =>
        have h1 : _ = V.int n := h1
        subst h1
        exact ⟨n, rfl, b1, b2, q _ Θ1 k _ F1 H1 s1 ok1 (jok_r 0 n.toNat)⟩
theorem wi_range2 {ta : TA} {K : List Vp → List Cel → Prop} (w : Wa fr Γ Θ ta fun ps Θ1 => ∃ m n : Int, ps = [iz zI m, iz zI n] ∧ (-(2 ^ 62) ≤ m ∧ m < 2 ^ 62 ∧ -(2 ^ 62) ≤ n ∧ n < 2 ^ 62) ∧ K ((intsF m (n - m).toNat).map (iz zI)) Θ1) : Wi fr Γ Θ (iRng2 ta) K := fun σ F H ok env R q =>
  w σ F H ok env _ fun ps Θ1 ⟨m, n, e, b, k⟩ vs F1 H1 s1 ok1 hps => by
    subst e
    cases hps with
    | cons h1 hp => cases hp with
      | cons h2 hp => cases hp with
        | nil =>
          have h1 : _ = V.int m := h1
          have h2 : _ = V.int n := h2
          subst h1 h2
          exact ⟨m, n, rfl, b, q _ Θ1 k _ F1 H1 s1 ok1 (jok_r m _)⟩
/-- a finer start: more is frozen -/
structure FrLe (fr fr' : Fr) : Prop where
  h : fr'.H0 = fr.H0
  b : fr'.B = fr.B
  f : Same fr.F0 fr'.F0
  n : ∀ a o, fr'.F0 a = some o → Nwr fr.F0 fr.H0 a o
theorem OkF.le {fr' : Fr} (ok : OkF fr' Θ F H) (l : FrLe fr fr') : OkF fr Θ F H := by
  obtain ⟨a1, a2, a3, a4⟩ := l
  refine ⟨ok.fh, a3.trans ok.f0, fun a o h => ?_, fun a o hB h => ok.h0 a o (by rw [a2]; exact hB) (by rw [a1]; exact h), fun a o h => ok.al a o (by rw [a1]; exact h), ok.nd, fun c hc => ?_⟩
  · rcases ok.nw a o h with ⟨o', h'⟩ | h' | h'
    · have e := ok.f0 a o' h'
      rw [h] at e
      cases e
      exact a4 a o h'
    · exact .inr (.inl (by rw [a1] at h'; exact h'))
    · exact .inr (.inr h')
  · have := ok.ce c hc
    rw [a1, a2] at this
    exact this
theorem OkF.fine {F1 H1 : Hp} {Θ1 : List Cel} (ok1 : OkF fr Θ1 F1 H1) : FrLe fr ⟨F1, fr.H0, fr.B⟩ := ⟨rfl, rfl, ok1.f0, ok1.nw⟩
theorem FrLe.trans {fr1 fr2 : Fr} (x : FrLe fr fr1) (y : FrLe fr1 fr2) : FrLe fr fr2 := ⟨y.h.trans x.h, y.b.trans x.b, x.f.trans y.f, fun a o h => (y.n a o h).elim (fun ⟨o', h'⟩ => by
  have e := y.f a o' h'
  rw [h] at e
  cases e
  exact x.n a o h') fun h' => h'.elim (fun h' => .inr (.inl (by rw [x.h] at h'; exact h'))) fun h' => .inr (.inr h')⟩
theorem Kn.fine {fr' : Fr} {P : L2.St → Hp → Prop} (k : Kn fr Γ Θ P) (l : FrLe fr fr') : Kn fr' Γ Θ P := fun σ F H ok env => k σ F H (ok.le l) env
theorem Rt.fine {fr' : Fr} {rt : VK} {p : Vp} (k : Rt fr Θ rt p) (l : FrLe fr fr') : Rt fr' Θ rt p := fun v F H ok h => k v F H (ok.le l) h
theorem kn_for {wi : TI} {g : TG} {tb : TS} {D : Ends} (w : Wi fr Γ Θ wi fun its Θ1 => ∃ I : Nat → Gam → List Cel → Prop, (∃ Γ0, GLe Γ Γ0 ∧ I 0 Γ0 Θ1) ∧
    (∀ fr', FrLe fr fr' → ∀ i p Γ1 Θ2, its[i]? = some p → I i Γ1 Θ2 → ∃ vs Γ2, TgR g vs p Γ1 Γ2 ∧ Kn fr' Γ2 Θ2 (tb { D with nx := Mid fr' (I (i + 1)), ct := Mid fr' (I (i + 1)), bk := D.nx })) ∧ ∀ Γ1 Θ2, I its.length Γ1 Θ2 → Kn fr Γ1 Θ2 D.nx) : Kn fr Γ Θ (tFor wi g tb D) := fun σ F H ok env =>
  w σ F H ok env _ fun its Θ1 ⟨I, ⟨Γ0, l0, i0⟩, hs, hd⟩ J F1 H1 s1 ok1 jok => by
    have le := ok1.fine
    have up : ∀ {Θ2 : List Cel} {F2 H2 : Hp}, OkF fr Θ2 F2 H2 → Same F1 F2 → OkF ⟨F1, fr.H0, fr.B⟩ Θ2 F2 H2 := fun ok s => ⟨ok.fh, s, fun a o h => (ok.nw a o h).elim (fun ⟨o', h'⟩ => .inl ⟨o', ok1.f0 _ _ h'⟩) .inr, ok.h0, ok.al, ok.nd, ok.ce⟩
    refine ⟨fun i m σ' H' => m = its.length - i ∧ i ≤ its.length ∧ Mid ⟨F1, fr.H0, fr.B⟩ (I i) σ' H', ⟨its.length, by simp, Nat.zero_le _, Γ0, Θ1, F1, i0, up ok1 (Same.refl _), (env.mono s1).le l0⟩, ?_⟩
    rintro i m σ' H' ⟨rfl, hi, Γ2, Θ2, F2, hI, ok2, env2⟩
    obtain ⟨j1, j2⟩ := jok F2 H' ok2.f0 ok2.fh
    by_cases hlt : i < its.length
    · obtain ⟨jg, jy⟩ := j1 i its[i] (List.getElem?_eq_getElem hlt)
      refine .inr ⟨jg, Mid ⟨F1, fr.H0, fr.B⟩ (I (i + 1)), fun σ3 H3 p => ⟨its.length - (i + 1), by omega, rfl, hlt, p⟩, fun x H3 y => ?_⟩
      obtain ⟨F3, e1, e2, e3, e4, e5⟩ := jy x H3 y
      have ok3 := ok2.grow e2 e1 e3 e4
      obtain ⟨vs, Γ4, tg, kn⟩ := hs _ le i _ Γ2 Θ2 (List.getElem?_eq_getElem hlt) hI
      exact tg σ' F3 H3 x ok3.fh (env2.mono e1) e5 _ fun σ4 env4 _ => kn σ4 F3 H3 ok3 env4
    · have e : i = its.length := by omega
      subst e
      exact .inl ⟨j2, hd Γ2 Θ2 hI σ' F2 H' (ok2.le le) env2⟩
/-- an invariant by a state s: the names hold G s, the cells T s -/
def InvS {S : Type} (G : S → Gam) (T : S → List Cel) (P : Nat → S → Prop) (i : Nat) (Γ : Gam) (Θ : List Cel) : Prop := ∃ s, P i s ∧ Γ = G s ∧ Θ = T s
theorem kn_back {S : Type} {G : S → Gam} {T : S → List Cel} {P : Nat → S → Prop} {i : Nat} (s : S) (l : GLe Γ (G s)) (h : P i s) (e : Θ = T s) : Kn fr Γ Θ (Mid fr (InvS G T P i)) := kn_mid ⟨G s, l, s, h, rfl, e⟩
/-- for x in a walked thing, the entries xs known -/
theorem kn_forS {α S : Type} {r : Rep α} {xs : List α} {wi : TI} {g : TG} {tb : TS} {D : Ends} (G : S → Gam) (T : S → List Cel) (P : Nat → S → Prop) (s0 : S) {vs : List Nat} {Γ2 : α → S → Gam} (it : Wi fr Γ Θ wi fun its Θ1 => its = xs.map (iz r) ∧ Θ1 = T s0) (l0 : GLe Γ (G s0)) (h0 : P 0 s0)
    (tg : ∀ x s, TgR g vs (iz r x) (G s) (Γ2 x s))
    (hs : ∀ fr', FrLe fr fr' → ∀ i x s, xs[i]? = some x → P i s → Kn fr' (Γ2 x s) (T s) (tb { D with nx := Mid fr' (InvS G T P (i + 1)), ct := Mid fr' (InvS G T P (i + 1)), bk := D.nx }))
    (hd : ∀ s, P xs.length s → Kn fr (G s) (T s) D.nx) : Kn fr Γ Θ (tFor wi g tb D) := by
  refine kn_for fun σ F H ok env R q => it σ F H ok env R fun its Θ1 ⟨e1, e2⟩ => q its Θ1 ?_
  subst e1 e2
  refine ⟨InvS G T P, ⟨G s0, l0, s0, h0, rfl, rfl⟩, fun fr' le i p Γ1 Θ2 hi ⟨s, hP, eg, et⟩ => ?_, fun Γ1 Θ2 ⟨s, hP, eg, et⟩ => ?_⟩
  · subst eg et
    obtain ⟨x, hx, rfl⟩ := get_izs hi
    exact ⟨vs, _, tg x s, hs fr' le i x s hx hP⟩
  · subst eg et
    rw [List.length_map] at hP
    exact hd s hP
def wipeG (Γ : Gam) : List Nat → Gam
  | [] => Γ
  | v :: vs => (wipeG Γ vs).set v none
theorem EnvF.wipe {σ : L2.St} (h : EnvF Γ σ F) : ∀ vs, EnvF (wipeG Γ vs) (L2.wipe σ vs) F
  | [] => h
  | v :: vs => (EnvF.wipe h vs).drop
theorem wipe_get (σ : L2.St) (j : Nat) : ∀ vs : List Nat, (L2.wipe σ vs)[j]? = if j ∈ vs ∧ j < σ.length then some none else σ[j]?
  | [] => by simp [L2.wipe]
  | v :: vs => by
    unfold L2.wipe
    rw [List.getElem?_set, wipe_get σ j vs, wipe_length]
    by_cases h : v = j
    · subst h
      by_cases h2 : v < σ.length
      · rw [if_pos rfl, if_pos h2, if_pos ⟨List.mem_cons_self .., h2⟩]
      · rw [if_pos rfl, if_neg h2, if_neg (fun q => h2 q.2), List.getElem?_eq_none (by omega)]
    · rw [if_neg h]
      by_cases h2 : j ∈ vs ∧ j < σ.length
      · rw [if_pos h2, if_pos ⟨List.mem_cons_of_mem _ h2.1, h2.2⟩]
      · rw [if_neg h2, if_neg (fun q => h2 ⟨(List.mem_cons.mp q.1).resolve_left (fun e => h e.symm), q.2⟩)]
theorem wipe_idem (σ : L2.St) (vs : List Nat) : L2.wipe (L2.wipe σ vs) vs = L2.wipe σ vs := by
  apply List.ext_getElem?
  intro j
  rw [wipe_get, wipe_length, wipe_get]
  split <;> rfl
/-- [e for x in xs if c]: each entry is found by its own way; R says what it may be -/
theorem we_lcR {α β : Type} {r : Rep α} {s : Rep β} {xs : List α} {pr : α → Bool} {R : α → β → Prop} {wi : TI} {g : TG} {tt : TT} {te : TE} {vs : List Nat} {Γ2 : α → Gam}
    (it : Wi fr Γ Θ wi fun its Θ1 => its = xs.map (iz r) ∧ Θ1 = Θ) (hl : xs.length ≤ 1000) (tg : ∀ x, TgR g vs (iz r x) (wipeG Γ vs) (Γ2 x)) (ht : ∀ x ∈ xs, ∀ c, Et fr (Γ2 x) (c :: Θ) tt (pr x))
    (he : ∀ x ∈ xs, pr x = true → ∀ c, We fr (Γ2 x) (c :: Θ) te fun q Θ' => Θ' = c :: Θ ∧ ∃ y, R x y ∧ q = iz s y) (k : ∀ ys, Paired R (xs.filter pr) ys → K (iz (zL s) ys) Θ) : We fr Γ Θ (tLc wi g tt te vs) K := fun σ F H ok env Q q => by
  refine it σ F H ok env _ fun its Θ1 ⟨e1, e2⟩ J F1 H1 s1 ok1 jok => ?_
  subst e1 e2
  intro D nD
  refine ⟨fun i m H' => m = xs.length - i ∧ i ≤ xs.length ∧ ∃ F2 ys, Same F1 F2 ∧ OkF fr (cL D s ys :: Θ1) F2 H' ∧ Paired R ((xs.take i).filter pr) ys, ⟨xs.length, by simp, Nat.zero_le _, F1, [], Same.refl _, ok1.mkOwn (c := cL D s []) nD rfl ⟨[], rfl, .nil⟩, .nil⟩, ?_⟩
  rintro i m H' ⟨rfl, hi, F2, ys, s2, ok2, py⟩
  obtain ⟨j1, j2⟩ := jok F2 H' s2 ok2.fh
  by_cases hlt : i < xs.length
  · have hx : xs[i]? = some xs[i] := List.getElem?_eq_getElem hlt
    generalize xs[i] = x at hx
    have hm := List.mem_of_getElem? hx
    obtain ⟨jg, jy⟩ := j1 i (iz r x) (by rw [List.getElem?_map, hx]; rfl)
    refine .inr ⟨jg, fun H3 => ∃ F3 ys, Same F1 F3 ∧ OkF fr (cL D s ys :: Θ1) F3 H3 ∧ Paired R ((xs.take (i + 1)).filter pr) ys, fun H3 p => ⟨xs.length - (i + 1), by omega, rfl, hlt, p⟩, fun v H3 y => ?_⟩
    obtain ⟨F3, e1, e2, e3, e4, e5⟩ := jy v H3 y
    have ok3 := ok2.grow e2 e1 e3 e4
    have s3 := s2.trans e1
    refine tg x (L2.wipe σ vs) F3 H3 v ok3.fh ((env.mono (s1.trans s3)).wipe vs) e5 _ fun σ2 env2 hw => ⟨?_, ?_⟩
    · rw [hw, wipe_idem]
    · have et : (xs.take (i + 1)).filter pr = (xs.take i).filter pr ++ if pr x = true then [x] else [] := by
        rw [take_more hx, List.filter_append, List.filter_cons]
        rfl
      refine ht x hm _ σ2 F3 H3 ok3 env2 _ fun b Θ2 ⟨e6, e7⟩ F4 H4 s4 ok4 => ?_
      subst e6 e7
      by_cases hb : pr x = true
      · rw [if_pos hb]
        rw [if_pos hb] at et
        refine he x hm hb _ σ2 F4 H4 ok4 (env2.mono s4) _ fun p Θ3 ⟨e8, y, hR, e9⟩ u F5 H5 s5 ok5 hp => ?_
        subst e8 e9
        obtain ⟨_, ⟨o, h2, acc, rfl, h4⟩, _⟩ := ok5.ce _ (List.mem_cons_self ..)
        have ok6 := ok5.mut (i := 0) (c := cL D s ys) (c' := cL D s (ys ++ [y])) (o := .lst (acc ++ [u])) rfl rfl rfl ⟨_, rfl, PySem.Paired.snoc h4 hp⟩
        refine ⟨acc, h2, ?_, F5, ys ++ [y], (s3.trans s4).trans s5, ok6, ?_⟩
        · rw [Paired.len h4, ← Paired.len py]
          have := List.length_filter_le pr (xs.take i)
          rw [List.length_take] at this
          exact small1000 (by omega)
        · rw [et]
          exact PySem.Paired.snoc py hR
      · rw [if_neg hb]
        rw [if_neg hb, List.append_nil] at et
        exact ⟨F4, ys, s3.trans s4, ok4, by rw [et]; exact py⟩
  · have e : i = xs.length := by omega
    subst e
    rw [List.take_length] at py
    obtain ⟨_, ⟨o, h2, acc, rfl, h4⟩, _⟩ := ok2.ce _ (List.mem_cons_self ..)
    have ok3 := ok2.frz (i := 0) (c := cL D s ys) rfl rfl h2
    have sD : Same F2 (upd F2 D (.lst acc)) := same_upd (ok2.ce _ (List.mem_cons_self ..)).1
    refine .inl ⟨by rw [List.length_map] at j2; exact j2, q _ _ (k ys py) _ _ H' ((s1.trans s2).trans sD) ok3 ⟨D, acc, rfl, upd_same, Paired.imp2 (fun _ _ h => s.mono sD h) h4⟩⟩
theorem paired_map {α β : Type} {f : α → β} : ∀ {xs : List α} {ys : List β}, Paired (fun x y => y = f x) xs ys → ys = xs.map f
  | _, _, .nil => rfl
  | _, _, .cons h r => by rw [h, paired_map r]; rfl
theorem we_lc {α β : Type} {r : Rep α} {s : Rep β} {xs : List α} {pr : α → Bool} {f : α → β} {wi : TI} {g : TG} {tt : TT} {te : TE} {vs : List Nat} {Γ2 : α → Gam}
    (it : Wi fr Γ Θ wi fun its Θ1 => its = xs.map (iz r) ∧ Θ1 = Θ) (hl : xs.length ≤ 1000) (tg : ∀ x, TgR g vs (iz r x) (wipeG Γ vs) (Γ2 x)) (ht : ∀ x ∈ xs, ∀ c, Et fr (Γ2 x) (c :: Θ) tt (pr x))
    (he : ∀ x ∈ xs, pr x = true → ∀ c, Ev fr (Γ2 x) (c :: Θ) te (iz s (f x))) (k : K (iz (zL s) ((xs.filter pr).map f)) Θ) : We fr Γ Θ (tLc wi g tt te vs) K :=
  we_lcR (R := fun x y => y = f x) it hl tg ht (fun x hx hp c => (he x hx hp c).imp fun p Θ' ⟨e1, e2⟩ => ⟨e2, f x, rfl, e1⟩) fun ys h => by
    rw [paired_map h]
    exact k
theorem wt_yes {K : Bool → List Cel → Prop} (k : K true Θ) : Wt fr Γ Θ tYes K := fun σ F H ok env Q q => q true Θ k F H (Same.refl F) ok
end
end L2
set_option Elab.async false
set_option linter.all false
set_option maxRecDepth 100000
set_option maxHeartbeats 4000000
namespace L2
open PySem PySem.Spec PyProof.Rows PySem.HErr
/-- an error: its class, its fields -/
structure Er where
  C : Addr
  fs : List (Str × Vp)
def FsOk (F : Hp) (fs : List (Str × Vp)) (us : List (Str × V)) : Prop := Paired (fun (x : Str × Vp) (y : Str × V) => x.1 = y.1 ∧ x.2.p F y.2) fs us
theorem FsOk.mono {F F' : Hp} {fs : List (Str × Vp)} {us : List (Str × V)} (h : FsOk F fs us) (e : Same F F') : FsOk F' fs us := Paired.imp2 (fun x _ ⟨h1, h2⟩ => ⟨h1, x.2.mono e h2⟩) h
theorem FsOk.look {F : Hp} {f : Str} {p : Vp} : ∀ {fs : List (Str × Vp)} {us : List (Str × V)}, FsOk F fs us → fs.lookup f = some p → ∃ v, us.lookup f = some v ∧ p.p F v
  | _, _, .nil, h => by cases h
  | (a, q) :: fs, (b, u) :: us, .cons ⟨h1, h2⟩ r, h => by
    have h1 : a = b := h1
    subst h1
    rw [List.lookup_cons] at h ⊢
    cases e : (f == a) with
    | true =>
      rw [e] at h
      cases h
      exact ⟨u, rfl, h2⟩
    | false =>
      rw [e] at h
      exact FsOk.look r h
def Kr (fr : Fr) (Γ : Gam) (Θ : List Cel) (W : WX) (e : Er) : Prop := ∀ σ F H, OkF fr Θ F H → EnvF Γ σ F → ∀ d us, F d = some (.xd us) → FsOk F e.fs us → W (.ref e.C) (some d) σ H
/-- what a def raises -/
def Rse (fr : Fr) (E : XK) (err : Er → Prop) : Prop := ∀ e, err e → ∀ Θ F H d us, OkF fr Θ F H → F d = some (.xd us) → FsOk F e.fs us → E (.ref e.C) (some d) H
/-- what a def returns -/
def Ret (fr : Fr) (Q : VK) (out : Vp → Prop) : Prop := ∀ p, out p → ∀ Θ, Rt fr Θ Q p
def Sps (fr : Fr) (Γ : Gam) (Θ : List Cel) (sp : Sp) (E : L2.St → XK) (ps : List Vp) (K : Vp → List Cel → Prop) : Prop := ∀ σ F H vs, OkF fr Θ F H → EnvF Γ σ F → Paired (fun (p : Vp) v => p.p F v) ps vs → ∀ Q, Kq fr F K Q → sp vs H Q (E σ)
section
variable {fr : Fr} {Γ Γ' : Gam} {Θ : List Cel} {F F' H H' : Hp} {K : Vp → List Cel → Prop} {Q : VK}
theorem Rse.fine {fr' : Fr} {E : XK} {err : Er → Prop} (h : Rse fr E err) (l : FrLe fr fr') : Rse fr' E err := fun e he Θ F H d us ok => h e he Θ F H d us (ok.le l)
theorem Ret.fine {fr' : Fr} {out : Vp → Prop} (h : Ret fr Q out) (l : FrLe fr fr') : Ret fr' Q out := fun p hp Θ => (h p hp Θ).fine l
theorem we_callE {sp : Sp} {E : XK} {t : TA} (w : Wa fr Γ Θ t fun ps Θ1 => Sps fr Γ Θ1 sp (fun _ => E) ps K) : We fr Γ Θ (tCall sp [] E t) K := fun σ F H ok env Q q =>
  w σ F H ok env _ fun ps Θ1 k vs F1 H1 s1 ok1 hps => by
    rw [List.append_nil]
    exact k σ F1 H1 vs ok1 (env.mono s1) hps Q (q.mono s1)
theorem we_callS {sp : Sp} {E : L2.St → XK} {t : TA} (w : Wa fr Γ Θ t fun ps Θ1 => Sps fr Γ Θ1 sp E ps K) : We fr Γ Θ (tCallS sp E t) K := fun σ F H ok env Q q =>
  w σ F H ok env _ fun ps Θ1 k vs F1 H1 s1 ok1 hps => k σ F1 H1 vs ok1 (env.mono s1) hps Q (q.mono s1)
/-- an instance of the class at C, m no field of its own -/
def InsP (fr : Fr) (Θ : List Cel) (p : Vp) (C : Addr) (m : Str) : Prop := ∀ F H v, OkF fr Θ F H → p.p F v → ∃ a dx fs, v = .ref a ∧ H a = some (.ins C dx fs) ∧ fs.lookup m = none
theorem we_met {C : Addr} {m : Str} {sp : Sp} {E : L2.St → XK} {ta : TE} {t : TA} (w : We fr Γ Θ ta fun p Θ1 => InsP fr Θ1 p C m ∧ Wa fr Γ Θ1 t fun ps Θ2 => Sps fr Γ Θ2 sp E (p :: ps) K) : We fr Γ Θ (tMetD C m sp E ta t) K := fun σ F H ok env Q q =>
  w σ F H ok env _ fun p Θ1 ⟨ki, k⟩ v F1 H1 s1 ok1 hp => by
    obtain ⟨a, dx, fs, rfl, h2, h3⟩ := ki F1 H1 v ok1 hp
    exact ⟨a, dx, fs, rfl, h2, h3, k σ F1 H1 ok1 (env.mono s1) _ fun ps Θ2 k2 vs F2 H2 s2 ok2 hps => k2 σ F2 H2 _ ok2 ((env.mono s1).mono s2) (.cons (p.mono s2 hp) hps) Q (q.mono (s1.trans s2))⟩
def Post (F H : Hp) (Q : VK) (out : Vp → Prop) : Prop := ∀ p, out p → ∀ v F' H', Same H H' → Same F F' → Same F' H' → Newer F H F' → p.p F' v → Q v H'
def PErs (F H : Hp) (E : XK) (err : Er → Prop) : Prop := ∀ e, err e → ∀ F' H' d us, Same H H' → Same F F' → Same F' H' → Newer F H F' → F' d = some (.xd us) → FsOk F' e.fs us → E (.ref e.C) (some d) H'
abbrev Pre := List Vp → (Vp → Prop) → (Er → Prop) → Prop
def spA (pre : Pre) : Sp := fun vs H Q E => ∃ F ps out err, Same F H ∧ Paired (fun (p : Vp) v => p.p F v) ps vs ∧ pre ps out err ∧ Post F H Q out ∧ PErs F H E err
theorem sps_A {pre : Pre} {E : L2.St → XK} {ps : List Vp} {out : Vp → Prop} {err : Er → Prop} (hp : pre ps out err) (k : ∀ p, out p → K p Θ) (x : ∀ e, err e → Kr fr Γ Θ (fun cls d σ H => E σ cls d H) e) : Sps fr Γ Θ (spA pre) E ps K := fun σ F H vs ok env hps Q q =>
  ⟨F, ps, out, err, ok.fh, hps, hp, fun p ho v F' H' hh ff fh nw h => q p Θ (k p ho) v F' H' ff (ok.grow hh ff fh nw) h,
    fun e he F' H' d us hh ff fh nw hd hf => x e he σ F' H' (ok.grow hh ff fh nw) (env.mono ff) d us hd hf⟩
/-- nothing is raised -/
def noErr : Er → Prop := fun _ => False
theorem OkF.post (ok : OkF ⟨F, H, []⟩ Θ F' H') : Same H H' ∧ Same F F' ∧ Same F' H' ∧ Newer F H F' := ⟨fun a o h => ok.h0 a o (by simp) h, ok.f0, ok.fh, ok.nw⟩
theorem Post.ret {out : Vp → Prop} (h : Post F H Q out) : Ret ⟨F, H, []⟩ Q out := fun p hp Θ v F' H' ok hv => by
  obtain ⟨a, b, c, d⟩ := ok.post
  exact h p hp v F' H' a b c d hv
theorem PErs.rse {E : XK} {err : Er → Prop} (h : PErs F H E err) : Rse ⟨F, H, []⟩ E err := fun e he Θ F' H' d us ok hd hf => by
  obtain ⟨a, b, c, n⟩ := ok.post
  exact h e he F' H' d us a b c n hd hf
def envOf (N : List Str) (ps : List Vp) : Gam := ps.map some ++ List.replicate (N.length - ps.length) none
theorem env_start {N : List Str} {ps : List Vp} {vs : List V} (h : Paired (fun (p : Vp) v => p.p F v) ps vs) : EnvF (envOf N ps) (start N vs) F := by
  unfold envOf start
  rw [Paired.len h]
  refine Paired.app ?_ ?_
  · induction h with
    | nil => exact .nil
    | cons a _ ih => exact .cons (fun p hp => by cases hp; exact ⟨_, rfl, a⟩) ih
  · have : ∀ n : Nat, Paired (fun (e : Option Vp) (s : Option V) => ∀ p, e = some p → ∃ v, s = some v ∧ p.p F v) (List.replicate n none) (List.replicate n none) := fun n => by
      induction n with
      | zero => exact .nil
      | succ n ih => exact .cons (fun p hp => by cases hp) ih
    exact this _
end
section
variable {P : Program} {w : World} {K : PySem.W.Frag} {mg : Str → Option Value} {base : Heap} {x m qual : Str} {C : Addr} {st : Stmt} {N ps : List Str} {k : Nat} {pre : Pre}
theorem Src.okA (F : Src K mg x st ps) (S : FnScope N ps (defScope st)) (len : ∀ qs out err, pre qs out err → qs.length = ps.length)
    (hbody : ∀ (f : Addr) (cdv : Value) (A : Around) (outer : List Env) (s : Shared) (H : Hp) (E : XK) (qs : List Vp) (out : Vp → Prop) (err : Er → Prop), Room k (A.deeper (envOfC x (defScope st) s.heap.objs.size f cdv)) → pre qs out err →
      ∃ t, PSs (cxOf CX0 P w K mg base N x (defScope st) f cdv A outer s H E).nox (defBody st) t ∧ ∀ fr Q, Ret fr Q out → Kn fr (envOf N qs) [] (t { nx := fun _ H' => Q .non H', rt := Q })) : Def P w K mg base CX0 (k + 1) x ps (spA pre) := by
  refine F.ok S (fun vs H Q E h => ?_) (fun f cdv A outer s H vs Q E hr h => ?_)
  · obtain ⟨F, qs, out, err, _, h2, h3, _⟩ := h
    rw [← Paired.len h2]
    exact len _ _ _ h3
  · obtain ⟨F, qs, out, err, h1, h2, h3, h4, h5⟩ := h
    obtain ⟨t, ht, hk⟩ := hbody f cdv A outer s H E qs out err hr h3
    exact ⟨t, ht, hk _ Q h4.ret _ F H (OkF.start h1) (env_start h2)⟩
theorem Src.okAX (F : Src K mg x st ps) (S : FnScope N ps (defScope st)) (len : ∀ qs out err, pre qs out err → qs.length = ps.length)
    (hbody : ∀ (f : Addr) (cdv : Value) (A : Around) (outer : List Env) (s : Shared) (H : Hp) (E : XK) (qs : List Vp) (out : Vp → Prop) (err : Er → Prop), Room k (A.deeper (envOfC x (defScope st) s.heap.objs.size f cdv)) → pre qs out err →
      ∃ t, PSs (cxOf (L2.CX P w) P w K mg base N x (defScope st) f cdv A outer s H E) (defBody st) t ∧ ∀ fr Q, Ret fr Q out → Rse fr E err → Kn fr (envOf N qs) [] (t { nx := fun _ H' => Q .non H', rt := Q })) : Def P w K mg base (L2.CX P w) (k + 1) x ps (spA pre) := by
  refine F.okX S (fun vs H Q E h => ?_) (fun f cdv A outer s H vs Q E hr h => ?_)
  · obtain ⟨F, qs, out, err, _, h2, h3, _⟩ := h
    rw [← Paired.len h2]
    exact len _ _ _ h3
  · obtain ⟨F, qs, out, err, h1, h2, h3, h4, h5⟩ := h
    obtain ⟨t, ht, hk⟩ := hbody f cdv A outer s H E qs out err hr h3
    exact ⟨t, ht, hk _ Q h4.ret h5.rse _ F H (OkF.start h1) (env_start h2)⟩
theorem SrcM.okA (F : SrcM K C m qual st ps) (S : FnScope N ps (defScope st)) (len : ∀ qs out err, pre qs out err → qs.length = ps.length)
    (hbody : ∀ (f : Addr) (cdv : Value) (A : Around) (outer : List Env) (s : Shared) (H : Hp) (E : XK) (qs : List Vp) (out : Vp → Prop) (err : Er → Prop), Room k (A.deeper (envOfC qual (defScope st) s.heap.objs.size f cdv)) → pre qs out err →
      ∃ t, PSs (cxOf CX0 P w K mg base N qual (defScope st) f cdv A outer s H E).nox (defBody st) t ∧ ∀ fr Q, Ret fr Q out → Kn fr (envOf N qs) [] (t { nx := fun _ H' => Q .non H', rt := Q })) : DefM P w K mg base CX0 (k + 1) C m ps (spA pre) := by
  refine F.ok S (fun vs H Q E h => ?_) (fun f cdv A outer s H vs Q E hr h => ?_)
  · obtain ⟨F, qs, out, err, _, h2, h3, _⟩ := h
    rw [← Paired.len h2]
    exact len _ _ _ h3
  · obtain ⟨F, qs, out, err, h1, h2, h3, h4, h5⟩ := h
    obtain ⟨t, ht, hk⟩ := hbody f cdv A outer s H E qs out err hr h3
    exact ⟨t, ht, hk _ Q h4.ret _ F H (OkF.start h1) (env_start h2)⟩
theorem SrcM.okAX (F : SrcM K C m qual st ps) (S : FnScope N ps (defScope st)) (len : ∀ qs out err, pre qs out err → qs.length = ps.length)
    (hbody : ∀ (f : Addr) (cdv : Value) (A : Around) (outer : List Env) (s : Shared) (H : Hp) (E : XK) (qs : List Vp) (out : Vp → Prop) (err : Er → Prop), Room k (A.deeper (envOfC qual (defScope st) s.heap.objs.size f cdv)) → pre qs out err →
      ∃ t, PSs (cxOf (L2.CX P w) P w K mg base N qual (defScope st) f cdv A outer s H E) (defBody st) t ∧ ∀ fr Q, Ret fr Q out → Rse fr E err → Kn fr (envOf N qs) [] (t { nx := fun _ H' => Q .non H', rt := Q })) : DefM P w K mg base (L2.CX P w) (k + 1) C m ps (spA pre) := by
  refine F.okX S (fun vs H Q E h => ?_) (fun f cdv A outer s H vs Q E hr h => ?_)
  · obtain ⟨F, qs, out, err, _, h2, h3, _⟩ := h
    rw [← Paired.len h2]
    exact len _ _ _ h3
  · obtain ⟨F, qs, out, err, h1, h2, h3, h4, h5⟩ := h
    obtain ⟨t, ht, hk⟩ := hbody f cdv A outer s H E qs out err hr h3
    exact ⟨t, ht, hk _ Q h4.ret h5.rse _ F H (OkF.start h1) (env_start h2)⟩
end
section
variable {fr : Fr} {Γ Γ' : Gam} {Θ : List Cel} {F F' H H' : Hp} {K : Vp → List Cel → Prop} {Q : VK}
theorem kr_E {E : XK} {err : Er → Prop} {e : Er} (h : Rse fr E err) (he : err e) : Kr fr Γ Θ (fun cls d _ H => E cls d H) e := fun σ F H ok env d us hd hf => h e he Θ F H d us ok hd hf
theorem zip_ok {fs : List Str} {ps : List Vp} {vs : List V} (h : Paired (fun (p : Vp) v => p.p F v) ps vs) : ∀ {fs : List Str}, Paired (fun (x : Str × Vp) (y : Str × V) => x.1 = y.1 ∧ x.2.p F y.2) (fs.zip ps) (fs.zip vs) := fun {fs} => by
  induction h generalizing fs with
  | nil => rw [List.zip_nil_right, List.zip_nil_right]; exact .nil
  | cons a _ ih => cases fs with
    | nil => exact .nil
    | cons f fs => exact .cons ⟨rfl, a⟩ ih
theorem Paired.rev {α β : Type} {R : α → β → Prop} {l : List α} {m : List β} (h : Paired R l m) : Paired R l.reverse m.reverse := by
  induction h with
  | nil => exact .nil
  | cons a _ ih => rw [List.reverse_cons, List.reverse_cons]; exact PySem.Paired.snoc ih a
theorem kn_raise {tm : Bool} {C : Addr} {fs : List Str} {W : WX} {ta : TA} {D : Ends} (w : Wa fr Γ Θ ta fun ps Θ1 => ps.length = fs.length ∧ (tm = true → ∃ z r, ps = iz zS z :: r ∧ z.length ≤ 1000) ∧ Kr fr Γ Θ1 W ⟨C, (fs.zip ps).reverse⟩) : Kn fr Γ Θ (tRaiseE tm C fs W ta D) := fun σ F H ok env =>
  w σ F H ok env _ fun ps Θ1 ⟨hl, ht, k⟩ vs F1 H1 s1 ok1 hps => by
    refine ⟨by rw [← Paired.len hps]; exact hl, fun h => ?_, fun d nd => ?_⟩
    · obtain ⟨z, r, e, hz⟩ := ht h
      subst e
      cases hps with
      | cons a b => exact ⟨z, _, by rw [a.1], hz⟩
    · have s2 := ok1.sameF (o := .xd (fs.zip vs).reverse) nd
      exact k σ _ _ (ok1.new nd) ((env.mono s1).mono s2) d _ upd_same (Paired.rev (zip_ok (fs := fs) (ps_mono s2 hps)))
def FldR (Kf : PySem.W.Frag) (f : Str) (p q : Vp) : Prop := ∀ F v, p.p F v → ∃ a C dx fs u, v = .ref a ∧ F a = some (.ins C dx fs) ∧ Cls Kf C ∧ NoAttr Kf C f ∧ fs.lookup f = some u ∧ q.p F u
/-- the field f of p is q -/
def FldP (fr : Fr) (Θ : List Cel) (Kf : PySem.W.Frag) (f : Str) (p q : Vp) : Prop := ∀ F H v, OkF fr Θ F H → p.p F v → ∃ a C dx fs u, v = .ref a ∧ H a = some (.ins C dx fs) ∧ Cls Kf C ∧ NoAttr Kf C f ∧ fs.lookup f = some u ∧ q.p F u
theorem FldR.p {Kf : PySem.W.Frag} {f : Str} {p q : Vp} (h : FldR Kf f p q) : FldP fr Θ Kf f p q := fun F H v ok hv => by
  obtain ⟨a, C, dx, fs, u, h1, h2, h3, h4, h5, h6⟩ := h F v hv
  exact ⟨a, C, dx, fs, u, h1, ok.fh _ _ h2, h3, h4, h5, h6⟩
theorem we_fld {Kf : PySem.W.Frag} {f : Str} {ta : TE} (w : We fr Γ Θ ta fun p Θ1 => ∃ q, FldP fr Θ1 Kf f p q ∧ K q Θ1) : We fr Γ Θ (tFld Kf ta f) K := fun σ F H ok env Q k =>
  w σ F H ok env _ fun p Θ1 ⟨q, hf, kk⟩ v F1 H1 s1 ok1 hp => by
    obtain ⟨a, C, dx, fs, u, h1, h2, h3, h4, h5, h6⟩ := hf F1 H1 v ok1 hp
    exact ⟨a, C, dx, fs, u, h1, h2, h3, h4, h5, k q Θ1 kk u F1 H1 s1 ok1 h6⟩
theorem ty_cell {α : Type} {r : Rep α} {xs : List α} {a : Addr} {Kf : PySem.W.Frag} (hc : cL a r xs ∈ Θ) : ∀ F H v, OkF fr Θ F H → (zAt a).p F v → tyV Kf "list" v H := fun F H v ok hv => by
  have hv : v = .ref a := hv
  subst hv
  obtain ⟨_, ⟨o, h2, vs, rfl, h4⟩, _⟩ := ok.ce _ hc
  exact .inl ⟨rfl, vs, SqL.of h2⟩
theorem mts_append {α : Type} {r : Rep α} {xs : List α} {x : α} {a : Addr} {j : Nat} (hj : Θ[j]? = some (cL a r xs)) (hl : xs.length < 1000) (k : K zNon (Θ.set j (cL a r (xs ++ [x])))) : Mts fr Θ rAppend (zAt a) [iz r x] K := fun F H v vs ok hv hps Q q => by
  have hv : v = .ref a := hv
  subst hv
  obtain ⟨_, ⟨o, h2, us, rfl, h4⟩, _⟩ := ok.ce _ (List.mem_of_getElem? hj)
  cases hps with
  | cons h1 hp => cases hp with
    | nil => exact ⟨a, us, _, rfl, rfl, h2, by rw [Paired.len h4]; exact small1000 (Nat.le_of_lt hl), q _ _ k _ F _ (Same.refl F) (ok.mut hj rfl rfl ⟨_, rfl, PySem.Paired.snoc h4 h1⟩) rfl⟩
/-- xs.append(e) -/
theorem kn_append {Kf : PySem.W.Frag} {α : Type} {r : Rep α} {xs : List α} {a : Addr} {i : Nat} {te : TE} {D : Ends} (hi : Γ[i]? = some (some (zAt a))) (hc : cL a r xs ∈ Θ)
    (w : We fr Γ Θ te fun p Θ1 => ∃ x j, p = iz r x ∧ Θ1[j]? = some (cL a r xs) ∧ xs.length < 1000 ∧ Kn fr Γ (Θ1.set j (cL a r (xs ++ [x]))) D.nx) : Kn fr Γ Θ (tDrop (tBM Kf "list" rAppend (tVar i) (tCons te tNil)) D) :=
  kn_drop (we_bm (we_var hi ⟨ty_cell hc, wa_cons (w.imp fun p Θ1 ⟨x, j, e, hj, hl, k⟩ => wa_nil (by
    subst e
    exact mts_append hj hl k))⟩))
class Dat {α : Type} (r : Rep α) where
  enc : α → PyData
  dep : Nat
  dp : ∀ {Kf : PySem.W.Frag} {F : Hp} {v : V} {x : α}, r.p F v x → Dp Kf F v (enc x)
  ok : ∀ {F : Hp} {v : V} {x : α}, r.p F v x → nb (enc x) = true
  dl : ∀ x : α, (enc x).depth ≤ dep
  inj : ∀ {x y : α}, enc x = enc y → x = y
instance : Dat zI := ⟨PyData.int, 0, fun h => by cases (show _ = V.int _ from h); exact .int _, fun _ => rfl, fun _ => by simp [PyData.depth], fun h => PyData.int.inj h⟩
instance : Dat zS := ⟨PyData.str, 0, fun h => by cases h.1; exact .str _, fun h => h.2.ok, fun _ => by simp [PyData.depth], fun h => PyData.str.inj h⟩
theorem map_inj' {α β : Type} {f : α → β} (hf : ∀ x y, f x = f y → x = y) : ∀ {l m : List α}, l.map f = m.map f → l = m
  | [], [], _ => rfl
  | [], _ :: _, h => by cases h
  | _ :: _, [], h => by cases h
  | a :: l, b :: m, h => by
    rw [List.map_cons, List.map_cons, List.cons.injEq] at h
    rw [hf _ _ h.1, map_inj' hf h.2]
theorem dat_all {α : Type} {r : Rep α} [d : Dat r] {Kf : PySem.W.Frag} {vs : List V} {xs : List α} (h : PVs r F vs xs) : DpAll Kf F vs (xs.map d.enc) := by
  induction h with
  | nil => exact .nil
  | cons a _ ih => exact .cons (d.dp a) ih
theorem dat_nb {α : Type} {r : Rep α} [d : Dat r] {vs : List V} {xs : List α} (h : PVs r F vs xs) : nbAll (xs.map d.enc) = true := by
  induction h with
  | nil => rfl
  | cons a _ ih => show (nb _ && nbAll _) = true; rw [d.ok a, ih]; rfl
theorem dat_dep {α : Type} {r : Rep α} [d : Dat r] (xs : List α) : PyData.depthAll (xs.map d.enc) ≤ d.dep := depthAll_le fun y hy => by
  obtain ⟨x, _, rfl⟩ := List.mem_map.mp hy
  exact d.dl x
instance {α : Type} {r : Rep α} [d : Dat r] : Dat (zL r) := ⟨fun xs => .list (xs.map d.enc), d.dep + 1, fun ⟨a, vs, h1, h2, h3⟩ => by subst h1; exact .lst (SqL.of h2) (dat_all h3), fun ⟨a, vs, h1, h2, h3⟩ => dat_nb h3, fun xs => by
  have := dat_dep (r := r) xs
  simp only [PyData.depth]
  omega, fun h => map_inj' (fun _ _ => d.inj) (PyData.list.inj h)⟩
instance {α : Type} [TNar α] {r : Rep α} [d : Dat r] : Dat (zT r) := ⟨fun xs => .tuple (xs.map d.enc), d.dep + 1, fun ⟨a, vs, h1, h2, h3⟩ => by subst h1; exact .tup (h2.sq (Same.refl _)) (dat_all h3), fun ⟨a, vs, h1, h2, h3⟩ => dat_nb h3, fun xs => by
  have := dat_dep (r := r) xs
  simp only [PyData.depth]
  omega, fun h => map_inj' (fun _ _ => d.inj) (PyData.tuple.inj h)⟩
instance {α β : Type} {r : Rep α} {s : Rep β} [d : Dat r] [e : Dat s] : Dat (z2 r s) := ⟨fun x => .tuple [d.enc x.1, e.enc x.2], d.dep + e.dep + 1, fun ⟨a, u, w, h1, h2, h3, h4⟩ => by subst h1; exact .tup (SqT.of h2) (.cons (d.dp h3) (.cons (e.dp h4) .nil)),
  fun ⟨a, u, w, h1, h2, h3, h4⟩ => by show (nb _ && (nb _ && true)) = true; rw [d.ok h3, e.ok h4]; rfl, fun x => by
    have h1 := d.dl x.1
    have h2 := e.dl x.2
    simp only [PyData.depth, PyData.depthAll]
    omega, fun {x y} h => by
    have h := PyData.tuple.inj h
    rw [List.cons.injEq, List.cons.injEq] at h
    exact Prod.ext (d.inj h.1) (e.inj h.2.1)⟩
instance {α β γ : Type} {r : Rep α} {s : Rep β} {t : Rep γ} [d : Dat r] [e : Dat s] [f : Dat t] : Dat (z3 r s t) := ⟨fun x => .tuple [d.enc x.1, e.enc x.2.1, f.enc x.2.2], d.dep + e.dep + f.dep + 1, fun ⟨a, u, w, z, h1, h2, h3, h4, h5⟩ => by subst h1; exact .tup (SqT.of h2) (.cons (d.dp h3) (.cons (e.dp h4) (.cons (f.dp h5) .nil))),
  fun ⟨a, u, w, z, h1, h2, h3, h4, h5⟩ => by show (nb _ && (nb _ && (nb _ && true))) = true; rw [d.ok h3, e.ok h4, f.ok h5]; rfl, fun x => by
    have h1 := d.dl x.1
    have h2 := e.dl x.2.1
    have h3 := f.dl x.2.2
    simp only [PyData.depth, PyData.depthAll]
    omega, fun {x y} h => by
    have h := PyData.tuple.inj h
    rw [List.cons.injEq, List.cons.injEq, List.cons.injEq] at h
    exact Prod.ext (d.inj h.1) (Prod.ext (e.inj h.2.1) (f.inj h.2.2.1))⟩
theorem dat_eqv {α : Type} [DecidableEq α] {r : Rep α} [d : Dat r] {v w : V} {x y : α} (hv : r.p F v x) (hw : r.p F w y) : PyData.eqv (d.enc x) (d.enc y) = decide (x = y) := by
  have h := eqv_nb (d.enc x) (d.enc y) (d.ok hv) (d.ok hw)
  by_cases e : x = y
  · rw [decide_eq_true e, h, e]
  · rw [decide_eq_false e]
    cases q : PyData.eqv (d.enc x) (d.enc y) with
    | false => rfl
    | true => exact absurd (d.inj (h.mp q)) e
theorem Dp.up {Kf : PySem.W.Frag} {v : V} {d : PyData} (h : Dp Kf F v d) (e : Same F H) : Dp Kf H v d := Dp.keep e d v h
theorem ops_eqD {Kf : PySem.W.Frag} {α : Type} [DecidableEq α] {r : Rep α} [d : Dat r] {x y : α} (hd : d.dep ≤ 64) (k : K (iz zB (decide (x = y))) Θ) : Ops fr Θ (rEqD Kf) (iz r x) (iz r y) K := fun F H v w ok hv hw Q q => by
  refine ⟨d.enc x, d.enc y, (d.dp hv).up ok.fh, (d.dp hw).up ok.fh, shaped_of (d.ok hv) (Nat.le_trans (d.dl x) hd), shaped_of (d.ok hw) (Nat.le_trans (d.dl y) hd), ?_⟩
  rw [dat_eqv (r := r) hv hw]
  exact q.go k ok rfl
theorem ops_neD {Kf : PySem.W.Frag} {α : Type} [DecidableEq α] {r : Rep α} [d : Dat r] {x y : α} (hd : d.dep ≤ 64) (k : K (iz zB (!decide (x = y))) Θ) : Ops fr Θ (rNeD Kf) (iz r x) (iz r y) K := fun F H v w ok hv hw Q q => by
  refine ⟨d.enc x, d.enc y, (d.dp hv).up ok.fh, (d.dp hw).up ok.fh, shaped_of (d.ok hv) (Nat.le_trans (d.dl x) hd), shaped_of (d.ok hw) (Nat.le_trans (d.dl y) hd), ?_⟩
  rw [dat_eqv (r := r) hv hw]
  exact q.go k ok rfl
theorem OkF.growB {b l : Addr} {own : Bool} (k : OkF fr Θ F H) (hc : cBox own b l ∈ Θ) (hh : SameB b H H') (hb : ∃ o, H' b = some o ∧ (cBox own b l).φ F' o) (ff : Same F F') (fh : Same F' H') (fb : F' b = none) (nw : Newer F H F') : OkF fr Θ F' H' := by
  obtain ⟨i, hi⟩ := List.getElem?_of_mem hc
  obtain ⟨c1, ⟨o1, c2, c3⟩, c4⟩ := k.ce _ hc
  refine ⟨fh, k.f0.trans ff, fun a o h => ?_, fun a o hB h => ?_, fun a o h => ?_, k.nd, fun c hm => ?_⟩
  · exact k.nwr ff h (nw a o h)
  · have ne : a ≠ b := fun e => by
      have c4 : (if own = true then fr.H0 b = none else b ∈ fr.B) := c4
      cases own with
      | true =>
        rw [if_pos rfl] at c4
        rw [e, c4] at h
        cases h
      | false =>
        rw [if_neg Bool.false_ne_true] at c4
        rw [e] at hB
        exact hB c4
    exact hh a o ne (k.h0 a o hB h)
  · by_cases e : a = b
    · obtain ⟨o', h', _⟩ := hb
      exact ⟨o', by rw [e]; exact h'⟩
    · obtain ⟨o', h'⟩ := k.al a o h
      exact ⟨o', hh a o' e h'⟩
  · obtain ⟨h1, ⟨u, h2, h3⟩, h4⟩ := k.ce c hm
    by_cases e : c.a = b
    · obtain ⟨j, hj⟩ := List.getElem?_of_mem hm
      have := nodup_at k.nd hi hj e
      subst this
      rw [hi] at hj
      cases hj
      exact ⟨fb, hb, h4⟩
    · refine ⟨?_, ⟨u, hh _ _ e h2, c.mono ff h3⟩, h4⟩
      cases q : F' c.a with
      | none => rfl
      | some o =>
        rcases nw _ _ q with ⟨o', h'⟩ | h' | ⟨vs, ht⟩
        · rw [h1] at h'
          cases h'
        · rw [h2] at h'
          cases h'
        · have e1 := fh _ _ q
          rw [hh _ _ e h2] at e1
          exact (c.nt h3 ((Option.some.inj e1).trans ht)).elim
theorem box_of {b l : Addr} {own : Bool} {o : HO} (hb : H b = some o) (h : (cBox own b l).φ F o) (fh : Same F H) (fb : F b = none) : Box H b l := by
  obtain ⟨ns, i, c, r, rfl, h2, h3⟩ := h
  exact ⟨ns, i, c, r, hb, fh _ _ h2, h3, fun e => by rw [e, fb] at h2; cases h2⟩
/-- _law_next(box, many) -/
theorem sps_next {E : L2.St → XK} {b l : Addr} {own : Bool} {m : Int} (hc : cBox own b l ∈ Θ) (h0 : 0 < m) (h1 : m ≤ 10 ^ 40) (k : ∀ n : Int, 0 ≤ n → n < m → K (iz zI n) Θ) : Sps fr Γ Θ spNext E [zAt b, iz zI m] K := fun σ F H vs ok env hps Q q => by
  obtain ⟨c1, ⟨o1, c2, c3⟩, _⟩ := ok.ce _ hc
  have c1 : F b = none := c1
  have hbx := box_of (own := own) c2 c3 ok.fh c1
  cases hps with
  | cons h2 hp => cases hp with
    | cons h3 hp => cases hp with
      | nil =>
        have h2 : _ = V.ref b := h2
        have h3 : _ = V.int m := h3
        subst h2 h3
        refine ⟨b, l, m, rfl, h0, h1, hbx, fun n H' n0 n1 bx => ?_⟩
        obtain ⟨ns, i, c, r, e1, e2, e3, e4⟩ := bx.b1.ex
        obtain ⟨ns', _, _, _, _, c3', _⟩ := c3
        refine q _ _ (k n n0 n1) _ F H' (Same.refl F) (ok.growB hc bx.sm ⟨_, e1, ns', i, c, r, rfl, c3', e3⟩ (Same.refl F) (fun a o h => bx.sm a o (fun e => by rw [e, c1] at h; cases h) (ok.fh a o h)) c1 (Newer.refl _ _)) rfl
end
end L2
set_option Elab.async false
set_option linter.all false
set_option maxRecDepth 100000
set_option maxHeartbeats 4000000
namespace L2
open PySem PySem.Spec PyProof.Rows PySem.HErr
def KVs {α : Type} (r : Rep α) (F : Hp) (kvs : List (Key × V)) (rows : List (Str × α)) : Prop := Paired (fun (kv : Key × V) (x : Str × α) => kv.1 = Sum.inr x.1 ∧ r.p F kv.2 x.2) kvs rows
theorem KVs.mono {α : Type} {r : Rep α} {F F' : Hp} {kvs : List (Key × V)} {rows : List (Str × α)} (h : KVs r F kvs rows) (e : Same F F') : KVs r F' kvs rows := Paired.imp2 (fun _ _ ⟨h1, h2⟩ => ⟨h1, r.mono e h2⟩) h
/-- a dict from texts, frozen -/
def zD {α : Type} (r : Rep α) : Rep (List (Str × α)) := ⟨fun F v rows => ∃ a kvs, v = .ref a ∧ F a = some (.dK kvs) ∧ KVs r F kvs rows, fun e ⟨a, kvs, h1, h2, h3⟩ => ⟨a, kvs, h1, e _ _ h2, h3.mono e⟩⟩
/-- a dict from texts, one's own -/
def cD {α : Type} (a : Addr) (r : Rep α) (rows : List (Str × α)) : Cel := ⟨a, true, fun F o => ∃ kvs, o = .dK kvs ∧ KVs r F kvs rows, fun e ⟨kvs, h1, h2⟩ => ⟨kvs, h1, h2.mono e⟩, fun h e => by subst e; simp at h⟩
/-- the value by a key -/
def getR {α : Type} (rows : List (Str × α)) (n : Str) : Option α := (rows.find? fun x => decide (x.1 = n)).map (·.2)
theorem getR_mem {α : Type} {rows : List (Str × α)} {n : Str} {x : α} (h : getR rows n = some x) : (n, x) ∈ rows := by
  unfold getR at h
  obtain ⟨y, hy, e⟩ := Option.map_eq_some_iff.mp h
  have h1 := List.mem_of_find?_eq_some hy
  have h2 : decide (y.1 = n) = true := List.find?_some (p := fun (x : Str × α) => decide (x.1 = n)) hy
  have h2 := of_decide_eq_true h2
  subst h2 e
  exact h1
theorem getR_none {α : Type} {rows : List (Str × α)} {n : Str} : getR rows n = none ↔ n ∉ rows.map (·.1) := by
  unfold getR
  rw [Option.map_eq_none_iff, List.find?_eq_none]
  constructor
  · intro h q
    obtain ⟨y, hy, e⟩ := List.mem_map.mp q
    exact h y hy (by simp [e])
  · intro h y hy q
    exact h (List.mem_map.mpr ⟨y, hy, of_decide_eq_true q⟩)
theorem getR_nodup {α : Type} {rows : List (Str × α)} (hn : (rows.map (·.1)).Nodup) {n : Str} {x : α} (h : (n, x) ∈ rows) : getR rows n = some x := by
  cases e : getR rows n with
  | none => exact absurd (List.mem_map.mpr ⟨_, h, rfl⟩) (getR_none.mp e)
  | some y =>
    have h2 := getR_mem e
    have : ∀ {l : List (Str × α)}, (l.map (·.1)).Nodup → (n, x) ∈ l → (n, y) ∈ l → y = x := by
      intro l
      induction l with
      | nil => intro _ h; cases h
      | cons a l ih =>
        intro hn h1 h2
        rw [List.map_cons, List.nodup_cons] at hn
        rcases List.mem_cons.mp h1 with h1 | h1
        · rcases List.mem_cons.mp h2 with h2 | h2
          · rw [← h1] at h2
            exact (Prod.mk.inj h2).2
          · exact absurd (List.mem_map.mpr ⟨_, h2, by rw [← h1]⟩) hn.1
        · rcases List.mem_cons.mp h2 with h2 | h2
          · exact absurd (List.mem_map.mpr ⟨_, h1, by rw [← h2]⟩) hn.1
          · exact ih hn.2 h1 h2
    rw [this hn h h2]
section
variable {fr : Fr} {Γ Γ' : Gam} {Θ : List Cel} {F F' H H' : Hp} {K : Vp → List Cel → Prop} {Q : VK}
theorem KVs.val {α : Type} {r : Rep α} {n : Str} : ∀ {kvs : List (Key × V)} {rows : List (Str × α)}, KVs r F kvs rows → (∀ x, getR rows n = some x → ∃ u, valV kvs (Sum.inr n) = some u ∧ r.p F u x) ∧ (getR rows n = none → valV kvs (Sum.inr n) = none)
  | _, _, .nil => ⟨(fun x h => by cases h), fun _ => rfl⟩
  | kv :: kvs, (a, y) :: rows, .cons ⟨h1, h2⟩ hr => by
    have h1 : kv.1 = Sum.inr a := h1
    obtain ⟨ih1, ih2⟩ := KVs.val (n := n) hr
    by_cases e : a = n
    · subst e
      have e2 : getR ((a, y) :: rows) a = some y := by unfold getR; simp
      refine ⟨fun x hx => ?_, fun hx => ?_⟩
      · rw [e2] at hx
        cases hx
        exact ⟨kv.2, by rw [valV_pos h1], h2⟩
      · rw [e2] at hx
        cases hx
    · have e2 : getR ((a, y) :: rows) n = getR rows n := by unfold getR; simp [e]
      have hk : ¬ kv.1 = Sum.inr n := fun q => by rw [h1] at q; exact e (Sum.inr.inj q)
      rw [e2, valV_neg hk]
      exact ⟨ih1, ih2⟩
/-- a dict to be read -/
def DicP {α : Type} (fr : Fr) (Θ : List Cel) (p : Vp) (r : Rep α) (rows : List (Str × α)) : Prop := ∀ F H v, OkF fr Θ F H → p.p F v → ∃ a kvs, v = .ref a ∧ H a = some (.dK kvs) ∧ KVs r F kvs rows
theorem dic_D {α : Type} {r : Rep α} {rows : List (Str × α)} : DicP fr Θ (iz (zD r) rows) r rows := fun F H v ok ⟨a, kvs, h1, h2, h3⟩ => ⟨a, kvs, h1, ok.fh _ _ h2, h3⟩
theorem dic_C {α : Type} {r : Rep α} {rows : List (Str × α)} {a : Addr} (hc : cD a r rows ∈ Θ) : DicP fr Θ (zAt a) r rows := fun F H v ok hv => by
  obtain ⟨_, ⟨o, h2, kvs, rfl, h4⟩, _⟩ := ok.ce _ hc
  exact ⟨a, kvs, hv, h2, h4⟩
theorem we_dget {td ty : TE} (w : We fr Γ Θ td fun p Θ1 => We fr Γ Θ1 ty fun q Θ2 => ∃ (α : Type) (r : Rep α) (rows : List (Str × α)) (n : Str) (x : α), DicP fr Θ2 p r rows ∧ q = iz zS n ∧ getR rows n = some x ∧ K (iz r x) Θ2) : We fr Γ Θ (tDGet td ty) K := fun σ F H ok env Q q =>
  w σ F H ok env _ fun p Θ1 k v F1 H1 s1 ok1 hp => k σ F1 H1 ok1 (env.mono s1) _ fun p2 Θ2 ⟨α, r, rows, n, x, hd, e, hx, kk⟩ v2 F2 H2 s2 ok2 hp2 => by
    subst e
    obtain ⟨a, kvs, h1, h2, h3⟩ := hd F2 H2 v ok2 (p.mono s2 hp)
    obtain ⟨u, hu, hr⟩ := h3.val.1 x hx
    exact ⟨a, u, h1, .inl ⟨kvs, Sum.inr n, .inl h2, hp2.1, hu.symm⟩, q _ _ kk u F2 H2 (s1.trans s2) ok2 hr⟩
theorem opt_some {α : Type} {r : Rep α} {rows : List (Str × α)} {kvs : List (Key × V)} {n : Str} (h3 : KVs r F kvs rows) : (valV kvs (Sum.inr n)).isSome = (getR rows n).isSome := by
  cases e : getR rows n with
  | none => rw [h3.val.2 e]; rfl
  | some x =>
    obtain ⟨u, hu, _⟩ := h3.val.1 x e
    rw [hu]
    rfl
theorem we_din {td ty : TE} (w : We fr Γ Θ ty fun q Θ1 => We fr Γ Θ1 td fun p Θ2 => ∃ (α : Type) (r : Rep α) (rows : List (Str × α)) (n : Str), DicP fr Θ2 p r rows ∧ q = iz zS n ∧ K (iz zB (getR rows n).isSome) Θ2) : We fr Γ Θ (tDIn ty td) K := fun σ F H ok env Q q =>
  w σ F H ok env _ fun p Θ1 k v F1 H1 s1 ok1 hp => k σ F1 H1 ok1 (env.mono s1) _ fun p2 Θ2 ⟨α, r, rows, n, hd, e, kk⟩ v2 F2 H2 s2 ok2 hp2 => by
    subst e
    obtain ⟨a, kvs, h1, h2, h3⟩ := hd F2 H2 v2 ok2 hp2
    refine ⟨a, _, h1, .inl ⟨kvs, Sum.inr n, .inl h2, hp.1, rfl⟩, q _ _ kk _ F2 H2 (s1.trans s2) ok2 ?_⟩
    show _ = V.bl _
    rw [opt_some h3]
theorem we_dnin {td ty : TE} (w : We fr Γ Θ ty fun q Θ1 => We fr Γ Θ1 td fun p Θ2 => ∃ (α : Type) (r : Rep α) (rows : List (Str × α)) (n : Str), DicP fr Θ2 p r rows ∧ q = iz zS n ∧ K (iz zB (!(getR rows n).isSome)) Θ2) : We fr Γ Θ (tDNotIn ty td) K := fun σ F H ok env Q q =>
  w σ F H ok env _ fun p Θ1 k v F1 H1 s1 ok1 hp => k σ F1 H1 ok1 (env.mono s1) _ fun p2 Θ2 ⟨α, r, rows, n, hd, e, kk⟩ v2 F2 H2 s2 ok2 hp2 => by
    subst e
    obtain ⟨a, kvs, h1, h2, h3⟩ := hd F2 H2 v2 ok2 hp2
    refine ⟨a, _, h1, .inl ⟨kvs, Sum.inr n, .inl h2, hp.1, rfl⟩, q _ _ kk _ F2 H2 (s1.trans s2) ok2 ?_⟩
    show _ = V.bl _
    rw [opt_some h3]
/-- {} of one's own -/
theorem we_dnew {α : Type} (r : Rep α) (k : ∀ a, K (zAt a) (cD a r [] :: Θ)) : We fr Γ Θ tDNewK K := fun σ F H ok env Q q a na => q _ _ (k a) _ F _ (Same.refl F) (ok.mkOwn (c := cD a r []) na rfl ⟨[], rfl, .nil⟩) rfl
def putR {α : Type} (rows : List (Str × α)) (n : Str) (x : α) : List (Str × α) := if n ∈ rows.map (·.1) then rows.map fun y => if y.1 = n then (y.1, x) else y else rows ++ [(n, x)]
theorem KVs.put {α : Type} {r : Rep α} {kvs : List (Key × V)} {rows : List (Str × α)} {n : Str} {x : α} {u : V} (h : KVs r F kvs rows) (hu : r.p F u x) : KVs r F (putK kvs (Sum.inr n) u) (putR rows n x) := by
  have hk : (kvs.any fun kv => decide (kv.1 = Sum.inr n)) = decide (n ∈ rows.map (·.1)) := by
    induction h with
    | nil => rfl
    | cons a b ih =>
      rename_i kv y kvs rows
      rw [List.any_cons, ih, a.1, List.map_cons]
      by_cases e : y.1 = n
      · rw [decide_eq_true (by rw [e]), Bool.true_or, decide_eq_true (by rw [e]; exact List.mem_cons_self ..)]
      · rw [decide_eq_false (fun q => e (Sum.inr.inj q)), Bool.false_or]
        by_cases e2 : n ∈ rows.map (·.1)
        · rw [decide_eq_true e2, decide_eq_true (List.mem_cons_of_mem _ e2)]
        · rw [decide_eq_false e2, decide_eq_false fun q => (List.mem_cons.mp q).elim (fun q => e q.symm) e2]
  unfold putK putR
  by_cases e : n ∈ rows.map (·.1)
  · rw [if_pos e, if_pos (by rw [hk]; exact decide_eq_true e)]
    clear hk e
    induction h with
    | nil => exact .nil
    | cons a b ih =>
      refine .cons ?_ ih
      rename_i kv y kvs rows
      dsimp only
      by_cases e : y.1 = n
      · rw [if_pos e, if_pos (by rw [a.1, e])]
        exact ⟨a.1, hu⟩
      · rw [if_neg e, if_neg (fun q => e (Sum.inr.inj (a.1.symm.trans q)))]
        exact a
  · rw [if_neg e, if_neg (by rw [hk]; simpa using e)]
    exact PySem.Paired.snoc h ⟨rfl, hu⟩
/-- d[n] = x -/
theorem kn_dput {td ty tv : TE} {D : Ends} (w : We fr Γ Θ tv fun p Θ1 => We fr Γ Θ1 td fun pd Θ2 => We fr Γ Θ2 ty fun q Θ3 => ∃ (α : Type) (r : Rep α) (rows : List (Str × α)) (n : Str) (x : α) (a : Addr) (j : Nat), p = iz r x ∧ pd = zAt a ∧ q = iz zS n ∧ Θ3[j]? = some (cD a r rows) ∧ rows.length < 1000 ∧ Kn fr Γ (Θ3.set j (cD a r (putR rows n x))) D.nx) : Kn fr Γ Θ (sDPut td ty tv D) := fun σ F H ok env =>
  w σ F H ok env _ fun p Θ1 k v F1 H1 s1 ok1 hp => k σ F1 H1 ok1 (env.mono s1) _ fun p2 Θ2 k2 v2 F2 H2 s2 ok2 hp2 => k2 σ F2 H2 ok2 ((env.mono s1).mono s2) _ fun p3 Θ3 ⟨α, r, rows, n, x, a, j, e1, e2, e3, hj, hl, kk⟩ v3 F3 H3 s3 ok3 hp3 => by
    subst e1 e2 e3
    obtain ⟨_, ⟨o, h2, kvs, rfl, h4⟩, _⟩ := ok3.ce _ (List.mem_of_getElem? hj)
    refine ⟨a, _, hp2, .inl ⟨kvs, Sum.inr n, h2, hp3.1, by rw [Paired.len h4]; exact small1000 (Nat.le_of_lt hl), rfl⟩, ?_⟩
    exact kk σ F3 _ (ok3.mut hj rfl rfl ⟨_, rfl, h4.put (r.mono (s2.trans s3) hp)⟩) (((env.mono s1).mono s2).mono s3)
end
structure PlanOk (d : PlanD) : Prop where
  pa : ∀ y ∈ d.places, Wd y
  pn : d.places.Nodup
  bl : d.begin.length = d.places.length
  bn : ∀ n ∈ d.begin, 0 ≤ n ∧ n ≤ 99
  st : ∀ r ∈ d.steps, Wd r.1 ∧ r.2.1 ≠ [] ∧ inOrd d.places r.2.1 = r.2.1 ∧ inOrd d.places r.2.2 = r.2.2
  sn : d.names.Nodup
  p12 : d.places.length ≤ 12
  s16 : d.steps.length ≤ 16
theorem inOrd_sub {ps ns : List Str} {y : Str} (h : y ∈ inOrd ps ns) : y ∈ ps ∧ y ∈ ns := by
  unfold inOrd at h
  obtain ⟨h1, h2⟩ := List.mem_filter.mp h
  exact ⟨h1, of_decide_eq_true h2⟩
theorem PlanOk.tk {d : PlanD} (h : PlanOk d) {r : SRow} (hr : r ∈ d.steps) {y : Str} (hy : y ∈ r.2.1) : y ∈ d.places := by
  rw [← (h.st r hr).2.2.1] at hy
  exact (inOrd_sub hy).1
theorem PlanOk.gv {d : PlanD} (h : PlanOk d) {r : SRow} (hr : r ∈ d.steps) {y : Str} (hy : y ∈ r.2.2) : y ∈ d.places := by
  rw [← (h.st r hr).2.2.2] at hy
  exact (inOrd_sub hy).1
def zPlan (C : Addr) : Rep PlanD := ⟨fun F v d => ∃ x, v = .ref x ∧ PlanAt F C x d ∧ PlanOk d, fun e ⟨x, h1, h2, h3⟩ => ⟨x, h1, h2.keep e, h3⟩⟩
def PlanD.tk (d : PlanD) : List (Str × List Str) := d.steps.map fun s => (s.1, s.2.1)
def PlanD.gv (d : PlanD) : List (Str × List Str) := d.steps.map fun s => (s.1, s.2.2)
section
variable {fr : Fr} {Γ Γ' : Gam} {Θ : List Cel} {F F' H H' : Hp} {K : PySem.W.Frag} {C : Addr} {d : PlanD}
theorem strs_pvs {ws : List Str} (h : ∀ y ∈ ws, Asc y) : PVs zS F (ws.map V.str) ws := by
  induction ws with
  | nil => exact .nil
  | cons a ws ih => exact .cons ⟨rfl, h a (List.mem_cons_self ..)⟩ (ih fun y hy => h y (List.mem_cons_of_mem _ hy))
theorem ints_pvs {ws : List Int} : PVs zI F (ws.map V.int) ws := by
  induction ws with
  | nil => exact .nil
  | cons a ws ih => exact .cons rfl ih
theorem tab_kvs : ∀ {kvs : List (Key × V)} {rows : List (Str × List Str)}, TabAt F kvs rows → (∀ r ∈ rows, ∀ y ∈ r.2, Asc y) → KVs (zT zS) F kvs rows
  | _, _, .nil, _ => .nil
  | _, _, .cons ⟨h1, t, h2, h3⟩ r, h => .cons ⟨h1, t, _, h2, .inl h3, strs_pvs (h _ (List.mem_cons_self ..))⟩ (tab_kvs r fun r' hr => h r' (List.mem_cons_of_mem _ hr))
/-- the class Plan, as the top left it -/
structure PlanK (K : PySem.W.Frag) (C : Addr) : Prop where
  cl : Cls K C
  nP : NoAttr K C "places"
  nB : NoAttr K C "begin"
  nT : NoAttr K C "taken"
  nG : NoAttr K C "given"
  nS : NoAttr K C "steps"
theorem fld_places (T : PlanK K C) : FldR K "places" (iz (zPlan C) d) (iz (zT zS) d.places) := fun F v ⟨x, h1, h2, h3⟩ => by
  obtain ⟨dx, tp, tb, td, tg, ts, kt, kg, p1, p2, p3, p4, p5, p6, p7, p8⟩ := h2.ex
  exact ⟨x, C, dx, _, _, h1, p1, T.cl, T.nP, rfl, tp, _, rfl, p2.tb, strs_pvs fun y hy => (h3.pa y hy).asc⟩
theorem fld_begin (T : PlanK K C) : FldR K "begin" (iz (zPlan C) d) (iz (zT zI) d.begin) := fun F v ⟨x, h1, h2, h3⟩ => by
  obtain ⟨dx, tp, tb, td, tg, ts, kt, kg, p1, p2, p3, p4, p5, p6, p7, p8⟩ := h2.ex
  exact ⟨x, C, dx, _, _, h1, p1, T.cl, T.nB, rfl, tb, _, rfl, .inl p3, ints_pvs⟩
theorem fld_steps (T : PlanK K C) : FldR K "steps" (iz (zPlan C) d) (iz (zT zS) d.names) := fun F v ⟨x, h1, h2, h3⟩ => by
  obtain ⟨dx, tp, tb, td, tg, ts, kt, kg, p1, p2, p3, p4, p5, p6, p7, p8⟩ := h2.ex
  refine ⟨x, C, dx, _, _, h1, p1, T.cl, T.nS, rfl, ts, _, rfl, p6, strs_pvs fun y hy => ?_⟩
  obtain ⟨r, hr, rfl⟩ := List.mem_map.mp hy
  exact (h3.st r hr).1.asc
theorem fld_taken (T : PlanK K C) : FldR K "taken" (iz (zPlan C) d) (iz (zD (zT zS)) d.tk) := fun F v ⟨x, h1, h2, h3⟩ => by
  obtain ⟨dx, tp, tb, td, tg, ts, kt, kg, p1, p2, p3, p4, p5, p6, p7, p8⟩ := h2.ex
  refine ⟨x, C, dx, _, _, h1, p1, T.cl, T.nT, rfl, td, kt, rfl, p4, tab_kvs p7 fun r hr y hy => ?_⟩
  obtain ⟨s, hs, rfl⟩ := List.mem_map.mp hr
  exact (h3.pa y (h3.tk hs hy)).asc
theorem fld_given (T : PlanK K C) : FldR K "given" (iz (zPlan C) d) (iz (zD (zT zS)) d.gv) := fun F v ⟨x, h1, h2, h3⟩ => by
  obtain ⟨dx, tp, tb, td, tg, ts, kt, kg, p1, p2, p3, p4, p5, p6, p7, p8⟩ := h2.ex
  refine ⟨x, C, dx, _, _, h1, p1, T.cl, T.nG, rfl, tg, kg, rfl, p5, tab_kvs p8 fun r hr y hy => ?_⟩
  obtain ⟨s, hs, rfl⟩ := List.mem_map.mp hr
  exact (h3.pa y (h3.gv hs hy)).asc
/-- a plan is an instance; none of these is a field of it -/
theorem ins_plan {m : Str} (hm : ([("places", (0 : Nat)), ("begin", 0), ("taken", 0), ("given", 0), ("steps", 0)] : List (Str × Nat)).lookup m = none) : InsP fr Θ (iz (zPlan C) d) C m := fun F H v ok ⟨x, h1, h2, h3⟩ => by
  obtain ⟨dx, tp, tb, td, tg, ts, kt, kg, p1, p2, p3, p4, p5, p6, p7, p8⟩ := h2.ex
  refine ⟨x, dx, _, h1, ok.fh _ _ p1, ?_⟩
  simp only [List.lookup_cons] at hm ⊢
  revert hm
  cases (m == ("places" : Str)) <;> cases (m == ("begin" : Str)) <;> cases (m == ("taken" : Str)) <;> cases (m == ("given" : Str)) <;> cases (m == ("steps" : Str)) <;> simp
theorem PlanOk.tkn {d : PlanD} : d.tk.map (·.1) = d.names := by
  unfold PlanD.tk PlanD.names
  rw [List.map_map]
  rfl
theorem PlanOk.gvn {d : PlanD} : d.gv.map (·.1) = d.names := by
  unfold PlanD.gv PlanD.names
  rw [List.map_map]
  rfl
theorem PlanOk.tkr (h : PlanOk d) {r : SRow} (hr : r ∈ d.steps) : getR d.tk r.1 = some r.2.1 := getR_nodup (by rw [PlanOk.tkn]; exact h.sn) (List.mem_map.mpr ⟨r, hr, rfl⟩)
theorem PlanOk.gvr (h : PlanOk d) {r : SRow} (hr : r ∈ d.steps) : getR d.gv r.1 = some r.2.2 := getR_nodup (by rw [PlanOk.gvn]; exact h.sn) (List.mem_map.mpr ⟨r, hr, rfl⟩)
/-- what a name's holding says -/
theorem kn_fact {i : Nat} {p : Vp} {A : Prop} {P : L2.St → Hp → Prop} (hi : Γ[i]? = some (some p)) (hA : ∀ F v, p.p F v → A) (k : A → Kn fr Γ Θ P) : Kn fr Γ Θ P := fun σ F H ok env => by
  obtain ⟨v, _, h2⟩ := env.get hi
  exact k (hA F v h2) σ F H ok env
theorem plan_ok {F : Hp} {v : V} (h : (iz (zPlan C) d).p F v) : PlanOk d := by
  obtain ⟨_, _, _, h⟩ := h
  exact h
/-- all that is new is frozen -/
def newF (F H H' : Hp) : Hp := fun a => match H a with
  | none => H' a
  | some _ => F a
theorem newF_of (fh : Same F H) (hh : Same H H') : Same F (newF F H H') ∧ Same (newF F H H') H' ∧ Newer F H (newF F H H') := by
  refine ⟨fun a o h => ?_, fun a o h => ?_, fun a o h => ?_⟩
  · unfold newF
    rw [fh a o h]
    exact h
  · unfold newF at h
    cases q : H a with
    | none => rw [q] at h; exact h
    | some u => rw [q] at h; exact hh _ _ (fh _ _ h)
  · unfold newF at h
    cases q : H a with
    | none => exact .inr (.inl q)
    | some u => rw [q] at h; exact .inl ⟨o, h⟩
theorem newF_at {a : Addr} {o : HO} (n : H a = none) (h : H' a = some o) : newF F H H' a = some o := by
  unfold newF
  rw [n]
  exact h
end
/-- the class Plan and its name -/
structure PlanC (K : PySem.W.Frag) (mg : Str → Option Value) (C : Addr) : Prop where
  cl : Cls K C
  gC : mg "Plan" = some (.ref C)
  nP : NoAttr K C "places"
  nB : NoAttr K C "begin"
  nT : NoAttr K C "taken"
  nG : NoAttr K C "given"
  nS : NoAttr K C "steps"
section
variable {K : PySem.W.Frag} {mg : Str → Option Value} {C : Addr} {fr : Fr} {Θ : List Cel} {d : PlanD}
theorem PlanC.k (T : PlanC K mg C) : PlanK K C := ⟨T.cl, T.nP, T.nB, T.nT, T.nG, T.nS⟩
theorem fldP_places (T : PlanC K mg C) : FldP fr Θ K "places" (iz (zPlan C) d) (iz (zT zS) d.places) := (fld_places T.k).p
theorem fldP_begin (T : PlanC K mg C) : FldP fr Θ K "begin" (iz (zPlan C) d) (iz (zT zI) d.begin) := (fld_begin T.k).p
theorem fldP_steps (T : PlanC K mg C) : FldP fr Θ K "steps" (iz (zPlan C) d) (iz (zT zS) d.names) := (fld_steps T.k).p
theorem fldP_taken (T : PlanC K mg C) : FldP fr Θ K "taken" (iz (zPlan C) d) (iz (zD (zT zS)) d.tk) := (fld_taken T.k).p
theorem fldP_given (T : PlanC K mg C) : FldP fr Θ K "given" (iz (zPlan C) d) (iz (zD (zT zS)) d.gv) := (fld_given T.k).p
end
theorem is_var {fr : Fr} {Γ : Gam} {Θ : List Cel} {K : Vp → List Cel → Prop} {i : Nat} (h : We fr Γ Θ (tVar i) K) : We fr Γ Θ (tVar i) K := h
theorem is_cS {fr : Fr} {Γ : Gam} {Θ : List Cel} {K : Vp → List Cel → Prop} {z : Str} (h : We fr Γ Θ (tC (.str z)) K) : We fr Γ Θ (tC (.str z)) K := h
theorem asc_of {z : Str} (h : (z.cps.toList.all fun c => decide (c < 128)) = true) : Asc z := fun c hc => of_decide_eq_true (List.all_eq_true.mp h c hc)
end L2
set_option Elab.async false
set_option linter.all false
set_option maxRecDepth 100000
set_option maxHeartbeats 4000000
namespace L2
open PySem PySem.Spec PyProof.Rows PySem.HErr
section
variable {fr : Fr} {Γ Γ' : Gam} {Θ : List Cel} {F F' H H' : Hp} {K : Vp → List Cel → Prop} {Q : VK}
theorem wipe_sub {σ σ' : L2.St} {vs us : List Nat} (h : L2.wipe σ' vs = L2.wipe σ vs) (hs : ∀ v ∈ vs, v ∈ us) : L2.wipe σ' us = L2.wipe σ us := by
  have hl : σ'.length = σ.length := by
    have := congrArg List.length h
    rw [wipe_length, wipe_length] at this
    exact this
  apply List.ext_getElem?
  intro j
  have hj : (L2.wipe σ' vs)[j]? = (L2.wipe σ vs)[j]? := by rw [h]
  rw [wipe_get, wipe_get] at hj ⊢
  rw [hl] at hj ⊢
  by_cases h1 : j ∈ us ∧ j < σ.length
  · rw [if_pos h1, if_pos h1]
  · rw [if_neg h1, if_neg h1]
    have h2 : ¬ (j ∈ vs ∧ j < σ.length) := fun q => h1 ⟨hs j q.1, q.2⟩
    rw [if_neg h2, if_neg h2] at hj
    exact hj
theorem TgR.sub {g : TG} {vs us : List Nat} {p : Vp} (h : TgR g vs p Γ Γ') (hs : ∀ v ∈ vs, v ∈ us) : TgR g us p Γ Γ' := fun σ F H v fh env hp Q q => h σ F H v fh env hp Q fun σ' e hw => q σ' e (wipe_sub hw hs)
/-- [e for x in xs] -/
theorem we_lc0 {α β : Type} {r : Rep α} {s : Rep β} {xs : List α} {f : α → β} {wi : TI} {g : TG} {te : TE} {vs : List Nat} {Γ2 : α → Gam}
    (it : Wi fr Γ Θ wi fun its Θ1 => its = xs.map (iz r) ∧ Θ1 = Θ) (hl : xs.length ≤ 1000) (tg : ∀ x, TgR g vs (iz r x) (wipeG Γ vs) (Γ2 x))
    (he : ∀ x ∈ xs, ∀ c, Ev fr (Γ2 x) (c :: Θ) te (iz s (f x))) (k : K (iz (zL s) (xs.map f)) Θ) : We fr Γ Θ (tLc wi g tYes te vs) K :=
  we_lc (pr := fun _ => true) it hl tg (fun x hx c => wt_yes ⟨rfl, rfl⟩) (fun x hx _ c => he x hx c) (by
    rw [List.filter_eq_self.mpr fun _ _ => rfl]
    exact k)
theorem flat_len {α β : Type} (f : α → List β) {l m : List α} (h : l.Sublist m) : (l.flatMap f).length ≤ (m.flatMap f).length := by
  induction h with
  | slnil => exact Nat.le_refl _
  | cons a _ ih => rw [List.flatMap_cons, List.length_append]; omega
  | cons_cons a _ ih => rw [List.flatMap_cons, List.flatMap_cons, List.length_append, List.length_append]; omega
/-- [e for x in xs if c for y in ys(x) if c'] -/
theorem we_lc2 {α β γ : Type} {r : Rep α} {r1 : Rep γ} {s : Rep β} {xs : List α} {pr : α → Bool} {ys : α → List γ} {pr1 : α → γ → Bool} {f : α → γ → β} {wi wi1 : TI} {g g1 : TG} {tt tt1 : TT} {te : TE} {vs vs1 : List Nat} {Γ2 : α → Gam} {Γ3 : α → γ → Gam}
    (it : Wi fr Γ Θ wi fun its Θ1 => its = xs.map (iz r) ∧ Θ1 = Θ) (tg : ∀ x, TgR g vs (iz r x) (wipeG Γ vs) (Γ2 x)) (ht : ∀ x ∈ xs, ∀ c, Et fr (Γ2 x) (c :: Θ) tt (pr x))
    (it1 : ∀ x ∈ xs, pr x = true → ∀ c, Wi fr (Γ2 x) (c :: Θ) wi1 fun its Θ1 => its = (ys x).map (iz r1) ∧ Θ1 = c :: Θ) (tg1 : ∀ x y, TgR g1 vs1 (iz r1 y) (wipeG (Γ2 x) vs1) (Γ3 x y))
    (ht1 : ∀ x ∈ xs, pr x = true → ∀ y ∈ ys x, ∀ c, Et fr (Γ3 x y) (c :: Θ) tt1 (pr1 x y)) (he : ∀ x ∈ xs, pr x = true → ∀ y ∈ ys x, pr1 x y = true → ∀ c, Ev fr (Γ3 x y) (c :: Θ) te (iz s (f x y)))
    (hl : ((xs.filter pr).flatMap fun x => ((ys x).filter (pr1 x)).map (f x)).length ≤ 1000) (k : K (iz (zL s) ((xs.filter pr).flatMap fun x => ((ys x).filter (pr1 x)).map (f x))) Θ) : We fr Γ Θ (tLc2 wi g tt wi1 g1 tt1 te vs vs1) K := fun σ F H ok env Q q => by
  refine it σ F H ok env _ fun its Θ1 ⟨e1, e2⟩ J F1 H1 s1 ok1 jok => ?_
  subst e1 e2
  intro D nD
  generalize hres : (fun i => ((xs.take i).filter pr).flatMap fun x => ((ys x).filter (pr1 x)).map (f x)) = res
  have hr0 : res 0 = [] := by rw [← hres]; rfl
  have hrs : ∀ {i : Nat} {x : α}, xs[i]? = some x → res (i + 1) = res i ++ if pr x = true then ((ys x).filter (pr1 x)).map (f x) else [] := fun {i x} hx => by
    rw [← hres]
    dsimp only
    rw [take_more hx, List.filter_append, List.flatMap_append, List.filter_cons]
    split
    · rw [List.filter_nil, List.flatMap_cons, List.flatMap_nil, List.append_nil]
    · rw [List.filter_nil, List.flatMap_nil]
  have hrl : ∀ i, (res i).length ≤ (res xs.length).length := fun i => by
    rw [← hres]
    dsimp only
    rw [List.take_length]
    have : ((xs.take i).filter pr).Sublist (xs.filter pr) := List.Sublist.filter pr (List.take_sublist i xs)
    exact flat_len _ this
  have hrn : res xs.length = (xs.filter pr).flatMap fun x => ((ys x).filter (pr1 x)).map (f x) := by
    rw [← hres]
    dsimp only
    rw [List.take_length]
  rw [← hrn] at hl k
  refine ⟨fun i m H' => m = xs.length - i ∧ i ≤ xs.length ∧ ∃ F2, Same F1 F2 ∧ OkF fr (cL D s (res i) :: Θ1) F2 H', ⟨xs.length, by simp, Nat.zero_le _, F1, Same.refl _, by rw [hr0]; exact ok1.mkOwn (c := cL D s []) nD rfl ⟨[], rfl, .nil⟩⟩, ?_⟩
  rintro i m H' ⟨rfl, hi, F2, s2, ok2⟩
  obtain ⟨j1, j2⟩ := jok F2 H' s2 ok2.fh
  by_cases hlt : i < xs.length
  · have hx : xs[i]? = some xs[i] := List.getElem?_eq_getElem hlt
    generalize xs[i] = x at hx
    have hm := List.mem_of_getElem? hx
    obtain ⟨jg, jy⟩ := j1 i (iz r x) (by rw [List.getElem?_map, hx]; rfl)
    refine .inr ⟨jg, fun H3 => ∃ F3, Same F1 F3 ∧ OkF fr (cL D s (res (i + 1)) :: Θ1) F3 H3, fun H3 p => ⟨xs.length - (i + 1), by omega, rfl, hlt, p⟩, fun v H3 y => ?_⟩
    obtain ⟨F3, e1, e2, e3, e4, e5⟩ := jy v H3 y
    have ok3 := ok2.grow e2 e1 e3 e4
    have s3 := s2.trans e1
    refine tg x (L2.wipe σ vs) F3 H3 v ok3.fh ((env.mono (s1.trans s3)).wipe vs) e5 _ fun σ2 env2 hw => ⟨by rw [hw, wipe_idem], ?_⟩
    have et := hrs hx
    refine ht x hm _ σ2 F3 H3 ok3 env2 _ fun b Θ2 ⟨e6, e7⟩ F4 H4 s4 ok4 => ?_
    subst e6 e7
    by_cases hb : pr x = true
    · rw [if_pos hb]
      rw [if_pos hb] at et
      refine it1 x hm hb _ σ2 F4 H4 ok4 (env2.mono s4) _ fun its1 Θ3 ⟨e8, e9⟩ J1 F5 H5 s5 ok5 jok1 => ?_
      subst e8 e9
      refine ⟨fun j m H6 => m = (ys x).length - j ∧ j ≤ (ys x).length ∧ ∃ F6, Same F5 F6 ∧ OkF fr (cL D s (res i ++ (((ys x).take j).filter (pr1 x)).map (f x)) :: Θ1) F6 H6, ⟨(ys x).length, by simp, Nat.zero_le _, F5, Same.refl _, by rw [List.take_zero, List.filter_nil, List.map_nil, List.append_nil]; exact ok5⟩, ?_⟩
      rintro j m H6 ⟨rfl, hj, F6, s6, ok6⟩
      obtain ⟨k1, k2⟩ := jok1 F6 H6 s6 ok6.fh
      by_cases hjl : j < (ys x).length
      · have hy : (ys x)[j]? = some (ys x)[j] := List.getElem?_eq_getElem hjl
        generalize (ys x)[j] = z at hy
        have hmz := List.mem_of_getElem? hy
        obtain ⟨kg, ky⟩ := k1 j (iz r1 z) (by rw [List.getElem?_map, hy]; rfl)
        refine .inr ⟨kg, fun H7 => ∃ F7, Same F5 F7 ∧ OkF fr (cL D s (res i ++ (((ys x).take (j + 1)).filter (pr1 x)).map (f x)) :: Θ1) F7 H7, fun H7 p => ⟨(ys x).length - (j + 1), by omega, rfl, hjl, p⟩, fun v2 H7 y2 => ?_⟩
        obtain ⟨F7, g1', g2', g3', g4', g5'⟩ := ky v2 H7 y2
        have ok7 := ok6.grow g2' g1' g3' g4'
        have s7 := s6.trans g1'
        refine tg1 x z (L2.wipe σ2 vs1) F7 H7 v2 ok7.fh ((((env2.mono s4).mono s5).mono s7).wipe vs1) g5' _ fun σ3 env3 hw3 => ⟨by rw [hw3, wipe_idem], ?_⟩
        have et2 : ((ys x).take (j + 1)).filter (pr1 x) = ((ys x).take j).filter (pr1 x) ++ if pr1 x z = true then [z] else [] := by
          rw [take_more hy, List.filter_append, List.filter_cons]
          rfl
        refine ht1 x hm hb z hmz _ σ3 F7 H7 ok7 env3 _ fun b2 Θ4 ⟨f1, f2⟩ F8 H8 s8 ok8 => ?_
        subst f1 f2
        by_cases hb2 : pr1 x z = true
        · rw [if_pos hb2]
          rw [if_pos hb2] at et2
          refine he x hm hb z hmz hb2 _ σ3 F8 H8 ok8 (env3.mono s8) _ fun p Θ5 ⟨f3, f4⟩ u F9 H9 s9 ok9 hp => ?_
          subst f3 f4
          obtain ⟨_, ⟨o, h2, acc, rfl, h4⟩, _⟩ := ok9.ce _ (List.mem_cons_self ..)
          have ok10 := ok9.mut (i := 0) (c := cL D s (res i ++ (((ys x).take j).filter (pr1 x)).map (f x))) (c' := cL D s (res i ++ (((ys x).take (j + 1)).filter (pr1 x)).map (f x))) (o := .lst (acc ++ [u])) rfl rfl rfl ⟨_, rfl, by
            rw [et2, List.map_append, ← List.append_assoc]
            exact PySem.Paired.snoc h4 hp⟩
          refine ⟨acc, h2, ?_, F9, (s7.trans s8).trans s9, ok10⟩
          rw [Paired.len h4]
          have a1 := hrl (i + 1)
          rw [et, List.length_append, List.length_map] at a1
          have a2 : ((((ys x).take j).filter (pr1 x))).length ≤ ((ys x).filter (pr1 x)).length := (List.Sublist.filter (pr1 x) (List.take_sublist j (ys x))).length_le
          rw [List.length_append, List.length_map]
          exact small1000 (by omega)
        · rw [if_neg hb2]
          rw [if_neg hb2, List.append_nil] at et2
          exact ⟨F8, s7.trans s8, by rw [et2]; exact ok8⟩
      · have ej : j = (ys x).length := by omega
        subst ej
        rw [List.take_length, ← et] at ok6
        exact .inl ⟨by rw [List.length_map] at k2; exact k2, F6, ((s3.trans s4).trans s5).trans s6, ok6⟩
    · rw [if_neg hb]
      rw [if_neg hb, List.append_nil] at et
      exact ⟨F4, s3.trans s4, by rw [et]; exact ok4⟩
  · have e : i = xs.length := by omega
    subst e
    obtain ⟨_, ⟨o, h2, acc, rfl, h4⟩, _⟩ := ok2.ce _ (List.mem_cons_self ..)
    have ok3 := ok2.frz (i := 0) (c := cL D s (res xs.length)) rfl rfl h2
    have sD : Same F2 (upd F2 D (.lst acc)) := same_upd (ok2.ce _ (List.mem_cons_self ..)).1
    refine .inl ⟨by rw [List.length_map] at j2; exact j2, q _ _ k _ _ H' ((s1.trans s2).trans sD) ok3 ⟨D, acc, rfl, upd_same, Paired.imp2 (fun _ _ h => s.mono sD h) h4⟩⟩
theorem we_nil {α : Type} (r : Rep α) (k : ∀ a, K (zAt a) (cL a r [] :: Θ)) : We fr Γ Θ (tLst tNil) K := we_own r (wa_nil ⟨[], rfl, by decide, k⟩)
theorem we_nilF {α : Type} (r : Rep α) (k : K (iz (zL r) []) Θ) : We fr Γ Θ (tLst tNil) K := we_lst (r := r) (wa_nil ⟨[], rfl, by decide, k⟩)
theorem we_lst1 {α : Type} {r : Rep α} {x : α} {t : TE} (w : We fr Γ Θ t fun p Θ1 => p = iz r x ∧ K (iz (zL r) [x]) Θ1) : We fr Γ Θ (tLst (tCons t tNil)) K := we_lst (r := r) (wa_cons (w.imp fun p Θ1 ⟨e, k⟩ => wa_nil ⟨[x], by rw [e]; rfl, by simp, k⟩))
/-- [e for x in xs for y in ys(x)] -/
theorem we_lc20 {α β γ : Type} {r : Rep α} {r1 : Rep γ} {s : Rep β} {xs : List α} {ys : α → List γ} {f : α → γ → β} {wi wi1 : TI} {g g1 : TG} {te : TE} {vs vs1 : List Nat} {Γ2 : α → Gam} {Γ3 : α → γ → Gam}
    (it : Wi fr Γ Θ wi fun its Θ1 => its = xs.map (iz r) ∧ Θ1 = Θ) (tg : ∀ x, TgR g vs (iz r x) (wipeG Γ vs) (Γ2 x))
    (it1 : ∀ x ∈ xs, ∀ c, Wi fr (Γ2 x) (c :: Θ) wi1 fun its Θ1 => its = (ys x).map (iz r1) ∧ Θ1 = c :: Θ) (tg1 : ∀ x y, TgR g1 vs1 (iz r1 y) (wipeG (Γ2 x) vs1) (Γ3 x y))
    (he : ∀ x ∈ xs, ∀ y ∈ ys x, ∀ c, Ev fr (Γ3 x y) (c :: Θ) te (iz s (f x y)))
    (hl : (xs.flatMap fun x => (ys x).map (f x)).length ≤ 1000) (k : K (iz (zL s) (xs.flatMap fun x => (ys x).map (f x))) Θ) : We fr Γ Θ (tLc2 wi g tYes wi1 g1 tYes te vs vs1) K := by
  have e : ((xs.filter fun _ => true).flatMap fun x => ((ys x).filter fun _ => true).map (f x)) = xs.flatMap fun x => (ys x).map (f x) := by
    rw [List.filter_eq_self.mpr fun _ _ => rfl]
    congr 1
    funext x
    rw [List.filter_eq_self.mpr fun _ _ => rfl]
  exact we_lc2 (pr := fun _ => true) (pr1 := fun _ _ => true) it tg (fun _ _ _ => wt_yes ⟨rfl, rfl⟩) (fun x hx _ c => it1 x hx c) tg1 (fun _ _ _ _ _ _ => wt_yes ⟨rfl, rfl⟩) (fun x hx _ y hy _ c => he x hx y hy c) (by rw [e]; exact hl) (by rw [e]; exact k)
theorem mem_intsF {n : Nat} {k : Int} (h : k ∈ intsF 0 n) : ∃ j : Nat, j < n ∧ k = j := by
  unfold intsF at h
  obtain ⟨j, hj, e⟩ := List.mem_map.mp h
  exact ⟨j, List.mem_range.mp hj, by omega⟩
theorem flat_le {α β : Type} {f : α → List β} {m : Nat} : ∀ {l : List α}, (∀ x ∈ l, (f x).length ≤ m) → (l.flatMap f).length ≤ l.length * m
  | [], _ => by simp
  | a :: l, h => by
    rw [List.flatMap_cons, List.length_append, List.length_cons, Nat.succ_mul]
    have h1 := h a (List.mem_cons_self ..)
    have h2 := flat_le (f := f) (l := l) fun x hx => h x (List.mem_cons_of_mem _ hx)
    omega
end
end L2
set_option Elab.async false
set_option linter.all false
set_option maxRecDepth 100000
set_option maxHeartbeats 4000000
namespace L2
open PySem PySem.Spec PyProof.Rows PySem.HErr
/-- an address, as a value -/
def zRef : Rep Addr := ⟨fun _ v x => v = .ref x, fun _ h => h⟩
section
variable {fr : Fr} {Γ Γ' : Gam} {Θ Θ' : List Cel} {F F' H H' : Hp} {K : Vp → List Cel → Prop} {Q : VK}
theorem OkF.perm (k : OkF fr Θ F H) (p : Θ.Perm Θ') : OkF fr Θ' F H := ⟨k.fh, k.f0, k.nw, k.h0, k.al, (p.map Cel.a).nodup_iff.mp k.nd, fun c hc => k.ce c (p.mem_iff.mpr hc)⟩
theorem Kn.perm {P : L2.St → Hp → Prop} (k : Kn fr Γ Θ' P) (p : Θ.Perm Θ') : Kn fr Γ Θ P := fun σ F H ok env => k σ F H (ok.perm p) env
def cells {α : Type} (r : Rep α) (as : List Addr) (ls : List (List α)) : List Cel := (as.zip ls).map fun x => cL x.1 r x.2
theorem cells_get {α : Type} {r : Rep α} {as : List Addr} {ls : List (List α)} {j : Nat} {a : Addr} {l : List α} (h1 : as[j]? = some a) (h2 : ls[j]? = some l) : (cells r as ls)[j]? = some (cL a r l) := by
  unfold cells
  rw [List.getElem?_map, List.getElem?_zip_eq_some (z := (a, l)) |>.mpr ⟨h1, h2⟩]
  rfl
theorem cells_set {α : Type} {r : Rep α} {a : Addr} {l : List α} : ∀ {as : List Addr} {ls : List (List α)} {j : Nat}, as[j]? = some a → (cells r as ls).set j (cL a r l) = cells r as (ls.set j l)
  | [], _, _, h => by simp at h
  | _ :: _, [], _, _ => rfl
  | x :: as, y :: ls, 0, h => by cases h; rfl
  | x :: as, y :: ls, j + 1, h => by
    show cL x r y :: (cells r as ls).set j (cL a r l) = cL x r y :: cells r as (ls.set j l)
    rw [cells_set (as := as) (ls := ls) (j := j) h]
theorem cells_snoc {α : Type} {r : Rep α} {a : Addr} {l : List α} {as : List Addr} {ls : List (List α)} (h : as.length = ls.length) : cells r (as ++ [a]) (ls ++ [l]) = cells r as ls ++ [cL a r l] := by
  unfold cells
  rw [List.zip_append h, List.map_append]
  rfl
theorem cells_own {α : Type} {r : Rep α} {as : List Addr} {ls : List (List α)} {c : Cel} (h : c ∈ cells r as ls) : c.own = true := by
  obtain ⟨x, _, rfl⟩ := List.mem_map.mp h
  rfl
theorem okf_frzN {α : Type} {r : Rep α} : ∀ {as : List Addr} {ls : List (List α)} {F : Hp}, as.length = ls.length → OkF fr (cells r as ls ++ Θ) F H → ∃ F', Same F F' ∧ OkF fr Θ F' H ∧ Paired (fun a l => (zL r).p F' (.ref a) l) as ls
  | [], [], F, _, ok => ⟨F, Same.refl F, ok, .nil⟩
  | [], _ :: _, _, h, _ => by cases h
  | _ :: _, [], _, h, _ => by cases h
  | a :: as, l :: ls, F, h, ok => by
    have ok : OkF fr (cL a r l :: (cells r as ls ++ Θ)) F H := ok
    obtain ⟨h0, ⟨o, h2, vs, rfl, h4⟩, _⟩ := ok.ce _ (List.mem_cons_self ..)
    have h0 : F a = none := h0
    have h2 : H a = some (.lst vs) := h2
    have ok2 := ok.frz (i := 0) (c := cL a r l) rfl rfl h2
    have s2 : Same F (upd F a (.lst vs)) := same_upd h0
    obtain ⟨F', s3, ok3, p3⟩ := okf_frzN (as := as) (ls := ls) (by simpa using h) ok2
    refine ⟨F', s2.trans s3, ok3, .cons ⟨a, vs, rfl, s3 _ _ upd_same, Paired.imp2 (fun _ _ h => r.mono (s2.trans s3) h) h4⟩ p3⟩
theorem kn_frzN {α : Type} {r : Rep α} {G : Addr} {ga : List Addr} {ls : List (List α)} {i : Nat} {P : L2.St → Hp → Prop} (hi : Γ[i]? = some (some (zAt G))) (hp : Θ.Perm (cells r ga ls ++ cL G zRef ga :: Θ')) (hl : ga.length = ls.length) (k : Kn fr (Γ.set i (some (iz (zL (zL r)) ls))) Θ' P) : Kn fr Γ Θ P := fun σ F H ok env => by
  obtain ⟨F1, s1, ok1, p1⟩ := okf_frzN hl (ok.perm hp)
  obtain ⟨v, h1, h2⟩ := env.get hi
  have h2 : v = .ref G := h2
  subst h2
  obtain ⟨h0, ⟨o, h3, vs, rfl, h5⟩, _⟩ := ok1.ce _ (List.mem_cons_self ..)
  have h0 : F1 G = none := h0
  have h3 : H G = some (.lst vs) := h3
  have ok2 := ok1.frz (i := 0) (c := cL G zRef ga) rfl rfl h3
  have s2 : Same F1 (upd F1 G (.lst vs)) := same_upd h0
  have e : σ.set i (some (V.ref G)) = σ := by
    apply List.ext_getElem?
    intro m
    rw [List.getElem?_set]
    split
    · rename_i q
      subst q
      rw [if_pos (List.getElem?_eq_some_iff.mp h1).1, h1]
    · rfl
  have pv : ∀ {vs : List V} {ga : List Addr} {ls : List (List α)}, PVs zRef F1 vs ga → Paired (fun a l => (zL r).p F1 (.ref a) l) ga ls → PVs (zL r) (upd F1 G (.lst vs)) vs ls := by
    intro vs ga ls h
    have : ∀ {F2 : Hp}, Same F1 F2 → ∀ {ls : List (List α)}, Paired (fun a l => (zL r).p F1 (.ref a) l) ga ls → PVs (zL r) F2 vs ls := by
      intro F2 s2
      induction h with
      | nil => intro ls q; cases q; exact .nil
      | cons a _ ih => intro ls q; cases q with
        | cons b c =>
          have a : _ = V.ref _ := a
          subst a
          exact .cons ((zL r).mono s2 b) (ih c)
    exact this (same_upd h0)
  have := ((env.mono s1).mono s2).set (i := i) (p := iz (zL (zL r)) ls) (v := .ref G) ⟨G, vs, rfl, upd_same, pv h5 p1⟩
  rw [e] at this
  exact k σ _ H ok2 this
theorem rt_frz0 {α : Type} {r : Rep α} {xs : List α} {a : Addr} {rt : VK} (k : Rt fr Θ rt (iz (zL r) xs)) : Rt fr (cL a r xs :: Θ) rt (zAt a) := rt_frz (j := 0) rfl k
/-- tuple unpacking of a list with two entries -/
theorem tgL2 {Kf : PySem.W.Frag} {i j : Nat} {α : Type} {r : Rep α} {x y : α} (hij : i ≠ j) (g : TG) (hg : ∀ v σ H Q, (∃ a xs, v = .ref a ∧ SqL Kf H a xs ∧ xs.length = 2 ∧ gCons (gName i) (gCons (gName j) gNil) xs σ H Q) → g v σ H Q) : TgR g [i, j] (iz (zL r) [x, y]) Γ ((Γ.set i (some (iz r x))).set j (some (iz r y))) := fun σ F H v fh env hp Q q => by
  obtain ⟨a, vs, rfl, h2, h3⟩ := hp
  cases h3 with
  | cons h4 h3 => cases h3 with
    | cons h5 h3 => cases h3 with
      | nil =>
        refine hg _ _ _ _ ⟨a, _, rfl, SqL.of (fh _ _ h2), rfl, _, _, rfl, _, _, rfl, rfl, q _ ((env.set (p := iz r x) h4).set (p := iz r y) h5) ?_⟩
        show ((((σ.set i (some _)).set j (some _)).set j none).set i none) = (σ.set j none).set i none
        rw [List.set_set, set_comm' hij, List.set_set]
end
end L2
set_option Elab.async false
set_option linter.all false
set_option maxRecDepth 100000
set_option maxHeartbeats 4000000
namespace L2
open PySem PySem.Spec PyProof.Rows PySem.HErr
/-- an instance of one's own -/
def cI (a C dx : Addr) (fs : List (Str × Vp)) : Cel := ⟨a, true, fun F o => ∃ us, o = .ins C dx us ∧ FsOk F fs us, fun e ⟨us, h1, h2⟩ => ⟨us, h1, h2.mono e⟩, fun h e => by subst e; simp at h⟩
def putP (f : Str) (p : Vp) : List (Str × Vp) → List (Str × Vp)
  | [] => [(f, p)]
  | (g, q) :: r => if g = f then (g, p) :: r else (g, q) :: putP f p r
section
variable {fr : Fr} {Γ Γ' : Gam} {Θ Θ' : List Cel} {F F' H H' : Hp} {K : Vp → List Cel → Prop} {Q : VK}
theorem FsOk.put {f : Str} {p : Vp} {v : V} (hp : p.p F v) : ∀ {fs : List (Str × Vp)} {us : List (Str × V)}, FsOk F fs us → FsOk F (putP f p fs) (putF f v us)
  | _, _, .nil => .cons ⟨rfl, hp⟩ .nil
  | (g, q) :: fs, (g', u) :: us, .cons ⟨h1, h2⟩ r => by
    have h1 : g = g' := h1
    subst h1
    unfold putP putF
    by_cases e : g = f
    · rw [if_pos e, if_pos e]
      exact .cons ⟨rfl, hp⟩ r
    · rw [if_neg e, if_neg e]
      exact .cons ⟨rfl, h2⟩ (FsOk.put hp r)
/-- self.f = e -/
theorem kn_fldPut {Kf : PySem.W.Frag} {f : Str} {ta tv : TE} {D : Ends} (w : We fr Γ Θ tv fun p Θ1 => We fr Γ Θ1 ta fun q Θ2 => ∃ a C dx fs j, q = zAt a ∧ Θ2[j]? = some (cI a C dx fs) ∧ Cls Kf C ∧ NoAttr Kf C f ∧ fs.length < 1000 ∧ Kn fr Γ (Θ2.set j (cI a C dx (putP f p fs))) D.nx) : Kn fr Γ Θ (sFld Kf ta tv f D) := fun σ F H ok env =>
  w σ F H ok env _ fun p Θ1 k v F1 H1 s1 ok1 hp => k σ F1 H1 ok1 (env.mono s1) _ fun p2 Θ2 ⟨a, C, dx, fs, j, e, hj, hc, hn, hl, kk⟩ v2 F2 H2 s2 ok2 hp2 => by
    subst e
    obtain ⟨_, ⟨o, h2, us, rfl, h4⟩, _⟩ := ok2.ce _ (List.mem_of_getElem? hj)
    exact ⟨a, C, dx, us, hp2, h2, hc, hn, by rw [← Paired.len h4]; exact hl, kk σ F2 _ (ok2.mut hj rfl rfl ⟨_, rfl, h4.put (p.mono s2 hp)⟩) ((env.mono s1).mono s2)⟩
theorem fld_C {Kf : PySem.W.Frag} {f : Str} {a C dx : Addr} {fs : List (Str × Vp)} {q : Vp} (hc : cI a C dx fs ∈ Θ) (h3 : Cls Kf C) (h4 : NoAttr Kf C f) (h5 : fs.lookup f = some q) : FldP fr Θ Kf f (zAt a) q := fun F H v ok hv => by
  obtain ⟨_, ⟨o, h2, us, rfl, h6⟩, _⟩ := ok.ce _ hc
  obtain ⟨u, h7, h8⟩ := h6.look h5
  exact ⟨a, C, dx, us, u, hv, h2, h3, h4, h7, h8⟩
def minus (H : Hp) (x : Addr) : Hp := fun a => if a = x then none else H a
theorem minus_ne {x a : Addr} (h : a ≠ x) : minus H x a = H a := if_neg h
theorem minus_self {x : Addr} : minus H x x = none := if_pos rfl
/-- what __init__ promises: out tells what the instance at x then is -/
def spI (C : Addr) (pre : Pre) : Sp := fun vs H Q E => ∃ x dx vs' F ps out err, vs = .ref x :: vs' ∧ H x = some (.ins C dx []) ∧ F x = none ∧ Same F H ∧ Paired (fun (p : Vp) v => p.p F v) ps vs' ∧ pre ps out err ∧
  (∀ p, out p → ∀ F' H', Same (minus H x) H' → Same F F' → Same F' H' → Newer F (minus H x) F' → p.p F' (.ref x) → Q .non H') ∧ (∀ e, err e → ∀ F' H' d us, Same (minus H x) H' → Same F F' → Same F' H' → Newer F (minus H x) F' → F' d = some (.xd us) → FsOk F' e.fs us → E (.ref e.C) (some d) H')
theorem we_mk {C : Addr} {pre : Pre} {E : L2.St → XK} {t : TA} (w : Wa fr Γ Θ t fun ps Θ1 => ∃ out err, pre ps out err ∧ (∀ p, out p → K p Θ1) ∧ ∀ e, err e → Kr fr Γ Θ1 (fun cls d σ H => E σ cls d H) e) : We fr Γ Θ (tMkD C (spI C pre) E t) K := fun σ F H ok env Q q =>
  w σ F H ok env _ fun ps Θ1 ⟨out, err, hp, ko, ke⟩ vs F1 H1 s1 ok1 hps => fun x dx nx ndx ne => by
    have hs : Same H1 (upd (upd H1 dx (.own x)) x (.ins C dx [])) := (same_upd ndx).trans (same_upd (by rw [upd_ne (Ne.symm ne)]; exact nx))
    have hm : ∀ {H' : Hp}, Same (minus (upd (upd H1 dx (.own x)) x (.ins C dx [])) x) H' → Same H1 H' := fun h a o e => h a o (by rw [minus_ne (ne_of_none e nx)]; exact hs a o e)
    have hn : ∀ {F' : Hp}, Newer F1 (minus (upd (upd H1 dx (.own x)) x (.ins C dx [])) x) F' → Newer F1 H1 F' := fun h a o e => by
      rcases h a o e with h' | h'
      · exact .inl h'
      · refine .inr (h'.elim (fun h' => ?_) .inr)
        by_cases ea : a = x
        · rw [ea]; exact .inl nx
        · rw [minus_ne ea] at h'
          exact .inl (hs.free h')
    refine ⟨x, dx, vs, F1, ps, out, err, rfl, upd_same, ok1.fh.free nx, ok1.fh.trans hs, hps, hp, fun p ho F' H' hh ff fh nw hv => ⟨rfl, ?_⟩, fun e he F' H' d us hh ff fh nw hd hf => ?_⟩
    · exact q p Θ1 (ko p ho) _ F' H' (s1.trans ff) (ok1.grow (hm hh) ff fh (hn nw)) hv
    · exact ke e he σ F' H' (ok1.grow (hm hh) ff fh (hn nw)) ((env.mono s1).mono ff) d us hd hf
theorem okf_init {x C dx : Addr} (hx : H x = some (.ins C dx [])) (fx : F x = none) (fh : Same F H) : OkF ⟨F, minus H x, []⟩ [cI x C dx []] F H := by
  refine ⟨fh, Same.refl F, fun a o h => .inl ⟨o, h⟩, fun a o _ h => ?_, fun a o h => ?_, by simp, fun c hc => ?_⟩
  · have h : minus H x a = some o := h
    by_cases e : a = x
    · rw [e, minus_self] at h; cases h
    · rw [minus_ne e] at h; exact h
  · have h : minus H x a = some o := h
    by_cases e : a = x
    · rw [e, minus_self] at h; cases h
    · rw [minus_ne e] at h; exact ⟨o, h⟩
  · rw [List.mem_singleton.mp hc]
    exact ⟨fx, ⟨_, hx, [], rfl, .nil⟩, minus_self⟩
end
section
variable {P : Program} {w : World} {K : PySem.W.Frag} {mg : Str → Option Value} {base : Heap} {qual : Str} {C : Addr} {st : Stmt} {N ps : List Str} {k : Nat} {pre : Pre}
/-- the body of __init__: at its end the instance is what out says -/
theorem SrcI.okAX (F : SrcI K C qual st ps) (S : FnScope N ps (defScope st)) (len : ∀ qs out err, pre qs out err → qs.length + 1 = ps.length)
    (hbody : ∀ (f : Addr) (cdv : Value) (A : Around) (outer : List Env) (s : Shared) (H : Hp) (E : XK) (qs : List Vp) (out : Vp → Prop) (err : Er → Prop), Room k (A.deeper (envOfC qual (defScope st) s.heap.objs.size f cdv)) → pre qs out err →
      ∃ t, PSs (cxOf (L2.CX P w) P w K mg base N qual (defScope st) f cdv A outer s H E) (defBody st) t ∧ ∀ fr x dx (Q : L2.St → Hp → Prop) (rt : VK), (∀ p, out p → ∀ σ F H, (∃ Θ, OkF fr Θ F H) → p.p F (.ref x) → Q σ H) → (∀ p, out p → ∀ F H, (∃ Θ, OkF fr Θ F H) → p.p F (.ref x) → rt .non H) → Rse fr E err →
        Kn fr (envOf N (zAt x :: qs)) [cI x C dx []] (t { nx := Q, rt := rt })) : DefI P w K mg base (L2.CX P w) (k + 1) C ps (spI C pre) := by
  refine F.okX S (fun vs H Q E h => ?_) (fun f cdv A outer s H vs Q E hr h => ?_)
  · obtain ⟨x, dx, vs', F, qs, out, err, rfl, _, _, _, h2, h3, _⟩ := h
    rw [List.length_cons, ← Paired.len h2]
    exact len _ _ _ h3
  · obtain ⟨x, dx, vs', F, qs, out, err, rfl, hx, fx, fh, h2, h3, h4, h5⟩ := h
    obtain ⟨t, ht, hk⟩ := hbody f cdv A outer s H E qs out err hr h3
    have post : ∀ {Θ : List Cel} {F' H' : Hp}, OkF ⟨F, minus H x, []⟩ Θ F' H' → Same (minus H x) H' ∧ Same F F' ∧ Same F' H' ∧ Newer F (minus H x) F' := fun ok => ⟨fun a o h => ok.h0 a o (by simp) h, ok.f0, ok.fh, ok.nw⟩
    have c1 : ∀ p, out p → ∀ (σ : L2.St) F' H', (∃ Θ, OkF ⟨F, minus H x, []⟩ Θ F' H') → p.p F' (.ref x) → Q .non H' := fun p hp σ F' H' ⟨Θ, ok⟩ hv => by
      obtain ⟨a, b, c, d⟩ := post ok
      exact h4 p hp F' H' a b c d hv
    have c2 : Rse ⟨F, minus H x, []⟩ E err := fun e he Θ F' H' d us ok hd hf => by
      obtain ⟨a, b, c, n⟩ := post ok
      exact h5 e he F' H' d us a b c n hd hf
    exact ⟨t, ht, hk ⟨F, minus H x, []⟩ x dx (fun _ H' => Q .non H') Q c1 (fun p hp F' H' => c1 p hp [] F' H') c2 _ F H (okf_init hx fx fh) (env_start (vs := .ref x :: vs') (.cons rfl h2))⟩
end
section
variable {F F' H H' : Hp} {E : XK} {err : Er → Prop}
/-- fields that are plain stand anywhere -/
theorem PErs.rais {C : Addr} {fs : List (Str × Vp)} {us : List (Str × V)} (h : PErs F H E err) (fh : Same F H) (he : err ⟨C, fs⟩) (hf : ∀ F', FsOk F' fs us) : Rais E H C us := fun H' d sm nd hd => by
  obtain ⟨n1, n2, n3⟩ := newF_of fh sm
  exact h _ he _ H' d us sm n1 n2 n3 (newF_at nd hd) (hf _)
theorem fs1S {f : Str} {z : Str} (h : Asc z) : ∀ F', FsOk F' [(f, iz zS z)] [(f, .str z)] := fun _ => .cons ⟨rfl, rfl, h⟩ .nil
theorem fs1I {f : Str} {n : Int} : ∀ F', FsOk F' [(f, iz zI n)] [(f, .int n)] := fun _ => .cons ⟨rfl, rfl⟩ .nil
theorem Post.flat {Q : VK} {out : Vp → Prop} {p : Vp} {v : V} (h : Post F H Q out) (fh : Same F H) (hp : out p) (hf : ∀ F', p.p F' v) (hh : Same H H') : Q v H' := h p hp v F H' hh (Same.refl F) (fh.trans hh) (Newer.refl _ _) (hf F)
theorem Post.new {Q : VK} {out : Vp → Prop} {p : Vp} {v : V} (h : Post F H Q out) (fh : Same F H) (hp : out p) (hh : Same H H') (hf : p.p (newF F H H') v) : Q v H' := by
  obtain ⟨n1, n2, n3⟩ := newF_of fh hh
  exact h p hp v _ H' hh n1 n2 n3 hf
end
end L2
set_option Elab.async false
set_option linter.all false
set_option maxRecDepth 100000
set_option maxHeartbeats 4000000
namespace L2
open PySem PySem.Spec PyProof.Rows PySem.HErr
def tagC (c : Cel) : Addr × Bool := (c.a, c.own)
def CellsAt (F H : Hp) (Θ : List Cel) : Prop := (Θ.map Cel.a).Nodup ∧ ∀ c ∈ Θ, F c.a = none ∧ ∃ o, H c.a = some o ∧ c.φ F o
def SameX (as : List Addr) (H H' : Hp) : Prop := ∀ a o, a ∉ as → H a = some o → H' a = some o
def minusL (H : Hp) (as : List Addr) : Hp := fun a => if a ∈ as then none else H a
abbrev PreC := List Vp → List Cel → (Vp → List Cel → Prop) → (Er → List Cel → Prop) → Prop
structure Eff (F H : Hp) (Θ : List Cel) (F' H' : Hp) (Θ' : List Cel) : Prop where
  hh : SameX (Θ.map Cel.a) H H'
  ff : Same F F'
  fh : Same F' H'
  nw : Newer F H F'
  ca : CellsAt F' H' Θ'
  tg : Θ'.map tagC = Θ.map tagC
def spC (pre : PreC) : Sp := fun vs H Q E => ∃ F ps Θ out err, Same F H ∧ CellsAt F H Θ ∧ Paired (fun (p : Vp) v => p.p F v) ps vs ∧ pre ps Θ out err ∧
  (∀ p Θ', out p Θ' → ∀ v F' H', Eff F H Θ F' H' Θ' → p.p F' v → Q v H') ∧ (∀ e Θ', err e Θ' → ∀ F' H' d us, Eff F H Θ F' H' Θ' → F' d = some (.xd us) → FsOk F' e.fs us → E (.ref e.C) (some d) H')
section
variable {fr : Fr} {Γ Γ' : Gam} {Θ Θ' Θl Θr : List Cel} {F F' H H' : Hp} {K : Vp → List Cel → Prop} {Q : VK}
theorem tag_a (h : Θ'.map tagC = Θ.map tagC) : Θ'.map Cel.a = Θ.map Cel.a := by
  have := congrArg (List.map Prod.fst) h
  rw [List.map_map, List.map_map] at this
  exact this
theorem tag_mem (h : Θ'.map tagC = Θ.map tagC) {c : Cel} (hc : c ∈ Θ') : ∃ d ∈ Θ, d.a = c.a ∧ d.own = c.own := by
  have : tagC c ∈ Θ.map tagC := by rw [← h]; exact List.mem_map.mpr ⟨c, hc, rfl⟩
  obtain ⟨d, hd, e⟩ := List.mem_map.mp this
  exact ⟨d, hd, (Prod.mk.inj e).1, (Prod.mk.inj e).2⟩
theorem OkF.cellsAt (k : OkF fr (Θl ++ Θr) F H) : CellsAt F H Θl := by
  have := k.nd
  rw [List.map_append, List.nodup_append] at this
  exact ⟨this.1, fun c hc => by
    obtain ⟨h1, h2, _⟩ := k.ce c (List.mem_append_left _ hc)
    exact ⟨h1, h2⟩⟩
theorem OkF.eff (k : OkF fr (Θl ++ Θr) F H) (e : Eff F H Θl F' H' Θ') : OkF fr (Θ' ++ Θr) F' H' := by
  have ea := tag_a e.tg
  have hB : ∀ c ∈ Θl ++ Θr, ∀ a o, a ∉ fr.B → fr.H0 a = some o → a ≠ c.a := fun c hc a o hb h q => by
    obtain ⟨_, _, h4⟩ := k.ce c hc
    cases ho : c.own with
    | true =>
      rw [if_pos ho] at h4
      rw [q, h4] at h
      cases h
    | false =>
      rw [if_neg (by rw [ho]; exact Bool.false_ne_true)] at h4
      rw [q] at hb
      exact hb h4
  have nl : ∀ a o, a ∉ fr.B → fr.H0 a = some o → a ∉ Θl.map Cel.a := fun a o hb h q => by
    obtain ⟨c, hc, e⟩ := List.mem_map.mp q
    exact hB c (List.mem_append_left _ hc) a o hb h e.symm
  refine ⟨e.fh, k.f0.trans e.ff, fun a o h => ?_, fun a o hb h => ?_, fun a o h => ?_, ?_, fun c hc => ?_⟩
  · exact k.nwr e.ff h (e.nw a o h)
  · exact e.hh a o (nl a o hb h) (k.h0 a o hb h)
  · by_cases q : a ∈ Θl.map Cel.a
    · rw [← ea] at q
      obtain ⟨c, hc, e1⟩ := List.mem_map.mp q
      obtain ⟨_, o', h', _⟩ := e.ca.2 c hc
      exact ⟨o', by rw [← e1]; exact h'⟩
    · obtain ⟨o', h'⟩ := k.al a o h
      exact ⟨o', e.hh a o' q h'⟩
  · rw [List.map_append, ea, ← List.map_append]
    exact k.nd
  · rcases List.mem_append.mp hc with hc | hc
    · obtain ⟨h1, h2⟩ := e.ca.2 c hc
      refine ⟨h1, h2, ?_⟩
      obtain ⟨d, hd, e1, e2⟩ := tag_mem e.tg hc
      have := (k.ce d (List.mem_append_left _ hd)).2.2
      rw [e1, e2] at this
      exact this
    · obtain ⟨h1, ⟨u, h2, h3⟩, h4⟩ := k.ce c (List.mem_append_right _ hc)
      have ne : c.a ∉ Θl.map Cel.a := fun q => by
        have := k.nd
        rw [List.map_append, List.nodup_append] at this
        exact this.2.2 _ q _ (List.mem_map.mpr ⟨c, hc, rfl⟩) rfl
      refine ⟨?_, ⟨u, e.hh _ _ ne h2, c.mono e.ff h3⟩, h4⟩
      cases q : F' c.a with
      | none => rfl
      | some o =>
        rcases e.nw _ _ q with ⟨o', h'⟩ | h' | ⟨vs, ht⟩
        · rw [h1] at h'
          cases h'
        · rw [h2] at h'
          cases h'
        · have e1 := e.fh _ _ q
          rw [e.hh _ _ ne h2] at e1
          exact (c.nt h3 ((Option.some.inj e1).trans ht)).elim
theorem sps_C {pre : PreC} {E : L2.St → XK} {ps : List Vp} {out : Vp → List Cel → Prop} {err : Er → List Cel → Prop} (hp : pre ps Θl out err) (pm : Θ.Perm (Θl ++ Θr)) (k : ∀ p Θ', out p Θ' → K p (Θ' ++ Θr)) (x : ∀ e Θ', err e Θ' → Kr fr Γ (Θ' ++ Θr) (fun cls d σ H => E σ cls d H) e) : Sps fr Γ Θ (spC pre) E ps K := fun σ F H vs ok env hps Q q => by
  have ok := ok.perm pm
  exact ⟨F, ps, Θl, out, err, ok.fh, ok.cellsAt, hps, hp, fun p Θ' ho v F' H' ef h => q p _ (k p Θ' ho) v F' H' ef.ff (ok.eff ef) h,
    fun e Θ' he F' H' d us ef hd hf => x e Θ' he σ F' H' (ok.eff ef) (env.mono ef.ff) d us hd hf⟩
theorem okf_lent (fh : Same F H) (hc : CellsAt F H Θ) (ho : ∀ c ∈ Θ, c.own = true) : OkF ⟨F, minusL H (Θ.map Cel.a), []⟩ Θ F H := by
  refine ⟨fh, Same.refl F, fun a o h => .inl ⟨o, h⟩, fun a o _ h => ?_, fun a o h => ?_, hc.1, fun c hm => ?_⟩
  · have h : minusL H (Θ.map Cel.a) a = some o := h
    unfold minusL at h
    split at h
    · cases h
    · exact h
  · have h : minusL H (Θ.map Cel.a) a = some o := h
    unfold minusL at h
    split at h
    · cases h
    · exact ⟨o, h⟩
  · obtain ⟨h1, h2⟩ := hc.2 c hm
    refine ⟨h1, h2, ?_⟩
    rw [if_pos (ho c hm)]
    show minusL H (Θ.map Cel.a) c.a = none
    unfold minusL
    rw [if_pos (List.mem_map.mpr ⟨c, hm, rfl⟩)]
/-- Θ'' holds the cells Θ' (and others, which are let go) -/
theorem eff_of {Θ'' Θx : List Cel} (hc : CellsAt F H Θ) (ok : OkF ⟨F, minusL H (Θ.map Cel.a), []⟩ Θ'' F' H') (pm : Θ''.Perm (Θ' ++ Θx)) (tg : Θ'.map tagC = Θ.map tagC) : Eff F H Θ F' H' Θ' := by
  refine ⟨fun a o hn h => ok.h0 a o (by simp) ?_, ok.f0, ok.fh, fun a o h => ?_, (ok.perm pm).cellsAt, tg⟩
  · show minusL H (Θ.map Cel.a) a = some o
    unfold minusL
    rw [if_neg hn]
    exact h
  · rcases ok.nw a o h with h' | h' | h'
    · exact .inl h'
    · have h' : minusL H (Θ.map Cel.a) a = none := h'
      unfold minusL at h'
      split at h'
      · rename_i q
        rw [← tag_a tg] at q
        obtain ⟨c, hc', e⟩ := List.mem_map.mp q
        obtain ⟨h1, _⟩ := (ok.perm pm).cellsAt.2 c hc'
        rw [e, h] at h1
        cases h1
      · exact .inr (.inl h')
    · exact .inr (.inr h')
/-- what a def with lent cells returns: the cells Θ' are there then -/
def RetC (fr : Fr) (Q : VK) (tg : List (Addr × Bool)) (out : Vp → List Cel → Prop) : Prop := ∀ p Θ', out p Θ' → Θ'.map tagC = tg → ∀ Θ'' Θx, Θ''.Perm (Θ' ++ Θx) → Rt fr Θ'' Q p
def RseC (fr : Fr) (E : XK) (tg : List (Addr × Bool)) (err : Er → List Cel → Prop) : Prop := ∀ e Θ', err e Θ' → Θ'.map tagC = tg → ∀ Θ'' Θx, Θ''.Perm (Θ' ++ Θx) → ∀ F H d us, OkF fr Θ'' F H → F d = some (.xd us) → FsOk F e.fs us → E (.ref e.C) (some d) H
theorem RetC.fine {fr' : Fr} {tg : List (Addr × Bool)} {out : Vp → List Cel → Prop} (h : RetC fr Q tg out) (l : FrLe fr fr') : RetC fr' Q tg out := fun p Θ' ho ht Θ'' Θx pm => (h p Θ' ho ht Θ'' Θx pm).fine l
theorem RseC.fine {fr' : Fr} {E : XK} {tg : List (Addr × Bool)} {err : Er → List Cel → Prop} (h : RseC fr E tg err) (l : FrLe fr fr') : RseC fr' E tg err := fun e Θ' he ht Θ'' Θx pm F H d us ok => h e Θ' he ht Θ'' Θx pm F H d us (ok.le l)
theorem kr_C {E : XK} {tg : List (Addr × Bool)} {err : Er → List Cel → Prop} {e : Er} {Θx : List Cel} (h : RseC fr E tg err) (he : err e Θ') (ht : Θ'.map tagC = tg) (pm : Θ.Perm (Θ' ++ Θx)) : Kr fr Γ Θ (fun cls d _ H => E cls d H) e := fun σ F H ok env d us hd hf => h e Θ' he ht Θ Θx pm F H d us ok hd hf
end
section
variable {P : Program} {w : World} {K : PySem.W.Frag} {mg : Str → Option Value} {base : Heap} {x m qual : Str} {C : Addr} {st : Stmt} {N ps : List Str} {k : Nat} {pre : PreC}
theorem Src.okC (F : Src K mg x st ps) (S : FnScope N ps (defScope st)) (len : ∀ qs Θ out err, pre qs Θ out err → qs.length = ps.length ∧ ∀ c ∈ Θ, c.own = true)
    (hbody : ∀ (f : Addr) (cdv : Value) (A : Around) (outer : List Env) (s : Shared) (H : Hp) (E : XK) (qs : List Vp) (Θ : List Cel) (out : Vp → List Cel → Prop) (err : Er → List Cel → Prop), Room k (A.deeper (envOfC x (defScope st) s.heap.objs.size f cdv)) → pre qs Θ out err →
      ∃ t, PSs (cxOf CX0 P w K mg base N x (defScope st) f cdv A outer s H E).nox (defBody st) t ∧ ∀ fr Q, RetC fr Q (Θ.map tagC) out → Kn fr (envOf N qs) Θ (t { nx := fun _ H' => Q .non H', rt := Q })) : Def P w K mg base CX0 (k + 1) x ps (spC pre) := by
  refine F.ok S (fun vs H Q E h => ?_) (fun f cdv A outer s H vs Q E hr h => ?_)
  · obtain ⟨F, qs, Θ, out, err, _, _, h2, h3, _⟩ := h
    rw [← Paired.len h2]
    exact (len _ _ _ _ h3).1
  · obtain ⟨F, qs, Θ, out, err, h1, hc, h2, h3, h4, h5⟩ := h
    obtain ⟨t, ht, hk⟩ := hbody f cdv A outer s H E qs Θ out err hr h3
    exact ⟨t, ht, hk ⟨F, minusL H (Θ.map Cel.a), []⟩ Q (fun p Θ' ho tg Θ'' Θx pm v F' H' ok hv => h4 p Θ' ho v F' H' (eff_of hc ok pm tg) hv) _ F H (okf_lent h1 hc (len _ _ _ _ h3).2) (env_start h2)⟩
theorem Src.okCX (F : Src K mg x st ps) (S : FnScope N ps (defScope st)) (len : ∀ qs Θ out err, pre qs Θ out err → qs.length = ps.length ∧ ∀ c ∈ Θ, c.own = true)
    (hbody : ∀ (f : Addr) (cdv : Value) (A : Around) (outer : List Env) (s : Shared) (H : Hp) (E : XK) (qs : List Vp) (Θ : List Cel) (out : Vp → List Cel → Prop) (err : Er → List Cel → Prop), Room k (A.deeper (envOfC x (defScope st) s.heap.objs.size f cdv)) → pre qs Θ out err →
      ∃ t, PSs (cxOf (L2.CX P w) P w K mg base N x (defScope st) f cdv A outer s H E) (defBody st) t ∧ ∀ fr Q, RetC fr Q (Θ.map tagC) out → RseC fr E (Θ.map tagC) err → Kn fr (envOf N qs) Θ (t { nx := fun _ H' => Q .non H', rt := Q })) : Def P w K mg base (L2.CX P w) (k + 1) x ps (spC pre) := by
  refine F.okX S (fun vs H Q E h => ?_) (fun f cdv A outer s H vs Q E hr h => ?_)
  · obtain ⟨F, qs, Θ, out, err, _, _, h2, h3, _⟩ := h
    rw [← Paired.len h2]
    exact (len _ _ _ _ h3).1
  · obtain ⟨F, qs, Θ, out, err, h1, hc, h2, h3, h4, h5⟩ := h
    obtain ⟨t, ht, hk⟩ := hbody f cdv A outer s H E qs Θ out err hr h3
    exact ⟨t, ht, hk ⟨F, minusL H (Θ.map Cel.a), []⟩ Q (fun p Θ' ho tg Θ'' Θx pm v F' H' ok hv => h4 p Θ' ho v F' H' (eff_of hc ok pm tg) hv) (fun e Θ' he tg Θ'' Θx pm F' H' d us ok hd hf => h5 e Θ' he F' H' d us (eff_of hc ok pm tg) hd hf) _ F H (okf_lent h1 hc (len _ _ _ _ h3).2) (env_start h2)⟩
theorem SrcM.okCX (F : SrcM K C m qual st ps) (S : FnScope N ps (defScope st)) (len : ∀ qs Θ out err, pre qs Θ out err → qs.length = ps.length ∧ ∀ c ∈ Θ, c.own = true)
    (hbody : ∀ (f : Addr) (cdv : Value) (A : Around) (outer : List Env) (s : Shared) (H : Hp) (E : XK) (qs : List Vp) (Θ : List Cel) (out : Vp → List Cel → Prop) (err : Er → List Cel → Prop), Room k (A.deeper (envOfC qual (defScope st) s.heap.objs.size f cdv)) → pre qs Θ out err →
      ∃ t, PSs (cxOf (L2.CX P w) P w K mg base N qual (defScope st) f cdv A outer s H E) (defBody st) t ∧ ∀ fr Q, RetC fr Q (Θ.map tagC) out → RseC fr E (Θ.map tagC) err → Kn fr (envOf N qs) Θ (t { nx := fun _ H' => Q .non H', rt := Q })) : DefM P w K mg base (L2.CX P w) (k + 1) C m ps (spC pre) := by
  refine F.okX S (fun vs H Q E h => ?_) (fun f cdv A outer s H vs Q E hr h => ?_)
  · obtain ⟨F, qs, Θ, out, err, _, _, h2, h3, _⟩ := h
    rw [← Paired.len h2]
    exact (len _ _ _ _ h3).1
  · obtain ⟨F, qs, Θ, out, err, h1, hc, h2, h3, h4, h5⟩ := h
    obtain ⟨t, ht, hk⟩ := hbody f cdv A outer s H E qs Θ out err hr h3
    exact ⟨t, ht, hk ⟨F, minusL H (Θ.map Cel.a), []⟩ Q (fun p Θ' ho tg Θ'' Θx pm v F' H' ok hv => h4 p Θ' ho v F' H' (eff_of hc ok pm tg) hv) (fun e Θ' he tg Θ'' Θx pm F' H' d us ok hd hf => h5 e Θ' he F' H' d us (eff_of hc ok pm tg) hd hf) _ F H (okf_lent h1 hc (len _ _ _ _ h3).2) (env_start h2)⟩
theorem SrcM.okC (F : SrcM K C m qual st ps) (S : FnScope N ps (defScope st)) (len : ∀ qs Θ out err, pre qs Θ out err → qs.length = ps.length ∧ ∀ c ∈ Θ, c.own = true)
    (hbody : ∀ (f : Addr) (cdv : Value) (A : Around) (outer : List Env) (s : Shared) (H : Hp) (E : XK) (qs : List Vp) (Θ : List Cel) (out : Vp → List Cel → Prop) (err : Er → List Cel → Prop), Room k (A.deeper (envOfC qual (defScope st) s.heap.objs.size f cdv)) → pre qs Θ out err →
      ∃ t, PSs (cxOf CX0 P w K mg base N qual (defScope st) f cdv A outer s H E).nox (defBody st) t ∧ ∀ fr Q, RetC fr Q (Θ.map tagC) out → Kn fr (envOf N qs) Θ (t { nx := fun _ H' => Q .non H', rt := Q })) : DefM P w K mg base CX0 (k + 1) C m ps (spC pre) := by
  refine F.ok S (fun vs H Q E h => ?_) (fun f cdv A outer s H vs Q E hr h => ?_)
  · obtain ⟨F, qs, Θ, out, err, _, _, h2, h3, _⟩ := h
    rw [← Paired.len h2]
    exact (len _ _ _ _ h3).1
  · obtain ⟨F, qs, Θ, out, err, h1, hc, h2, h3, h4, h5⟩ := h
    obtain ⟨t, ht, hk⟩ := hbody f cdv A outer s H E qs Θ out err hr h3
    exact ⟨t, ht, hk ⟨F, minusL H (Θ.map Cel.a), []⟩ Q (fun p Θ' ho tg Θ'' Θx pm v F' H' ok hv => h4 p Θ' ho v F' H' (eff_of hc ok pm tg) hv) _ F H (okf_lent h1 hc (len _ _ _ _ h3).2) (env_start h2)⟩
end
end L2
set_option Elab.async false
set_option linter.all false
set_option maxRecDepth 100000
set_option maxHeartbeats 4000000
namespace L2
open PySem PySem.Spec PyProof.Rows PySem.HErr
def zTy (n : String) : Vp := ⟨fun _ v => v = .ty n, fun _ h => h⟩
section
variable {fr : Fr} {Γ Γ' : Gam} {Θ Θ' : List Cel} {F F' H H' : Hp} {K : Vp → List Cel → Prop} {Q : VK} {Kf : PySem.W.Frag}
theorem we_cT {n : String} (k : K (zTy n) Θ) : We fr Γ Θ (tC (.ty n)) K := we_c (fun _ => rfl) k
theorem we_cR {a : Addr} (k : K (zAt a) Θ) : We fr Γ Θ (tC (.ref a)) K := we_c (fun _ => rfl) k
def TyP (fr : Fr) (Θ : List Cel) (Kf : PySem.W.Frag) (p : Vp) (t : Value) : Prop := ∀ F H v, OkF fr Θ F H → p.p F v → TyX Kf H v t
theorem ty_L {α : Type} {r : Rep α} {xs : List α} : TyP fr Θ Kf (iz (zL r) xs) (.type "list") := fun F H v ok ⟨a, vs, h1, h2, h3⟩ => by subst h1; exact .base (.lst (ok.fh _ _ h2))
theorem ty_T {α : Type} [TNar α] {r : Rep α} {xs : List α} : TyP fr Θ Kf (iz (zT r) xs) (.type "tuple") := fun F H v ok ⟨a, vs, h1, h2, h3⟩ => by
  subst h1
  rcases h2 with h2 | ⟨_, o, h2, _⟩
  · exact .base (.tup (ok.fh _ _ h2))
  · exact .fTuple (ok.fh _ _ h2)
theorem ty_2 {α β : Type} {r : Rep α} {s : Rep β} {x : α × β} : TyP fr Θ Kf (iz (z2 r s) x) (.type "tuple") := fun F H v ok ⟨a, u, w, h1, h2, h3⟩ => by subst h1; exact .base (.tup (ok.fh _ _ h2))
theorem ty_I {n : Int} : TyP fr Θ Kf (iz zI n) (.type "int") := fun F H v ok h => by cases (show v = V.int n from h); exact .base (.int _)
theorem ty_B {n : Bool} : TyP fr Θ Kf (iz zB n) (.type "bool") := fun F H v ok h => by cases (show v = V.bl n from h); exact .base (.bl _)
theorem ty_S {n : Str} : TyP fr Θ Kf (iz zS n) (.type "str") := fun F H v ok h => by cases h.1; exact .base (.str _)
theorem cb_isi {p : Vp} {a n : String} {b : Bool} (h : TyP fr Θ Kf p (.type a)) (e : kitB a n = some b) (k : K (iz zB b) Θ) : Cbs fr Θ (rIsi Kf) [p, zTy n] K := fun F H vs ok hps Q q => by
  cases hps with
  | cons h1 hp => cases hp with
    | cons h2 hp => cases hp with
      | nil =>
        have h2 : _ = V.ty n := h2
        subst h2
        exact ⟨_, _, _, _, b, rfl, .ty _, h F H _ ok h1, kit_ty e, q.go k ok rfl⟩
theorem kit_ll : kitB "list" "list" = some true := by decide +kernel
theorem kit_tt : kitB "tuple" "tuple" = some true := by decide +kernel
theorem kit_ii : kitB "int" "int" = some true := by decide +kernel
theorem kit_ib : kitB "int" "bool" = some false := by decide +kernel
theorem kit_bb : kitB "bool" "bool" = some true := by decide +kernel
theorem kit_ss : kitB "str" "str" = some true := by decide +kernel
theorem im_t {b : Bool} {t : TT} {c : Bool} (h : b = true → Et fr Γ Θ t c) : b = true → Et fr Γ Θ t c := h
theorem im_f {b : Bool} {t : TT} {c : Bool} (h : b = false → Et fr Γ Θ t c) : b = false → Et fr Γ Θ t c := h
theorem im_tv {b : Bool} {t : TE} {p : Vp} (h : b = true → Ev fr Γ Θ t p) : b = true → Ev fr Γ Θ t p := h
theorem im_fv {b : Bool} {t : TE} {p : Vp} (h : b = false → Ev fr Γ Θ t p) : b = false → Ev fr Γ Θ t p := h
end
end L2
set_option Elab.async false
set_option linter.all false
set_option maxRecDepth 100000
set_option maxHeartbeats 4000000
namespace L2
open PySem PySem.Spec PyProof.Rows PySem.HErr
abbrev PreN := List Vp → (Vp → List Cel → Prop) → (Er → Prop) → Prop
def spN (pre : PreN) : Sp := fun vs H Q E => ∃ F ps out err, Same F H ∧ Paired (fun (p : Vp) v => p.p F v) ps vs ∧ pre ps out err ∧
  (∀ p Θn, out p Θn → ∀ v F' H', Same H H' → Same F F' → Same F' H' → Newer F H F' → CellsAt F' H' Θn → (∀ c ∈ Θn, H c.a = none ∧ c.own = true) → p.p F' v → Q v H') ∧ PErs F H E err
section
variable {fr : Fr} {Γ Γ' : Gam} {Θ Θ' Θn : List Cel} {F F' H H' : Hp} {K : Vp → List Cel → Prop} {Q : VK}
theorem OkF.more (k : OkF fr Θ F H) (hh : Same H H') (ff : Same F F') (fh : Same F' H') (nw : Newer F H F') (ca : CellsAt F' H' Θn) (hn : ∀ c ∈ Θn, H c.a = none ∧ c.own = true) : OkF fr (Θn ++ Θ) F' H' := by
  have g := k.grow hh ff fh nw
  refine ⟨g.fh, g.f0, g.nw, g.h0, g.al, ?_, fun c hc => ?_⟩
  · rw [List.map_append, List.nodup_append]
    refine ⟨ca.1, g.nd, fun a ha b hb e => ?_⟩
    obtain ⟨c, hc, rfl⟩ := List.mem_map.mp ha
    obtain ⟨d, hd, rfl⟩ := List.mem_map.mp hb
    obtain ⟨_, ⟨o, h2, _⟩, _⟩ := k.ce d hd
    have h1 : H c.a = none := (hn c hc).1
    rw [e, h2] at h1
    cases h1
  · rcases List.mem_append.mp hc with hc | hc
    · obtain ⟨h1, h2⟩ := ca.2 c hc
      obtain ⟨h3, h4⟩ := hn c hc
      exact ⟨h1, h2, by rw [if_pos h4]; exact k.h0n h3⟩
    · exact g.ce c hc
def RetN (fr : Fr) (Q : VK) (out : Vp → List Cel → Prop) : Prop := ∀ p Θn, out p Θn → (∀ c ∈ Θn, c.own = true) → ∀ Θ'' Θx, Θ''.Perm (Θn ++ Θx) → Rt fr Θ'' Q p
theorem RetN.fine {fr' : Fr} {out : Vp → List Cel → Prop} (h : RetN fr Q out) (l : FrLe fr fr') : RetN fr' Q out := fun p Θn ho hn Θ'' Θx pm => (h p Θn ho hn Θ'' Θx pm).fine l
end
section
variable {P : Program} {w : World} {K : PySem.W.Frag} {mg : Str → Option Value} {base : Heap} {x m qual : Str} {C : Addr} {st : Stmt} {N ps : List Str} {k : Nat} {pre : PreN}
theorem retN_of {F H : Hp} {Q : VK} {out : Vp → List Cel → Prop} (h4 : ∀ p Θn, out p Θn → ∀ v F' H', Same H H' → Same F F' → Same F' H' → Newer F H F' → CellsAt F' H' Θn → (∀ c ∈ Θn, H c.a = none ∧ c.own = true) → p.p F' v → Q v H') : RetN ⟨F, H, []⟩ Q out := fun p Θn ho hn Θ'' Θx pm v F' H' ok hv => by
  have ok2 := ok.perm pm
  obtain ⟨a, b, c, d⟩ := ok.post
  refine h4 p Θn ho v F' H' a b c d ok2.cellsAt (fun e he => ⟨?_, hn e he⟩) hv
  have := (ok2.ce e (List.mem_append_left _ he)).2.2
  rw [if_pos (hn e he)] at this
  exact this
theorem Src.okN (F : Src K mg x st ps) (S : FnScope N ps (defScope st)) (len : ∀ qs out err, pre qs out err → qs.length = ps.length)
    (hbody : ∀ (f : Addr) (cdv : Value) (A : Around) (outer : List Env) (s : Shared) (H : Hp) (E : XK) (qs : List Vp) (out : Vp → List Cel → Prop) (err : Er → Prop), Room k (A.deeper (envOfC x (defScope st) s.heap.objs.size f cdv)) → pre qs out err →
      ∃ t, PSs (cxOf CX0 P w K mg base N x (defScope st) f cdv A outer s H E).nox (defBody st) t ∧ ∀ fr Q, RetN fr Q out → Kn fr (envOf N qs) [] (t { nx := fun _ H' => Q .non H', rt := Q })) : Def P w K mg base CX0 (k + 1) x ps (spN pre) := by
  refine F.ok S (fun vs H Q E h => ?_) (fun f cdv A outer s H vs Q E hr h => ?_)
  · obtain ⟨F, qs, out, err, _, h2, h3, _⟩ := h
    rw [← Paired.len h2]
    exact len _ _ _ h3
  · obtain ⟨F, qs, out, err, h1, h2, h3, h4, h5⟩ := h
    obtain ⟨t, ht, hk⟩ := hbody f cdv A outer s H E qs out err hr h3
    exact ⟨t, ht, hk _ Q (retN_of h4) _ F H (OkF.start h1) (env_start h2)⟩
end
theorem nest_frz {α : Type} {r : Rep α} {fr : Fr} {Θ : List Cel} {F H : Hp} {a : Addr} {as : List Addr} {ls : List (List α)} (ok : OkF fr (cL a zRef as :: (cells r as ls ++ Θ)) F H) (hl : as.length = ls.length) : ∃ F', Same F F' ∧ OkF fr Θ F' H ∧ (iz (zL (zL r)) ls).p F' (.ref a) := by
  obtain ⟨F1, s1, ok1, p1⟩ := okf_frzN (Θ := cL a zRef as :: Θ) hl (ok.perm (List.perm_middle.symm))
  obtain ⟨h0, ⟨o, h3, vs, rfl, h5⟩, _⟩ := ok1.ce _ (List.mem_cons_self ..)
  have h0 : F1 a = none := h0
  have h3 : H a = some (.lst vs) := h3
  have ok2 := ok1.frz (i := 0) (c := cL a zRef as) rfl rfl h3
  have s2 : Same F1 (upd F1 a (.lst vs)) := same_upd h0
  refine ⟨_, s1.trans s2, ok2, a, vs, rfl, upd_same, ?_⟩
  have : ∀ {F2 : Hp}, Same F1 F2 → ∀ {vs : List V} {as : List Addr} {ls : List (List α)}, PVs zRef F1 vs as → Paired (fun a l => (zL r).p F1 (.ref a) l) as ls → PVs (zL r) F2 vs ls := by
    intro F2 s2 vs as ls h
    induction h generalizing ls with
    | nil => intro q; cases q; exact .nil
    | cons a _ ih => intro q; cases q with
      | cons b c =>
        have a : _ = V.ref _ := a
        subst a
        exact .cons ((zL r).mono s2 b) (ih c)
  exact this s2 h5 p1
section
variable {fr : Fr} {Γ Γ' : Gam} {Θ Θ' Θn : List Cel} {F F' H H' : Hp} {K : Vp → List Cel → Prop} {Q : VK}
theorem we_lcRO {α β : Type} {r : Rep α} {s : Rep β} {xs : List α} {pr : α → Bool} {R : α → β → Prop} {wi : TI} {g : TG} {tt : TT} {te : TE} {vs : List Nat} {Γ2 : α → Gam}
    (it : Wi fr Γ Θ wi fun its Θ1 => its = xs.map (iz r) ∧ Θ1 = Θ) (hl : xs.length ≤ 1000) (tg : ∀ x, TgR g vs (iz r x) (wipeG Γ vs) (Γ2 x)) (ht : ∀ x ∈ xs, ∀ c, Et fr (Γ2 x) (c :: Θ) tt (pr x))
    (he : ∀ x ∈ xs, pr x = true → ∀ c, We fr (Γ2 x) (c :: Θ) te fun q Θ' => Θ' = c :: Θ ∧ ∃ y, R x y ∧ q = iz s y) (k : ∀ ys a, Paired R (xs.filter pr) ys → K (zAt a) (cL a s ys :: Θ)) : We fr Γ Θ (tLc wi g tt te vs) K := fun σ F H ok env Q q => by
  refine it σ F H ok env _ fun its Θ1 ⟨e1, e2⟩ J F1 H1 s1 ok1 jok => ?_
  subst e1 e2
  intro D nD
  refine ⟨fun i m H' => m = xs.length - i ∧ i ≤ xs.length ∧ ∃ F2 ys, Same F1 F2 ∧ OkF fr (cL D s ys :: Θ1) F2 H' ∧ Paired R ((xs.take i).filter pr) ys, ⟨xs.length, by simp, Nat.zero_le _, F1, [], Same.refl _, ok1.mkOwn (c := cL D s []) nD rfl ⟨[], rfl, .nil⟩, .nil⟩, ?_⟩
  rintro i m H' ⟨rfl, hi, F2, ys, s2, ok2, py⟩
  obtain ⟨j1, j2⟩ := jok F2 H' s2 ok2.fh
  by_cases hlt : i < xs.length
  · have hx : xs[i]? = some xs[i] := List.getElem?_eq_getElem hlt
    generalize xs[i] = x at hx
    have hm := List.mem_of_getElem? hx
    obtain ⟨jg, jy⟩ := j1 i (iz r x) (by rw [List.getElem?_map, hx]; rfl)
    refine .inr ⟨jg, fun H3 => ∃ F3 ys, Same F1 F3 ∧ OkF fr (cL D s ys :: Θ1) F3 H3 ∧ Paired R ((xs.take (i + 1)).filter pr) ys, fun H3 p => ⟨xs.length - (i + 1), by omega, rfl, hlt, p⟩, fun v H3 y => ?_⟩
    obtain ⟨F3, e1, e2, e3, e4, e5⟩ := jy v H3 y
    have ok3 := ok2.grow e2 e1 e3 e4
    have s3 := s2.trans e1
    refine tg x (L2.wipe σ vs) F3 H3 v ok3.fh ((env.mono (s1.trans s3)).wipe vs) e5 _ fun σ2 env2 hw => ⟨by rw [hw, wipe_idem], ?_⟩
    have et : (xs.take (i + 1)).filter pr = (xs.take i).filter pr ++ if pr x = true then [x] else [] := by
      rw [take_more hx, List.filter_append, List.filter_cons]
      rfl
    refine ht x hm _ σ2 F3 H3 ok3 env2 _ fun b Θ2 ⟨e6, e7⟩ F4 H4 s4 ok4 => ?_
    subst e6 e7
    by_cases hb : pr x = true
    · rw [if_pos hb]
      rw [if_pos hb] at et
      refine he x hm hb _ σ2 F4 H4 ok4 (env2.mono s4) _ fun p Θ3 ⟨e8, y, hR, e9⟩ u F5 H5 s5 ok5 hp => ?_
      subst e8 e9
      obtain ⟨_, ⟨o, h2, acc, rfl, h4⟩, _⟩ := ok5.ce _ (List.mem_cons_self ..)
      have ok6 := ok5.mut (i := 0) (c := cL D s ys) (c' := cL D s (ys ++ [y])) (o := .lst (acc ++ [u])) rfl rfl rfl ⟨_, rfl, PySem.Paired.snoc h4 hp⟩
      refine ⟨acc, h2, ?_, F5, ys ++ [y], (s3.trans s4).trans s5, ok6, ?_⟩
      · rw [Paired.len h4, ← Paired.len py]
        have := List.length_filter_le pr (xs.take i)
        rw [List.length_take] at this
        exact small1000 (by omega)
      · rw [et]
        exact PySem.Paired.snoc py hR
    · rw [if_neg hb]
      rw [if_neg hb, List.append_nil] at et
      exact ⟨F4, ys, s3.trans s4, ok4, by rw [et]; exact py⟩
  · have e : i = xs.length := by omega
    subst e
    rw [List.take_length] at py
    exact .inl ⟨by rw [List.length_map] at j2; exact j2, q _ _ (k ys D py) _ F2 H' (s1.trans s2) ok2 rfl⟩
theorem we_lcO {α β : Type} {r : Rep α} {s : Rep β} {xs : List α} {pr : α → Bool} {f : α → β} {wi : TI} {g : TG} {tt : TT} {te : TE} {vs : List Nat} {Γ2 : α → Gam}
    (it : Wi fr Γ Θ wi fun its Θ1 => its = xs.map (iz r) ∧ Θ1 = Θ) (hl : xs.length ≤ 1000) (tg : ∀ x, TgR g vs (iz r x) (wipeG Γ vs) (Γ2 x)) (ht : ∀ x ∈ xs, ∀ c, Et fr (Γ2 x) (c :: Θ) tt (pr x))
    (he : ∀ x ∈ xs, pr x = true → ∀ c, Ev fr (Γ2 x) (c :: Θ) te (iz s (f x))) (k : ∀ a, K (zAt a) (cL a s ((xs.filter pr).map f) :: Θ)) : We fr Γ Θ (tLc wi g tt te vs) K :=
  we_lcRO (R := fun x y => y = f x) it hl tg ht (fun x hx hp c => (he x hx hp c).imp fun p Θ' ⟨e1, e2⟩ => ⟨e2, f x, rfl, e1⟩) fun ys a h => by
    rw [paired_map h]
    exact k a
/-- the value as it stood in F0 -/
def pin (F0 : Hp) (p : Vp) : Vp := ⟨fun _ v => p.p F0 v, fun _ h => h⟩
/-- the object at a, and what it is just now -/
def zBoth (a : Addr) (q : Vp) : Vp := ⟨fun F v => v = .ref a ∧ q.p F v, fun e ⟨h1, h2⟩ => ⟨h1, q.mono e h2⟩⟩
/-- Fc: F0 and the contents of the cells Θb -/
structure Lend (fr : Fr) (Θb : List Cel) (F0 Fc : Hp) : Prop where
  s : Same F0 Fc
  f0 : Same fr.F0 F0
  nw : ∀ a o, F0 a = some o → Nwr fr.F0 fr.H0 a o
  nc : ∀ a o, Fc a = some o → (∃ o', F0 a = some o') ∨ a ∈ Θb.map Cel.a
  nd : (Θb.map Cel.a).Nodup
  ce : ∀ c ∈ Θb, F0 c.a = none ∧ (∃ o, Fc c.a = some o ∧ c.φ F0 o) ∧ c.own = true ∧ fr.H0 c.a = none
theorem we_varP {Θb : List Cel} {F0 Fc : Hp} {B : List Addr} {H0 : Hp} {p : Vp} {i : Nat} (hl : Lend fr Θb F0 Fc) (h : Γ[i]? = some (some (pin F0 p))) (k : K p Θ) : We ⟨Fc, H0, B⟩ Γ Θ (tVar i) K := fun σ F H ok env Q q => by
  obtain ⟨v, h1, h2⟩ := env.get h
  exact ⟨v, h1, q.go k ok (p.mono (hl.s.trans ok.f0) h2)⟩
theorem we_varB {a : Addr} {p : Vp} {i : Nat} (h : Γ[i]? = some (some (zBoth a p))) (k : K p Θ) : We fr Γ Θ (tVar i) K := fun σ F H ok env Q q => by
  obtain ⟨v, h1, h2⟩ := env.get h
  exact ⟨v, h1, q.go k ok h2.2⟩
/-- a list, lent -/
theorem Lend.lst {α : Type} {r : Rep α} {G : Addr} {xs : List α} {Θx : List Cel} {F0 Fc : Hp} (hl : Lend fr (cL G r xs :: Θx) F0 Fc) : ∀ F v, Same Fc F → (zAt G).p F0 v → (zBoth G (iz (zL r) xs)).p F v := fun F v hs hv => by
  have hv : v = .ref G := hv
  subst hv
  obtain ⟨_, ⟨o, h2, vs, rfl, h3⟩, _⟩ := hl.ce _ (.head _)
  exact ⟨rfl, G, vs, rfl, hs _ _ h2, Paired.imp2 (fun _ _ h => r.mono (hl.s.trans hs) h) h3⟩
end
end L2
set_option Elab.async false
set_option linter.all false
set_option maxRecDepth 100000
set_option maxHeartbeats 4000000
namespace L2
open PySem PySem.Spec PyProof.Rows PySem.HErr
abbrev PreB := List Vp → (Vp → Prop) → Prop
/-- the first argument is the box; what comes out is one of o -/
def preB (q : PreB) : PreC := fun ps Θ out err => ∃ b l qs o, ps = zAt b :: qs ∧ Θ = [cBox true b l] ∧ q qs o ∧ out = (fun p Θ' => o p ∧ Θ' = [cBox true b l]) ∧ err = fun _ _ => False
section
variable {fr : Fr} {Γ Γ' : Gam} {Θ Θ' Θn : List Cel} {F F' H H' : Hp} {K : Vp → List Cel → Prop} {Q : VK}
theorem perm_of_mem {c : Cel} (h : c ∈ Θ) : ∃ Θr, Θ.Perm ([c] ++ Θr) := by
  obtain ⟨s, t, rfl⟩ := List.append_of_mem h
  exact ⟨s ++ t, List.perm_middle⟩
theorem sps_B {q : PreB} {E : L2.St → XK} {b l : Addr} {qs : List Vp} {o : Vp → Prop} (hc : cBox true b l ∈ Θ) (hq : q qs o) (k : ∀ p, o p → K p Θ) : Sps fr Γ Θ (spC (preB q)) E (zAt b :: qs) K := fun σ F H vs ok env hps Q kq => by
  obtain ⟨Θr, pm⟩ := perm_of_mem hc
  have ok1 := ok.perm pm
  exact ⟨F, _, [cBox true b l], _, _, ok1.fh, ok1.cellsAt, hps, ⟨b, l, qs, o, rfl, rfl, hq, rfl, rfl⟩, fun p Θ' ⟨ho, hΘ⟩ v F' H' ef h => by
    subst hΘ
    exact kq p Θ (k p ho) v F' H' ef.ff ((ok1.eff ef).perm pm.symm) h, fun e Θ' he => he.elim⟩
def RetB (fr : Fr) (Q : VK) (b l : Addr) (o : Vp → Prop) : Prop := ∀ p, o p → ∀ Θ, cBox true b l ∈ Θ → Rt fr Θ Q p
theorem RetB.fine {fr' : Fr} {b l : Addr} {o : Vp → Prop} (h : RetB fr Q b l o) (le : FrLe fr fr') : RetB fr' Q b l o := fun p hp Θ hc => (h p hp Θ hc).fine le
end
section
variable {P : Program} {w : World} {K : PySem.W.Frag} {mg : Str → Option Value} {base : Heap} {x : Str} {st : Stmt} {N ps : List Str} {k : Nat} {q : PreB}
theorem Src.okB (F : Src K mg x st ps) (S : FnScope N ps (defScope st)) (len : ∀ qs o, q qs o → qs.length + 1 = ps.length)
    (hbody : ∀ (f : Addr) (cdv : Value) (A : Around) (outer : List Env) (s : Shared) (H : Hp) (E : XK) (b l : Addr) (qs : List Vp) (o : Vp → Prop), Room k (A.deeper (envOfC x (defScope st) s.heap.objs.size f cdv)) → q qs o →
      ∃ t, PSs (cxOf CX0 P w K mg base N x (defScope st) f cdv A outer s H E).nox (defBody st) t ∧ ∀ fr Q, RetB fr Q b l o → Kn fr (envOf N (zAt b :: qs)) [cBox true b l] (t { nx := fun _ H' => Q .non H', rt := Q })) : Def P w K mg base CX0 (k + 1) x ps (spC (preB q)) := by
  refine F.okC S (fun qs Θ out err ⟨b, l, qs', o, h1, h2, h3, _⟩ => ⟨by rw [h1]; exact len _ _ h3, fun c hc => by rw [h2] at hc; rw [List.mem_singleton.mp hc]; rfl⟩) (fun f cdv A outer s H E qs Θ out err hr hpre => ?_)
  obtain ⟨b, l, qs', o, rfl, rfl, h3, rfl, rfl⟩ := hpre
  obtain ⟨t, ht, hk⟩ := hbody f cdv A outer s H E b l qs' o hr h3
  refine ⟨t, ht, fun fr Q hret => hk fr Q fun p hp Θ hc => ?_⟩
  obtain ⟨Θr, pm⟩ := perm_of_mem hc
  exact hret p [cBox true b l] ⟨hp, rfl⟩ rfl Θ Θr pm
end
section
variable {P : Program} {w : World} {K : PySem.W.Frag} {mg : Str → Option Value} {base : Heap}
/-- new objects but the box are frozen -/
def newB (F H H' : Hp) (b : Addr) : Hp := fun a => if a = b then none else match H a with
  | none => H' a
  | some _ => F a
theorem newB_at {F H H' : Hp} {a b : Addr} {o : HO} (ne : a ≠ b) (n : H a = none) (h : H' a = some o) : newB F H H' b a = some o := by
  unfold newB
  rw [if_neg ne, n]
  exact h
theorem eff_box {F H H' : Hp} {b l : Addr} (fh : Same F H) (fb : F b = none) (hc : ∃ o, H b = some o ∧ (cBox true b l).φ F o) (bx : Bx b l H H') : Eff F H [cBox true b l] (newB F H H' b) H' [cBox true b l] := by
  obtain ⟨o, h1, ns', _, _, _, e0, e1, e2⟩ := hc
  have s1 : Same F (newB F H H' b) := fun a o h => by
    unfold newB
    rw [if_neg (fun e => by rw [e, fb] at h; cases h), fh a o h]
    exact h
  have s2 : Same (newB F H H' b) H' := fun a o h => by
    unfold newB at h
    split at h
    · cases h
    · rename_i ne
      cases q : H a with
      | none => rw [q] at h; exact h
      | some u => rw [q] at h; exact bx.sm a o ne (fh a o h)
  obtain ⟨ns, i, c, r, d1, d2, d3, d4⟩ := bx.b1.ex
  refine ⟨fun a o hn h => bx.sm a o (fun e => hn (List.mem_singleton.mpr e)) h, s1, s2, fun a o h => ?_, ⟨by simp, fun c' hc' => ?_⟩, rfl⟩
  · unfold newB at h
    split at h
    · cases h
    · cases q : H a with
      | none => exact .inr (.inl q)
      | some u => rw [q] at h; exact .inl ⟨o, h⟩
  · rw [List.mem_singleton.mp hc']
    refine ⟨if_pos rfl, _, d1, ns', i, c, r, rfl, s1 _ _ e1, d3⟩
/-- _law_words(box, many) -/
def preWords : PreB := fun qs o => ∃ many : Nat, qs = [iz zI many] ∧ many ≤ 30 ∧ o = fun p => ∃ ws : List Str, ws.length = many ∧ ws.Nodup ∧ (∀ z ∈ ws, Wd z) ∧ p = iz (zL zS) ws
end
theorem okf_box1 {H : Hp} {b l : Addr} (h : Box H b l) : OkF ⟨minus H b, minus H b, []⟩ [cBox true b l] (minus H b) H := by
  obtain ⟨ns, i, c, r, h1, h2, h3, h4⟩ := h.ex
  have hm : ∀ a o, minus H b a = some o → H a = some o := fun a o h => by
    by_cases e : a = b
    · rw [e, minus_self] at h; cases h
    · rw [minus_ne e] at h; exact h
  refine ⟨fun a o h => hm a o h, Same.refl _, fun a o h => .inl ⟨o, h⟩, fun a o _ h => hm a o h, fun a o h => ⟨o, hm a o h⟩, by simp, fun c' hc => ?_⟩
  rw [List.mem_singleton.mp hc]
  exact ⟨minus_self, ⟨_, h1, ns, i, c, r, rfl, by rw [minus_ne h4]; exact h2, h3⟩, minus_self⟩
theorem enter1 {H : Hp} {b l : Addr} {σ : L2.St} {Γ : Gam} {P : L2.St → Hp → Prop} (h : Box H b l) (e : EnvF Γ σ (minus H b)) (k : ∀ fr, Kn fr Γ [cBox true b l] P) : P σ H := k _ σ _ H (okf_box1 h) e
/-- a loop over a thing that is found by its own way -/
theorem kn_forN {fr : Fr} {Γ : Gam} {Θ : List Cel} {α : Type} {r : Rep α} {A : List α → List Cel → Prop} {wi : TI} {g : TG} {tb : TS} {D : Ends} (it : Wi fr Γ Θ wi fun its Θ1 => ∃ xs : List α, its = xs.map (iz r) ∧ A xs Θ1)
    (k : ∀ xs Θ1, A xs Θ1 → ∀ fr' wi', FrLe fr fr' → Wi fr' Γ Θ1 wi' (fun its Θ2 => its = xs.map (iz r) ∧ Θ2 = Θ1) → Kn fr' Γ Θ1 (tFor wi' g tb D)) : Kn fr Γ Θ (tFor wi g tb D) := fun σ F H ok env =>
  it σ F H ok env _ fun its Θ1 ⟨xs, e, hA⟩ J F1 H1 s1 ok1 jok => by
    subst e
    have up : OkF ⟨F1, fr.H0, fr.B⟩ Θ1 F1 H1 := ⟨ok1.fh, Same.refl _, fun a o h => .inl ⟨o, h⟩, ok1.h0, ok1.al, ok1.nd, ok1.ce⟩
    exact k xs Θ1 hA ⟨F1, fr.H0, fr.B⟩ (fun _ H R => R J H) ok1.fine (fun σ2 F2 H2 ok2 env2 R q => q _ Θ1 ⟨rfl, rfl⟩ J F2 H2 (Same.refl _) ok2 fun F3 H3 s3 fh3 => jok F3 H3 (ok2.f0.trans s3) fh3) σ F1 H1 up (env.mono s1)
/-- [[] for x in xs]: lists of one's own -/
theorem we_lcNil {fr : Fr} {Γ : Gam} {Θ : List Cel} {K : Vp → List Cel → Prop} {α β : Type} {r : Rep α} (s : Rep β) {xs : List α} {wi : TI} {g : TG} {vs : List Nat} {Γ2 : α → Gam}
    (it : Wi fr Γ Θ wi fun its Θ1 => its = xs.map (iz r) ∧ Θ1 = Θ) (hl : xs.length ≤ 1000) (tg : ∀ x, TgR g vs (iz r x) (wipeG Γ vs) (Γ2 x))
    (k : ∀ a as, as.length = xs.length → K (zAt a) (cL a zRef as :: (cells s as (List.replicate xs.length []) ++ Θ))) : We fr Γ Θ (tLc wi g tYes (tLst tNil) vs) K := fun σ F H ok env Q q => by
  refine it σ F H ok env _ fun its Θ1 ⟨e1, e2⟩ J F1 H1 s1 ok1 jok => ?_
  subst e1 e2
  intro D nD
  refine ⟨fun i m H' => m = xs.length - i ∧ i ≤ xs.length ∧ ∃ F2 as, Same F1 F2 ∧ as.length = i ∧ OkF fr (cL D zRef as :: (cells s as (List.replicate i []) ++ Θ1)) F2 H', ⟨xs.length, by simp, Nat.zero_le _, F1, [], Same.refl _, rfl, ok1.mkOwn (c := cL D zRef []) nD rfl ⟨[], rfl, .nil⟩⟩, ?_⟩
  rintro i m H' ⟨rfl, hi, F2, as, s2, la, ok2⟩
  obtain ⟨j1, j2⟩ := jok F2 H' s2 ok2.fh
  by_cases hlt : i < xs.length
  · have hx : xs[i]? = some xs[i] := List.getElem?_eq_getElem hlt
    generalize xs[i] = x at hx
    obtain ⟨jg, jy⟩ := j1 i (iz r x) (by rw [List.getElem?_map, hx]; rfl)
    refine .inr ⟨jg, fun H3 => ∃ F3 as, Same F1 F3 ∧ as.length = i + 1 ∧ OkF fr (cL D zRef as :: (cells s as (List.replicate (i + 1) []) ++ Θ1)) F3 H3, fun H3 p => ⟨xs.length - (i + 1), by omega, rfl, hlt, p⟩, fun v H3 y => ?_⟩
    obtain ⟨F3, e1, e2, e3, e4, e5⟩ := jy v H3 y
    have ok3 := ok2.grow e2 e1 e3 e4
    have s3 := s2.trans e1
    refine tg x (L2.wipe σ vs) F3 H3 v ok3.fh ((env.mono (s1.trans s3)).wipe vs) e5 _ fun σ2 env2 hw => ⟨by rw [hw, wipe_idem], ?_⟩
    refine yes_if ?_
    refine ⟨Nat.zero_le _, fun c nc => ?_⟩
    have ok4 := ok3.mkOwn (c := cL c s []) (o := .lst []) nc rfl ⟨[], rfl, .nil⟩
    obtain ⟨_, ⟨o, h2, acc, rfl, h4⟩, _⟩ := ok4.ce (cL D zRef as) (.tail _ (.head _))
    have ok5 := ok4.mut (i := 1) (c := cL D zRef as) (c' := cL D zRef (as ++ [c])) (o := .lst (acc ++ [.ref c])) rfl rfl rfl ⟨_, rfl, PySem.Paired.snoc h4 (show zRef.p F3 (.ref c) c from rfl)⟩
    refine ⟨acc, h2, by rw [Paired.len h4, la]; exact small1000 (by omega), F3, as ++ [c], s3, by rw [List.length_append, la]; rfl, ok5.perm ?_⟩
    rw [List.replicate_succ', cells_snoc (by rw [la, List.length_replicate]), List.append_assoc]
    exact (List.Perm.swap _ _ _).trans (.cons _ List.perm_middle.symm)
  · have e : i = xs.length := by omega
    subst e
    exact .inl ⟨by rw [List.length_map] at j2; exact j2, q _ _ (k D as la) _ F2 H' (s1.trans s2) ok2 rfl⟩
/-- a list of two things -/
def zLp {α β : Type} (r : Rep α) (s : Rep β) : Rep (α × β) := ⟨fun F v x => ∃ a u w, v = .ref a ∧ F a = some (.lst [u, w]) ∧ r.p F u x.1 ∧ s.p F w x.2, fun e ⟨a, u, w, h1, h2, h3, h4⟩ => ⟨a, u, w, h1, e _ _ h2, r.mono e h3, s.mono e h4⟩⟩
section
variable {fr : Fr} {Γ : Gam} {Θ : List Cel} {K : Vp → List Cel → Prop}
theorem we_lstp {α β : Type} {r : Rep α} {s : Rep β} {t : TA} (w : Wa fr Γ Θ t fun ps Θ1 => ∃ x y, ps = [iz r x, iz s y] ∧ K (iz (zLp r s) (x, y)) Θ1) : We fr Γ Θ (tLst t) K := fun σ F H ok env Q q =>
  w σ F H ok env _ fun ps Θ1 ⟨x, y, e, k⟩ vs F1 H1 s1 ok1 hps => ⟨small_len hps (by rw [e]; simp), fun a na => by
    subst e
    have hps := ps_mono (ok1.sameF (o := .lst vs) na) hps
    cases hps with
    | cons h1 hp => cases hp with
      | cons h2 hp => cases hp with
        | nil => exact (q.mono s1).new k ok1 na ⟨a, _, _, rfl, upd_same, h1, h2⟩⟩
theorem tgLp {Kf : PySem.W.Frag} {i j : Nat} {α β : Type} {r : Rep α} {s : Rep β} {x : α × β} (hij : i ≠ j) (g : TG) (hg : ∀ v σ H Q, (∃ a xs, v = .ref a ∧ SqL Kf H a xs ∧ xs.length = 2 ∧ gCons (gName i) (gCons (gName j) gNil) xs σ H Q) → g v σ H Q) : TgR g [i, j] (iz (zLp r s) x) Γ ((Γ.set i (some (iz r x.1))).set j (some (iz s x.2))) := fun σ F H v fh env hp Q q => by
  obtain ⟨a, u, w, rfl, h2, h4, h5⟩ := hp
  refine hg _ _ _ _ ⟨a, _, rfl, SqL.of (fh _ _ h2), rfl, _, _, rfl, _, _, rfl, rfl, q _ ((env.set (p := iz r x.1) h4).set (p := iz s x.2) h5) ?_⟩
  show ((((σ.set i (some _)).set j (some _)).set j none).set i none) = (σ.set j none).set i none
  rw [List.set_set, set_comm' hij, List.set_set]
end
theorem cutX_drop {α : Type} (xs : List α) (n : Nat) : cutX xs (some (n : Int)) none = xs.drop n := by
  unfold cutX
  rw [HT.sIx_none, HT.sIx_nat]
  by_cases h : n ≤ xs.length
  · rw [Nat.min_eq_left h]
    exact List.take_of_length_le (by rw [List.length_drop]; exact Nat.le_refl _)
  · rw [Nat.min_eq_right (by omega), List.drop_length, List.drop_of_length_le (by omega), List.take_nil]
theorem cutX_take {α : Type} (xs : List α) (n : Nat) : cutX xs none (some (n : Int)) = xs.take n := by
  unfold cutX
  rw [HT.sIx_none, HT.sIx_nat]
  show List.take (min n xs.length - 0) (List.drop 0 xs) = _
  rw [List.drop_zero, Nat.sub_zero, Nat.min_comm]
  by_cases h : n ≤ xs.length
  · rw [Nat.min_eq_right h]
  · rw [Nat.min_eq_left (by omega), List.take_length, List.take_of_length_le (by omega)]
end L2
set_option Elab.async false
set_option linter.all false
set_option maxRecDepth 100000
set_option maxHeartbeats 4000000
namespace L2
open PySem PySem.Spec PyProof.Rows PySem.HErr
section
variable {fr : Fr} {Γ Γ' : Gam} {Θ : List Cel} {F F' H H' : Hp} {K : Vp → List Cel → Prop} {Q : VK}
theorem tyl_S {x : Str} {Kf : PySem.W.Frag} : ∀ F H v, OkF fr Θ F H → (iz zS x).p F v → tyV Kf "str" v H := fun F H v ok ⟨h1, _⟩ => by
  subst h1
  exact rfl
theorem flat_pvs {α : Type} {r : Rep α} {vs : List V} {xs : List α} (h : PVs r F vs xs) : ∀ n : Nat, PVs r F (List.replicate n vs).flatten (List.replicate n xs).flatten
  | 0 => .nil
  | n + 1 => by
    rw [List.replicate_succ, List.replicate_succ, List.flatten_cons, List.flatten_cons]
    exact Paired.app h (flat_pvs h n)
theorem flat_one {α : Type} (x : α) : ∀ n : Nat, (List.replicate n [x]).flatten = List.replicate n x
  | 0 => rfl
  | n + 1 => by rw [List.replicate_succ, List.flatten_cons, flat_one x n]; rfl
def optP {α : Type} (r : Rep α) : Option α → Vp
  | none => zNon
  | some x => iz r x
class NotNon {α : Type} (r : Rep α) : Prop where
  nn : ∀ F v x, r.p F v x → v ≠ .non
instance {α : Type} {r : Rep α} : NotNon (zL r) := ⟨fun F v x ⟨a, vs, h, _⟩ => by rw [h]; exact fun q => by cases q⟩
instance {α : Type} [TNar α] {r : Rep α} : NotNon (zT r) := ⟨fun F v x ⟨a, vs, h, _⟩ => by rw [h]; exact fun q => by cases q⟩
instance {α β : Type} {r : Rep α} {s : Rep β} : NotNon (z2 r s) := ⟨fun F v x ⟨a, u, w, h, _⟩ => by rw [h]; exact fun q => by cases q⟩
instance {α β γ : Type} {r : Rep α} {s : Rep β} {t : Rep γ} : NotNon (z3 r s t) := ⟨fun F v x ⟨a, u, w, z, h, _⟩ => by rw [h]; exact fun q => by cases q⟩
instance : NotNon zI := ⟨fun F v x h => by rw [show v = .int x from h]; exact fun q => by cases q⟩
instance : NotNon zS := ⟨fun F v x h => by rw [h.1]; exact fun q => by cases q⟩
theorem ops_isO {α : Type} {r : Rep α} [NotNon r] {o : Option α} (k : K (iz zB o.isNone) Θ) : Ops fr Θ (fun x y H Q => y = .non ∧ Q (.bl (decide (x = .non))) H) (optP r o) zNon K := fun F H v w ok hv hw Q q => by
  refine ⟨hw, q.go k ok ?_⟩
  show V.bl _ = V.bl _
  cases o with
  | none => rw [show v = .non from hv]; rfl
  | some x => rw [decide_eq_false (NotNon.nn F v x hv)]; rfl
theorem ops_notO {α : Type} {r : Rep α} [NotNon r] {o : Option α} (k : K (iz zB o.isSome) Θ) : Ops fr Θ (fun x y H Q => y = .non ∧ Q (.bl (!decide (x = .non))) H) (optP r o) zNon K := fun F H v w ok hv hw Q q => by
  refine ⟨hw, q.go k ok ?_⟩
  show V.bl _ = V.bl _
  cases o with
  | none => rw [show v = .non from hv]; rfl
  | some x => rw [decide_eq_false (NotNon.nn F v x hv)]; rfl
theorem ops_isX {α : Type} {r : Rep α} [NotNon r] {x : α} (k : K (iz zB false) Θ) : Ops fr Θ (fun x y H Q => y = .non ∧ Q (.bl (decide (x = .non))) H) (iz r x) zNon K := ops_isO (o := some x) k
theorem ops_notX {α : Type} {r : Rep α} [NotNon r] {x : α} (k : K (iz zB true) Θ) : Ops fr Θ (fun x y H Q => y = .non ∧ Q (.bl (!decide (x = .non))) H) (iz r x) zNon K := ops_notO (o := some x) k
theorem ops_isN (k : K (iz zB true) Θ) : Ops fr Θ (fun x y H Q => y = .non ∧ Q (.bl (decide (x = .non))) H) zNon zNon K := ops_isO (r := zI) (o := none) k
theorem ops_notN (k : K (iz zB false) Θ) : Ops fr Θ (fun x y H Q => y = .non ∧ Q (.bl (!decide (x = .non))) H) zNon zNon K := ops_notO (r := zI) (o := none) k
end
end L2
set_option Elab.async false
set_option linter.all false
set_option maxRecDepth 100000
set_option maxHeartbeats 4000000
namespace L2
open PySem PySem.Spec PyProof.Rows PySem.HErr
section
variable {P : Program} {w : World} {A : Around} {E : Value → Shared → Prop} {s : Shared} {K : PySem.W.Frag} {a C f dx : Addr} {mA : Str → Option Value} {name : Str} {args : List Value}
theorem bindS (X : K.In s.heap) (hm : Meth K C name f) {self : Value} {Q : Value × List Value → Shared → Prop} (h : Q (.ref f, [self]) s) : wpAny (model P w) A (bindSpecial (.ref f) self) Q E s :=
  (PySem.W.bind_fn X self (beq_iff_eq.mp hm.fn)).here h
theorem contains_own {x : Value} {Q : Bool → Shared → Prop} (X : K.In s.heap) (I : ObjM s.heap a dx C mA) (hm : Meth K C "__contains__" f)
    (hc : wpAny (model P w) A (call (.ref f) [.ref a, x]) (fun v s' => ∃ b, v = .bool b ∧ Q b s') E s) : wpAny (model P w) A (contains (.ref a) x) Q E s := by
  obtain ⟨od, J, _⟩ := I.look
  unfold contains
  refine wpAny_holding ?_
  rw [stdlibNamesSay?_ref]
  dsimp only
  unfold specialOf
  refine wpAny_bind (wpAny_bind (J.type.here ((PySem.W.looks_findIn X hm.at_).here ?_)))
  rw [if_neg (by simp)]
  unfold callSpecialUnlessNone? specialOf
  refine wpAny_bind (wpAny_bind (wpAny_bind (J.type.here ((PySem.W.looks_findIn X hm.at_).here ?_))))
  refine wpAny_holding ?_
  refine wpAny_bind (bindS X hm ?_)
  dsimp only
  rw [if_neg (by simp)]
  refine wpAny_bind (wpAny_mono hc (fun v s' ⟨b, e, h⟩ => wpAny_pure ?_) fun _ _ z => z)
  subst e
  exact wpAny_pure h
end
def tNotInO (C : Addr) (sp : Sp) (E : St → XK) (ty tp : TE) : TE := fun σ H Q => ty σ H fun y H1 => tp σ H1 fun x H2 => ∃ a dx fs, x = .ref a ∧ H2 a = some (.ins C dx fs) ∧ sp [.ref a, y] H2 (fun v H3 => ∃ b, v = .bl b ∧ Q (.bl (!b)) H3) (E σ)
section
variable {X : Cx} {CX : CXT} {k : Nat} {C : Addr} {ps : List Str} {sp : Sp} {E : St → XK} {i o : Expr} {ty tp : TE}
theorem pc_notinO (D : DefM X.prog X.w X.K X.mg X.base CX k C "__contains__" ps sp) (hr : Room k X.A) (hx : ∀ σ, PassesAt CX X σ (E σ)) (hi : PE X i ty) (ho : PE X o tp) : PC X .NotIn i o (tNotInO C sp E ty tp) := by
  obtain ⟨f, fd, hlk, hm, hb, F⟩ := D.ex
  refine ⟨fun pins s σ H Q I h => ?_⟩
  refine thn (hi.run pins s σ H _ I h) fun iv s1 ⟨y, H1, I1, ry, q1⟩ => thn (ho.run pins s1 σ H1 _ I1 q1) fun u s2 ⟨x, H2, I2, rx, a, dx, fs, ex, ea, q2⟩ => ?_
  subst ex
  obtain rfl : u = Value.ref a := rx
  obtain ⟨mA, O, _⟩ := ins_get I2.hok ea
  unfold compareOp
  refine wpAny_bind (contains_own I2.kIn O hm (wpAny_mono (run_fnS (us := [.ref a, iv]) (vs := [.ref a, y]) F hr hb (hx σ) I2 (.cons rfl (.cons ry .nil)) q2) (fun v s3 ⟨z, H3, I3, rz, b, e, q3⟩ => ?_) fun _ _ z => z))
  subst e
  cases rz
  exact ⟨b, rfl, wpAny_pure ⟨.bl (!b), H3, I3, rfl, q3⟩⟩
end
/-- a dict of the module with words as keys: what stands at z -/
def KDat (K : PySem.W.Frag) (w : World) (a : Addr) (z : Str) (o : Option Value) : Prop := ∃ es n, K.lookup a = some ⟨.type "dict", none, .dict es n, #[]⟩ ∧ PySem.W.KeysLit w.params es.toList ∧ (a == sysModules) = false ∧ PySem.W.nsIn K a z = some o
def rNotInKD (K : PySem.W.Frag) (w : World) : R2 := fun x y H Q => ∃ a z o, x = .str z ∧ y = .ref a ∧ KDat K w a z o ∧ Q (.bl (!o.isSome)) H
theorem op_notinKD {X : Cx} : OpR X (compareOp .NotIn) (rNotInKD X.K X.w) := by
  intro pins s σ H x y v u Q I rx ry h
  obtain ⟨a, z, o, rfl, rfl, ⟨es, n, hl, hk, low, hm⟩, q⟩ := h
  obtain ⟨t, rfl⟩ := (show ∃ t, v = Value.str z t from rx)
  obtain rfl : u = Value.ref a := ry
  have hm' := PySem.W.mapOf_K (prog := X.prog) (w := X.w) I.kIn hl hk
  refine wpAny_notIn_of (strKind_is X.prog X.w z t) low hm' ?_
  rw [PySem.W.find_K hl hm]
  exact ⟨.bl (!o.isSome), H, I.tok _, rfl, q⟩
end L2
set_option Elab.async false
set_option linter.all false
set_option maxRecDepth 100000
set_option maxHeartbeats 4000000
namespace L2
open PySem PySem.Spec PyProof.Rows PySem.HErr
/-- an instance of the class at C -/
def InsC (fr : Fr) (Θ : List Cel) (p : Vp) (C : Addr) : Prop := ∀ F H v, OkF fr Θ F H → p.p F v → ∃ a dx fs, v = .ref a ∧ H a = some (.ins C dx fs)
section
variable {fr : Fr} {Γ Γ' : Gam} {Θ : List Cel} {F F' H H' : Hp} {K : Vp → List Cel → Prop} {Q : VK} {C : Addr} {sp : Sp} {E : L2.St → XK} {ta tb : TE}
theorem InsP.c {p : Vp} {m : Str} (h : InsP fr Θ p C m) : InsC fr Θ p C := fun F H v ok hv => by
  obtain ⟨a, dx, fs, h1, h2, _⟩ := h F H v ok hv
  exact ⟨a, dx, fs, h1, h2⟩
theorem we_notinO (w : We fr Γ Θ ta fun q Θ1 => We fr Γ Θ1 tb fun p Θ2 => InsC fr Θ2 p C ∧ Sps fr Γ Θ2 sp E [p, q] fun r Θ3 => ∃ b, r = iz zB b ∧ K (iz zB (!b)) Θ3) : We fr Γ Θ (tNotInO C sp E ta tb) K := fun σ F H ok env Q k =>
  w σ F H ok env _ fun q Θ1 w1 y F1 H1 s1 ok1 hy => w1 σ F1 H1 ok1 (env.mono s1) _ fun p Θ2 ⟨ic, w2⟩ x F2 H2 s2 ok2 hx => by
    obtain ⟨a, dx, fs, rfl, h2⟩ := ic F2 H2 x ok2 hx
    exact ⟨a, dx, fs, rfl, h2, w2 σ F2 H2 _ ok2 ((env.mono s1).mono s2) (.cons hx (.cons (q.mono s2 hy) .nil)) _ fun r Θ3 ⟨b, e, kk⟩ v F3 H3 s3 ok3 hv => by
      subst e
      have hv : v = .bl b := hv
      exact ⟨b, hv, k _ Θ3 kk _ F3 H3 ((s1.trans s2).trans s3) ok3 rfl⟩⟩
end
section
variable {fr : Fr} {Γ Γ' : Gam} {Θ : List Cel} {F F' H H' : Hp} {K : Vp → List Cel → Prop} {Q : VK}
theorem kop_notinKD {X : Cx} {Kf : PySem.W.Frag} {w : World} (h : X.K = Kf := by rfl) (hw : X.w = w := by rfl) : OpR X (compareOp .NotIn) (rNotInKD Kf w) := h ▸ hw ▸ op_notinKD
theorem kix_kdict {X : Cx} {Kf : PySem.W.Frag} {w : World} (h : X.K = Kf := by rfl) (hw : X.w = w := by rfl) : IxR X (rIxD Kf w) := h ▸ hw ▸ ix_kdict
theorem ops_notinKD {Kf : PySem.W.Frag} {w : World} {a : Addr} {z : Str} {o : Option Value} (hd : KDat Kf w a z o) (k : K (iz zB (!o.isSome)) Θ) : Ops fr Θ (rNotInKD Kf w) (iz zS z) (zAt a) K := fun F H v u ok hv hu Q q => ⟨a, z, o, hv.1, hu, hd, q.go k ok rfl⟩
theorem ops_ixKD {Kf : PySem.W.Frag} {w : World} {a f : Addr} {z : Str} (hd : KDat Kf w a z (some (.ref f))) (k : K (zAt f) Θ) : Ops fr Θ (rIxD Kf w) (zAt a) (iz zS z) K := fun F H v u ok hv hu Q q => by
  obtain ⟨es, n, h1, h2, _, h3⟩ := hd
  exact ⟨a, z, .ref f, hv, hu.1, ⟨es, n, .ref f, h1, h2, h3, rfl⟩, q.go k ok rfl⟩
/-- a call of a name that holds one of several defs -/
theorem we_callA {i : Nat} {S : Addr → Option Sp} {t : TA} {f : Addr} {sp : Sp} (hi : Γ[i]? = some (some (zAt f))) (hS : S f = some sp) (w : Wa fr Γ Θ t fun ps Θ1 => Sps fr Γ Θ1 sp (fun _ _ _ _ => False) ps K) : We fr Γ Θ (tCallA i S t) K := fun σ F H ok env Q q => by
  obtain ⟨v, h1, h2⟩ := env.get hi
  have h2 : v = .ref f := h2
  subst h2
  exact ⟨f, sp, h1, hS, w σ F H ok env _ fun ps Θ1 k vs F1 H1 s1 ok1 hps => k σ F1 H1 vs ok1 (env.mono s1) hps Q (q.mono s1)⟩
end
end L2
set_option Elab.async false
set_option linter.all false
set_option maxRecDepth 100000
set_option maxHeartbeats 4000000
namespace L2
open PySem PySem.Spec PyProof.Rows PySem.HErr
abbrev big : Nat := 100000
theorem big_line {n : Nat} (h : n ≤ big) : n ≤ sizeLine := Nat.le_trans h (by unfold sizeLine; decide)
theorem big_lt {n : Nat} (h : n ≤ big) : n < sizeLine := Nat.lt_of_le_of_lt h (by unfold sizeLine; decide)
inductive EK where
  | tooMany | badWord | double | badNumber | empty | unknown | inUse | badState | notReady | notSound | badPair | badText | noUndo
  deriving DecidableEq
inductive HE where
  | tooMany (kind : Str) (limit : Int)
  | badWord (w : Str)
  | double (n : Str)
  | badNumber (n : Int)
  | empty (n : Str)
  | unknown (n : Str)
  | inUse (n : Str)
  | badState (ns : List Int)
  | notReady (s p : Str) (i : Int)
  | notSound (d : PyData)
  | badPair (n : Str)
  | badText (n : Int)
  | noUndo
def HE.k : HE → EK
  | .tooMany _ _ => .tooMany
  | .badWord _ => .badWord
  | .double _ => .double
  | .badNumber _ => .badNumber
  | .empty _ => .empty
  | .unknown _ => .unknown
  | .inUse _ => .inUse
  | .badState _ => .badState
  | .notReady _ _ _ => .notReady
  | .notSound _ => .notSound
  | .badPair _ => .badPair
  | .badText _ => .badText
  | .noUndo => .noUndo
/-- what is wanted: of the result, of an error -/
abbrev DM (β : Type) := (β → Prop) → (HE → Prop) → Prop
def noX : HE → Prop := fun _ => False
def ifD (c : Bool) (A B : Prop) : Prop := (c = true → A) ∧ (c = false → B)
def andD (c : Bool) (f : (Bool → Prop) → Prop) (k : Bool → Prop) : Prop := (c = true → f k) ∧ (c = false → k false)
def orD (c : Bool) (f : (Bool → Prop) → Prop) (k : Bool → Prop) : Prop := (c = true → k true) ∧ (c = false → f k)
def joinD {S : Type} (f : (S → Prop) → Prop) (k : S → Prop) : Prop := f k
def forD {α S : Type} : List α → S → (α → S → (S → Prop) → (S → Prop) → Prop) → (S → Prop) → Prop
  | [], s, _, after => after s
  | x :: xs, s, body, after => body x s (fun s' => forD xs s' body after) after
def whileN {S : Type} : Nat → S → (S → (S → Prop) → (S → Prop) → Prop) → (S → Prop) → Prop
  | 0, _, _, _ => False
  | n + 1, s, step, after => step s (fun s' => whileN n s' step after) after
def whileD {S : Type} (s : S) (step : S → (S → Prop) → (S → Prop) → Prop) (after : S → Prop) : Prop := ∃ n, whileN n s step after
def mapD {α β : Type} : List α → List β → (α → (β → Prop) → Prop) → (List β → Prop) → Prop
  | [], acc, _, k => k acc
  | x :: xs, acc, f, k => f x fun y => mapD xs (acc ++ [y]) f k
def compD {α β : Type} : List α → List β → (α → (Option β → Prop) → Prop) → (List β → Prop) → Prop
  | [], acc, _, k => k acc
  | x :: xs, acc, f, k => f x fun o => compD xs (acc ++ o.toList) f k
def catD {α β : Type} : List α → List β → (α → List β → (List β → Prop) → Prop) → (List β → Prop) → Prop
  | [], acc, _, k => k acc
  | x :: xs, acc, f, k => f x acc fun acc' => catD xs acc' f k
/-- the inner walk of a comprehension with two for: it goes on with what is made so far -/
def innD {α β : Type} : List α → List β → (α → (Option β → Prop) → Prop) → (List β → Prop) → Prop
  | [], acc, _, k => k acc
  | x :: xs, acc, f, k => f x fun o => (acc ++ o.toList).length ≤ big ∧ innD xs (acc ++ o.toList) f k
def Vp.Le (p q : Vp) : Prop := ∀ F v, p.p F v → q.p F v
theorem Vp.Le.refl (p : Vp) : p.Le p := fun _ _ h => h
def yN : Rep Unit := ⟨fun _ v _ => v = .non, fun _ h => h⟩
def yS : Rep Str := ⟨fun F v x => zS.p F v x ∧ x.length ≤ big, fun e h => ⟨zS.mono e h.1, h.2⟩⟩
def yL {α : Type} (r : Rep α) : Rep (List α) := ⟨fun F v x => (zL r).p F v x ∧ x.length ≤ big, fun e h => ⟨(zL r).mono e h.1, h.2⟩⟩
def yT {α : Type} [TNar α] (r : Rep α) : Rep (List α) := ⟨fun F v x => (zT r).p F v x ∧ x.length ≤ big, fun e h => ⟨(zT r).mono e h.1, h.2⟩⟩
def yD {α : Type} (r : Rep α) : Rep (List (Str × α)) := ⟨fun F v x => (zD r).p F v x ∧ x.length ≤ big, fun e h => ⟨(zD r).mono e h.1, h.2⟩⟩
/-- None or a thing -/
def yO {α : Type} (r : Rep α) : Rep (Option α) := ⟨fun F v x => match x with | none => v = .non | some y => r.p F v y, fun {F F' v x} e h => by
  cases x with
  | none => exact h
  | some y => exact r.mono e h⟩
mutual
def xp (F : Hp) : PyData → V → Prop
  | .none, v => v = .non
  | .int i, v => v = .int i
  | .str x, v => v = .str x ∧ Asc x ∧ x.length ≤ big
  | .list ds, v => ∃ a vs, v = .ref a ∧ F a = some (.lst vs) ∧ ds.length ≤ big ∧ xpAll F ds vs
  | .tuple ds, v => ∃ a vs, v = .ref a ∧ TupB (!isSDs ds) F a vs ∧ ds.length ≤ big ∧ xpAll F ds vs
  | .bool _, _ => False
  | .dict _, _ => False
def xpAll (F : Hp) : List PyData → List V → Prop
  | [], vs => vs = []
  | d :: ds, vs => ∃ v r, vs = v :: r ∧ xp F d v ∧ xpAll F ds r
end
mutual
theorem xp_mono {F F' : Hp} (e : Same F F') : ∀ (d : PyData) (v : V), xp F d v → xp F' d v
  | .none, _, h => by simp only [xp] at h ⊢; exact h
  | .int _, _, h => by simp only [xp] at h ⊢; exact h
  | .str _, _, h => by simp only [xp] at h ⊢; exact h
  | .bool _, _, h => by simp only [xp] at h
  | .dict _, _, h => by simp only [xp] at h
  | .list ds, _, h => by
    simp only [xp] at h ⊢
    obtain ⟨a, vs, h1, h2, h3, h4⟩ := h
    exact ⟨a, vs, h1, e _ _ h2, h3, xpAll_mono e ds vs h4⟩
  | .tuple ds, _, h => by
    simp only [xp] at h ⊢
    obtain ⟨a, vs, h1, h2, h3, h4⟩ := h
    exact ⟨a, vs, h1, h2.mono e, h3, xpAll_mono e ds vs h4⟩
theorem xpAll_mono {F F' : Hp} (e : Same F F') : ∀ (ds : List PyData) (vs : List V), xpAll F ds vs → xpAll F' ds vs
  | [], _, h => by simp only [xpAll] at h ⊢; exact h
  | d :: ds, _, h => by
    simp only [xpAll] at h ⊢
    obtain ⟨v, r, h1, h2, h3⟩ := h
    exact ⟨v, r, h1, xp_mono e d v h2, xpAll_mono e ds r h3⟩
end
def yX : Rep PyData := ⟨fun F v d => xp F d v ∧ d.depth ≤ 60, fun e h => ⟨xp_mono e _ _ h.1, h.2⟩⟩
/-- lists and tuples of a fixed form -/
def zL3 {α β γ : Type} (r : Rep α) (s : Rep β) (t : Rep γ) : Rep (α × β × γ) := ⟨fun F v x => ∃ a u w z, v = .ref a ∧ F a = some (.lst [u, w, z]) ∧ r.p F u x.1 ∧ s.p F w x.2.1 ∧ t.p F z x.2.2, fun e ⟨a, u, w, z, h1, h2, h3, h4, h5⟩ => ⟨a, u, w, z, h1, e _ _ h2, r.mono e h3, s.mono e h4, t.mono e h5⟩⟩
def z4 {α β γ δ : Type} (r : Rep α) (s : Rep β) (t : Rep γ) (u : Rep δ) : Rep (α × β × γ × δ) := ⟨fun F v x => ∃ a v1 v2 v3 v4, v = .ref a ∧ F a = some (.tup [v1, v2, v3, v4]) ∧ r.p F v1 x.1 ∧ s.p F v2 x.2.1 ∧ t.p F v3 x.2.2.1 ∧ u.p F v4 x.2.2.2, fun e ⟨a, v1, v2, v3, v4, h1, h2, h3, h4, h5, h6⟩ => ⟨a, v1, v2, v3, v4, h1, e _ _ h2, r.mono e h3, s.mono e h4, t.mono e h5, u.mono e h6⟩⟩
def z5 {α β γ δ ε : Type} (r : Rep α) (s : Rep β) (t : Rep γ) (u : Rep δ) (w : Rep ε) : Rep (α × β × γ × δ × ε) := ⟨fun F v x => ∃ a v1 v2 v3 v4 v5, v = .ref a ∧ F a = some (.tup [v1, v2, v3, v4, v5]) ∧ r.p F v1 x.1 ∧ s.p F v2 x.2.1 ∧ t.p F v3 x.2.2.1 ∧ u.p F v4 x.2.2.2.1 ∧ w.p F v5 x.2.2.2.2, fun e ⟨a, v1, v2, v3, v4, v5, h1, h2, h3, h4, h5, h6, h7⟩ => ⟨a, v1, v2, v3, v4, v5, h1, e _ _ h2, r.mono e h3, s.mono e h4, t.mono e h5, u.mono e h6, w.mono e h7⟩⟩
def z1 {α : Type} (r : Rep α) : Rep α := ⟨fun F v x => ∃ a v1, v = .ref a ∧ F a = some (.tup [v1]) ∧ r.p F v1 x, fun e ⟨a, v1, h1, h2, h3⟩ => ⟨a, v1, h1, e _ _ h2, r.mono e h3⟩⟩
/-- a list of one's own, of bounded size -/
def cY {α : Type} (a : Addr) (r : Rep α) (xs : List α) : Cel := ⟨a, true, fun F o => (∃ vs, o = .lst vs ∧ PVs r F vs xs) ∧ xs.length ≤ big, fun e ⟨⟨vs, h1, h2⟩, h3⟩ => ⟨⟨vs, h1, Paired.imp2 (fun _ _ h => r.mono e h) h2⟩, h3⟩, fun h e => by subst e; simp at h⟩
theorem le_yS {z : Str} (h : z.length ≤ big) : (iz zS z).Le (iz yS z) := fun _ _ q => ⟨q, h⟩
theorem le_zS {z : Str} : (iz yS z).Le (iz zS z) := fun _ _ q => q.1
theorem le_yL {α : Type} {r : Rep α} {xs : List α} (h : xs.length ≤ big) : (iz (zL r) xs).Le (iz (yL r) xs) := fun _ _ q => ⟨q, h⟩
theorem le_yT {α : Type} [TNar α] {r : Rep α} {xs : List α} (h : xs.length ≤ big) : (iz (zT r) xs).Le (iz (yT r) xs) := fun _ _ q => ⟨q, h⟩
theorem le_zL {α : Type} {r : Rep α} {xs : List α} : (iz (yL r) xs).Le (iz (zL r) xs) := fun _ _ q => q.1
theorem le_zT {α : Type} [TNar α] {r : Rep α} {xs : List α} : (iz (yT r) xs).Le (iz (zT r) xs) := fun _ _ q => q.1
theorem pvs_imp {α : Type} {r s : Rep α} {F : Hp} {vs : List V} {xs : List α} (h : PVs r F vs xs) (f : ∀ v x, x ∈ xs → r.p F v x → s.p F v x) : PVs s F vs xs := by
  induction h with
  | nil => exact .nil
  | cons a _ ih => exact .cons (f _ _ (List.mem_cons_self ..) a) (ih fun v x hx => f v x (List.mem_cons_of_mem _ hx))
theorem le_LL {α : Type} {r s : Rep α} {xs : List α} (h : xs.length ≤ big) (f : ∀ F v x, x ∈ xs → r.p F v x → s.p F v x) : (iz (zL r) xs).Le (iz (yL s) xs) := fun F v ⟨a, vs, h1, h2, h3⟩ => ⟨⟨a, vs, h1, h2, pvs_imp h3 (f F)⟩, h⟩
theorem le_TT {α : Type} [TNar α] {r s : Rep α} {xs : List α} (h : xs.length ≤ big) (f : ∀ F v x, x ∈ xs → r.p F v x → s.p F v x) : (iz (zT r) xs).Le (iz (yT s) xs) := fun F v ⟨a, vs, h1, h2, h3⟩ => ⟨⟨a, vs, h1, h2, pvs_imp h3 (f F)⟩, h⟩
theorem le_LLr {α : Type} {r s : Rep α} {xs : List α} (f : ∀ F v x, x ∈ xs → r.p F v x → s.p F v x) : (iz (yL r) xs).Le (iz (zL s) xs) := fun F v ⟨⟨a, vs, h1, h2, h3⟩, _⟩ => ⟨a, vs, h1, h2, pvs_imp h3 (f F)⟩
section
variable {fr : Fr} {Γ Γ' : Gam} {Θ Θ' : List Cel} {F F' H H' : Hp} {K : Vp → List Cel → Prop} {Q : VK}
theorem Kq.conv (h : Kq fr F K Q) : Kq fr F (fun p Θ1 => ∃ q, p.Le q ∧ K q Θ1) Q := fun p Θ' ⟨q, l, k⟩ v F' H' s ok hp => h q Θ' k v F' H' s ok (l _ _ hp)
theorem We.conv {t : TE} (w : We fr Γ Θ t fun p Θ1 => ∃ q, p.Le q ∧ K q Θ1) : We fr Γ Θ t K := fun σ F H ok env Q q => w σ F H ok env Q q.conv
theorem Ops.conv {r : R2} {p q : Vp} (w : Ops fr Θ r p q fun p Θ1 => ∃ q, p.Le q ∧ K q Θ1) : Ops fr Θ r p q K := fun F H v w' ok h1 h2 Q k => w F H v w' ok h1 h2 Q k.conv
theorem Cbs.conv {r : List V → Hp → VK → Prop} {ps : List Vp} (w : Cbs fr Θ r ps fun p Θ1 => ∃ q, p.Le q ∧ K q Θ1) : Cbs fr Θ r ps K := fun F H vs ok h1 Q k => w F H vs ok h1 Q k.conv
theorem Mts.conv {r : V → List V → Hp → VK → Prop} {p : Vp} {ps : List Vp} (w : Mts fr Θ r p ps fun p Θ1 => ∃ q, p.Le q ∧ K q Θ1) : Mts fr Θ r p ps K := fun F H v vs ok h1 h2 Q k => w F H v vs ok h1 h2 Q k.conv
theorem Sls.conv {r : V → Option Int → Option Int → Hp → VK → Prop} {p : Vp} {lo hi : Option Int} (w : Sls fr Θ r p lo hi fun p Θ1 => ∃ q, p.Le q ∧ K q Θ1) : Sls fr Θ r p lo hi K := fun F H v ok h1 Q k => w F H v ok h1 Q k.conv
theorem Ops.le {r : R2} {p q p' q' : Vp} (w : Ops fr Θ r p' q' K) (h1 : p.Le p') (h2 : q.Le q') : Ops fr Θ r p q K := fun F H v w' ok a b Q k => w F H v w' ok (h1 _ _ a) (h2 _ _ b) Q k
theorem Sls.le {r : V → Option Int → Option Int → Hp → VK → Prop} {p p' : Vp} {lo hi : Option Int} (w : Sls fr Θ r p' lo hi K) (h : p.Le p') : Sls fr Θ r p lo hi K := fun F H v ok a Q k => w F H v ok (h _ _ a) Q k
theorem Cbs.tell {r : List V → Hp → VK → Prop} {p : Vp} {ps : List Vp} {A : Prop} (h : ∀ F v, p.p F v → A) (w : A → Cbs fr Θ r (p :: ps) K) : Cbs fr Θ r (p :: ps) K := fun F H vs ok a Q k => by
  cases a with
  | cons a b => exact w (h _ _ a) F H _ ok (.cons a b) Q k
theorem Sls.tell {r : V → Option Int → Option Int → Hp → VK → Prop} {p : Vp} {lo hi : Option Int} {A : Prop} (h : ∀ F v, p.p F v → A) (w : A → Sls fr Θ r p lo hi K) : Sls fr Θ r p lo hi K := fun F H v ok a Q k => w (h _ _ a) F H v ok a Q k
theorem te_L {α : Type} {r : Rep α} {xs : List α} : ∀ F v, (iz (yL r) xs).p F v → xs.length ≤ big := fun _ _ h => h.2
theorem we_cSy {z : Str} (h : Asc z) (hl : z.length ≤ big) (k : K (iz yS z) Θ) : We fr Γ Θ (tC (.str z)) K := we_c (p := iz yS z) (fun _ => ⟨⟨rfl, h⟩, hl⟩) k
theorem we_cNy (k : K (iz yN ()) Θ) : We fr Γ Θ (tC .non) K := we_c (fun _ => rfl) k
theorem oy_addS {m n : Str} (hl : m.length + n.length ≤ big) (k : K (iz yS (m ++ n)) Θ) : Ops fr Θ (fun x y H Q => ∃ i j, x = .str i ∧ y = .str j ∧ i.length + j.length ≤ sizeLine ∧ Q (.str (i ++ j)) H) (iz yS m) (iz yS n) K :=
  (Ops.conv (ops_addS (big_line hl) ⟨_, le_yS (by show (m.cps ++ n.cps).size ≤ big; rw [Array.size_append]; exact hl), k⟩)).le le_zS le_zS
def SeqY {α : Type} (fr : Fr) (Θ : List Cel) (p : Vp) (r : Rep α) (xs : List α) : Prop := SeqP fr Θ p r xs ∧ ∀ F H v, OkF fr Θ F H → p.p F v → xs.length ≤ big
theorem sy_L {α : Type} {r : Rep α} {xs : List α} : SeqY fr Θ (iz (yL r) xs) r xs := ⟨fun F H v ok h => seq_L F H v ok h.1, fun _ _ _ _ h => h.2⟩
theorem sy_T {α : Type} [TNar α] {r : Rep α} {xs : List α} : SeqY fr Θ (iz (yT r) xs) r xs := ⟨fun F H v ok h => seq_T F H v ok h.1, fun _ _ _ _ h => h.2⟩
theorem sy_C {α : Type} {r : Rep α} {xs : List α} {a : Addr} {j : Nat} (hj : Θ[j]? = some (cY a r xs)) : SeqY fr Θ (zAt a) r xs := ⟨fun F H v ok hv => by
  obtain ⟨_, ⟨o, h2, ⟨⟨vs, rfl, h4⟩, h5⟩⟩, _⟩ := ok.ce _ (List.mem_of_getElem? hj)
  exact ⟨a, vs, hv, .inl (.inl h2), h4⟩, fun F H v ok hv => by
  obtain ⟨_, ⟨o, h2, ⟨⟨vs, rfl, h4⟩, h5⟩⟩, _⟩ := ok.ce _ (List.mem_of_getElem? hj)
  exact h5⟩
theorem seq_yS {p : Vp} {xs : List Str} (h : SeqY fr Θ p yS xs) : SeqP fr Θ p zS xs := fun F H v ok hv => by
  obtain ⟨a, vs, h1, h2, h3⟩ := h.1 F H v ok hv
  exact ⟨a, vs, h1, h2, Paired.imp2 (fun _ _ q => q.1) h3⟩
theorem oy_inS {Kf : PySem.W.Frag} {p : Vp} {z : Str} {xs : List Str} (h : SeqY fr Θ p yS xs) (k : K (iz zB (decide (z ∈ xs))) Θ) : Ops fr Θ (rIn Kf false) (iz yS z) p K := (ops_inS (seq_yS h) k).le le_zS (Vp.Le.refl _)
theorem oy_ninS {Kf : PySem.W.Frag} {p : Vp} {z : Str} {xs : List Str} (h : SeqY fr Θ p yS xs) (k : K (iz zB (!decide (z ∈ xs))) Θ) : Ops fr Θ (rIn Kf true) (iz yS z) p K := (ops_ninS (seq_yS h) k).le le_zS (Vp.Le.refl _)
theorem oy_inI {Kf : PySem.W.Frag} {p : Vp} {z : Int} {xs : List Int} (h : SeqY fr Θ p zI xs) (k : K (iz zB (decide (z ∈ xs))) Θ) : Ops fr Θ (rIn Kf false) (iz zI z) p K := ops_inI h.1 k
theorem oy_ninI {Kf : PySem.W.Frag} {p : Vp} {z : Int} {xs : List Int} (h : SeqY fr Θ p zI xs) (k : K (iz zB (!decide (z ∈ xs))) Θ) : Ops fr Θ (rIn Kf true) (iz zI z) p K := ops_ninI h.1 k
theorem oy_ixL {Kf : PySem.W.Frag} {α : Type} {r : Rep α} {xs : List α} {n : Int} {x : α} (e : atI xs n = some x) (k : K (iz r x) Θ) : Ops fr Θ (rIxL Kf) (iz (yL r) xs) (iz zI n) K := (ops_ixL e k).le le_zL (Vp.Le.refl _)
theorem oy_ixT {Kf : PySem.W.Frag} {α : Type} [TNar α] {r : Rep α} {xs : List α} {n : Int} {x : α} (e : atI xs n = some x) (k : K (iz r x) Θ) : Ops fr Θ (rIxT Kf) (iz (yT r) xs) (iz zI n) K := (ops_ixT e k).le le_zT (Vp.Le.refl _)
theorem oy_ixC {Kf : PySem.W.Frag} {α : Type} {r : Rep α} {xs : List α} {n : Int} {x : α} {a : Addr} {j : Nat} (hj : Θ[j]? = some (cY a r xs)) (e : atI xs n = some x) (k : K (iz r x) Θ) : Ops fr Θ (rIxL Kf) (zAt a) (iz zI n) K := fun F H v w ok hv hw Q q => by
  obtain ⟨_, ⟨o, h2, ⟨⟨vs, rfl, h4⟩, h5⟩⟩, _⟩ := ok.ce _ (List.mem_of_getElem? hj)
  have hv : v = .ref a := hv
  have hw : w = .int n := hw
  subst hv hw
  obtain ⟨u, hu, hr⟩ := pvs_at h4 e
  exact ⟨a, vs, n, u, rfl, rfl, SqL.of h2, hu, q.go k ok hr⟩
theorem oy_ixLp1 {Kf : PySem.W.Frag} {α β : Type} {r : Rep α} {s : Rep β} {x : α × β} (k : K (iz s x.2) Θ) : Ops fr Θ (rIxL Kf) (iz (zLp r s) x) (iz zI 1) K := fun F H v w ok ⟨a, u, z, h1, h2, h3, h4⟩ hw Q q => by
  have hw : w = .int 1 := hw
  subst h1 hw
  exact ⟨a, _, 1, z, rfl, rfl, SqL.of (ok.fh _ _ h2), rfl, q.go k ok h4⟩
theorem cy_len {Kf : PySem.W.Frag} {α : Type} {r : Rep α} {xs : List α} {p : Vp} (h : SeqY fr Θ p r xs) (k : xs.length ≤ big → K (iz zI xs.length) Θ) : Cbs fr Θ (rLenQ Kf) [p] K := fun F H vs ok hps Q q => by
  have hl : xs.length ≤ big := by
    cases hps with
    | cons a b => exact h.2 F H _ ok a
  exact cb_len h.1 (k hl) F H vs ok hps Q q
theorem cy_tupleL {Kf : PySem.W.Frag} {α : Type} [TNar α] {r : Rep α} {xs : List α} (k : K (iz (yT r) xs) Θ) : Cbs fr Θ (rTupQ Kf) [iz (yL r) xs] K := Cbs.tell te_L fun hl => Cbs.conv (cb_tuple (r := r) (xs := xs) (fun F H v ok ⟨⟨a, vs, h1, h2, h3⟩, _⟩ => ⟨a, vs, h1, .inl (ok.fh _ _ h2), h3⟩) ⟨_, le_yT hl, k⟩)
theorem cy_any {Kf : PySem.W.Frag} {xs : List Bool} (k : K (iz zB (xs.any id)) Θ) : Cbs fr Θ (rAny Kf) [iz (yL zB) xs] K := fun F H vs ok hps Q q => cb_any k F H vs ok (by
  cases hps with
  | cons a b => cases b with
    | nil => exact .cons a.1 .nil) Q q
theorem cutX_len {α : Type} {xs : List α} {lo hi : Option Int} {n : Nat} (h : xs.length ≤ n) : (cutX xs lo hi).length ≤ n := by
  unfold cutX
  have h1 := List.length_take_le (HT.sIx xs.length xs.length hi - HT.sIx xs.length 0 lo) (xs.drop (HT.sIx xs.length 0 lo))
  rw [List.length_take, List.length_drop]
  omega
theorem sy_slL {Kf : PySem.W.Frag} {α : Type} {r : Rep α} {xs : List α} {lo hi : Option Int} (k : K (iz (yL r) (cutX xs lo hi)) Θ) : Sls fr Θ (rSlL Kf) (iz (yL r) xs) lo hi K := Sls.tell te_L fun hl => (Sls.conv (sls_L ⟨_, le_yL (cutX_len hl), k⟩)).le le_zL
theorem oy_cat {α : Type} {r : Rep α} {xs ys : List α} (hl : xs.length + ys.length ≤ big) (k : K (iz (yL r) (xs ++ ys)) Θ) : Ops fr Θ rCat (iz (yL r) xs) (iz (yL r) ys) K := (Ops.conv (ops_cat (big_line hl) ⟨_, le_yL (by rw [List.length_append]; exact hl), k⟩)).le le_zL le_zL
theorem we_lstY {α : Type} {r : Rep α} {t : TA} (w : Wa fr Γ Θ t fun ps Θ1 => ∃ xs : List α, ps = xs.map (iz r) ∧ xs.length ≤ 1000 ∧ K (iz (yL r) xs) Θ1) : We fr Γ Θ (tLst t) K := We.conv (we_lst (r := r) fun σ F H ok env Q q => w σ F H ok env Q fun ps Θ1 ⟨xs, e, hl, k⟩ => q ps Θ1 ⟨xs, e, by rw [e, List.length_map]; exact hl, _, le_yL (Nat.le_trans hl (by decide)), k⟩)
theorem we_ownY {α : Type} (r : Rep α) {t : TA} (w : Wa fr Γ Θ t fun ps Θ1 => ∃ xs : List α, ps = xs.map (iz r) ∧ xs.length ≤ 1000 ∧ ∀ a, K (zAt a) (cY a r xs :: Θ1)) : We fr Γ Θ (tLst t) K := fun σ F H ok env Q q =>
  w σ F H ok env _ fun ps Θ1 ⟨xs, e, hl, k⟩ vs F1 H1 s1 ok1 hps => by
    subst e
    have h4 := pvs_map hps
    exact ⟨Nat.le_of_lt (small1000 (by rw [Paired.len h4]; exact hl)), fun p np => q _ _ (k p) _ F1 _ s1 (ok1.mkOwn (c := cY p r xs) np rfl ⟨⟨_, rfl, h4⟩, Nat.le_trans hl (by decide)⟩) rfl⟩
end
end L2
set_option Elab.async false
set_option linter.all false
set_option maxRecDepth 100000
set_option maxHeartbeats 4000000
namespace L2
open PySem PySem.Spec PyProof.Rows PySem.HErr
theorem mapD_comp {α β : Type} {f : α → (β → Prop) → Prop} {k : List β → Prop} : ∀ (xs : List α) (acc : List β), mapD xs acc f k = compD xs acc (fun x k => f x fun y => k (some y)) k
  | [], _ => rfl
  | x :: xs, acc => by
    show (f x fun y => mapD xs (acc ++ [y]) f k) = f x fun y => compD xs (acc ++ [y]) _ k
    congr 1
    funext y
    exact mapD_comp xs _
theorem compD_pure {α β : Type} {pr : α → Bool} {f : α → β} {k : List β → Prop} : ∀ (xs : List α) (acc : List β), compD xs acc (fun x k => ifD (pr x) (k (some (f x))) (k none)) k = k (acc ++ (xs.filter pr).map f)
  | [], acc => by simp [compD]
  | x :: xs, acc => by
    show ifD (pr x) (compD xs (acc ++ [f x]) _ k) (compD xs (acc ++ []) _ k) = _
    rw [compD_pure xs, compD_pure xs, List.filter_cons]
    unfold ifD
    cases pr x <;> simp
theorem mapD_pure {α β : Type} {f : α → β} {k : List β → Prop} : ∀ (xs : List α) (acc : List β), mapD xs acc (fun x k => k (f x)) k = k (acc ++ xs.map f)
  | [], acc => by simp [mapD]
  | x :: xs, acc => by
    show mapD xs (acc ++ [f x]) _ k = _
    rw [mapD_pure xs]
    simp
section
variable {fr : Fr} {Γ Γ' : Gam} {Θ Θ' : List Cel} {F F' H H' : Hp} {K : Vp → List Cel → Prop} {Q : VK}
theorem wi_yL {Kf : PySem.W.Frag} {tl : TE} {K : List Vp → List Cel → Prop} (w : We fr Γ Θ tl fun p Θ1 => ∃ (α : Type) (r : Rep α) (xs : List α), p = iz (yL r) xs ∧ (xs.length ≤ big → K (xs.map (iz r)) Θ1)) : Wi fr Γ Θ (iList Kf tl) K := fun σ F H ok env R q =>
  wi_list (fr := fr) (Γ := Γ) (Θ := Θ) (Kf := Kf) (tl := tl) (K := K) (fun σ F H ok env Q q => w σ F H ok env Q fun p Θ1 ⟨α, r, xs, e, k⟩ v F1 H1 s1 ok1 hp => by
    subst e
    exact q (iz (zL r) xs) Θ1 ⟨α, r, xs, rfl, k hp.2⟩ v F1 H1 s1 ok1 hp.1) σ F H ok env R q
theorem wi_yT {Kf : PySem.W.Frag} {tl : TE} {K : List Vp → List Cel → Prop} (w : We fr Γ Θ tl fun p Θ1 => ∃ (α : Type) (_ : TNar α) (r : Rep α) (xs : List α), p = iz (yT r) xs ∧ (xs.length ≤ big → K (xs.map (iz r)) Θ1)) : Wi fr Γ Θ (iTup Kf tl) K := fun σ F H ok env R q =>
  wi_tup (fr := fr) (Γ := Γ) (Θ := Θ) (Kf := Kf) (tl := tl) (K := K) (fun σ F H ok env Q q => w σ F H ok env Q fun p Θ1 ⟨α, _, r, xs, e, k⟩ v F1 H1 s1 ok1 hp => by
    subst e
    exact q (iz (zT r) xs) Θ1 ⟨α, _, r, xs, rfl, k hp.2⟩ v F1 H1 s1 ok1 hp.1) σ F H ok env R q
theorem kn_forW {wi : TI} {g : TG} {tb : TS} {D : Ends} {α S : Type} {r : Rep α} (G : S → Gam) (T : S → List Cel) (s0 : S)
    (w : Wi fr Γ Θ wi fun its Θ1 => ∃ (xs : List α) (body : α → S → (S → Prop) → (S → Prop) → Prop) (after : S → Prop) (vs : List Nat) (Γ2 : α → S → Gam), its = xs.map (iz r) ∧ Θ1 = T s0 ∧ GLe Γ (G s0) ∧ (∀ x s, TgR g vs (iz r x) (G s) (Γ2 x s)) ∧ forD xs s0 body after ∧
      (∀ fr', FrLe fr fr' → ∀ x s nx M, (∀ s' Γ' Θ', nx s' → GLe Γ' (G s') → Θ' = T s' → Kn fr' Γ' Θ' M) → (∀ s' Γ' Θ', after s' → GLe Γ' (G s') → Θ' = T s' → Kn fr' Γ' Θ' D.nx) → body x s nx after → Kn fr' (Γ2 x s) (T s) (tb { D with nx := M, ct := M, bk := D.nx })) ∧
      (∀ s, after s → Kn fr (G s) (T s) D.nx)) : Kn fr Γ Θ (tFor wi g tb D) :=
  kn_for fun σ F H ok env R q => w σ F H ok env R fun its Θ1 ⟨xs, body, after, vs, Γ2, e1, e2, l0, tg, hf, hs, hd⟩ => q its Θ1 (by
    subst e1 e2
    refine ⟨fun i Γ1 Θ2 => ∃ s, Γ1 = G s ∧ Θ2 = T s ∧ forD (xs.drop i) s body after, ⟨G s0, l0, s0, rfl, rfl, hf⟩, fun fr' le i p Γ1 Θ2 hi ⟨s, eg, et, h⟩ => ?_, fun Γ1 Θ2 ⟨s, eg, et, h⟩ => ?_⟩
    · subst eg et
      obtain ⟨x, hx, rfl⟩ := get_izs hi
      rw [drop_at hx] at h
      refine ⟨vs, _, tg x s, hs fr' le x s _ _ (fun s' Γ' Θ' hn gl e => ?_) (fun s' Γ' Θ' hn gl e => ?_) h⟩
      · subst e
        exact kn_mid ⟨G s', gl, s', rfl, rfl, hn⟩
      · subst e
        exact ((hd s' hn).fine le).le gl
    · subst eg et
      rw [List.length_map, List.drop_length] at h
      exact hd s h)
theorem kn_whileW {c : TT} {tb : TS} {D : Ends} {S : Type} (G : S → Gam) (T : S → List Cel) (s0 : S) {step : S → (S → Prop) → (S → Prop) → Prop} {after : S → Prop} (h : whileD s0 step after) (l0 : GLe Γ (G s0)) (e0 : Θ = T s0)
    (hs : ∀ s nx M, (∀ s' Γ' Θ', nx s' → GLe Γ' (G s') → Θ' = T s' → Kn fr Γ' Θ' M) → (∀ s' Γ' Θ', after s' → GLe Γ' (G s') → Θ' = T s' → Kn fr Γ' Θ' D.nx) → step s nx after →
      Wt fr (G s) (T s) c fun b Θ1 => (b = true → Kn fr (G s) Θ1 (tb { D with nx := M, ct := M, bk := D.nx })) ∧ (b = false → Kn fr (G s) Θ1 D.nx))
    (hd : ∀ s, after s → Kn fr (G s) (T s) D.nx) : Kn fr Γ Θ (tWhile c tb D) := fun σ F H ok env => by
  subst e0
  obtain ⟨n0, h0⟩ := h
  refine ⟨fun m σ' H' => ∃ s F', whileN m s step after ∧ OkF fr (T s) F' H' ∧ EnvF (G s) σ' F', ⟨n0, s0, F, h0, ok, env.le l0⟩, ?_⟩
  rintro m σ1 H1 ⟨s, F1, hw, ok1, env1⟩
  cases m with
  | zero => exact hw.elim
  | succ m =>
    refine hs s (fun s' => whileN m s' step after) (Mid fr fun Γ Θ => ∃ s, Γ = G s ∧ Θ = T s ∧ whileN m s step after) (fun s' Γ' Θ' hn gl e => ?_) (fun s' Γ' Θ' hn gl e => ?_) hw σ1 F1 H1 ok1 env1 _ fun b Θ1 ⟨k1, k2⟩ F2 H2 s2 ok2 => ?_
    · subst e
      exact kn_mid ⟨G s', gl, s', rfl, rfl, hn⟩
    · subst e
      exact (hd s' hn).le gl
    · cases b with
      | true =>
        rw [if_pos rfl]
        refine ⟨_, ?_, k1 rfl σ1 F2 H2 ok2 (env1.mono s2)⟩
        rintro σ3 H3 ⟨Γ3, Θ3, F3, ⟨s3, rfl, rfl, hn⟩, ok3, env3⟩
        exact ⟨m, Nat.lt_succ_self m, s3, F3, hn, ok3, env3⟩
      | false =>
        rw [if_neg Bool.false_ne_true]
        exact k2 rfl σ1 F2 H2 ok2 (env1.mono s2)
theorem wt_andC {K : Bool → List Cel → Prop} {t u : TT} (w : Wt fr Γ Θ t fun b Θ1 => (b = true → Wt fr Γ Θ1 u K) ∧ (b = false → K false Θ1)) : Wt fr Γ Θ (tAnd t u) K := fun σ F H ok env Q q =>
  w σ F H ok env _ fun b Θ1 ⟨k1, k2⟩ F1 H1 s1 ok1 => by
    cases b with
    | true => rw [if_pos rfl]; exact k1 rfl σ F1 H1 ok1 (env.mono s1) Q fun c Θ2 kk F2 H2 s2 => q c Θ2 kk F2 H2 (s1.trans s2)
    | false => rw [if_neg Bool.false_ne_true]; exact q false Θ1 (k2 rfl) F1 H1 s1 ok1
theorem wt_orC {K : Bool → List Cel → Prop} {t u : TT} (w : Wt fr Γ Θ t fun b Θ1 => (b = false → Wt fr Γ Θ1 u K) ∧ (b = true → K true Θ1)) : Wt fr Γ Θ (tOr t u) K := fun σ F H ok env Q q =>
  w σ F H ok env _ fun b Θ1 ⟨k2, k1⟩ F1 H1 s1 ok1 => by
    cases b with
    | true => rw [if_pos rfl]; exact q true Θ1 (k1 rfl) F1 H1 s1 ok1
    | false => rw [if_neg Bool.false_ne_true]; exact k2 rfl σ F1 H1 ok1 (env.mono s1) Q fun c Θ2 kk F2 H2 s2 => q c Θ2 kk F2 H2 (s1.trans s2)
theorem we_orC {t u : TE} (w : We fr Γ Θ t fun p Θ1 => ∃ b, p = iz zB b ∧ (b = false → We fr Γ Θ1 u K) ∧ (b = true → K (iz zB true) Θ1)) : We fr Γ Θ (tOrV t u) K := fun σ F H ok env Q q =>
  w σ F H ok env _ fun p Θ1 ⟨b, e, k2, k1⟩ v F1 H1 s1 ok1 hp => by
    subst e
    refine ⟨b, hp, ?_⟩
    cases b with
    | true => rw [if_pos rfl]; exact q _ Θ1 (k1 rfl) _ F1 H1 s1 ok1 rfl
    | false => rw [if_neg Bool.false_ne_true]; exact k2 rfl σ F1 H1 ok1 (env.mono s1) Q (q.mono s1)
theorem andK {b : Bool} {f : (Bool → Prop) → Prop} {k : Bool → Prop} {u : TT} {K : Bool → List Cel → Prop} (h : andD b f k) (x : f k → Wt fr Γ Θ u fun c Θ' => Θ' = Θ ∧ k c) (kk : ∀ c, k c → K c Θ) : (b = true → Wt fr Γ Θ u K) ∧ (b = false → K false Θ) :=
  ⟨fun e σ F H ok env Q q => x (h.1 e) σ F H ok env Q fun c Θ' ⟨e1, hc⟩ => q c Θ' (by rw [e1]; exact kk c hc), fun e => kk false (h.2 e)⟩
theorem orK {b : Bool} {f : (Bool → Prop) → Prop} {k : Bool → Prop} {u : TT} {K : Bool → List Cel → Prop} (h : orD b f k) (x : f k → Wt fr Γ Θ u fun c Θ' => Θ' = Θ ∧ k c) (kk : ∀ c, k c → K c Θ) : (b = false → Wt fr Γ Θ u K) ∧ (b = true → K true Θ) :=
  ⟨fun e σ F H ok env Q q => x (h.2 e) σ F H ok env Q fun c Θ' ⟨e1, hc⟩ => q c Θ' (by rw [e1]; exact kk c hc), fun e => kk true (h.1 e)⟩
theorem orKv {b : Bool} {f : (Bool → Prop) → Prop} {k : Bool → Prop} {u : TE} (h : orD b f k) (x : f k → We fr Γ Θ u fun p Θ' => Θ' = Θ ∧ ∃ c, p = iz zB c ∧ k c) (kk : ∀ c, k c → K (iz zB c) Θ) : ∃ b', iz zB b = iz zB b' ∧ (b' = false → We fr Γ Θ u K) ∧ (b' = true → K (iz zB true) Θ) :=
  ⟨b, rfl, fun e σ F H ok env Q q => x (h.2 e) σ F H ok env Q fun p Θ' ⟨e1, c, e2, hc⟩ => q p Θ' (by rw [e1, e2]; exact kk c hc), fun e => kk true (h.1 e)⟩
theorem we_lcW {α β : Type} {r : Rep α} {s : Rep β} {wi : TI} {g : TG} {tt : TT} {te : TE} {vs : List Nat}
    (w : Wi fr Γ Θ wi fun its Θ1 => ∃ (xs : List α) (f : α → (Option β → Prop) → Prop) (k : List β → Prop) (Γ2 : α → Gam), its = xs.map (iz r) ∧ Θ1 = Θ ∧ xs.length ≤ big ∧ (∀ x, TgR g vs (iz r x) (wipeG Γ vs) (Γ2 x)) ∧ compD xs [] f k ∧
      (∀ x c kx, f x kx → Wt fr (Γ2 x) (c :: Θ) tt fun b Θ1 => (b = true → We fr (Γ2 x) Θ1 te fun q Θ' => Θ' = c :: Θ ∧ ∃ y, q = iz s y ∧ kx (some y)) ∧ (b = false → Θ1 = c :: Θ ∧ kx none)) ∧
      (∀ ys, k ys → ys.length ≤ big → K (iz (yL s) ys) Θ)) : We fr Γ Θ (tLc wi g tt te vs) K := fun σ F H ok env Q q => by
  refine w σ F H ok env _ fun its Θ1 ⟨xs, f, k, Γ2, e1, e2, hl, tg, hc, hs, hk⟩ J F1 H1 s1 ok1 jok => ?_
  subst e1 e2
  intro D nD
  refine ⟨fun i m H' => m = xs.length - i ∧ i ≤ xs.length ∧ ∃ F2 ys, Same F1 F2 ∧ OkF fr (cL D s ys :: Θ1) F2 H' ∧ ys.length ≤ i ∧ compD (xs.drop i) ys f k, ⟨xs.length, by simp, Nat.zero_le _, F1, [], Same.refl _, ok1.mkOwn (c := cL D s []) nD rfl ⟨[], rfl, .nil⟩, Nat.le_refl _, hc⟩, ?_⟩
  rintro i m H' ⟨rfl, hi, F2, ys, s2, ok2, yl, py⟩
  obtain ⟨j1, j2⟩ := jok F2 H' s2 ok2.fh
  by_cases hlt : i < xs.length
  · have hx : xs[i]? = some xs[i] := List.getElem?_eq_getElem hlt
    generalize xs[i] = x at hx
    obtain ⟨jg, jy⟩ := j1 i (iz r x) (by rw [List.getElem?_map, hx]; rfl)
    refine .inr ⟨jg, fun H3 => ∃ F3 ys, Same F1 F3 ∧ OkF fr (cL D s ys :: Θ1) F3 H3 ∧ ys.length ≤ i + 1 ∧ compD (xs.drop (i + 1)) ys f k, fun H3 p => ⟨xs.length - (i + 1), by omega, rfl, hlt, p⟩, fun v H3 y => ?_⟩
    obtain ⟨F3, e1, e2, e3, e4, e5⟩ := jy v H3 y
    have ok3 := ok2.grow e2 e1 e3 e4
    have s3 := s2.trans e1
    have hd : xs.drop i = x :: xs.drop (i + 1) := by
      obtain ⟨hl, e⟩ := List.getElem?_eq_some_iff.mp hx
      rw [List.drop_eq_getElem_cons hl, e]
    rw [hd] at py
    refine tg x (L2.wipe σ vs) F3 H3 v ok3.fh ((env.mono (s1.trans s3)).wipe vs) e5 _ fun σ2 env2 hw => ⟨?_, ?_⟩
    · rw [hw, wipe_idem]
    · refine hs x _ _ py σ2 F3 H3 ok3 env2 _ fun b Θ2 ⟨k1, k2⟩ F4 H4 s4 ok4 => ?_
      cases b with
      | true =>
        rw [if_pos rfl]
        refine k1 rfl σ2 F4 H4 ok4 (env2.mono s4) _ fun p Θ3 ⟨e8, y, e9, hy⟩ u F5 H5 s5 ok5 hp => ?_
        subst e8 e9
        obtain ⟨_, ⟨o, h2, acc, rfl, h4⟩, _⟩ := ok5.ce _ (List.mem_cons_self ..)
        have ok6 := ok5.mut (i := 0) (c := cL D s ys) (c' := cL D s (ys ++ [y])) (o := .lst (acc ++ [u])) rfl rfl rfl ⟨_, rfl, PySem.Paired.snoc h4 hp⟩
        refine ⟨acc, h2, ?_, F5, ys ++ [y], (s3.trans s4).trans s5, ok6, by rw [List.length_append]; show _ + 1 ≤ _; omega, hy⟩
        rw [Paired.len h4]
        exact big_lt (by omega)
      | false =>
        rw [if_neg Bool.false_ne_true]
        obtain ⟨e8, hn⟩ := k2 rfl
        subst e8
        have hn : compD (xs.drop (i + 1)) (ys ++ []) f k := hn
        rw [List.append_nil] at hn
        exact ⟨F4, ys, s3.trans s4, ok4, by omega, hn⟩
  · have e : i = xs.length := by omega
    subst e
    rw [List.drop_length] at py
    obtain ⟨_, ⟨o, h2, acc, rfl, h4⟩, _⟩ := ok2.ce _ (List.mem_cons_self ..)
    have ok3 := ok2.frz (i := 0) (c := cL D s ys) rfl rfl h2
    have sD : Same F2 (upd F2 D (.lst acc)) := same_upd (ok2.ce _ (List.mem_cons_self ..)).1
    have yb : ys.length ≤ big := by omega
    refine .inl ⟨by rw [List.length_map] at j2; exact j2, q _ _ (hk ys py yb) _ _ H' ((s1.trans s2).trans sD) ok3 ⟨⟨D, acc, rfl, upd_same, Paired.imp2 (fun _ _ h => s.mono sD h) h4⟩, yb⟩⟩
/-- with a test, all plain -/
theorem we_lcP {α β : Type} {r : Rep α} {s : Rep β} {wi : TI} {g : TG} {tt : TT} {te : TE} {vs : List Nat}
    (w : Wi fr Γ Θ wi fun its Θ1 => ∃ (xs : List α) (pr : α → Bool) (f : α → β) (Γ2 : α → Gam), its = xs.map (iz r) ∧ Θ1 = Θ ∧ xs.length ≤ big ∧ (∀ x, TgR g vs (iz r x) (wipeG Γ vs) (Γ2 x)) ∧
      (∀ x c, Et fr (Γ2 x) (c :: Θ) tt (pr x)) ∧ (∀ x c, Ev fr (Γ2 x) (c :: Θ) te (iz s (f x))) ∧ K (iz (yL s) ((xs.filter pr).map f)) Θ) : We fr Γ Θ (tLc wi g tt te vs) K :=
  we_lcW (r := r) (s := s) fun σ F H ok env R q => w σ F H ok env R fun its Θ1 ⟨xs, pr, f, Γ2, e1, e2, hl, tg, ht, he, k⟩ => q its Θ1 ⟨xs, fun x k => ifD (pr x) (k (some (f x))) (k none), (· = (xs.filter pr).map f), Γ2, e1, e2, hl, tg, by rw [compD_pure]; rfl,
    fun x c kx h σ F H ok env Q q => ht x c σ F H ok env Q fun b Θ1 ⟨e1, e2⟩ => q b Θ1 (by
      subst e1 e2
      exact ⟨fun hb => (he x c).imp fun p Θ' ⟨e3, e4⟩ => ⟨e4, _, e3, h.1 hb⟩, fun hb => ⟨rfl, h.2 hb⟩⟩), fun ys e _ => by rw [e]; exact k⟩
/-- without a test -/
theorem we_lcM {α β : Type} {r : Rep α} {s : Rep β} {wi : TI} {g : TG} {te : TE} {vs : List Nat}
    (w : Wi fr Γ Θ wi fun its Θ1 => ∃ (xs : List α) (f : α → (β → Prop) → Prop) (k : List β → Prop) (Γ2 : α → Gam), its = xs.map (iz r) ∧ Θ1 = Θ ∧ xs.length ≤ big ∧ (∀ x, TgR g vs (iz r x) (wipeG Γ vs) (Γ2 x)) ∧ mapD xs [] f k ∧
      (∀ x c kx, f x kx → We fr (Γ2 x) (c :: Θ) te fun q Θ' => Θ' = c :: Θ ∧ ∃ y, q = iz s y ∧ kx y) ∧
      (∀ ys, k ys → ys.length ≤ big → K (iz (yL s) ys) Θ)) : We fr Γ Θ (tLc wi g tYes te vs) K :=
  we_lcW (r := r) (s := s) fun σ F H ok env R q => w σ F H ok env R fun its Θ1 ⟨xs, f, k, Γ2, e1, e2, hl, tg, hm, he, hk⟩ => q its Θ1 ⟨xs, fun x k => f x fun y => k (some y), k, Γ2, e1, e2, hl, tg, by rw [← mapD_comp]; exact hm,
    fun x c kx h => wt_yes ⟨fun _ => (he x c _ h), (fun h => nomatch h)⟩, hk⟩
theorem we_lcM0 {α β : Type} {r : Rep α} {s : Rep β} {wi : TI} {g : TG} {te : TE} {vs : List Nat}
    (w : Wi fr Γ Θ wi fun its Θ1 => ∃ (xs : List α) (f : α → β) (Γ2 : α → Gam), its = xs.map (iz r) ∧ Θ1 = Θ ∧ xs.length ≤ big ∧ (∀ x, TgR g vs (iz r x) (wipeG Γ vs) (Γ2 x)) ∧
      (∀ x c, Ev fr (Γ2 x) (c :: Θ) te (iz s (f x))) ∧ K (iz (yL s) (xs.map f)) Θ) : We fr Γ Θ (tLc wi g tYes te vs) K :=
  we_lcM (r := r) (s := s) fun σ F H ok env R q => w σ F H ok env R fun its Θ1 ⟨xs, f, Γ2, e1, e2, hl, tg, he, k⟩ => q its Θ1 ⟨xs, fun x k => k (f x), (· = xs.map f), Γ2, e1, e2, hl, tg, by rw [mapD_pure]; rfl,
    fun x c kx h => (he x c).imp fun p Θ' ⟨e3, e4⟩ => ⟨e4, _, e3, h⟩, fun ys e _ => by rw [e]; exact k⟩
theorem kn_appY {Kf : PySem.W.Frag} {α : Type} {r : Rep α} {xs : List α} {a : Addr} {i j : Nat} {te : TE} {D : Ends} (hi : Γ[i]? = some (some (zAt a))) (hj : Θ[j]? = some (cY a r xs))
    (w : We fr Γ Θ te fun p Θ1 => ∃ x, p = iz r x ∧ Θ1[j]? = some (cY a r xs) ∧ xs.length < big ∧ Kn fr Γ (Θ1.set j (cY a r (xs ++ [x]))) D.nx) : Kn fr Γ Θ (tDrop (tBM Kf "list" rAppend (tVar i) (tCons te tNil)) D) := by
  refine kn_drop (we_bm (we_var hi ⟨fun F H v ok hv => ?_, wa_cons (w.imp fun p Θ1 ⟨x, e, hj1, hl, k⟩ => wa_nil ?_)⟩))
  · obtain ⟨_, ⟨o, h2, ⟨⟨vs, rfl, h4⟩, h5⟩⟩, _⟩ := ok.ce _ (List.mem_of_getElem? hj)
    have hv : v = .ref a := hv
    subst hv
    exact .inl ⟨rfl, vs, SqL.of h2⟩
  · subst e
    intro F H v vs ok hv hps Q q
    cases hps with
    | cons h1 hp => cases hp with
      | nil =>
        obtain ⟨_, ⟨o, h2, ⟨⟨us, rfl, h4⟩, h5⟩⟩, _⟩ := ok.ce _ (List.mem_of_getElem? hj1)
        have ok2 := ok.mut (c' := cY a r (xs ++ [x])) (o := .lst (us ++ [_])) hj1 rfl rfl ⟨⟨_, rfl, PySem.Paired.snoc h4 h1⟩, by rw [List.length_append]; exact hl⟩
        exact ⟨a, us, _, hv, rfl, h2, by rw [Paired.len h4]; exact big_lt (Nat.le_of_lt hl), q zNon _ k _ F _ (Same.refl F) ok2 rfl⟩
theorem kn_setY {α : Type} {r : Rep α} {xs : List α} {a : Addr} {i j : Nat} {te ti : TE} {D : Ends} (hi : Γ[i]? = some (some (zAt a)))
    (w : We fr Γ Θ te fun p Θ1 => We fr Γ Θ1 ti fun q Θ2 => ∃ x n m, p = iz r x ∧ q = iz zI n ∧ Θ2[j]? = some (cY a r xs) ∧ ixN xs.length n = some m ∧ Kn fr Γ (Θ2.set j (cY a r (xs.set m x))) D.nx) : Kn fr Γ Θ (tAsg te (gSub (tVar i) ti rSetL) D) := fun σ F H ok env =>
  w σ F H ok env _ fun p Θ1 k v F1 H1 s1 ok1 hp => by
    obtain ⟨v0, h1, h2⟩ := (env.mono s1).get hi
    have h2 : v0 = .ref a := h2
    subst h2
    refine ⟨_, h1, k σ F1 H1 ok1 (env.mono s1) _ fun q Θ2 ⟨x, n, m, e1, e2, hj, hm, k2⟩ w2 F2 H2 s2 ok2 hp2 => ?_⟩
    subst e1 e2
    obtain ⟨_, ⟨o, h3, ⟨⟨us, rfl, h4⟩, h5⟩⟩, _⟩ := ok2.ce _ (List.mem_of_getElem? hj)
    exact ⟨a, us, n, m, rfl, hp2, h3, by rw [Paired.len h4]; exact hm, k2 σ F2 _ (ok2.mut hj rfl rfl ⟨⟨_, rfl, Paired.set (r.mono s2 hp) m h4⟩, by rw [List.length_set]; exact h5⟩) ((env.mono s1).mono s2)⟩
theorem set_same {σ : L2.St} {i : Nat} {v : V} (h : σ[i]? = some (some v)) : σ.set i (some v) = σ := by
  apply List.ext_getElem?
  intro m
  rw [List.getElem?_set]
  split
  · rename_i q
    subst q
    rw [if_pos (List.getElem?_eq_some_iff.mp h).1, h]
  · rfl
theorem kn_frzY {α : Type} {r : Rep α} {xs : List α} {a : Addr} {i j : Nat} {P : L2.St → Hp → Prop} (hi : Γ[i]? = some (some (zAt a))) (hj : Θ[j]? = some (cY a r xs)) (k : Kn fr (Γ.set i (some (iz (yL r) xs))) (Θ.eraseIdx j) P) : Kn fr Γ Θ P := fun σ F H ok env => by
  obtain ⟨v, h1, h2⟩ := env.get hi
  have h2 : v = .ref a := h2
  subst h2
  obtain ⟨h0, ⟨o, h3, ⟨⟨vs, rfl, h5⟩, h6⟩⟩, _⟩ := ok.ce _ (List.mem_of_getElem? hj)
  have h3 : H a = some (.lst vs) := h3
  have ok2 := ok.frz hj rfl h3
  have s2 : Same F (upd F a (.lst vs)) := same_upd h0
  have := (env.mono s2).set (i := i) (p := iz (yL r) xs) (v := .ref a) ⟨⟨a, vs, rfl, upd_same, Paired.imp2 (fun _ _ h => r.mono s2 h) h5⟩, h6⟩
  rw [set_same h1] at this
  exact k σ _ H ok2 this
theorem rt_frzY {α : Type} {r : Rep α} {xs : List α} {a : Addr} {j : Nat} {rt : VK} (hj : Θ[j]? = some (cY a r xs)) (k : Rt fr (Θ.eraseIdx j) rt (iz (yL r) xs)) : Rt fr Θ rt (zAt a) := fun v F H ok hp => by
  have hp : v = .ref a := hp
  subst hp
  obtain ⟨h0, ⟨o, h3, ⟨⟨vs, rfl, h5⟩, h6⟩⟩, _⟩ := ok.ce _ (List.mem_of_getElem? hj)
  have h3 : H a = some (.lst vs) := h3
  have ok2 := ok.frz hj rfl h3
  exact k _ _ H ok2 ⟨⟨a, vs, rfl, upd_same, Paired.imp2 (fun _ _ h => r.mono (same_upd h0) h) h5⟩, h6⟩
theorem kn_augI {f : Int → Int → Int} {i : Nat} {te : TE} {D : Ends} {m : Int} (hi : Γ[i]? = some (some (iz zI m))) (w : We fr Γ Θ te fun p Θ1 => ∃ n, p = iz zI n ∧ Kn fr (Γ.set i (some (iz zI (f m n)))) Θ1 D.nx) : Kn fr Γ Θ (tAug i te (ipI f) D) := fun σ F H ok env => by
  obtain ⟨v, h1, h2⟩ := env.get hi
  have h2 : v = .int m := h2
  subst h2
  refine ⟨_, h1, w σ F H ok env _ fun p Θ1 ⟨n, e, k⟩ y F1 H1 s1 ok1 hp => ?_⟩
  subst e
  exact ⟨m, n, rfl, hp, k _ F1 H1 ok1 ((env.mono s1).set rfl)⟩
end
end L2
set_option Elab.async false
set_option linter.all false
set_option maxRecDepth 100000
set_option maxHeartbeats 4000000
namespace L2
open PySem PySem.Spec PyProof.Rows PySem.HErr
def preW {α β : Type} (ef : HE → Er) (args : α → List Vp) (r : Rep β) (m : α → DM β) : Pre := fun ps out err => ∃ x Q X, ps = args x ∧ m x Q X ∧ out = (fun p => ∃ y, Q y ∧ p = iz r y) ∧ err = fun e => ∃ z, X z ∧ e = ef z
def preBW {α β : Type} (args : α → List Vp) (r : Rep β) (m : α → DM β) : PreB := fun qs o => ∃ x Q, qs = args x ∧ m x Q noX ∧ o = fun p => ∃ y, Q y ∧ p = iz r y
def RetW {β : Type} (fr : Fr) (Qv : VK) (r : Rep β) (Q : β → Prop) : Prop := ∀ y, Q y → ∀ Θ, Rt fr Θ Qv (iz r y)
def RetBW {β : Type} (fr : Fr) (b l : Addr) (Qv : VK) (r : Rep β) (Q : β → Prop) : Prop := ∀ y, Q y → ∀ Θ, cBox true b l ∈ Θ → Rt fr Θ Qv (iz r y)
def RseW (fr : Fr) (E : XK) (ef : HE → Er) (X : HE → Prop) : Prop := ∀ z, X z → ∀ Γ Θ, Kr fr Γ Θ (fun cls d _ H => E cls d H) (ef z)
section
variable {fr fr' : Fr} {Γ Γ' : Gam} {Θ Θ' : List Cel} {F F' H H' : Hp} {K : Vp → List Cel → Prop} {Qv : VK}
theorem RetW.fine {β : Type} {r : Rep β} {Q : β → Prop} (h : RetW fr Qv r Q) (l : FrLe fr fr') : RetW fr' Qv r Q := fun y hy Θ => (h y hy Θ).fine l
theorem RetBW.fine {β : Type} {b l : Addr} {r : Rep β} {Q : β → Prop} (h : RetBW fr b l Qv r Q) (le : FrLe fr fr') : RetBW fr' b l Qv r Q := fun y hy Θ hc => (h y hy Θ hc).fine le
theorem RseW.fine {E : XK} {ef : HE → Er} {X : HE → Prop} (h : RseW fr E ef X) (l : FrLe fr fr') : RseW fr' E ef X := fun z hz Γ Θ σ F H ok env d us hd hf => h z hz Γ Θ σ F H (ok.le l) env d us hd hf
theorem sps_W {α β : Type} {ef : HE → Er} {args : α → List Vp} {r : Rep β} {m : α → DM β} {E : L2.St → XK} {ps : List Vp} {Q : β → Prop} {X : HE → Prop} (x : α) (h : m x Q X) (k : ∀ y, Q y → K (iz r y) Θ) (xx : ∀ z, X z → Kr fr Γ Θ (fun cls d σ H => E σ cls d H) (ef z)) (e : ps = args x := by rfl) : Sps fr Γ Θ (spA (preW ef args r m)) E ps K :=
  sps_A ⟨x, Q, X, e, h, rfl, rfl⟩ (fun p ⟨y, hy, e⟩ => by rw [e]; exact k y hy) fun er ⟨z, hz, e⟩ => by rw [e]; exact xx z hz
/-- nothing is raised -/
theorem sps_W0 {α β : Type} {ef : HE → Er} {args : α → List Vp} {r : Rep β} {m : α → DM β} {E : L2.St → XK} {ps : List Vp} {Q : β → Prop} (x : α) (h : m x Q noX) (k : ∀ y, Q y → K (iz r y) Θ) (e : ps = args x := by rfl) : Sps fr Γ Θ (spA (preW ef args r m)) E ps K := sps_W x h k (fun z hz => hz.elim) e
theorem sps_BW {α β : Type} {args : α → List Vp} {r : Rep β} {m : α → DM β} {E : L2.St → XK} {ps : List Vp} {Q : β → Prop} {b l : Addr} {j : Nat} (hj : Θ[j]? = some (cBox true b l)) (x : α) (h : m x Q noX) (k : ∀ y, Q y → K (iz r y) Θ) (e : ps = zAt b :: args x := by rfl) : Sps fr Γ Θ (spC (preB (preBW args r m))) E ps K := by
  subst e
  exact sps_B (List.mem_of_getElem? hj) ⟨x, Q, rfl, h, rfl⟩ fun p ⟨y, hy, e⟩ => by rw [e]; exact k y hy
def drawD (m : Int) (k : Int → Prop) : Prop := 0 < m ∧ m ≤ 10 ^ 40 ∧ ∀ n, 0 ≤ n → n < m → k n
theorem sps_draw {E : L2.St → XK} {b l : Addr} {own : Bool} {m : Int} {j : Nat} {k : Int → Prop} (hj : Θ[j]? = some (cBox own b l)) (h : drawD m k) (kk : ∀ n, k n → K (iz zI n) Θ) : Sps fr Γ Θ spNext E [zAt b, iz zI m] K := sps_next (List.mem_of_getElem? hj) h.1 h.2.1 fun n h0 h1 => kk n (h.2.2 n h0 h1)
section
variable {Kf : PySem.W.Frag} {mg : Str → Option Value} {C : Addr} {d : PlanD}
theorem FldR.conv {f : Str} {p q q' : Vp} (h : FldR Kf f p q) (hq : ∀ F v u, p.p F v → q.p F u → q'.p F u) : FldR Kf f p q' := fun F v hp => by
  obtain ⟨a, C, dx, fs, u, h1, h2, h3, h4, h5, h6⟩ := h F v hp
  exact ⟨a, C, dx, fs, u, h1, h2, h3, h4, h5, hq F v u hp h6⟩
theorem wd_big {z : Str} (h : Wd z) : z.length ≤ big := Nat.le_trans h.len (by decide)
theorem PlanOk.nl (h : PlanOk d) : d.names.length ≤ 16 := by unfold PlanD.names; rw [List.length_map]; exact h.s16
theorem PlanOk.nw (h : PlanOk d) {z : Str} (hz : z ∈ d.names) : Wd z := by
  obtain ⟨r, hr, rfl⟩ := List.mem_map.mp hz
  exact (h.st r hr).1
theorem fy_steps (T : PlanC Kf mg C) : FldP fr Θ Kf "steps" (iz (zPlan C) d) (iz (yT yS) d.names) := ((fld_steps T.k).conv fun F v u hp hq => le_TT (Nat.le_trans (plan_ok hp).nl (by decide)) (s := yS) (fun F v x hx h => ⟨h, wd_big ((plan_ok hp).nw hx)⟩) F u hq).p
theorem KVs.imp {α : Type} {r s : Rep α} {kvs : List (Key × V)} {rows : List (Str × α)} (h : KVs r F kvs rows) (f : ∀ v x, x ∈ rows → r.p F v x.2 → s.p F v x.2) : KVs s F kvs rows := by
  have : ∀ {kvs : List (Key × V)} {rows : List (Str × α)}, KVs r F kvs rows → (∀ v x, x ∈ rows → r.p F v x.2 → s.p F v x.2) → KVs s F kvs rows := by
    intro kvs rows h
    induction h with
    | nil => intro _; exact .nil
    | cons a _ ih => intro f; exact .cons ⟨a.1, f _ _ (List.mem_cons_self ..) a.2⟩ (ih fun v x hx => f v x (List.mem_cons_of_mem _ hx))
  exact this h f
theorem PlanOk.tl (h : PlanOk d) {r : SRow} (hr : r ∈ d.steps) : r.2.1.length ≤ 12 ∧ r.2.2.length ≤ 12 := by
  obtain ⟨_, _, h1, h2⟩ := h.st r hr
  have a1 := List.length_filter_le (fun p => decide (p ∈ r.2.1)) d.places
  have a2 := List.length_filter_le (fun p => decide (p ∈ r.2.2)) d.places
  have e1 : (d.places.filter fun p => decide (p ∈ r.2.1)) = r.2.1 := h1
  have e2 : (d.places.filter fun p => decide (p ∈ r.2.2)) = r.2.2 := h2
  rw [e1] at a1
  rw [e2] at a2
  have := h.p12
  exact ⟨by omega, by omega⟩
theorem fy_taken (T : PlanC Kf mg C) : FldP fr Θ Kf "taken" (iz (zPlan C) d) (iz (yD (yT yS)) d.tk) := ((fld_taken T.k).conv fun F v u hp hq => by
  have pk := plan_ok hp
  obtain ⟨a, kvs, h1, h2, h3⟩ := hq
  refine ⟨⟨a, kvs, h1, h2, h3.imp fun v x hx h => ?_⟩, by unfold PlanD.tk; rw [List.length_map]; exact Nat.le_trans pk.s16 (by decide)⟩
  obtain ⟨r, hr, rfl⟩ := List.mem_map.mp hx
  exact le_TT (Nat.le_trans (pk.tl hr).1 (by decide)) (s := yS) (fun F v x hx h => ⟨h, wd_big (pk.pa x (pk.tk hr hx))⟩) F v h).p
theorem fy_given (T : PlanC Kf mg C) : FldP fr Θ Kf "given" (iz (zPlan C) d) (iz (yD (yT yS)) d.gv) := ((fld_given T.k).conv fun F v u hp hq => by
  have pk := plan_ok hp
  obtain ⟨a, kvs, h1, h2, h3⟩ := hq
  refine ⟨⟨a, kvs, h1, h2, h3.imp fun v x hx h => ?_⟩, by unfold PlanD.gv; rw [List.length_map]; exact Nat.le_trans pk.s16 (by decide)⟩
  obtain ⟨r, hr, rfl⟩ := List.mem_map.mp hx
  exact le_TT (Nat.le_trans (pk.tl hr).2 (by decide)) (s := yS) (fun F v x hx h => ⟨h, wd_big (pk.pa x (pk.gv hr hx))⟩) F v h).p
end
def DicY {α : Type} (fr : Fr) (Θ : List Cel) (p : Vp) (r : Rep α) (rows : List (Str × α)) : Prop := DicP fr Θ p r rows ∧ ∀ F H v, OkF fr Θ F H → p.p F v → rows.length ≤ big
theorem dy_D {α : Type} {r : Rep α} {rows : List (Str × α)} : DicY fr Θ (iz (yD r) rows) r rows := ⟨fun F H v ok h => dic_D F H v ok h.1, fun _ _ _ _ h => h.2⟩
theorem wy_dget {td ty : TE} (w : We fr Γ Θ td fun p Θ1 => We fr Γ Θ1 ty fun q Θ2 => ∃ (α : Type) (r : Rep α) (rows : List (Str × α)) (n : Str) (x : α), DicY fr Θ2 p r rows ∧ q = iz yS n ∧ getR rows n = some x ∧ K (iz r x) Θ2) : We fr Γ Θ (tDGet td ty) K := we_dget (w.imp fun p Θ1 w1 => We.conv (w1.imp fun q Θ2 ⟨α, r, rows, n, x, h1, h2, h3, h4⟩ => ⟨iz zS n, by rw [h2]; exact le_zS, α, r, rows, n, x, h1.1, rfl, h3, h4⟩))
theorem wy_din {td ty : TE} (w : We fr Γ Θ ty fun q Θ1 => We fr Γ Θ1 td fun p Θ2 => ∃ (α : Type) (r : Rep α) (rows : List (Str × α)) (n : Str), DicY fr Θ2 p r rows ∧ q = iz yS n ∧ K (iz zB (getR rows n).isSome) Θ2) : We fr Γ Θ (tDIn ty td) K := fun σ F H ok env Q q =>
  w σ F H ok env _ fun p Θ1 k v F1 H1 s1 ok1 hp => k σ F1 H1 ok1 (env.mono s1) _ fun p2 Θ2 ⟨α, r, rows, n, hd, e, kk⟩ v2 F2 H2 s2 ok2 hp2 => by
    subst e
    obtain ⟨a, kvs, h1, h2, h3⟩ := hd.1 F2 H2 v2 ok2 hp2
    refine ⟨a, _, h1, .inl ⟨kvs, Sum.inr n, .inl h2, hp.1.1, rfl⟩, q _ _ kk _ F2 H2 (s1.trans s2) ok2 ?_⟩
    show _ = V.bl _
    rw [opt_some h3]
theorem wy_dnin {td ty : TE} (w : We fr Γ Θ ty fun q Θ1 => We fr Γ Θ1 td fun p Θ2 => ∃ (α : Type) (r : Rep α) (rows : List (Str × α)) (n : Str), DicY fr Θ2 p r rows ∧ q = iz yS n ∧ K (iz zB (!(getR rows n).isSome)) Θ2) : We fr Γ Θ (tDNotIn ty td) K := fun σ F H ok env Q q =>
  w σ F H ok env _ fun p Θ1 k v F1 H1 s1 ok1 hp => k σ F1 H1 ok1 (env.mono s1) _ fun p2 Θ2 ⟨α, r, rows, n, hd, e, kk⟩ v2 F2 H2 s2 ok2 hp2 => by
    subst e
    obtain ⟨a, kvs, h1, h2, h3⟩ := hd.1 F2 H2 v2 ok2 hp2
    refine ⟨a, _, h1, .inl ⟨kvs, Sum.inr n, .inl h2, hp.1.1, rfl⟩, q _ _ kk _ F2 H2 (s1.trans s2) ok2 ?_⟩
    show _ = V.bl _
    rw [opt_some h3]
theorem kn_raiseY {tm : Bool} {C : Addr} {fs : List Str} {W : WX} {ta : TA} {D : Ends} (w : Wa fr Γ Θ ta fun ps Θ1 => ps.length = fs.length ∧ (tm = true → ∃ z r, ps = iz yS z :: r ∧ z.length ≤ 1000) ∧ Kr fr Γ Θ1 W ⟨C, (fs.zip ps).reverse⟩) : Kn fr Γ Θ (tRaiseE tm C fs W ta D) := fun σ F H ok env =>
  w σ F H ok env _ fun ps Θ1 ⟨hl, ht, k⟩ vs F1 H1 s1 ok1 hps => by
    refine ⟨by rw [← Paired.len hps]; exact hl, fun h => ?_, fun d nd => ?_⟩
    · obtain ⟨z, r, e, hz⟩ := ht h
      subst e
      cases hps with
      | cons a b => exact ⟨z, _, by rw [a.1.1], hz⟩
    · have s2 := ok1.sameF (o := .xd (fs.zip vs).reverse) nd
      exact k σ _ _ (ok1.new nd) ((env.mono s1).mono s2) d _ upd_same (Paired.rev (zip_ok (fs := fs) (ps_mono s2 hps)))
def erW (cs : EK → Addr) : HE → Er
  | .tooMany k l => ⟨cs .tooMany, [("limit", iz zI l), ("kind", iz yS k)]⟩
  | .badWord w => ⟨cs .badWord, [("word", iz yS w)]⟩
  | .double n => ⟨cs .double, [("name", iz yS n)]⟩
  | .badNumber n => ⟨cs .badNumber, [("number", iz zI n)]⟩
  | .empty n => ⟨cs .empty, [("name", iz yS n)]⟩
  | .unknown n => ⟨cs .unknown, [("name", iz yS n)]⟩
  | .inUse n => ⟨cs .inUse, [("name", iz yS n)]⟩
  | .badState ns => ⟨cs .badState, [("numbers", iz (yT zI) ns)]⟩
  | .notReady s p i => ⟨cs .notReady, [("at", iz zI i), ("place", iz yS p), ("step", iz yS s)]⟩
  | .notSound d => ⟨cs .notSound, [("paper", iz yX d)]⟩
  | .badPair n => ⟨cs .badPair, [("name", iz yS n)]⟩
  | .badText n => ⟨cs .badText, [("line_number", iz zI n)]⟩
  | .noUndo => ⟨cs .noUndo, []⟩
instance : Dat yS := ⟨PyData.str, 0, fun h => Dat.dp (r := zS) h.1, fun h => Dat.ok (r := zS) h.1, fun x => Dat.dl (r := zS) x, fun h => Dat.inj (r := zS) h⟩
instance {α : Type} {r : Rep α} [d : Dat r] : Dat (yL r) := ⟨Dat.enc (zL r), Dat.dep (zL r), fun h => Dat.dp (r := zL r) h.1, fun h => Dat.ok (r := zL r) h.1, fun x => Dat.dl (r := zL r) x, fun h => Dat.inj (r := zL r) h⟩
instance {α : Type} [TNar α] {r : Rep α} [d : Dat r] : Dat (yT r) := ⟨Dat.enc (zT r), Dat.dep (zT r), fun h => Dat.dp (r := zT r) h.1, fun h => Dat.ok (r := zT r) h.1, fun x => Dat.dl (r := zT r) x, fun h => Dat.inj (r := zT r) h⟩
end
section
variable {P : Program} {w : World} {K : PySem.W.Frag} {mg : Str → Option Value} {base : Heap} {x m qual : Str} {C : Addr} {st : Stmt} {N ps : List Str} {k : Nat} {α β : Type} {ef : HE → Er} {args : α → List Vp} {r : Rep β} {md : α → DM β}
theorem Src.okW (F : Src K mg x st ps) (S : FnScope N ps (defScope st)) (len : ∀ x, (args x).length = ps.length)
    (hbody : ∀ (f : Addr) (cdv : Value) (A : Around) (outer : List Env) (s : Shared) (H : Hp) (E : XK) (a : α) (Q : β → Prop) (X : HE → Prop), Room k (A.deeper (envOfC x (defScope st) s.heap.objs.size f cdv)) → md a Q X →
      ∃ t, PSs (cxOf CX0 P w K mg base N x (defScope st) f cdv A outer s H E).nox (defBody st) t ∧ ∀ fr Qv, RetW fr Qv r Q → Kn fr (envOf N (args a)) [] (t { nx := fun _ H' => Qv .non H', rt := Qv })) : Def P w K mg base CX0 (k + 1) x ps (spA (preW ef args r md)) :=
  F.okA S (fun qs out err ⟨a, Q, X, e, _⟩ => by rw [e]; exact len a) fun f cdv A outer s H E qs out err hr ⟨a, Q, X, e1, h, e2, e3⟩ => by
    subst e1 e2 e3
    obtain ⟨t, ht, hk⟩ := hbody f cdv A outer s H E a Q X hr h
    exact ⟨t, ht, fun fr Qv hret => hk fr Qv fun y hy Θ => hret _ ⟨y, hy, rfl⟩ Θ⟩
theorem Src.okWX (F : Src K mg x st ps) (S : FnScope N ps (defScope st)) (len : ∀ x, (args x).length = ps.length)
    (hbody : ∀ (f : Addr) (cdv : Value) (A : Around) (outer : List Env) (s : Shared) (H : Hp) (E : XK) (a : α) (Q : β → Prop) (X : HE → Prop), Room k (A.deeper (envOfC x (defScope st) s.heap.objs.size f cdv)) → md a Q X →
      ∃ t, PSs (cxOf (L2.CX P w) P w K mg base N x (defScope st) f cdv A outer s H E) (defBody st) t ∧ ∀ fr Qv, RetW fr Qv r Q → RseW fr E ef X → Kn fr (envOf N (args a)) [] (t { nx := fun _ H' => Qv .non H', rt := Qv })) : Def P w K mg base (L2.CX P w) (k + 1) x ps (spA (preW ef args r md)) :=
  F.okAX S (fun qs out err ⟨a, Q, X, e, _⟩ => by rw [e]; exact len a) fun f cdv A outer s H E qs out err hr ⟨a, Q, X, e1, h, e2, e3⟩ => by
    subst e1 e2 e3
    obtain ⟨t, ht, hk⟩ := hbody f cdv A outer s H E a Q X hr h
    exact ⟨t, ht, fun fr Qv hret hrse => hk fr Qv (fun y hy Θ => hret _ ⟨y, hy, rfl⟩ Θ) fun z hz Γ Θ => kr_E hrse ⟨z, hz, rfl⟩⟩
theorem Src.okBW (F : Src K mg x st ps) (S : FnScope N ps (defScope st)) (len : ∀ x, (args x).length + 1 = ps.length)
    (hbody : ∀ (f : Addr) (cdv : Value) (A : Around) (outer : List Env) (s : Shared) (H : Hp) (E : XK) (b l : Addr) (a : α) (Q : β → Prop), Room k (A.deeper (envOfC x (defScope st) s.heap.objs.size f cdv)) → md a Q noX →
      ∃ t, PSs (cxOf CX0 P w K mg base N x (defScope st) f cdv A outer s H E).nox (defBody st) t ∧ ∀ fr Qv, RetBW fr b l Qv r Q → Kn fr (envOf N (zAt b :: args a)) [cBox true b l] (t { nx := fun _ H' => Qv .non H', rt := Qv })) : Def P w K mg base CX0 (k + 1) x ps (spC (preB (preBW args r md))) :=
  F.okB S (fun qs o ⟨a, Q, e, _⟩ => by rw [e]; exact len a) fun f cdv A outer s H E b l qs o hr ⟨a, Q, e1, h, e2⟩ => by
    subst e1 e2
    obtain ⟨t, ht, hk⟩ := hbody f cdv A outer s H E b l a Q hr h
    exact ⟨t, ht, fun fr Qv hret => hk fr Qv fun y hy Θ hc => hret _ ⟨y, hy, rfl⟩ Θ hc⟩
theorem SrcM.okW (F : SrcM K C m qual st ps) (S : FnScope N ps (defScope st)) (len : ∀ x, (args x).length = ps.length)
    (hbody : ∀ (f : Addr) (cdv : Value) (A : Around) (outer : List Env) (s : Shared) (H : Hp) (E : XK) (a : α) (Q : β → Prop) (X : HE → Prop), Room k (A.deeper (envOfC qual (defScope st) s.heap.objs.size f cdv)) → md a Q X →
      ∃ t, PSs (cxOf CX0 P w K mg base N qual (defScope st) f cdv A outer s H E).nox (defBody st) t ∧ ∀ fr Qv, RetW fr Qv r Q → Kn fr (envOf N (args a)) [] (t { nx := fun _ H' => Qv .non H', rt := Qv })) : DefM P w K mg base CX0 (k + 1) C m ps (spA (preW ef args r md)) :=
  F.okA S (fun qs out err ⟨a, Q, X, e, _⟩ => by rw [e]; exact len a) fun f cdv A outer s H E qs out err hr ⟨a, Q, X, e1, h, e2, e3⟩ => by
    subst e1 e2 e3
    obtain ⟨t, ht, hk⟩ := hbody f cdv A outer s H E a Q X hr h
    exact ⟨t, ht, fun fr Qv hret => hk fr Qv fun y hy Θ => hret _ ⟨y, hy, rfl⟩ Θ⟩
theorem SrcM.okWX (F : SrcM K C m qual st ps) (S : FnScope N ps (defScope st)) (len : ∀ x, (args x).length = ps.length)
    (hbody : ∀ (f : Addr) (cdv : Value) (A : Around) (outer : List Env) (s : Shared) (H : Hp) (E : XK) (a : α) (Q : β → Prop) (X : HE → Prop), Room k (A.deeper (envOfC qual (defScope st) s.heap.objs.size f cdv)) → md a Q X →
      ∃ t, PSs (cxOf (L2.CX P w) P w K mg base N qual (defScope st) f cdv A outer s H E) (defBody st) t ∧ ∀ fr Qv, RetW fr Qv r Q → RseW fr E ef X → Kn fr (envOf N (args a)) [] (t { nx := fun _ H' => Qv .non H', rt := Qv })) : DefM P w K mg base (L2.CX P w) (k + 1) C m ps (spA (preW ef args r md)) :=
  F.okAX S (fun qs out err ⟨a, Q, X, e, _⟩ => by rw [e]; exact len a) fun f cdv A outer s H E qs out err hr ⟨a, Q, X, e1, h, e2, e3⟩ => by
    subst e1 e2 e3
    obtain ⟨t, ht, hk⟩ := hbody f cdv A outer s H E a Q X hr h
    exact ⟨t, ht, fun fr Qv hret hrse => hk fr Qv (fun y hy Θ => hret _ ⟨y, hy, rfl⟩ Θ) fun z hz Γ Θ => kr_E hrse ⟨z, hz, rfl⟩⟩
end
end L2
set_option Elab.async false
set_option linter.all false
set_option maxRecDepth 100000
set_option maxHeartbeats 4000000
namespace L2
open PySem PySem.Spec PyProof.Rows PySem.HErr
section
variable {fr fr' : Fr} {Γ Γ' : Gam} {Θ Θ' : List Cel} {F F' H H' : Hp} {K : Vp → List Cel → Prop} {Qv : VK}
theorem wt_andP {K : Bool → List Cel → Prop} {t u : TT} (w : Wt fr Γ Θ t fun b Θ1 => ∃ c, (b = true → Et fr Γ Θ1 u c) ∧ K (b && c) Θ1) : Wt fr Γ Θ (tAnd t u) K :=
  wt_andC fun σ F H ok env Q q => w σ F H ok env Q fun b Θ1 ⟨c, h1, k⟩ => q b Θ1 ⟨fun e σ F H ok env Q q => h1 e σ F H ok env Q fun c' Θ' ⟨e1, e2⟩ => q c' Θ' (by
    subst e1 e2 e
    exact k), fun e => by
    subst e
    exact k⟩
theorem wt_orP {K : Bool → List Cel → Prop} {t u : TT} (w : Wt fr Γ Θ t fun b Θ1 => ∃ c, (b = false → Et fr Γ Θ1 u c) ∧ K (b || c) Θ1) : Wt fr Γ Θ (tOr t u) K :=
  wt_orC fun σ F H ok env Q q => w σ F H ok env Q fun b Θ1 ⟨c, h1, k⟩ => q b Θ1 ⟨fun e σ F H ok env Q q => h1 e σ F H ok env Q fun c' Θ' ⟨e1, e2⟩ => q c' Θ' (by
    subst e1 e2 e
    exact k), fun e => by
    subst e
    exact k⟩
theorem we_orP {t u : TE} (w : We fr Γ Θ t fun p Θ1 => ∃ b c, p = iz zB b ∧ (b = false → Ev fr Γ Θ1 u (iz zB c)) ∧ K (iz zB (b || c)) Θ1) : We fr Γ Θ (tOrV t u) K :=
  we_orC (w.imp fun p Θ1 ⟨b, c, e, h1, k⟩ => ⟨b, e, fun e => (h1 e).imp fun p Θ' ⟨e1, e2⟩ => by
    subst e1 e2 e
    exact k, fun e => by
    subst e
    exact k⟩)
instance : NotNon yS := ⟨fun F v x h => by rw [h.1.1]; exact fun q => by cases q⟩
instance {α : Type} {r : Rep α} : NotNon (yL r) := ⟨fun F v x h => NotNon.nn (r := zL r) F v x h.1⟩
instance {α : Type} [TNar α] {r : Rep α} : NotNon (yT r) := ⟨fun F v x h => NotNon.nn (r := zT r) F v x h.1⟩
instance {α : Type} {r : Rep α} : NotNon (yD r) := ⟨fun F v x ⟨⟨a, kvs, h, _⟩, _⟩ => by rw [h]; exact fun q => by cases q⟩
instance {α β : Type} {r : Rep α} {s : Rep β} : NotNon (zLp r s) := ⟨fun F v x ⟨a, u, w, h, _⟩ => by rw [h]; exact fun q => by cases q⟩
instance {α β γ δ : Type} {r : Rep α} {s : Rep β} {t : Rep γ} {u : Rep δ} : NotNon (z4 r s t u) := ⟨fun F v x ⟨a, v1, v2, v3, v4, h, _⟩ => by rw [h]; exact fun q => by cases q⟩
instance {C : Addr} : NotNon (zPlan C) := ⟨fun F v x ⟨a, h, _⟩ => by rw [h]; exact fun q => by cases q⟩
theorem oy_isO {α : Type} {r : Rep α} [NotNon r] {o : Option α} (k : K (iz zB o.isNone) Θ) : Ops fr Θ (fun x y H Q => y = .non ∧ Q (.bl (decide (x = .non))) H) (iz (yO r) o) (iz yN ()) K := fun F H v w ok hv hw Q q => by
  refine ⟨hw, q.go k ok ?_⟩
  show V.bl _ = V.bl _
  cases o with
  | none => rw [show v = .non from hv]; rfl
  | some x => rw [decide_eq_false (NotNon.nn F v x hv)]; rfl
theorem le_On {α : Type} {r : Rep α} : (iz yN ()).Le (iz (yO r) none) := fun F v h => h
theorem kn_asgL {α : Type} {r : Rep α} {te : TE} {i : Nat} {D : Ends} (w : We fr Γ Θ te fun p Θ1 => ∃ v : α, p = iz r v ∧ ∀ v', v' = v → Kn fr (Γ.set i (some (iz r v'))) Θ1 D.nx) : Kn fr Γ Θ (tAsg te (gName i) D) := kn_asg (w.imp fun p Θ1 ⟨v, e, k⟩ => by
  subst e
  exact k v rfl)
end
end L2
set_option Elab.async false
set_option linter.all false
set_option maxRecDepth 100000
set_option maxHeartbeats 4000000
namespace L2
open PySem PySem.Spec PyProof.Rows PySem.HErr
section
variable {fr fr' : Fr} {Γ Γ' : Gam} {Θ Θ' : List Cel} {F F' H H' : Hp} {K : Vp → List Cel → Prop} {Qv : VK}
theorem depth_mem {ds : List PyData} {d : PyData} {n : Nat} (h : PyData.depthAll ds ≤ n) (hd : d ∈ ds) : d.depth ≤ n := by
  induction ds with
  | nil => cases hd
  | cons a l ih =>
    simp only [PyData.depthAll] at h
    rcases List.mem_cons.mp hd with rfl | hd
    · omega
    · exact ih (by omega) hd
theorem xpAll_pvs : ∀ {ds : List PyData} {vs : List V}, xpAll F ds vs → (∀ d ∈ ds, d.depth ≤ 60) → PVs yX F vs ds
  | [], _, h, _ => by simp only [xpAll] at h; subst h; exact .nil
  | d :: ds, _, h, hd => by
    simp only [xpAll] at h
    obtain ⟨v, r, rfl, h2, h3⟩ := h
    exact .cons ⟨h2, hd d (List.mem_cons_self ..)⟩ (xpAll_pvs h3 fun x hx => hd x (List.mem_cons_of_mem _ hx))
class XDat {α : Type} (r : Rep α) where
  enc : α → PyData
  dep : Nat
  xd : ∀ {F : Hp} {v : V} {x : α}, r.p F v x → xp F (enc x) v ∧ (enc x).depth ≤ dep
instance : XDat yX := ⟨id, 60, fun h => h⟩
instance : XDat zI := ⟨PyData.int, 0, fun h => by simp only [xp, PyData.depth]; exact ⟨h, Nat.le_refl _⟩⟩
instance : XDat yN := ⟨fun _ => PyData.none, 0, fun h => by simp only [xp, PyData.depth]; exact ⟨h, Nat.le_refl _⟩⟩
instance : XDat yS := ⟨PyData.str, 0, fun h => by simp only [xp, PyData.depth]; exact ⟨⟨h.1.1, h.1.2, h.2⟩, Nat.le_refl _⟩⟩
theorem xd_all {α : Type} {r : Rep α} [d : XDat r] {vs : List V} {xs : List α} (h : PVs r F vs xs) : xpAll F (xs.map d.enc) vs ∧ PyData.depthAll (xs.map d.enc) ≤ d.dep := by
  induction h with
  | nil => exact ⟨by simp only [List.map_nil, xpAll], by simp only [List.map_nil, PyData.depthAll]; exact Nat.zero_le _⟩
  | cons a _ ih =>
    simp only [List.map_cons, xpAll, PyData.depthAll]
    have := (d.xd a).2
    have := ih.2
    exact ⟨⟨_, _, rfl, (d.xd a).1, ih.1⟩, by omega⟩
instance {α : Type} {r : Rep α} [d : XDat r] : XDat (yL r) := ⟨fun xs => .list (xs.map d.enc), d.dep + 1, fun ⟨⟨a, vs, h1, h2, h3⟩, h4⟩ => by
  have := (xd_all h3).2
  simp only [xp, PyData.depth]
  exact ⟨⟨a, vs, h1, h2, by rw [List.length_map]; exact h4, (xd_all h3).1⟩, by omega⟩⟩
/-- data of these things stand as the things -/
class XNar {α : Type} [TNar α] (r : Rep α) [XDat r] : Prop where
  nx : ∀ xs : List α, TNar.nar xs = true ∨ TNar.nar (xs.map (XDat.enc (r := r))) = TNar.nar xs
instance {α : Type} [TNar α] [TAll α] {r : Rep α} [XDat r] : XNar r := ⟨fun xs => .inl (TAll.all xs)⟩
theorem isSDs_strs (xs : List Str) : isSDs (xs.map PyData.str) = !xs.isEmpty := by
  unfold isSDs
  have : (xs.map PyData.str).all isSD = true := List.all_eq_true.mpr fun x hx => by
    obtain ⟨y, _, rfl⟩ := List.mem_map.mp hx
    rfl
  rw [this, Bool.and_true]
  cases xs <;> rfl
theorem isSDs_no {ds : List PyData} {d : PyData} (h : d ∈ ds) (e : isSD d = false) : isSDs ds = false := by
  unfold isSDs
  rw [show ds.all isSD = false from List.all_eq_false.mpr ⟨d, h, by rw [e]; exact Bool.false_ne_true⟩, Bool.and_false]
instance : XNar yS := ⟨fun xs => .inr (by show (!isSDs (xs.map PyData.str)) = xs.isEmpty; rw [isSDs_strs, Bool.not_not])⟩
instance : XNar yX := ⟨fun xs => .inr (by rw [show (XDat.enc (r := yX)) = id from rfl, List.map_id])⟩
theorem XNar.tup {α : Type} [TNar α] {r : Rep α} [XDat r] [k : XNar r] {F : Hp} {a : Addr} {vs : List V} {xs : List α} (h : TupB (TNar.nar xs) F a vs) : TupB (TNar.nar (xs.map (XDat.enc (r := r)))) F a vs := (k.nx xs).elim (fun e => .inl (h.nar e)) fun e => by rw [e]; exact h
instance {α : Type} [TNar α] {r : Rep α} [d : XDat r] [XNar r] : XDat (yT r) := ⟨fun xs => .tuple (xs.map d.enc), d.dep + 1, fun ⟨⟨a, vs, h1, h2, h3⟩, h4⟩ => by
  have := (xd_all h3).2
  simp only [xp, PyData.depth]
  exact ⟨⟨a, vs, h1, XNar.tup h2, by rw [List.length_map]; exact h4, (xd_all h3).1⟩, by omega⟩⟩
instance {α : Type} {r : Rep α} [d : XDat r] : XDat (z1 r) := ⟨fun x => .tuple [d.enc x], d.dep + 1, fun ⟨a, v1, h1, h2, h3⟩ => by
  have := (d.xd h3).2
  simp only [xp, xpAll, PyData.depth, PyData.depthAll]
  exact ⟨⟨a, _, h1, .inl h2, by show 1 ≤ big; decide, _, _, rfl, (d.xd h3).1, rfl⟩, by omega⟩⟩
instance {α β : Type} {r : Rep α} {s : Rep β} [d : XDat r] [e : XDat s] : XDat (z2 r s) := ⟨fun x => .tuple [d.enc x.1, e.enc x.2], max d.dep e.dep + 1, fun ⟨a, u, w, h1, h2, h3, h4⟩ => by
  have := (d.xd h3).2
  have := (e.xd h4).2
  simp only [xp, xpAll, PyData.depth, PyData.depthAll]
  exact ⟨⟨a, _, h1, .inl h2, by show 2 ≤ big; decide, _, _, rfl, (d.xd h3).1, _, _, rfl, (e.xd h4).1, rfl⟩, by omega⟩⟩
instance {α β γ : Type} {r : Rep α} {s : Rep β} {t : Rep γ} [d : XDat r] [e : XDat s] [f : XDat t] : XDat (z3 r s t) := ⟨fun x => .tuple [d.enc x.1, e.enc x.2.1, f.enc x.2.2], max d.dep (max e.dep f.dep) + 1, fun ⟨a, u, w, z, h1, h2, h3, h4, h5⟩ => by
  have := (d.xd h3).2
  have := (e.xd h4).2
  have := (f.xd h5).2
  simp only [xp, xpAll, PyData.depth, PyData.depthAll]
  exact ⟨⟨a, _, h1, .inl h2, by show 3 ≤ big; decide, _, _, rfl, (d.xd h3).1, _, _, rfl, (e.xd h4).1, _, _, rfl, (f.xd h5).1, rfl⟩, by omega⟩⟩
instance {α β γ δ : Type} {r : Rep α} {s : Rep β} {t : Rep γ} {u : Rep δ} [d : XDat r] [e : XDat s] [f : XDat t] [g : XDat u] : XDat (z4 r s t u) := ⟨fun x => .tuple [d.enc x.1, e.enc x.2.1, f.enc x.2.2.1, g.enc x.2.2.2], max (max d.dep e.dep) (max f.dep g.dep) + 1, fun ⟨a, v1, v2, v3, v4, h1, h2, h3, h4, h5, h6⟩ => by
  have := (d.xd h3).2
  have := (e.xd h4).2
  have := (f.xd h5).2
  have := (g.xd h6).2
  simp only [xp, xpAll, PyData.depth, PyData.depthAll]
  exact ⟨⟨a, _, h1, .inl h2, by show 4 ≤ big; decide, _, _, rfl, (d.xd h3).1, _, _, rfl, (e.xd h4).1, _, _, rfl, (f.xd h5).1, _, _, rfl, (g.xd h6).1, rfl⟩, by omega⟩⟩
instance {α β : Type} {r : Rep α} {s : Rep β} [d : XDat r] [e : XDat s] : XDat (zLp r s) := ⟨fun x => .list [d.enc x.1, e.enc x.2], max d.dep e.dep + 1, fun ⟨a, u, w, h1, h2, h3, h4⟩ => by
  have := (d.xd h3).2
  have := (e.xd h4).2
  simp only [xp, xpAll, PyData.depth, PyData.depthAll]
  exact ⟨⟨a, _, h1, h2, by show 2 ≤ big; decide, _, _, rfl, (d.xd h3).1, _, _, rfl, (e.xd h4).1, rfl⟩, by omega⟩⟩
instance {α β γ : Type} {r : Rep α} {s : Rep β} {t : Rep γ} [d : XDat r] [e : XDat s] [f : XDat t] : XDat (zL3 r s t) := ⟨fun x => .list [d.enc x.1, e.enc x.2.1, f.enc x.2.2], max d.dep (max e.dep f.dep) + 1, fun ⟨a, u, w, z, h1, h2, h3, h4, h5⟩ => by
  have := (d.xd h3).2
  have := (e.xd h4).2
  have := (f.xd h5).2
  simp only [xp, xpAll, PyData.depth, PyData.depthAll]
  exact ⟨⟨a, _, h1, h2, by show 3 ≤ big; decide, _, _, rfl, (d.xd h3).1, _, _, rfl, (e.xd h4).1, _, _, rfl, (f.xd h5).1, rfl⟩, by omega⟩⟩
instance {α : Type} {r : Rep α} [d : XDat r] : XDat (yO r) := ⟨fun o => match o with | none => .none | some x => d.enc x, d.dep, fun {F v x} h => by
  cases x with
  | none => simp only [xp, PyData.depth]; exact ⟨h, Nat.zero_le _⟩
  | some y => exact d.xd h⟩
theorem le_XT {x : PyData} {ds : List PyData} (e : x = .tuple ds) : (iz yX x).Le (iz (yT yX) ds) := fun F v h => by
  subst e
  obtain ⟨h, hd⟩ := h
  simp only [xp] at h
  simp only [PyData.depth] at hd
  obtain ⟨a, vs, h1, h2, h3, h4⟩ := h
  exact ⟨⟨a, vs, h1, h2, xpAll_pvs h4 fun d hm => depth_mem (n := 60) (by omega) hm⟩, h3⟩
theorem le_XS {x : PyData} {z : Str} (e : x = .str z) : (iz yX x).Le (iz yS z) := fun F v h => by
  subst e
  have h : xp F (.str z) v := h.1
  simp only [xp] at h
  exact ⟨⟨h.1, h.2.1⟩, h.2.2⟩
mutual
theorem xp_dp {Kf : PySem.W.Frag} : ∀ (d : PyData) (v : V), xp F d v → Dp Kf F v d ∧ nb d = true
  | .none, _, h => by simp only [xp] at h; subst h; exact ⟨.non, rfl⟩
  | .int _, _, h => by simp only [xp] at h; subst h; exact ⟨.int _, rfl⟩
  | .str _, _, h => by
    simp only [xp] at h
    obtain ⟨rfl, h2, _⟩ := h
    exact ⟨.str _, h2.ok⟩
  | .bool _, _, h => by simp only [xp] at h
  | .dict _, _, h => by simp only [xp] at h
  | .list ds, _, h => by
    simp only [xp] at h
    obtain ⟨a, vs, rfl, h2, _, h4⟩ := h
    obtain ⟨g1, g2⟩ := xpAll_dp (Kf := Kf) ds vs h4
    exact ⟨.lst (SqL.of h2) g1, g2⟩
  | .tuple ds, _, h => by
    simp only [xp] at h
    obtain ⟨a, vs, rfl, h2, _, h4⟩ := h
    obtain ⟨g1, g2⟩ := xpAll_dp (Kf := Kf) ds vs h4
    exact ⟨.tup (h2.sq (Same.refl _)) g1, g2⟩
theorem xpAll_dp {Kf : PySem.W.Frag} : ∀ (ds : List PyData) (vs : List V), xpAll F ds vs → DpAll Kf F vs ds ∧ nbAll ds = true
  | [], _, h => by simp only [xpAll] at h; subst h; exact ⟨.nil, rfl⟩
  | d :: ds, _, h => by
    simp only [xpAll] at h
    obtain ⟨v, r, rfl, h2, h3⟩ := h
    obtain ⟨g1, g2⟩ := xp_dp (Kf := Kf) d v h2
    obtain ⟨g3, g4⟩ := xpAll_dp (Kf := Kf) ds r h3
    exact ⟨.cons g1 g3, by show (nb d && nbAll ds) = true; rw [g2, g4]; rfl⟩
end
open Classical in
noncomputable def xeq (x y : PyData) : Bool := decide (x = y)
theorem xeq_t {x y : PyData} : xeq x y = true ↔ x = y := by simp [xeq]
theorem xeq_eqv {x y : PyData} (hx : nb x = true) (hy : nb y = true) : PyData.eqv x y = xeq x y := by
  have h := eqv_nb x y hx hy
  cases e : PyData.eqv x y with
  | true => exact (xeq_t.mpr (h.mp e)).symm
  | false =>
    cases e2 : xeq x y with
    | true => rw [h.mpr (xeq_t.mp e2)] at e; cases e
    | false => rfl
theorem oy_neX {Kf : PySem.W.Frag} {α : Type} {r : Rep α} [d : XDat r] {x y : α} (hd : d.dep ≤ 64) (k : K (iz zB (!xeq (d.enc x) (d.enc y))) Θ) : Ops fr Θ (rNeD Kf) (iz r x) (iz r y) K := fun F H v w ok hv hw Q q => by
  obtain ⟨a0, a3⟩ := d.xd hv
  obtain ⟨b0, b3⟩ := d.xd hw
  obtain ⟨a1, a2⟩ := xp_dp (Kf := Kf) _ v a0
  obtain ⟨b1, b2⟩ := xp_dp (Kf := Kf) _ w b0
  exact ⟨_, _, a1.up ok.fh, b1.up ok.fh, shaped_of a2 (Nat.le_trans a3 hd), shaped_of b2 (Nat.le_trans b3 hd), by rw [xeq_eqv a2 b2]; exact q.go k ok rfl⟩
/-- papers: data that is a tuple -/
def pit : PyData → List PyData
  | .tuple ds => ds
  | _ => []
def yP : Rep PyData := ⟨fun F v d => (xp F d v ∧ d.depth ≤ 60) ∧ d = .tuple (pit d), fun e h => ⟨⟨xp_mono e _ _ h.1.1, h.1.2⟩, h.2⟩⟩
class PDat {α : Type} (r : Rep α) [d : XDat r] : Prop where
  t : ∀ x, d.enc x = .tuple (pit (d.enc x))
instance {α : Type} {r : Rep α} [XDat r] : PDat (z1 r) := ⟨fun _ => rfl⟩
instance {α : Type} [TNar α] {r : Rep α} [XDat r] [XNar r] : PDat (yT r) := ⟨fun _ => rfl⟩
instance {α β : Type} {r : Rep α} {s : Rep β} [XDat r] [XDat s] : PDat (z2 r s) := ⟨fun _ => rfl⟩
instance {α β γ : Type} {r : Rep α} {s : Rep β} {t : Rep γ} [XDat r] [XDat s] [XDat t] : PDat (z3 r s t) := ⟨fun _ => rfl⟩
instance {α β γ δ : Type} {r : Rep α} {s : Rep β} {t : Rep γ} {u : Rep δ} [XDat r] [XDat s] [XDat t] [XDat u] : PDat (z4 r s t u) := ⟨fun _ => rfl⟩
theorem le_P {α : Type} {r : Rep α} [d : XDat r] [p : PDat r] {x : α} (h : d.dep ≤ 60 := by decide) : (iz r x).Le (iz yP (d.enc x)) := fun F v q => ⟨⟨(d.xd q).1, Nat.le_trans (d.xd q).2 h⟩, p.t x⟩
theorem le_PT {x : PyData} : (iz yP x).Le (iz (yT yX) (pit x)) := fun F v h => le_XT h.2 F v h.1
instance : XDat yP := ⟨id, 60, fun h => h.1⟩
instance : NotNon yP := ⟨fun F v x h q => by
  obtain ⟨⟨a, vs, h1, _⟩, _⟩ := le_PT F v h
  rw [q] at h1
  cases h1⟩
theorem sp_P {x : PyData} : SeqY fr Θ (iz yP x) yX (pit x) := ⟨fun F H v ok h => sy_T.1 F H v ok (le_PT F v h), fun F H v ok h => sy_T.2 F H v ok (le_PT F v h)⟩
theorem oy_ixP {Kf : PySem.W.Frag} {x y : PyData} {n : Int} (e : atI (pit x) n = some y) (k : K (iz yX y) Θ) : Ops fr Θ (rIxT Kf) (iz yP x) (iz zI n) K := (oy_ixT e k).le le_PT (Vp.Le.refl _)
end
end L2
set_option Elab.async false
set_option linter.all false
set_option maxRecDepth 100000
set_option maxHeartbeats 4000000
namespace L2
open PySem PySem.Spec PyProof.Rows PySem.HErr
section
variable {fr fr' : Fr} {Γ Γ' : Gam} {Θ Θ' : List Cel} {F F' H H' : Hp} {K : Vp → List Cel → Prop} {Qv : VK}
def MkPr (fr : Fr) (Γ : Gam) (Θ : List Cel) (pre : Pre) (E : L2.St → XK) (ps : List Vp) (K : Vp → List Cel → Prop) : Prop := ∃ out err, pre ps out err ∧ (∀ p, out p → K p Θ) ∧ ∀ e, err e → Kr fr Γ Θ (fun cls d σ H => E σ cls d H) e
theorem we_mkP {C : Addr} {pre : Pre} {E : L2.St → XK} {t : TA} (w : Wa fr Γ Θ t fun ps Θ1 => MkPr fr Γ Θ1 pre E ps K) : We fr Γ Θ (tMkD C (spI C pre) E t) K := we_mk w
theorem mkW {α β : Type} {ef : HE → Er} {args : α → List Vp} {r : Rep β} {m : α → DM β} {E : L2.St → XK} {ps : List Vp} {Q : β → Prop} {X : HE → Prop} (x : α) (h : m x Q X) (k : ∀ y, Q y → K (iz r y) Θ) (xx : ∀ z, X z → Kr fr Γ Θ (fun cls d σ H => E σ cls d H) (ef z)) (e : ps = args x := by rfl) : MkPr fr Γ Θ (preW ef args r m) E ps K :=
  ⟨_, _, ⟨x, Q, X, e, h, rfl, rfl⟩, fun p ⟨y, hy, e⟩ => by rw [e]; exact k y hy, fun er ⟨z, hz, e⟩ => by rw [e]; exact xx z hz⟩
theorem mkW0 {α β : Type} {ef : HE → Er} {args : α → List Vp} {r : Rep β} {m : α → DM β} {E : L2.St → XK} {ps : List Vp} {Q : β → Prop} (x : α) (h : m x Q noX) (k : ∀ y, Q y → K (iz r y) Θ) (e : ps = args x := by rfl) : MkPr fr Γ Θ (preW ef args r m) E ps K := mkW x h k (fun z hz => hz.elim) e
end
section
variable {P : Program} {w : World} {K : PySem.W.Frag} {mg : Str → Option Value} {base : Heap} {CX : CXT} {C : Addr} {ps : List Str} {k : Nat} {sp sp' : Sp}
theorem DefI.imp (D : DefI P w K mg base CX k C ps sp) (h : ∀ vs H Q E, sp' vs H Q E → sp vs H Q E) : DefI P w K mg base CX k C ps sp' := by
  obtain ⟨f, fd, hlk, h1, h2, h3⟩ := D.ex
  exact ⟨f, fd, hlk, h1, h2, h3.imp h⟩
end
abbrev yPR : Rep (List (Str × Int)) := yL (z2 yS zI)
abbrev ySR : Rep (List SRow) := yL (z3 yS (yL yS) (yL yS))
def RowsB (prs : List (Str × Int)) (srs : List SRow) : Prop := (∀ r ∈ prs, r.1.length ≤ 1000) ∧ ∀ r ∈ srs, r.1.length ≤ 1000 ∧ r.2.1.length ≤ 1000 ∧ r.2.2.length ≤ 1000 ∧ (∀ y ∈ r.2.1, y.length ≤ 1000) ∧ ∀ y ∈ r.2.2, y.length ≤ 1000
def heOf : PErr → HE
  | .tooMany k l => .tooMany k l
  | .badWord w => .badWord w
  | .double n => .double n
  | .badNumber n => .badNumber n
  | .empty n => .empty n
  | .unknown n => .unknown n
def mk_Plan (prs : List (Str × Int)) (srs : List SRow) : DM PlanD := fun Q X => RowsB prs srs ∧ (planDue prs srs = none → Q (planOf prs srs)) ∧ ∀ y, planDue prs srs = some y → X (heOf y)
def ecs (cs : EK → Addr) : ECs := ⟨cs .tooMany, cs .badWord, cs .double, cs .badNumber, cs .empty, cs .unknown⟩
theorem le_PR {prs : List (Str × Int)} : (iz yPR prs).Le (iz (zL (z2 zS zI)) prs) := le_LLr fun F v x _ ⟨a, u, w, h1, h2, h3, h4⟩ => ⟨a, u, w, h1, h2, h3.1, h4⟩
theorem le_SR {srs : List SRow} : (iz ySR srs).Le (iz (zL (z3 zS (zL zS) (zL zS))) srs) := le_LLr fun F v x _ ⟨a, u, w, z, h1, h2, h3, h4, h5⟩ => ⟨a, u, w, z, h1, h2, h3.1, le_LLr (r := yS) (s := zS) (fun F v x _ h => h.1) F w h4, le_LLr (r := yS) (s := zS) (fun F v x _ h => h.1) F z h5⟩
/-- the strings of an error that is due stand in the rows -/
def strE : PErr → Option Str
  | .tooMany _ _ => none
  | .badWord w => some w
  | .double n => some n
  | .badNumber _ => none
  | .empty n => some n
  | .unknown n => some n
theorem chk_str {ks seen ws : List Str} {x : Bool × Str} (h : chk ks seen ws = some x) : x.2 ∈ ws := chk_mem (n := x.2) (b := x.1) (by rw [h])
theorem placesDue_str {e : PErr} {z : Str} : ∀ {seen : List Str} {prs : List (Str × Int)}, placesDue seen prs = some e → strE e = some z → ∃ r ∈ prs, r.1 = z
  | _, [], h, _ => by cases h
  | seen, (w, n) :: r, h, hz => by
    rw [placesDue_cons] at h
    split at h
    · split at h
      · cases h; cases hz; exact ⟨_, List.mem_cons_self .., rfl⟩
      · split at h
        · obtain ⟨q, hq, e⟩ := placesDue_str h hz
          exact ⟨q, List.mem_cons_of_mem _ hq, e⟩
        · cases h; cases hz
    · cases h; cases hz; exact ⟨_, List.mem_cons_self .., rfl⟩
theorem nameErr_str {x : Bool × Str} : strE (nameErr x) = some x.2 := by
  obtain ⟨b, n⟩ := x
  cases b <;> rfl
theorem stepDue_str {ps seen : List Str} {s : SRow} {e : PErr} {z : Str} (h : stepDue ps seen s = some e) (hz : strE e = some z) : z = s.1 ∨ z ∈ s.2.1 ∨ z ∈ s.2.2 := by
  unfold stepDue at h
  split at h
  · split at h
    · cases h; cases hz; exact .inl rfl
    · split at h
      · cases h; cases hz; exact .inl rfl
      · split at h
        · rename_i x hx
          cases h
          rw [nameErr_str] at hz
          cases hz
          exact .inr (.inl (chk_str hx))
        · obtain ⟨x, hx, e2⟩ := Option.map_eq_some_iff.mp h
          subst e2
          rw [nameErr_str] at hz
          cases hz
          exact .inr (.inr (chk_str hx))
  · cases h; cases hz; exact .inl rfl
theorem stepsDue_str {ps : List Str} {e : PErr} {z : Str} : ∀ {seen : List Str} {srs : List SRow}, stepsDue ps seen srs = some e → strE e = some z → ∃ s ∈ srs, z = s.1 ∨ z ∈ s.2.1 ∨ z ∈ s.2.2
  | _, [], h, _ => by cases h
  | seen, s :: r, h, hz => by
    rw [stepsDue_cons] at h
    split at h
    · rename_i e2 he
      cases h
      exact ⟨s, List.mem_cons_self .., stepDue_str he hz⟩
    · obtain ⟨q, hq, h2⟩ := stepsDue_str h hz
      exact ⟨q, List.mem_cons_of_mem _ hq, h2⟩
theorem due_str {prs : List (Str × Int)} {srs : List SRow} {e : PErr} {z : Str} (hb : RowsB prs srs) (h : planDue prs srs = some e) (hz : strE e = some z) : z.length ≤ 1000 := by
  unfold planDue at h
  split at h
  · cases h; cases hz
  · split at h
    · cases h; cases hz
    · split at h
      · rename_i e2 he
        cases h
        obtain ⟨r, hr, e3⟩ := placesDue_str he hz
        rw [← e3]
        exact hb.1 r hr
      · obtain ⟨s, hs, h2⟩ := stepsDue_str h hz
        obtain ⟨b1, b2, b3, b4, b5⟩ := hb.2 s hs
        rcases h2 with h2 | h2 | h2
        · rw [h2]; exact b1
        · exact b4 z h2
        · exact b5 z h2
end L2
set_option Elab.async false
set_option linter.all false
set_option maxRecDepth 100000
set_option maxHeartbeats 4000000
namespace L2
open PySem PySem.Spec PyProof.Rows PySem.HErr
section
variable {fr fr' : Fr} {Γ Γ' : Gam} {Θ Θ' : List Cel} {F F' H H' : Hp} {K : Vp → List Cel → Prop} {Qv : VK}
theorem oy_notB {a b : Bool} (k : K (iz zB (!decide (a = b))) Θ) : Ops fr Θ (fun x y H Q => ∃ a b, x = .bl a ∧ y = .bl b ∧ Q (.bl (!decide (a = b))) H) (iz zB a) (iz zB b) K := fun F H v w ok hv hw Q q => ⟨a, b, hv, hw, q.go k ok rfl⟩
theorem joinL_len (S : List Nat) : ∀ parts : List (List Nat), (TL.joinL S parts).length ≤ (parts.map List.length).sum + parts.length * S.length
  | [] => by simp [TL.joinL]
  | [p] => by
    show p.length ≤ _
    simp
  | p :: q :: r => by
    have := joinL_len S (q :: r)
    show (p ++ (S ++ TL.joinL S (q :: r))).length ≤ _
    rw [List.length_append, List.length_append, List.map_cons, List.sum_cons, List.length_cons, Nat.succ_mul]
    omega
theorem joinL_mem (S : List Nat) (c : Nat) : ∀ parts : List (List Nat), c ∈ TL.joinL S parts → c ∈ S ∨ ∃ p ∈ parts, c ∈ p
  | [], h => by cases h
  | [p], h => .inr ⟨p, List.mem_cons_self .., h⟩
  | p :: q :: r, h => by
    rcases List.mem_append.mp h with h | h
    · exact .inr ⟨p, List.mem_cons_self .., h⟩
    · rcases List.mem_append.mp h with h | h
      · exact .inl h
      · rcases joinL_mem S c (q :: r) h with h | ⟨p, hp, h⟩
        · exact .inl h
        · exact .inr ⟨p, List.mem_cons_of_mem _ hp, h⟩
theorem join_cps (y : Str) (parts : List Str) : (Txt.join y parts).cps.toList = TL.joinL y.cps.toList (parts.map fun p => p.cps.toList) := by
  have := TL.tl_join y parts
  rw [← TL.join_eq] at this
  exact this
theorem join_len (y : Str) (parts : List Str) : (Txt.join y parts).length ≤ (parts.map (·.length)).sum + parts.length * y.length := by
  show (Txt.join y parts).cps.toList.length ≤ _
  rw [join_cps]
  have := joinL_len y.cps.toList (parts.map fun p => p.cps.toList)
  rw [List.length_map, List.map_map] at this
  exact this
theorem join_asc {y : Str} {parts : List Str} (hy : Asc y) (hp : ∀ p ∈ parts, Asc p) : Asc (Txt.join y parts) := fun c hc => by
  rw [join_cps] at hc
  rcases joinL_mem _ _ _ hc with h | ⟨p, h1, h2⟩
  · exact hy c h
  · obtain ⟨q, hq, rfl⟩ := List.mem_map.mp h1
    exact hp q hq c h2
theorem tyl_yS {x : Str} {Kf : PySem.W.Frag} : ∀ F H v, OkF fr Θ F H → (iz yS x).p F v → tyV Kf "str" v H := fun F H v ok h => tyl_S F H v ok h.1
theorem my_join {Kf : PySem.W.Frag} {xs : List Str} {x : Str} (hs : (xs.map (·.length)).sum + xs.length * x.length ≤ big) (k : K (iz yS (Txt.join x xs)) Θ) : Mts fr Θ (fun x xs H Q => ∃ a p, ∃ ys : List Str, x = .str a ∧ xs = [.ref p] ∧ (SqL Kf H p (ys.map V.str) ∨ SqT Kf H p (ys.map V.str)) ∧
    (ys.map (·.length)).sum + ys.length * a.length ≤ 16777216 ∧ Q (.str (Txt.join a ys)) H) (iz yS x) [iz (yL yS) xs] K := fun F H v vs ok hv hps Q q => by
  cases hps with
  | cons h1 hp => cases hp with
    | nil =>
      obtain ⟨⟨a, us, rfl, h2, h3⟩, _⟩ := h1
      have h4 : PVs zS F us xs := Paired.imp2 (fun _ _ h => h.1) h3
      obtain ⟨rfl, hA⟩ := pvs_S h4
      obtain ⟨⟨rfl, hx⟩, _⟩ := hv
      exact ⟨x, a, xs, rfl, rfl, .inl (SqL.of (ok.fh _ _ h2)), Nat.le_trans hs (by decide), q.go k ok ⟨⟨rfl, join_asc hx hA⟩, Nat.le_trans (join_len x xs) hs⟩⟩
end
end L2
set_option Elab.async false
set_option linter.all false
set_option maxRecDepth 100000
set_option maxHeartbeats 4000000
namespace L2
open PySem PySem.Spec PyProof.Rows PySem.HErr
section
variable {α β S : Type}
theorem forD_inv {body : α → S → (S → Prop) → (S → Prop) → Prop} {after : S → Prop} {xs : List α} {s : S} (I : List α → S → Prop) (h0 : I [] s)
    (hs : ∀ pre x post s nx, xs = pre ++ x :: post → I pre s → (∀ s', I (pre ++ [x]) s' → nx s') → body x s nx after) (hd : ∀ s, I xs s → after s) : forD xs s body after := by
  have key : ∀ (post pre : List α) (s : S), xs = pre ++ post → I pre s → forD post s body after := by
    intro post
    induction post with
    | nil =>
      intro pre s e h
      rw [List.append_nil] at e
      subst e
      exact hd s h
    | cons x post ih =>
      intro pre s e h
      exact hs pre x post s _ e h fun s' h' => ih (pre ++ [x]) s' (by rw [e]; simp) h'
  exact key xs [] s rfl h0
/-- a loop that looks for the first -/
theorem forD_find {body : α → S → (S → Prop) → (S → Prop) → Prop} {after : S → Prop} {s : S} {p : α → Bool} {E : α → Prop} : ∀ {xs : List α}, (∀ x ∈ xs, ∀ nx, (p x = true → E x) → (p x = false → nx s) → body x s nx after) → (∀ x, xs.find? p = some x → E x) → (xs.find? p = none → after s) → forD xs s body after
  | [], _, _, h => h rfl
  | x :: xs, hb, hf, hn => by
    refine hb x (List.mem_cons_self ..) _ (fun h => hf x ?_) fun h => forD_find (fun y hy => hb y (List.mem_cons_of_mem _ hy)) (fun y hy => hf y ?_) (fun h2 => hn ?_)
    · rw [List.find?_cons, h]
    · rw [List.find?_cons, h]; exact hy
    · rw [List.find?_cons, h]; exact h2
/-- a loop that lets all pass -/
theorem forD_all {body : α → S → (S → Prop) → (S → Prop) → Prop} {after : S → Prop} {s : S} : ∀ {xs : List α}, (∀ x ∈ xs, ∀ nx, nx s → body x s nx after) → after s → forD xs s body after
  | [], _, h => h
  | x :: xs, hb, h => hb x (List.mem_cons_self ..) _ (forD_all (fun y hy => hb y (List.mem_cons_of_mem _ hy)) h)
theorem whileD_inv {step : S → (S → Prop) → (S → Prop) → Prop} {after : S → Prop} {s : S} (I : S → Prop) (μ : S → Nat) (h0 : I s) (hs : ∀ s nx, I s → (∀ s', I s' → μ s' < μ s → nx s') → step s nx after) : whileD s step after := by
  have key : ∀ (n : Nat) (s : S), I s → μ s < n → whileN n s step after := by
    intro n
    induction n with
    | zero => intro s _ h; omega
    | succ n ih => intro s h hm; exact hs s _ h fun s' h' hl => ih s' h' (by omega)
  exact ⟨_, key (μ s + 1) s h0 (Nat.lt_succ_self _)⟩
theorem mapD_ok {f : α → (β → Prop) → Prop} {k : List β → Prop} (g : α → β) : ∀ {xs : List α} {acc : List β}, (∀ x ∈ xs, ∀ k, k (g x) → f x k) → k (acc ++ xs.map g) → mapD xs acc f k
  | [], acc, _, h => by simpa [mapD] using h
  | x :: xs, acc, hf, h => hf x (List.mem_cons_self ..) _ (mapD_ok g (fun y hy => hf y (List.mem_cons_of_mem _ hy)) (by simpa using h))
theorem compD_ok {f : α → (Option β → Prop) → Prop} {k : List β → Prop} (pr : α → Bool) (g : α → β) : ∀ {xs : List α} {acc : List β}, (∀ x ∈ xs, ∀ k, k (if pr x = true then some (g x) else none) → f x k) → k (acc ++ (xs.filter pr).map g) → compD xs acc f k
  | [], acc, _, h => by simpa [compD] using h
  | x :: xs, acc, hf, h => hf x (List.mem_cons_self ..) _ (compD_ok pr g (fun y hy => hf y (List.mem_cons_of_mem _ hy)) (by
    rw [List.filter_cons] at h
    cases e : pr x with
    | true => rw [if_pos e] at h; simpa [e] using h
    | false => rw [if_neg (by rw [e]; exact Bool.false_ne_true)] at h; simpa [e] using h))
theorem forD_map {γ : Type} {g : γ → α} {body : α → S → (S → Prop) → (S → Prop) → Prop} {after : S → Prop} : ∀ {xs : List γ} {s : S}, forD (xs.map g) s body after = forD xs s (fun x => body (g x)) after
  | [], _ => rfl
  | x :: xs, s => by
    show body (g x) s (fun s' => forD (xs.map g) s' body after) after = body (g x) s (fun s' => forD xs s' _ after) after
    congr 1
    funext s'
    exact forD_map
theorem ifD_t {c : Bool} {A B : Prop} (e : c = true) (h : A) : ifD c A B := ⟨fun _ => h, fun f => by rw [e] at f; cases f⟩
theorem ifD_f {c : Bool} {A B : Prop} (e : c = false) (h : B) : ifD c A B := ⟨(fun f => by rw [e] at f; cases f), fun _ => h⟩
theorem orD_ok {b c : Bool} {f : (Bool → Prop) → Prop} {k : Bool → Prop} (hf : b = false → ∀ k, k c → f k) (h : k (b || c)) : orD b f k := by
  cases b with
  | true => exact ⟨fun _ => h, (fun e => nomatch e)⟩
  | false => exact ⟨(fun e => nomatch e), fun _ => hf rfl _ h⟩
end
theorem atI_0 {α : Type} {x : α} {xs : List α} : atI (x :: xs) 0 = some x := atI_nat (j := 0) rfl
end L2
set_option Elab.async false
set_option linter.all false
set_option maxRecDepth 100000
set_option maxHeartbeats 4000000
namespace L2
open PySem PySem.Spec PyProof.Rows PySem.HErr
/-- the box at b: the script's copy at l, then ints -/
def cBg (b l : Addr) (ns is : List Int) : Cel := ⟨b, true, fun F o => o = .lst (.ref l :: is.map V.int) ∧ F l = some (.lst (ns.map V.int)) ∧ ns.length ≤ big, fun e ⟨h1, h2, h3⟩ => ⟨h1, e _ _ h2, h3⟩, fun h e => by subst e; simp at h⟩
abbrev BKind := Addr → Addr → Cel
def RetKW {β : Type} (mk : BKind) (fr : Fr) (b l : Addr) (Qv : VK) (r : Rep β) (Q : β → Prop) : Prop := ∀ y, Q y → ∀ Θ, mk b l ∈ Θ → Rt fr Θ Qv (iz r y)
section
variable {mk : BKind} {fr fr' : Fr} {Γ Γ' : Gam} {Θ Θ' : List Cel} {F F' H H' : Hp} {K : Vp → List Cel → Prop} {Qv : VK}
theorem RetKW.fine {β : Type} {b l : Addr} {r : Rep β} {Q : β → Prop} (h : RetKW mk fr b l Qv r Q) (le : FrLe fr fr') : RetKW mk fr' b l Qv r Q := fun y hy Θ hc => (h y hy Θ hc).fine le
end
end L2
set_option Elab.async false
set_option linter.all false
set_option maxRecDepth 100000
set_option maxHeartbeats 4000000
namespace L2
open PySem PySem.Spec PyProof.Rows PySem.HErr
end L2
set_option Elab.async false
set_option linter.all false
set_option maxRecDepth 100000
set_option maxHeartbeats 4000000
namespace L2
open PySem PySem.Spec PyProof.Rows PySem.HErr
section
variable {fr fr' : Fr} {Γ Γ' : Gam} {Θ Θ' : List Cel} {F F' H H' : Hp} {K : Vp → List Cel → Prop} {Qv : VK}
class QDat {α : Type} (r : Rep α) [DecidableEq α] where
  enc : α → PyData
  dep : Nat
  dp : ∀ {Kf : PySem.W.Frag} {F : Hp} {v : V} {x : α}, r.p F v x → Dp Kf F v (enc x)
  cl : ∀ {F : Hp} {v : V} {x : α}, r.p F v x → (enc x).canLay0 = true
  dl : ∀ x : α, (enc x).depth ≤ dep
  eq : ∀ x y : α, PyData.eqv (enc x) (enc y) = decide (x = y)
instance : QDat zI := ⟨PyData.int, 0, fun h => Dat.dp (r := zI) h, fun _ => by simp only [PyData.canLay0], fun x => Dat.dl (r := zI) x, fun x y => by simp only [PyData.eqv]; exact Bool.eq_iff_iff.mpr (by simp)⟩
instance : QDat zB := ⟨PyData.bool, 0, fun h => by cases (show _ = V.bl _ from h); exact .bl _, fun _ => by simp only [PyData.canLay0], fun x => by simp [PyData.depth], fun x y => by cases x <;> cases y <;> simp [PyData.eqv]⟩
instance : QDat yS := ⟨PyData.str, 0, fun h => Dat.dp (r := zS) h.1, fun h => by simp only [PyData.canLay0]; exact h.1.2.ok, fun x => Dat.dl (r := zS) x, fun x y => by simp only [PyData.eqv]; exact Bool.eq_iff_iff.mpr (by simp)⟩
theorem q_all {α : Type} [DecidableEq α] {r : Rep α} [d : QDat r] {Kf : PySem.W.Frag} {vs : List V} {xs : List α} (h : PVs r F vs xs) : DpAll Kf F vs (xs.map d.enc) ∧ PyData.canLayAll0 (xs.map d.enc) = true := by
  induction h with
  | nil => exact ⟨.nil, by simp only [List.map_nil, PyData.canLayAll0]⟩
  | cons a _ ih => exact ⟨.cons (d.dp a) ih.1, by simp only [List.map_cons, PyData.canLayAll0, d.cl a, ih.2, Bool.and_self]⟩
theorem q_dep {α : Type} [DecidableEq α] {r : Rep α} [d : QDat r] (xs : List α) : PyData.depthAll (xs.map d.enc) ≤ d.dep := depthAll_le fun y hy => by
  obtain ⟨x, _, rfl⟩ := List.mem_map.mp hy
  exact d.dl x
theorem q_eqs {α : Type} [DecidableEq α] {r : Rep α} [d : QDat r] : ∀ xs ys : List α, PyData.eqvAll (xs.map d.enc) (ys.map d.enc) = decide (xs = ys)
  | [], [] => by simp [PyData.eqvAll]
  | [], _ :: _ => by simp [PyData.eqvAll]
  | _ :: _, [] => by simp [PyData.eqvAll]
  | x :: xs, y :: ys => by simp [PyData.eqvAll, d.eq, q_eqs xs ys]
instance {α : Type} [DecidableEq α] {r : Rep α} [d : QDat r] : QDat (yL r) := ⟨fun xs => .list (xs.map d.enc), d.dep + 1, fun ⟨⟨a, vs, h1, h2, h3⟩, _⟩ => by subst h1; exact .lst (SqL.of h2) (q_all h3).1, fun ⟨⟨a, vs, h1, h2, h3⟩, _⟩ => by simp only [PyData.canLay0]; exact (q_all (Kf := []) h3).2, fun xs => by
  have := q_dep (r := r) xs
  simp only [PyData.depth]
  omega, fun x y => by simp only [PyData.eqv]; exact q_eqs x y⟩
instance {α : Type} [TNar α] [DecidableEq α] {r : Rep α} [d : QDat r] : QDat (yT r) := ⟨fun xs => .tuple (xs.map d.enc), d.dep + 1, fun ⟨⟨a, vs, h1, h2, h3⟩, _⟩ => by subst h1; exact .tup (h2.sq (Same.refl _)) (q_all h3).1, fun ⟨⟨a, vs, h1, h2, h3⟩, _⟩ => by simp only [PyData.canLay0]; exact (q_all (Kf := []) h3).2, fun xs => by
  have := q_dep (r := r) xs
  simp only [PyData.depth]
  omega, fun x y => by simp only [PyData.eqv]; exact q_eqs x y⟩
instance {α β : Type} [DecidableEq α] [DecidableEq β] {r : Rep α} {s : Rep β} [d : QDat r] [e : QDat s] : QDat (z2 r s) := ⟨fun x => .tuple [d.enc x.1, e.enc x.2], max d.dep e.dep + 1, fun ⟨a, u, w, h1, h2, h3, h4⟩ => by subst h1; exact .tup (SqT.of h2) (.cons (d.dp h3) (.cons (e.dp h4) .nil)),
  fun ⟨a, u, w, h1, h2, h3, h4⟩ => by simp only [PyData.canLay0, PyData.canLayAll0, d.cl h3, e.cl h4, Bool.and_self], fun x => by
    have h1 := d.dl x.1
    have h2 := e.dl x.2
    simp only [PyData.depth, PyData.depthAll]
    omega, fun x y => by
    simp only [PyData.eqv, PyData.eqvAll, d.eq, e.eq, Bool.and_true]
    exact Bool.eq_iff_iff.mpr (by simp [Prod.ext_iff])⟩
instance {α β γ : Type} [DecidableEq α] [DecidableEq β] [DecidableEq γ] {r : Rep α} {s : Rep β} {t : Rep γ} [d : QDat r] [e : QDat s] [f : QDat t] : QDat (z3 r s t) := ⟨fun x => .tuple [d.enc x.1, e.enc x.2.1, f.enc x.2.2], max d.dep (max e.dep f.dep) + 1, fun ⟨a, u, w, z, h1, h2, h3, h4, h5⟩ => by subst h1; exact .tup (SqT.of h2) (.cons (d.dp h3) (.cons (e.dp h4) (.cons (f.dp h5) .nil))),
  fun ⟨a, u, w, z, h1, h2, h3, h4, h5⟩ => by simp only [PyData.canLay0, PyData.canLayAll0, d.cl h3, e.cl h4, f.cl h5, Bool.and_self], fun x => by
    have h1 := d.dl x.1
    have h2 := e.dl x.2.1
    have h3 := f.dl x.2.2
    simp only [PyData.depth, PyData.depthAll]
    omega, fun x y => by
    simp only [PyData.eqv, PyData.eqvAll, d.eq, e.eq, f.eq, Bool.and_true]
    exact Bool.eq_iff_iff.mpr (by simp [Prod.ext_iff])⟩
instance {α β γ δ : Type} [DecidableEq α] [DecidableEq β] [DecidableEq γ] [DecidableEq δ] {r : Rep α} {s : Rep β} {t : Rep γ} {u : Rep δ} [d : QDat r] [e : QDat s] [f : QDat t] [g : QDat u] : QDat (z4 r s t u) := ⟨fun x => .tuple [d.enc x.1, e.enc x.2.1, f.enc x.2.2.1, g.enc x.2.2.2], max (max d.dep e.dep) (max f.dep g.dep) + 1, fun ⟨a, v1, v2, v3, v4, h1, h2, h3, h4, h5, h6⟩ => by subst h1; exact .tup (SqT.of h2) (.cons (d.dp h3) (.cons (e.dp h4) (.cons (f.dp h5) (.cons (g.dp h6) .nil)))),
  fun ⟨a, v1, v2, v3, v4, h1, h2, h3, h4, h5, h6⟩ => by simp only [PyData.canLay0, PyData.canLayAll0, d.cl h3, e.cl h4, f.cl h5, g.cl h6, Bool.and_self], fun x => by
    have h1 := d.dl x.1
    have h2 := e.dl x.2.1
    have h3 := f.dl x.2.2.1
    have h4 := g.dl x.2.2.2
    simp only [PyData.depth, PyData.depthAll]
    omega, fun x y => by
    simp only [PyData.eqv, PyData.eqvAll, d.eq, e.eq, f.eq, g.eq, Bool.and_true]
    exact Bool.eq_iff_iff.mpr (by simp [Prod.ext_iff])⟩
instance {α β γ δ ε : Type} [DecidableEq α] [DecidableEq β] [DecidableEq γ] [DecidableEq δ] [DecidableEq ε] {r : Rep α} {s : Rep β} {t : Rep γ} {u : Rep δ} {w : Rep ε} [d : QDat r] [e : QDat s] [f : QDat t] [g : QDat u] [i : QDat w] : QDat (z5 r s t u w) := ⟨fun x => .tuple [d.enc x.1, e.enc x.2.1, f.enc x.2.2.1, g.enc x.2.2.2.1, i.enc x.2.2.2.2], max (max d.dep e.dep) (max f.dep (max g.dep i.dep)) + 1, fun ⟨a, v1, v2, v3, v4, v5, h1, h2, h3, h4, h5, h6, h7⟩ => by subst h1; exact .tup (SqT.of h2) (.cons (d.dp h3) (.cons (e.dp h4) (.cons (f.dp h5) (.cons (g.dp h6) (.cons (i.dp h7) .nil))))),
  fun ⟨a, v1, v2, v3, v4, v5, h1, h2, h3, h4, h5, h6, h7⟩ => by simp only [PyData.canLay0, PyData.canLayAll0, d.cl h3, e.cl h4, f.cl h5, g.cl h6, i.cl h7, Bool.and_self], fun x => by
    have h1 := d.dl x.1
    have h2 := e.dl x.2.1
    have h3 := f.dl x.2.2.1
    have h4 := g.dl x.2.2.2.1
    have h5 := i.dl x.2.2.2.2
    simp only [PyData.depth, PyData.depthAll]
    omega, fun x y => by
    simp only [PyData.eqv, PyData.eqvAll, d.eq, e.eq, f.eq, g.eq, i.eq, Bool.and_true]
    exact Bool.eq_iff_iff.mpr (by simp [Prod.ext_iff])⟩
instance {α : Type} [DecidableEq α] {r : Rep α} [d : QDat r] : QDat (z1 r) := ⟨fun x => .tuple [d.enc x], d.dep + 1, fun ⟨a, v1, h1, h2, h3⟩ => by subst h1; exact .tup (SqT.of h2) (.cons (d.dp h3) .nil),
  fun ⟨a, v1, h1, h2, h3⟩ => by simp only [PyData.canLay0, PyData.canLayAll0, d.cl h3, Bool.and_self], fun x => by
    have h1 := d.dl x
    simp only [PyData.depth, PyData.depthAll]
    omega, fun x y => by simp only [PyData.eqv, PyData.eqvAll, d.eq, Bool.and_true]⟩
instance {α β : Type} [DecidableEq α] [DecidableEq β] {r : Rep α} {s : Rep β} [d : QDat r] [e : QDat s] : QDat (zLp r s) := ⟨fun x => .list [d.enc x.1, e.enc x.2], max d.dep e.dep + 1, fun ⟨a, u, w, h1, h2, h3, h4⟩ => by subst h1; exact .lst (SqL.of h2) (.cons (d.dp h3) (.cons (e.dp h4) .nil)),
  fun ⟨a, u, w, h1, h2, h3, h4⟩ => by simp only [PyData.canLay0, PyData.canLayAll0, d.cl h3, e.cl h4, Bool.and_self], fun x => by
    have h1 := d.dl x.1
    have h2 := e.dl x.2
    simp only [PyData.depth, PyData.depthAll]
    omega, fun x y => by
    simp only [PyData.eqv, PyData.eqvAll, d.eq, e.eq, Bool.and_true]
    exact Bool.eq_iff_iff.mpr (by simp [Prod.ext_iff])⟩
instance {α β γ : Type} [DecidableEq α] [DecidableEq β] [DecidableEq γ] {r : Rep α} {s : Rep β} {t : Rep γ} [d : QDat r] [e : QDat s] [f : QDat t] : QDat (zL3 r s t) := ⟨fun x => .list [d.enc x.1, e.enc x.2.1, f.enc x.2.2], max d.dep (max e.dep f.dep) + 1, fun ⟨a, u, w, z, h1, h2, h3, h4, h5⟩ => by subst h1; exact .lst (SqL.of h2) (.cons (d.dp h3) (.cons (e.dp h4) (.cons (f.dp h5) .nil))),
  fun ⟨a, u, w, z, h1, h2, h3, h4, h5⟩ => by simp only [PyData.canLay0, PyData.canLayAll0, d.cl h3, e.cl h4, f.cl h5, Bool.and_self], fun x => by
    have h1 := d.dl x.1
    have h2 := e.dl x.2.1
    have h3 := f.dl x.2.2
    simp only [PyData.depth, PyData.depthAll]
    omega, fun x y => by
    simp only [PyData.eqv, PyData.eqvAll, d.eq, e.eq, f.eq, Bool.and_true]
    exact Bool.eq_iff_iff.mpr (by simp [Prod.ext_iff])⟩
def yU {α β : Type} (r : Rep α) (s : Rep β) : Rep (α ⊕ β) := ⟨fun F v x => match x with | .inl a => r.p F v a | .inr b => s.p F v b, fun {F F' v x} e h => by
  cases x with
  | inl a => exact r.mono e h
  | inr b => exact s.mono e h⟩
/-- unlike kinds are never equal -/
class QApart {α β : Type} [DecidableEq α] [DecidableEq β] (r : Rep α) (s : Rep β) [d : QDat r] [e : QDat s] : Prop where
  ne : ∀ x y, PyData.eqv (d.enc x) (e.enc y) = false
  ne' : ∀ x y, PyData.eqv (e.enc y) (d.enc x) = false
instance {α β γ : Type} [DecidableEq α] [DecidableEq β] [DecidableEq γ] {r : Rep α} {s : Rep β} {t : Rep γ} [d : QDat r] [e : QDat s] [f : QDat t] : QApart yS (zL3 r s t) := ⟨fun x y => by simp [QDat.enc, PyData.eqv], fun x y => by simp [QDat.enc, PyData.eqv]⟩
instance {α β : Type} [DecidableEq α] [DecidableEq β] {r : Rep α} {s : Rep β} [d : QDat r] [e : QDat s] : QApart yS (zLp r s) := ⟨fun x y => by simp [QDat.enc, PyData.eqv], fun x y => by simp [QDat.enc, PyData.eqv]⟩
instance {α : Type} [DecidableEq α] {r : Rep α} [d : QDat r] : QApart yS (yL r) := ⟨fun x y => by simp [QDat.enc, PyData.eqv], fun x y => by simp [QDat.enc, PyData.eqv]⟩
instance {α : Type} [TNar α] [DecidableEq α] {r : Rep α} [d : QDat r] : QApart yS (yT r) := ⟨fun x y => by simp [QDat.enc, PyData.eqv], fun x y => by simp [QDat.enc, PyData.eqv]⟩
end
end L2
set_option Elab.async false
set_option linter.all false
set_option maxRecDepth 100000
set_option maxHeartbeats 4000000
namespace L2
open PySem PySem.Spec PyProof.Rows PySem.HErr
section
variable {fr fr' : Fr} {Γ Γ' : Gam} {Θ Θ' : List Cel} {F F' H H' : Hp} {K : Vp → List Cel → Prop} {Qv : VK}
def tryD (hd : HE → Prop) (f : (HE → Prop) → Prop) : Prop := f hd
theorem tryD.go {hd : HE → Prop} {f : (HE → Prop) → Prop} (h : tryD hd f) : f hd := h
theorem joinD.go {S : Type} {f : (S → Prop) → Prop} {k : S → Prop} (h : joinD f k) : f k := h
instance {α β : Type} [DecidableEq α] [DecidableEq β] {r : Rep α} {s : Rep β} [d : QDat r] [e : QDat s] [ap : QApart r s] : QDat (yU r s) := ⟨fun x => match x with | .inl a => d.enc a | .inr b => e.enc b, max d.dep e.dep, fun {Kf F v x} h => by
  cases x with
  | inl a => exact d.dp h
  | inr b => exact e.dp h, fun {F v x} h => by
  cases x with
  | inl a => exact d.cl h
  | inr b => exact e.cl h, fun x => by
  cases x with
  | inl a => exact Nat.le_trans (d.dl a) (Nat.le_max_left _ _)
  | inr b => exact Nat.le_trans (e.dl b) (Nat.le_max_right _ _), fun x y => by
  cases x with
  | inl a => cases y with
    | inl b => exact (d.eq a b).trans (by simp)
    | inr b => exact (ap.ne a b).trans (by simp)
  | inr a => cases y with
    | inl b => exact (ap.ne' b a).trans (by simp)
    | inr b => exact (e.eq a b).trans (by simp)⟩
instance {α β γ : Type} [DecidableEq α] [DecidableEq β] [DecidableEq γ] {r : Rep α} {s : Rep β} {t : Rep γ} [d : QDat r] [e : QDat s] [f : QDat t] [a1 : QApart s t] [a2 : QApart r s] [a3 : QApart r t] : QApart r (yU s t) := ⟨fun x y => by
  cases y with
  | inl a => exact a2.ne x a
  | inr a => exact a3.ne x a, fun x y => by
  cases y with
  | inl a => exact a2.ne' x a
  | inr a => exact a3.ne' x a⟩
theorem Kr.le {W : WX} {e : Er} (h : Kr fr Γ' Θ W e) (g : GLe Γ Γ') : Kr fr Γ Θ W e := fun σ F H ok env d us hd hf => h σ F H ok (env.le g) d us hd hf
end
end L2
set_option Elab.async false
set_option linter.all false
set_option maxRecDepth 100000
set_option maxHeartbeats 4000000
namespace L2
open PySem PySem.Spec PyProof.Rows PySem.HErr
end L2
set_option Elab.async false
set_option linter.all false
set_option maxRecDepth 100000
set_option maxHeartbeats 4000000
namespace L2
open PySem PySem.Spec PyProof.Rows PySem.HErr
def cBagC (N : Nat) (b l : Addr) : Cel := ⟨b, true, fun F o => ∃ (ns : List Int) (i c r : Int), 0 ≤ i ∧ i ≤ (N : Int) ∧ (cBg b l ns [i, c, r]).φ F o, fun e ⟨ns, i, c, r, h1, h2, h3⟩ => ⟨ns, i, c, r, h1, h2, (cBg b l ns [i, c, r]).mono e h3⟩, fun ⟨ns, i, c, r, _, _, h⟩ e => (cBg b l ns [i, c, r]).nt h e⟩
def CelLe (c c' : Cel) : Prop := c'.a = c.a ∧ c'.own = c.own ∧ ∀ F o, c.φ F o → c'.φ F o
theorem CelLe.refl (c : Cel) : CelLe c c := ⟨rfl, rfl, fun _ _ h => h⟩
def CLe (Θ Θ' : List Cel) : Prop := Paired CelLe Θ Θ'
theorem CLe.refl : ∀ Θ : List Cel, CLe Θ Θ
  | [] => .nil
  | c :: Θ => .cons (.refl c) (CLe.refl Θ)
theorem CLe.mem {Θ Θ' : List Cel} (h : CLe Θ Θ') {c' : Cel} (hc : c' ∈ Θ') : ∃ c ∈ Θ, CelLe c c' := by
  unfold CLe at h
  induction h with
  | nil => cases hc
  | cons a _ ih =>
    rcases List.mem_cons.mp hc with rfl | hc
    · exact ⟨_, List.mem_cons_self .., a⟩
    · obtain ⟨c, h1, h2⟩ := ih hc
      exact ⟨c, List.mem_cons_of_mem _ h1, h2⟩
theorem CLe.map {Θ Θ' : List Cel} (h : CLe Θ Θ') : Θ'.map Cel.a = Θ.map Cel.a := by
  unfold CLe at h
  induction h with
  | nil => rfl
  | cons a _ ih => rw [List.map_cons, List.map_cons, ih, a.1]
section
variable {fr fr' : Fr} {Γ Γ' : Gam} {Θ Θ' : List Cel} {F F' H H' : Hp} {K : Vp → List Cel → Prop} {Qv : VK}
def RetKN {β : Type} (fr : Fr) (N : Nat) (b l : Addr) (Qv : VK) (r : Rep β) (Q : β → Prop) : Prop := ∀ y, Q y → ∀ Θ M, M ≤ N → cBagC M b l ∈ Θ → Rt fr Θ Qv (iz r y)
theorem RetKN.fine {β : Type} {N : Nat} {b l : Addr} {r : Rep β} {Q : β → Prop} (h : RetKN fr N b l Qv r Q) (le : FrLe fr fr') : RetKN fr' N b l Qv r Q := fun y hy Θ M hM hc => (h y hy Θ M hM hc).fine le
end
end L2
set_option Elab.async false
set_option linter.all false
set_option maxRecDepth 100000
set_option maxHeartbeats 4000000
namespace L2
open PySem PySem.Spec PyProof.Rows PySem.HErr
def keyT (k : List Int) : List Key := k.map Sum.inl
theorem keyT_inj {k l : List Int} (h : keyT k = keyT l) : k = l := by
  unfold keyT at h
  exact (List.map_inj_right (fun a b e => Sum.inl.inj e)).mp h
def KVT {α : Type} (r : Rep α) (F : Hp) (kvs : List (List Key × V)) (rows : List (List Int × α)) : Prop := Paired (fun (kv : List Key × V) (x : List Int × α) => kv.1 = keyT x.1 ∧ r.p F kv.2 x.2 ∧ x.1.length ≤ big) kvs rows
theorem KVT.mono {α : Type} {r : Rep α} {F F' : Hp} {kvs : List (List Key × V)} {rows : List (List Int × α)} (h : KVT r F kvs rows) (e : Same F F') : KVT r F' kvs rows := Paired.imp2 (fun _ _ ⟨h1, h2, h3⟩ => ⟨h1, r.mono e h2, h3⟩) h
def yDT {α : Type} (r : Rep α) : Rep (List (List Int × α)) := ⟨fun F v rows => (∃ a o kvs, v = .ref a ∧ F a = some (.frz o (.dT kvs)) ∧ KVT r F kvs rows) ∧ rows.length ≤ big, fun e ⟨⟨a, o, kvs, h1, h2, h3⟩, h4⟩ => ⟨⟨a, o, kvs, h1, e _ _ h2, h3.mono e⟩, h4⟩⟩
def getT {α : Type} (rows : List (List Int × α)) (n : List Int) : Option α := (rows.find? fun x => decide (x.1 = n)).map (·.2)
def putT {α : Type} (rows : List (List Int × α)) (n : List Int) (x : α) : List (List Int × α) := if n ∈ rows.map (·.1) then rows.map fun y => if y.1 = n then (y.1, x) else y else rows ++ [(n, x)]
section
variable {fr fr' : Fr} {Γ Γ' : Gam} {Θ Θ' : List Cel} {F F' H H' : Hp} {K : Vp → List Cel → Prop} {Qv : VK}
theorem KVT.val {α : Type} {r : Rep α} {kvs : List (List Key × V)} {rows : List (List Int × α)} (h : KVT r F kvs rows) (n : List Int) : (getT rows n = none → valV kvs (keyT n) = none) ∧ ∀ x, getT rows n = some x → ∃ v, valV kvs (keyT n) = some v ∧ r.p F v x := by
  unfold KVT at h
  induction h with
  | nil => exact ⟨fun _ => rfl, (fun x e => nomatch e)⟩
  | @cons kv x ks xs h t ih =>
    obtain ⟨h1, h2, _⟩ := h
    by_cases e : x.1 = n
    · have e1 : kv.1 = keyT n := by rw [h1, e]
      have e2 : getT (x :: xs) n = some x.2 := by unfold getT; rw [List.find?_cons, decide_eq_true e]; rfl
      rw [e2, valV_pos e1]
      exact ⟨(fun q => nomatch q), fun y hy => ⟨_, rfl, by cases hy; exact h2⟩⟩
    · have e1 : ¬ kv.1 = keyT n := fun q => by rw [h1] at q; exact e (keyT_inj q)
      have e2 : getT (x :: xs) n = getT xs n := by unfold getT; rw [List.find?_cons, decide_eq_false e]
      rw [e2, valV_neg e1]
      exact ih
theorem KVT.some {α : Type} {r : Rep α} {kvs : List (List Key × V)} {rows : List (List Int × α)} (h : KVT r F kvs rows) (n : List Int) : (valV kvs (keyT n)).isSome = (getT rows n).isSome := by
  obtain ⟨h1, h2⟩ := h.val n
  cases e : getT rows n with
  | none => rw [h1 e]; rfl
  | some x =>
    obtain ⟨v, h3, _⟩ := h2 x e
    rw [h3]; rfl
theorem KVT.put {α : Type} {r : Rep α} {kvs : List (List Key × V)} {rows : List (List Int × α)} {n : List Int} {x : α} {u : V} (h : KVT r F kvs rows) (hu : r.p F u x) (hl : n.length ≤ big) : KVT r F (putK kvs (keyT n) u) (putT rows n x) := by
  have hk : (kvs.any fun kv => decide (kv.1 = keyT n)) = decide (n ∈ rows.map (·.1)) := by
    unfold KVT at h
    induction h with
    | nil => rfl
    | cons a b ih =>
      rename_i kv y kvs rows
      rw [List.any_cons, ih, a.1, List.map_cons]
      by_cases e : y.1 = n
      · rw [decide_eq_true (by rw [e]), Bool.true_or, decide_eq_true (by rw [e]; exact List.mem_cons_self ..)]
      · rw [decide_eq_false (fun q => e (keyT_inj q)), Bool.false_or]
        by_cases e2 : n ∈ rows.map (·.1)
        · rw [decide_eq_true e2, decide_eq_true (List.mem_cons_of_mem _ e2)]
        · rw [decide_eq_false e2, decide_eq_false fun q => (List.mem_cons.mp q).elim (fun q => e q.symm) e2]
  unfold putK putT
  by_cases e : n ∈ rows.map (·.1)
  · rw [if_pos e, if_pos (by rw [hk]; exact decide_eq_true e)]
    clear hk e
    unfold KVT at h ⊢
    induction h with
    | nil => exact .nil
    | cons a b ih =>
      refine .cons ?_ ih
      rename_i kv y kvs rows
      dsimp only
      by_cases e : y.1 = n
      · rw [if_pos e, if_pos (by rw [a.1, e])]
        exact ⟨a.1, hu, a.2.2⟩
      · rw [if_neg e, if_neg (fun q => e (keyT_inj (a.1.symm.trans q)))]
        exact a
  · rw [if_neg e, if_neg (by rw [hk]; simpa using e)]
    exact PySem.Paired.snoc h ⟨rfl, hu, hl⟩
end
end L2
set_option Elab.async false
set_option linter.all false
set_option maxRecDepth 100000
set_option maxHeartbeats 4000000
namespace L2
open PySem PySem.Spec PyProof.Rows PySem.HErr
end L2
set_option Elab.async false
set_option linter.all false
set_option maxRecDepth 100000
set_option maxHeartbeats 4000000
namespace L2
open PySem PySem.Spec PyProof.Rows PySem.HErr
section
variable {fr fr' : Fr} {Γ Γ' : Gam} {Θ Θ' : List Cel} {F F' H H' : Hp} {K : Vp → List Cel → Prop} {Qv : VK}
theorem Mts.le {r : V → List V → Hp → VK → Prop} {p p' : Vp} {ps : List Vp} (w : Mts fr Θ r p' ps K) (h : p.Le p') : Mts fr Θ r p ps K := fun F H v vs ok a b Q k => w F H v vs ok (h _ _ a) b Q k
end
end L2
set_option Elab.async false
set_option linter.all false
set_option maxRecDepth 100000
set_option maxHeartbeats 4000000
namespace L2
open PySem PySem.Spec PyProof.Rows PySem.HErr
class XBack {α : Type} (r : Rep α) [d : XDat r] : Prop where
  bk : ∀ {F : Hp} {v : V} {x : α}, xp F (d.enc x) v → (d.enc x).depth ≤ 60 → r.p F v x
instance : XBack yX := ⟨fun h hd => ⟨h, hd⟩⟩
instance : XBack zI := ⟨fun h _ => by simp only [XDat.enc, xp] at h; exact h⟩
instance : XBack yS := ⟨fun h _ => by simp only [XDat.enc, xp] at h; exact ⟨⟨h.1, h.2.1⟩, h.2.2⟩⟩
theorem xpAll_back {α : Type} {r : Rep α} [d : XDat r] [b : XBack r] {F : Hp} : ∀ {xs : List α} {vs : List V}, xpAll F (xs.map d.enc) vs → (∀ x ∈ xs, (d.enc x).depth ≤ 60) → PVs r F vs xs
  | [], vs, h, _ => by
    simp only [List.map_nil, xpAll] at h
    subst h
    exact .nil
  | x :: xs, vs, h, hd => by
    simp only [List.map_cons, xpAll] at h
    obtain ⟨v, r', rfl, h1, h2⟩ := h
    exact .cons (b.bk h1 (hd x (List.mem_cons_self ..))) (xpAll_back h2 fun y hy => hd y (List.mem_cons_of_mem _ hy))
instance {α : Type} {r : Rep α} [d : XDat r] [b : XBack r] : XBack (yL r) := ⟨fun {F v xs} h hd => by
  have hx : (iz yX (.list (xs.map d.enc))).p F v := ⟨h, hd⟩
  simp only [XDat.enc, xp] at h
  obtain ⟨a, vs, h1, h2, h3, h4⟩ := h
  refine ⟨⟨a, vs, h1, h2, xpAll_back h4 fun x hx => ?_⟩, by rw [List.length_map] at h3; exact h3⟩
  simp only [XDat.enc, PyData.depth] at hd
  exact depth_mem (n := 60) (by omega) (List.mem_map.mpr ⟨x, hx, rfl⟩)⟩
class XNar2 {α : Type} [TNar α] (r : Rep α) [XDat r] : Prop where
  nx : ∀ xs : List α, TNar.nar (xs.map (XDat.enc (r := r))) = true ∨ TNar.nar (xs.map (XDat.enc (r := r))) = TNar.nar xs
instance : XNar2 yS := ⟨fun xs => .inr (by show (!isSDs (xs.map PyData.str)) = xs.isEmpty; rw [isSDs_strs, Bool.not_not])⟩
instance : XNar2 yX := ⟨fun xs => .inr (by rw [show (XDat.enc (r := yX)) = id from rfl, List.map_id])⟩
/-- data that is no word -/
class XNoS {α : Type} (r : Rep α) [XDat r] : Prop where
  ns : ∀ x, isSD (XDat.enc (r := r) x) = false
instance : XNoS zI := ⟨fun _ => rfl⟩
instance {α : Type} {r : Rep α} [XDat r] : XNoS (yL r) := ⟨fun _ => rfl⟩
instance {α : Type} [TNar α] {r : Rep α} [XDat r] [XNar r] : XNoS (yT r) := ⟨fun _ => rfl⟩
instance {α : Type} {r : Rep α} [XDat r] : XNoS (z1 r) := ⟨fun _ => rfl⟩
instance {α β : Type} {r : Rep α} {s : Rep β} [XDat r] [XDat s] : XNoS (z2 r s) := ⟨fun _ => rfl⟩
instance {α β γ : Type} {r : Rep α} {s : Rep β} {t : Rep γ} [XDat r] [XDat s] [XDat t] : XNoS (z3 r s t) := ⟨fun _ => rfl⟩
instance {α : Type} [TNar α] {r : Rep α} [d : XDat r] [k : XNoS r] : XNar2 r := ⟨fun xs => .inl (by
  show (!isSDs (xs.map d.enc)) = true
  cases xs with
  | nil => rfl
  | cons y ys => exact congrArg (fun b => !b) (isSDs_no (ds := (y :: ys).map d.enc) (List.mem_map.mpr ⟨y, List.mem_cons_self .., rfl⟩) (k.ns y)))⟩
theorem XNar2.tup {α : Type} [TNar α] {r : Rep α} [XDat r] [k : XNar2 r] {F : Hp} {a : Addr} {vs : List V} {xs : List α} (h : TupB (TNar.nar (xs.map (XDat.enc (r := r)))) F a vs) : TupB (TNar.nar xs) F a vs := (k.nx xs).elim (fun e => .inl (h.nar e)) fun e => by rw [← e]; exact h
instance {α : Type} [TNar α] {r : Rep α} [d : XDat r] [XNar r] [XNar2 r] [b : XBack r] : XBack (yT r) := ⟨fun {F v xs} h hd => by
  simp only [XDat.enc, xp] at h
  obtain ⟨a, vs, h1, h2, h3, h4⟩ := h
  refine ⟨⟨a, vs, h1, XNar2.tup h2, xpAll_back h4 fun x hx => ?_⟩, by rw [List.length_map] at h3; exact h3⟩
  simp only [XDat.enc, PyData.depth] at hd
  exact depth_mem (n := 60) (by omega) (List.mem_map.mpr ⟨x, hx, rfl⟩)⟩
theorem le_XB {α : Type} {r : Rep α} [d : XDat r] [b : XBack r] {v : PyData} {x : α} (e : v = d.enc x) : (iz yX v).Le (iz r x) := fun F u h => by
  subst e
  exact b.bk h.1 h.2
theorem TupB.sf {n : Bool} {F : Hp} {a : Addr} {vs : List V} (h : TupB n F a vs) : F a = some (.tup vs) ∨ ∃ o, F a = some (.frz o (.tup vs)) := h.imp id fun ⟨_, o, h, _⟩ => ⟨o, h⟩
def SqF (F : Hp) (a : Addr) (vs : List V) : Prop := F a = some (.lst vs) ∨ F a = some (.tup vs) ∨ ∃ o, F a = some (.frz o (.tup vs))
theorem SqF.mono {F F' : Hp} {a : Addr} {vs : List V} (e : Same F F') (h : SqF F a vs) : SqF F' a vs := h.elim (fun h => .inl (e _ _ h)) fun h => .inr (h.elim (fun h => .inl (e _ _ h)) fun ⟨o, h⟩ => .inr ⟨o, e _ _ h⟩)
theorem SqF.rd {F : Hp} {a : Addr} {vs : List V} (h : SqF F a vs) : Rd F a (.lst vs) ∨ Rd F a (.tup vs) := h.elim (fun h => .inl (.inl h)) fun h => .inr (h.elim .inl .inr)
def ySq {α : Type} (r : Rep α) : Rep (List α) := ⟨fun F v xs => (∃ a vs, v = .ref a ∧ SqF F a vs ∧ PVs r F vs xs) ∧ xs.length ≤ big, fun e ⟨⟨a, vs, h1, h2, h3⟩, h4⟩ => ⟨⟨a, vs, h1, h2.mono e, Paired.imp2 (fun _ _ h => r.mono e h) h3⟩, h4⟩⟩
theorem le_LQ {α : Type} {r : Rep α} {xs : List α} : (iz (yL r) xs).Le (iz (ySq r) xs) := fun _ _ ⟨⟨a, vs, h1, h2, h3⟩, h4⟩ => ⟨⟨a, vs, h1, .inl h2, h3⟩, h4⟩
theorem le_TQ {α : Type} [TNar α] {r : Rep α} {xs : List α} : (iz (yT r) xs).Le (iz (ySq r) xs) := fun _ _ ⟨⟨a, vs, h1, h2, h3⟩, h4⟩ => ⟨⟨a, vs, h1, .inr h2.sf, h3⟩, h4⟩
theorem le_XQ {α : Type} [TNar α] {r : Rep α} [d : XDat r] [XNar r] [XNar2 r] [b : XBack r] {v : PyData} {xs : List α} (e : v = .list (xs.map d.enc) ∨ v = .tuple (xs.map d.enc)) : (iz yX v).Le (iz (ySq r) xs) := fun F u h => by
  rcases e with e | e
  · exact le_LQ F u (le_XB (r := yL r) e F u h)
  · exact le_TQ F u (le_XB (r := yT r) e F u h)
section
variable {X : Cx} {K : PySem.W.Frag} {tg : Expr}
def iAny (K : PySem.W.Frag) (tl : TE) : TI := fun σ H R => tl σ H fun x H1 => ∃ a, x = .ref a ∧ (((∃ xs, SqL K H1 a xs) ∧ R (Itl K a) H1) ∨ (∃ xs, SqT K H1 a xs) ∧ R (Itt K a) H1)
theorem pi_any {l : Expr} {tl : TE} (hl : PE X l tl) : PI X tg l (iAny X.K tl) := by
  refine ⟨fun pins s σ H R I h => ?_⟩
  refine thn (hl.run pins s σ H _ I h) fun v s1 ⟨x, H1, I1, r1, q1⟩ => ?_
  obtain ⟨a, e, q⟩ := q1
  subst e
  cases r1
  rcases q with ⟨⟨xs, hq⟩, q⟩ | ⟨⟨xs, hq⟩, q⟩
  · obtain ⟨its, rv, p, hz⟩ := I1.list hq
    refine wpAny_pyIter_list p.isList ?_
    refine ⟨s1.heap.objs.size, [s1.heap.objs.size], _, _, H1, rfl, I1.kept (t' := s1.toks) fun b o e => Heap.get?_push_of_some _ e, turn_list a _, ⟨_, Heap.get?_push_size _ rfl, rfl, rfl⟩, fun b hb => ?_, q⟩
    have e : b = s1.heap.objs.size := by simpa using hb
    subst e
    exact I1.fpOk (Nat.le_refl _) (I1.hok.fresh (Nat.le_refl _))
  · obtain ⟨its, rv, p, hz⟩ := I1.tuple hq
    refine wpAny_pyIter_tuple (show s1.heap.IsTuple a its.toArray from p) ?_
    refine ⟨s1.heap.objs.size, [s1.heap.objs.size], _, _, H1, rfl, I1.kept (t' := s1.toks) fun b o e => Heap.get?_push_of_some _ e, turn_tuple a _, ⟨_, Heap.get?_push_size _ rfl, rfl, rfl⟩, fun b hb => ?_, q⟩
    have e : b = s1.heap.objs.size := by simpa using hb
    subst e
    exact I1.fpOk (Nat.le_refl _) (I1.hok.fresh (Nat.le_refl _))
theorem kpi_any {l : Expr} {tl : TE} (hl : PE X l tl) (h : X.K = K := by rfl) : PI X tg l (iAny K tl) := h ▸ pi_any hl
end
section
variable {fr fr' : Fr} {Γ Γ' : Gam} {Θ Θ' : List Cel} {F F' H H' : Hp} {K : Vp → List Cel → Prop} {Qv : VK}
theorem SqF.up {a : Addr} {vs : List V} (fh : Same F H) (h : SqF F a vs) : Rd H a (.lst vs) ∨ Rd H a (.tup vs) := (h.mono fh).rd
theorem wi_yQ {Kf : PySem.W.Frag} {tl : TE} {K : List Vp → List Cel → Prop} (w : We fr Γ Θ tl fun p Θ1 => ∃ (α : Type) (r : Rep α) (xs : List α), p = iz (ySq r) xs ∧ (xs.length ≤ big → K (xs.map (iz r)) Θ1)) : Wi fr Γ Θ (iAny Kf tl) K := fun σ F H ok env R q =>
  w σ F H ok env _ fun p Θ1 ⟨α, r, xs, e, k⟩ v F1 H1 s1 ok1 hp => by
    subst e
    obtain ⟨⟨a, vs, rfl, h2, h3⟩, h4⟩ := hp
    have k := k h4
    refine ⟨a, rfl, ?_⟩
    rcases h2 with h2 | h2
    · refine .inl ⟨⟨_, SqL.of (ok1.fh _ _ h2)⟩, q _ Θ1 k _ F1 H1 s1 ok1 fun F2 H2 s2 fh => ⟨fun i p hi => ?_, ?_⟩⟩
      · obtain ⟨x, hx, rfl⟩ := get_izs hi
        obtain ⟨u, hu, hux⟩ := Paired.get' h3 hx
        have sq : SqL Kf H2 a vs := SqL.of (fh _ _ (s2 _ _ h2))
        refine ⟨⟨vs, u, sq, hu⟩, fun y H3 ⟨e, hy⟩ => ?_⟩
        subst e
        have hy := hy vs sq
        rw [hu] at hy
        cases hy
        exact ⟨F2, Same.refl _, Same.refl _, fh, Newer.refl _ _, r.mono s2 hux⟩
      · rw [List.length_map, ← Paired.len h3]
        exact ⟨vs, SqL.of (fh _ _ (s2 _ _ h2)), Nat.le_refl _⟩
    · have up : ∀ {F2 H2 : Hp}, Same F1 F2 → Same F2 H2 → SqT Kf H2 a vs := fun s2 fh => .inl (h2.elim (fun h => .inl (fh _ _ (s2 _ _ h))) fun ⟨o, h⟩ => .inr ⟨o, fh _ _ (s2 _ _ h)⟩)
      refine .inr ⟨⟨_, up (Same.refl _) ok1.fh⟩, q _ Θ1 k _ F1 H1 s1 ok1 fun F2 H2 s2 fh => ⟨fun i p hi => ?_, ?_⟩⟩
      · obtain ⟨x, hx, rfl⟩ := get_izs hi
        obtain ⟨u, hu, hux⟩ := Paired.get' h3 hx
        have sq : SqT Kf H2 a vs := up s2 fh
        refine ⟨⟨vs, u, sq, hu⟩, fun y H3 ⟨e, hy⟩ => ?_⟩
        subst e
        have hy := hy vs sq
        rw [hu] at hy
        cases hy
        exact ⟨F2, Same.refl _, Same.refl _, fh, Newer.refl _ _, r.mono s2 hux⟩
      · rw [List.length_map, ← Paired.len h3]
        exact ⟨vs, up s2 fh, Nat.le_refl _⟩
end
instance {α : Type} {r : Rep α} : NotNon (yDT r) := ⟨fun F v x ⟨⟨a, o, kvs, h, _⟩, _⟩ => by rw [h]; exact fun q => by cases q⟩
instance {α : Type} {r : Rep α} : NotNon (ySq r) := ⟨fun F v x ⟨⟨a, vs, h, _⟩, _⟩ => by rw [h]; exact fun q => by cases q⟩
instance {α β γ δ ε : Type} {r : Rep α} {s : Rep β} {t : Rep γ} {u : Rep δ} {o : Rep ε} [d : XDat r] [e : XDat s] [f : XDat t] [g : XDat u] [l : XDat o] : XDat (z5 r s t u o) := ⟨fun x => .tuple [d.enc x.1, e.enc x.2.1, f.enc x.2.2.1, g.enc x.2.2.2.1, l.enc x.2.2.2.2], max d.dep (max e.dep (max f.dep (max g.dep l.dep))) + 1, fun ⟨a, v1, v2, v3, v4, v5, h1, h2, h3, h4, h5, h6, h7⟩ => by
  refine ⟨?_, ?_⟩
  · simp only [xp]
    exact ⟨a, _, h1, .inl h2, by show 5 ≤ 100000; decide, by simp only [xpAll]; exact ⟨_, _, rfl, (d.xd h3).1, _, _, rfl, (e.xd h4).1, _, _, rfl, (f.xd h5).1, _, _, rfl, (g.xd h6).1, _, _, rfl, (l.xd h7).1, rfl⟩⟩
  · have := (d.xd h3).2
    have := (e.xd h4).2
    have := (f.xd h5).2
    have := (g.xd h6).2
    have := (l.xd h7).2
    simp only [PyData.depth, PyData.depthAll]
    omega⟩
instance {α β γ δ ε : Type} {r : Rep α} {s : Rep β} {t : Rep γ} {u : Rep δ} {o : Rep ε} [XDat r] [XDat s] [XDat t] [XDat u] [XDat o] : PDat (z5 r s t u o) := ⟨fun _ => rfl⟩
instance {α β γ δ : Type} {r : Rep α} {s : Rep β} {t : Rep γ} {u : Rep δ} [d : Dat r] [e : Dat s] [f : Dat t] [g : Dat u] : Dat (z4 r s t u) := ⟨fun x => .tuple [d.enc x.1, e.enc x.2.1, f.enc x.2.2.1, g.enc x.2.2.2], d.dep + e.dep + f.dep + g.dep + 1, fun ⟨a, v1, v2, v3, v4, h1, h2, h3, h4, h5, h6⟩ => by subst h1; exact .tup (SqT.of h2) (.cons (d.dp h3) (.cons (e.dp h4) (.cons (f.dp h5) (.cons (g.dp h6) .nil)))),
  fun ⟨a, v1, v2, v3, v4, h1, h2, h3, h4, h5, h6⟩ => by show (nb _ && (nb _ && (nb _ && (nb _ && true)))) = true; rw [d.ok h3, e.ok h4, f.ok h5, g.ok h6]; rfl, fun x => by
    have h1 := d.dl x.1
    have h2 := e.dl x.2.1
    have h3 := f.dl x.2.2.1
    have h4 := g.dl x.2.2.2
    simp only [PyData.depth, PyData.depthAll]
    omega, fun {x y} h => by
    have h := PyData.tuple.inj h
    rw [List.cons.injEq, List.cons.injEq, List.cons.injEq, List.cons.injEq] at h
    exact Prod.ext (d.inj h.1) (Prod.ext (e.inj h.2.1) (Prod.ext (f.inj h.2.2.1) (g.inj h.2.2.2.1)))⟩
end L2
set_option Elab.async false
set_option linter.all false
set_option maxRecDepth 100000
set_option maxHeartbeats 4000000
namespace L2
open PySem PySem.Spec PyProof.Rows PySem.HErr
section
variable {fr fr' : Fr} {Γ Γ' : Gam} {Θ Θ' Θr : List Cel} {F F' H H' : Hp} {K : Vp → List Cel → Prop} {Qv : VK}
/-- what a def with lent cells returns -/
def RetL {β γ : Type} (fr : Fr) (Qv : VK) (r : Rep β) (cout : γ → List Cel) (Q : β × γ → Prop) : Prop := ∀ y g, Q (y, g) → ∀ Θ'' Θx, Θ''.Perm (cout g ++ Θx) → Rt fr Θ'' Qv (iz r y)
theorem RetL.fine {β γ : Type} {r : Rep β} {cout : γ → List Cel} {Q : β × γ → Prop} (h : RetL fr Qv r cout Q) (l : FrLe fr fr') : RetL fr' Qv r cout Q := fun y g hq Θ'' Θx pm => (h y g hq Θ'' Θx pm).fine l
/-- an error may leave: the cells hold something -/
def RseL {γ : Type} (fr : Fr) (E : XK) (ef : HE → Er) (cout : γ → List Cel) (X : HE → Prop) : Prop := ∀ z, X z → ∀ g Θ'' Θx, Θ''.Perm (cout g ++ Θx) → ∀ Γ, Kr fr Γ Θ'' (fun cls d _ H => E cls d H) (ef z)
theorem RseL.fine {γ : Type} {E : XK} {ef : HE → Er} {cout : γ → List Cel} {X : HE → Prop} (h : RseL fr E ef cout X) (l : FrLe fr fr') : RseL fr' E ef cout X := fun z hz g Θ'' Θx pm Γ σ F H ok env d us hd hf => h z hz g Θ'' Θx pm Γ σ F H (ok.le l) env d us hd hf
/-- a frozen instance of the class at C, its fields as g tells -/
def zIn {α : Type} (C : Addr) (g : α → List (Str × Vp)) : Rep α := ⟨fun F v x => ∃ a dx us, v = .ref a ∧ F a = some (.ins C dx us) ∧ FsOk F (g x) us, fun e ⟨a, dx, us, h1, h2, h3⟩ => ⟨a, dx, us, h1, e _ _ h2, h3.mono e⟩⟩
instance {α : Type} {C : Addr} {g : α → List (Str × Vp)} : NotNon (zIn C g) := ⟨fun F v x ⟨a, dx, us, h, _⟩ => by rw [h]; exact fun q => by cases q⟩
/-- one's own list in a field is frozen -/
theorem FsOk.at {F : Hp} {fl : List (Str × Vp)} {us : List (Str × V)} (h : FsOk F fl us) {k : Nat} {f : Str} {p q : Vp} (hk : fl[k]? = some (f, p)) (hq : ∀ v, p.p F v → q.p F v) : FsOk F (fl.set k (f, q)) us := by
  induction h generalizing k with
  | nil => cases hk
  | cons a b ih =>
    cases k with
    | zero =>
      cases hk
      exact .cons ⟨a.1, hq _ a.2⟩ b
    | succ k => exact .cons a (ih hk)
/-- what __init__ is to end with -/
def InitW {α : Type} (fr : Fr) (x C : Addr) (g : α → List (Str × Vp)) (Qn : L2.St → Hp → Prop) (Q : α → Prop) : Prop := ∀ y, Q y → ∀ (Γ : Gam) (Θ : List Cel) (i : Nat) (dx : Addr), Θ[i]? = some (cI x C dx (g y)) → Kn fr Γ Θ Qn
end
section
variable {P : Program} {w : World} {K : PySem.W.Frag} {mg : Str → Option Value} {base : Heap} {x m qual : Str} {C : Addr} {st : Stmt} {N ps : List Str} {k : Nat} {α β γ : Type} {ef : HE → Er} {args : List Addr → α → List Vp} {cin : List Addr → α → List Cel} {cout : List Addr → α → γ → List Cel} {r : Rep β} {md : α → DM (β × γ)}
theorem SrcI.okW {α β : Type} {args : α → List Vp} {md : α → DM β} {g : β → List (Str × Vp)} (F : SrcI K C qual st ps) (S : FnScope N ps (defScope st)) (len : ∀ x, (args x).length + 1 = ps.length)
    (hbody : ∀ (f : Addr) (cdv : Value) (A : Around) (outer : List Env) (s : Shared) (H : Hp) (E : XK) (a : α) (Q : β → Prop) (X : HE → Prop), Room k (A.deeper (envOfC qual (defScope st) s.heap.objs.size f cdv)) → md a Q X →
      ∃ t, PSs (cxOf (L2.CX P w) P w K mg base N qual (defScope st) f cdv A outer s H E) (defBody st) t ∧ ∀ fr x dx (Qn : L2.St → Hp → Prop) (rt : VK), InitW fr x C g Qn Q → RseW fr E ef X → Kn fr (envOf N (zAt x :: args a)) [cI x C dx []] (t { nx := Qn, rt := rt })) : DefI P w K mg base (L2.CX P w) (k + 1) C ps (spI C (preW ef args (zIn C g) md)) :=
  F.okAX S (fun qs out err ⟨a, Q, X, e, _⟩ => by rw [e]; exact len a) fun f cdv A outer s H E qs out err hr ⟨a, Q, X, e1, h, e2, e3⟩ => by
    subst e1 e2 e3
    obtain ⟨t, ht, hk⟩ := hbody f cdv A outer s H E a Q X hr h
    refine ⟨t, ht, fun fr x dx Qn rt hq hrt hrse => hk fr x dx Qn rt (fun y hy Γ Θ i dx' hi σ F' H' ok env => ?_) fun z hz Γ Θ => kr_E hrse ⟨z, hz, rfl⟩⟩
    obtain ⟨h1, ⟨o, h2, us, rfl, h4⟩, h5⟩ := ok.ce _ (List.mem_of_getElem? hi)
    have ok2 := ok.frz hi rfl h2
    have sF : Same F' (upd F' x (.ins C dx' us)) := same_upd h1
    exact hq _ ⟨y, hy, rfl⟩ σ _ H' ⟨_, ok2⟩ ⟨x, dx', us, rfl, upd_same, h4.mono sF⟩
end
end L2
set_option Elab.async false
set_option linter.all false
set_option maxRecDepth 100000
set_option maxHeartbeats 4000000
namespace L2
open PySem PySem.Spec PyProof.Rows PySem.HErr
open PySem.W (findIn isFn selfFirst subIn)
end L2
set_option Elab.async false
set_option linter.all false
set_option maxRecDepth 100000
set_option maxHeartbeats 4000000
namespace L2
open PySem PySem.Spec PyProof.Rows PySem.HErr
open PySem.W (findIn isFn)
theorem InitW.fine {α : Type} {fr fr' : Fr} {x C : Addr} {g : α → List (Str × Vp)} {Qn : L2.St → Hp → Prop} {Q : α → Prop} (h : InitW fr x C g Qn Q) (l : FrLe fr fr') : InitW fr' x C g Qn Q := fun y hy Γ Θ i dx hi σ F H ok env => h y hy Γ Θ i dx hi σ F H (ok.le l) env
end L2
set_option Elab.async false
set_option linter.all false
set_option maxRecDepth 100000
set_option maxHeartbeats 4000000
namespace L2
open PySem PySem.Spec PyProof.Rows PySem.HErr
theorem ixNn {n j : Nat} (h : j < n) : ixN n (j : Int) = some j := by
  unfold ixN
  rw [if_pos (by omega), if_pos (by omega)]
  rfl
abbrev TRw := Str × List Int × List Int
def IxOk (n : Nat) (ks : List Int) : Prop := ks.Nodup ∧ ∀ k ∈ ks, ∃ j : Nat, k = (j : Int) ∧ j < n
theorem getD_set {l : List Int} {i j : Nat} {v : Int} (h : i < l.length) : (l.set i v).getD j 0 = if i = j then v else l.getD j 0 := by
  rw [List.getD_eq_getElem?_getD, List.getElem?_set, List.getD_eq_getElem?_getD]
  by_cases e : i = j
  · rw [if_pos e, if_pos h, if_pos e]; rfl
  · rw [if_neg e, if_neg e]
/-- the state behind a step -/
def mvF (s t g : List Int) : List Int := (List.range s.length).map fun (j : Nat) => s.getD j 0 - (if (j : Int) ∈ t then 1 else 0) + (if (j : Int) ∈ g then 1 else 0)
theorem mvF_len {s t g : List Int} : (mvF s t g).length = s.length := by unfold mvF; rw [List.length_map, List.length_range]
theorem mvF_get {s t g : List Int} {j : Nat} (h : j < s.length) : (mvF s t g).getD j 0 = s.getD j 0 - (if (j : Int) ∈ t then 1 else 0) + (if (j : Int) ∈ g then 1 else 0) := by
  unfold mvF
  rw [List.getD_eq_getElem?_getD, List.getElem?_map, List.getElem?_range h]
  rfl
def enB (s t : List Int) : Bool := t.all fun k => decide (s.getD k.toNat 0 > 0)
def movF (s t g : List Int) : Option (List Int) := if enB s t = true then some (mvF s t g) else none
def NonN (s : List Int) : Prop := ∀ n ∈ s, 0 ≤ n
theorem NonN.get {s : List Int} (h : NonN s) (j : Nat) : 0 ≤ s.getD j 0 := by
  rw [List.getD_eq_getElem?_getD]
  cases e : s[j]? with
  | none => exact Int.le_refl _
  | some x => exact h x (List.mem_of_getElem? e)
theorem nonN_of {s : List Int} (h : ∀ j < s.length, 0 ≤ s.getD j 0) : NonN s := fun n hn => by
  obtain ⟨j, hj⟩ := List.getElem?_of_mem hn
  have h1 := (List.getElem?_eq_some_iff.mp hj).1
  have := h j h1
  rw [List.getD_eq_getElem?_getD, hj] at this
  exact this
/-- only what is in the lists counts -/
theorem enB_congr {s t t' : List Int} (h : ∀ k, k ∈ t ↔ k ∈ t') : enB s t = enB s t' := by
  unfold enB
  rw [Bool.eq_iff_iff, List.all_eq_true, List.all_eq_true]
  exact ⟨fun q k hk => q k ((h k).mpr hk), fun q k hk => q k ((h k).mp hk)⟩
theorem mvF_congr {s t t' g g' : List Int} (h : ∀ k, k ∈ t ↔ k ∈ t') (h' : ∀ k, k ∈ g ↔ k ∈ g') : mvF s t g = mvF s t' g' := by
  unfold mvF
  congr 1
  funext j
  rw [show (if (j : Int) ∈ t then (1 : Int) else 0) = if (j : Int) ∈ t' then 1 else 0 from by simp only [h], show (if (j : Int) ∈ g then (1 : Int) else 0) = if (j : Int) ∈ g' then 1 else 0 from by simp only [h']]
theorem movF_congr {s t t' g g' : List Int} (h : ∀ k, k ∈ t ↔ k ∈ t') (h' : ∀ k, k ∈ g ↔ k ∈ g') : movF s t g = movF s t' g' := by
  unfold movF
  rw [enB_congr h, mvF_congr h h']
theorem movF_len {s t g z : List Int} (h : movF s t g = some z) : z.length = s.length := by
  unfold movF at h
  split at h
  · cases h; exact mvF_len
  · cases h
theorem movF_non {s t g z : List Int} (hs : NonN s) (ht : IxOk s.length t) (h : movF s t g = some z) : NonN z := by
  unfold movF at h
  split at h
  · rename_i he
    cases h
    refine nonN_of fun j hj => ?_
    rw [mvF_len] at hj
    rw [mvF_get hj]
    have h0 := hs.get j
    by_cases q : (j : Int) ∈ t
    · have := List.all_eq_true.mp he _ q
      have := of_decide_eq_true this
      rw [Int.toNat_natCast] at this
      rw [if_pos q]
      split <;> omega
    · rw [if_neg q]
      split <;> omega
  · cases h
/-- two tables of the same steps -/
def RowR (n : Nat) (a b : TRw) : Prop := a.1 = b.1 ∧ (∀ k, k ∈ a.2.1 ↔ k ∈ b.2.1) ∧ (∀ k, k ∈ a.2.2 ↔ k ∈ b.2.2) ∧ IxOk n a.2.1 ∧ IxOk n a.2.2 ∧ IxOk n b.2.1 ∧ IxOk n b.2.2
abbrev TabRel (n : Nat) (a b : List TRw) : Prop := Paired (RowR n) a b
def TabOk (n : Nat) (a : List TRw) : Prop := (∀ r ∈ a, IxOk n r.2.1 ∧ IxOk n r.2.2) ∧ (a.map (·.1)).Nodup
def rowOf (tab : List TRw) (z : Str) : Option TRw := tab.find? fun r => decide (r.1 = z)
theorem RowR.mov {n : Nat} {a b : TRw} (h : RowR n a b) {s : List Int} : movF s a.2.1 a.2.2 = movF s b.2.1 b.2.2 := movF_congr h.2.1 h.2.2.1
theorem TabRel.row {n : Nat} {a b : List TRw} (h : TabRel n a b) (z : Str) : (rowOf a z = none ∧ rowOf b z = none) ∨ ∃ r r', rowOf a z = some r ∧ rowOf b z = some r' ∧ RowR n r r' := by
  induction h with
  | nil => exact .inl ⟨rfl, rfl⟩
  | @cons r r' as bs hr _ ih =>
    unfold rowOf
    rw [List.find?_cons, List.find?_cons]
    by_cases e : r.1 = z
    · refine .inr ⟨r, r', ?_, ?_, hr⟩
      · rw [decide_eq_true e]
      · rw [decide_eq_true (hr.1.symm.trans e)]
    · rw [decide_eq_false e, decide_eq_false (fun q => e (hr.1.trans q))]
      exact ih
/-- the state behind a run -/
def runF (tab : List TRw) : List Int → List Str → Option (List Int)
  | s, [] => some s
  | s, z :: zs => match rowOf tab z with
    | none => none
    | some r => match movF s r.2.1 r.2.2 with
      | none => none
      | some s' => runF tab s' zs
theorem runF_app (tab : List TRw) : ∀ (zs ys : List Str) (s : List Int), runF tab s (zs ++ ys) = (runF tab s zs).bind fun s' => runF tab s' ys
  | [], ys, s => rfl
  | z :: zs, ys, s => by
    show runF tab s (z :: (zs ++ ys)) = _
    rw [runF, runF]
    cases rowOf tab z with
    | none => rfl
    | some r =>
      dsimp only
      cases movF s r.2.1 r.2.2 with
      | none => rfl
      | some s' => exact runF_app tab zs ys s'
theorem rowOf_mem {tab : List TRw} {z : Str} {r : TRw} (h : rowOf tab z = some r) : r ∈ tab ∧ r.1 = z := ⟨List.mem_of_find?_eq_some h, of_decide_eq_true (List.find?_some (p := fun r : TRw => decide (r.1 = z)) h)⟩
theorem rowOf_of {tab : List TRw} (hn : (tab.map (·.1)).Nodup) {r : TRw} (h : r ∈ tab) : rowOf tab r.1 = some r := by
  unfold rowOf
  induction tab with
  | nil => cases h
  | cons x tab ih =>
    rw [List.map_cons, List.nodup_cons] at hn
    rw [List.find?_cons]
    rcases List.mem_cons.mp h with rfl | h
    · rw [decide_eq_true rfl]
    · rw [decide_eq_false (fun e => hn.1 (List.mem_map.mpr ⟨r, h, e.symm⟩))]
      exact ih hn.2 h
theorem runF_keep {n : Nat} {tab : List TRw} (ht : TabOk n tab) : ∀ (zs : List Str) {s z : List Int}, s.length = n → NonN s → runF tab s zs = some z → z.length = n ∧ NonN z
  | [], s, z, hl, hn, h => by cases h; exact ⟨hl, hn⟩
  | y :: zs, s, z, hl, hn, h => by
    unfold runF at h
    cases e : rowOf tab y with
    | none => rw [e] at h; cases h
    | some r =>
      rw [e] at h
      dsimp only at h
      cases e2 : movF s r.2.1 r.2.2 with
      | none => rw [e2] at h; cases h
      | some s' =>
        rw [e2] at h
        exact runF_keep ht zs ((movF_len e2).trans hl) (movF_non hn (by rw [hl]; exact (ht.1 r (rowOf_mem e).1).1) e2) h
theorem TabRel.names {n : Nat} {a b : List TRw} (h : TabRel n a b) : a.map (·.1) = b.map (·.1) := by
  induction h with
  | nil => rfl
  | cons hr _ ih => rw [List.map_cons, List.map_cons, hr.1, ih]
theorem forD_allB {α S : Type} {body : α → S → (S → Prop) → (S → Prop) → Prop} {after : S → Prop} {s : S} {R : Prop} (p : α → Bool) : ∀ {xs : List α}, (∀ x ∈ xs, ∀ nx : S → Prop, (p x = true → nx s) → (p x = false → R) → body x s nx after) → (xs.all p = true → after s) → (xs.all p = false → R) → forD xs s body after
  | [], _, h, _ => h rfl
  | x :: xs, hb, ht, hf => by
    refine hb x (List.mem_cons_self ..) _ (fun h => forD_allB p (fun y hy => hb y (List.mem_cons_of_mem _ hy)) (fun q => ht ?_) fun q => hf ?_) fun h => hf ?_
    · rw [List.all_cons, h, q]; rfl
    · rw [List.all_cons, h, q]; rfl
    · rw [List.all_cons, h]; rfl
theorem intsF_sp {n : Nat} {pre post : List Int} {x : Int} (e : intsF 0 n = pre ++ x :: post) : x = (pre.length : Int) ∧ pre.length < n := by
  have h : (intsF 0 n)[pre.length]? = some x := by rw [e, List.getElem?_append_right (Nat.le_refl _), Nat.sub_self]; rfl
  obtain ⟨h1, h2⟩ := intsF_get h
  exact ⟨by omega, h1⟩
end L2
set_option Elab.async false
set_option linter.all false
set_option maxRecDepth 100000
set_option maxHeartbeats 4000000
namespace L2
open PySem PySem.Spec PyProof.Rows PySem.HErr
open PySem.W (findIn isFn)
structure SrcIK (K : PySem.W.Frag) (C : Addr) (qual : Str) (st : Stmt) : Prop where
  ex : ∃ f fd, FunA K "__init__" qual st f fd ∧ Mk K C f
structure DefIK (P : Program) (w : World) (K : PySem.W.Frag) (mg : Str → Option Value) (base : Heap) (CX : CXT) (k : Nat) (C : Addr) (ps : List Str) (sp : Sp) : Prop where
  ex : ∃ f fd, LkF K f fd ∧ Mk K C f ∧ FnOk P w K mg base CX k f fd ps sp
section
variable {P : Program} {w : World} {K : PySem.W.Frag} {mg : Str → Option Value} {base : Heap} {CX : CXT} {qual : Str} {C : Addr} {st : Stmt} {N ps : List Str} {k : Nat} {sp : Sp} {pre : Pre} {ef : HE → Er}
theorem DefIK.mono {j : Nat} (D : DefIK P w K mg base CX j C ps sp) (h : j ≤ k) : DefIK P w K mg base CX k C ps sp := by
  obtain ⟨f, fd, hlk, h1, h3⟩ := D.ex
  exact ⟨f, fd, hlk, h1, h3.mono h⟩
theorem SrcIK.okX (F : SrcIK K C qual st) (S : FnScope N ps (defScope st)) (len : ∀ vs H Q E, sp vs H Q E → vs.length = ps.length)
    (hbody : ∀ (f : Addr) (cdv : Value) (A : Around) (outer : List Env) (s : Shared) (H : Hp) (vs : List V) (Q : VK) (E : XK), Room k (A.deeper (envOfC qual (defScope st) s.heap.objs.size f cdv)) → sp vs H Q E →
      ∃ t, PSs (cxOf (L2.CX P w) P w K mg base N qual (defScope st) f cdv A outer s H E) (defBody st) t ∧ t { nx := fun _ H' => Q .non H', rt := Q } (start N vs) H) : DefIK P w K mg base (L2.CX P w) (k + 1) C ps sp := by
  obtain ⟨f, fd, h1, h2⟩ := F.ex
  exact ⟨f, fd, h1.lk, h2, h1.okX S len (hbody f)⟩
theorem SrcIK.okAX (F : SrcIK K C qual st) (S : FnScope N ps (defScope st)) (len : ∀ qs out err, pre qs out err → qs.length + 1 = ps.length)
    (hbody : ∀ (f : Addr) (cdv : Value) (A : Around) (outer : List Env) (s : Shared) (H : Hp) (E : XK) (qs : List Vp) (out : Vp → Prop) (err : Er → Prop), Room k (A.deeper (envOfC qual (defScope st) s.heap.objs.size f cdv)) → pre qs out err →
      ∃ t, PSs (cxOf (L2.CX P w) P w K mg base N qual (defScope st) f cdv A outer s H E) (defBody st) t ∧ ∀ fr x dx (Q : L2.St → Hp → Prop) (rt : VK), (∀ p, out p → ∀ σ F H, (∃ Θ, OkF fr Θ F H) → p.p F (.ref x) → Q σ H) → (∀ p, out p → ∀ F H, (∃ Θ, OkF fr Θ F H) → p.p F (.ref x) → rt .non H) → Rse fr E err →
        Kn fr (envOf N (zAt x :: qs)) [cI x C dx []] (t { nx := Q, rt := rt })) : DefIK P w K mg base (L2.CX P w) (k + 1) C ps (spI C pre) := by
  refine F.okX S (fun vs H Q E h => ?_) (fun f cdv A outer s H vs Q E hr h => ?_)
  · obtain ⟨x, dx, vs', F, qs, out, err, rfl, _, _, _, h2, h3, _⟩ := h
    rw [List.length_cons, ← Paired.len h2]
    exact len _ _ _ h3
  · obtain ⟨x, dx, vs', F, qs, out, err, rfl, hx, fx, fh, h2, h3, h4, h5⟩ := h
    obtain ⟨t, ht, hk⟩ := hbody f cdv A outer s H E qs out err hr h3
    have post : ∀ {Θ : List Cel} {F' H' : Hp}, OkF ⟨F, minus H x, []⟩ Θ F' H' → Same (minus H x) H' ∧ Same F F' ∧ Same F' H' ∧ Newer F (minus H x) F' := fun ok => ⟨fun a o h => ok.h0 a o (by simp) h, ok.f0, ok.fh, ok.nw⟩
    have c1 : ∀ p, out p → ∀ (σ : L2.St) F' H', (∃ Θ, OkF ⟨F, minus H x, []⟩ Θ F' H') → p.p F' (.ref x) → Q .non H' := fun p hp σ F' H' ⟨Θ, ok⟩ hv => by
      obtain ⟨a, b, c, d⟩ := post ok
      exact h4 p hp F' H' a b c d hv
    have c2 : Rse ⟨F, minus H x, []⟩ E err := fun e he Θ F' H' d us ok hd hf => by
      obtain ⟨a, b, c, n⟩ := post ok
      exact h5 e he F' H' d us a b c n hd hf
    exact ⟨t, ht, hk ⟨F, minus H x, []⟩ x dx (fun _ H' => Q .non H') Q c1 (fun p hp F' H' => c1 p hp [] F' H') c2 _ F H (okf_init hx fx fh) (env_start (vs := .ref x :: vs') (.cons rfl h2))⟩
theorem SrcIK.okW {α β : Type} {args : α → List Vp} {md : α → DM β} {g : β → List (Str × Vp)} (F : SrcIK K C qual st) (S : FnScope N ps (defScope st)) (len : ∀ x, (args x).length + 1 = ps.length)
    (hbody : ∀ (f : Addr) (cdv : Value) (A : Around) (outer : List Env) (s : Shared) (H : Hp) (E : XK) (a : α) (Q : β → Prop) (X : HE → Prop), Room k (A.deeper (envOfC qual (defScope st) s.heap.objs.size f cdv)) → md a Q X →
      ∃ t, PSs (cxOf (L2.CX P w) P w K mg base N qual (defScope st) f cdv A outer s H E) (defBody st) t ∧ ∀ fr x dx (Qn : L2.St → Hp → Prop) (rt : VK), InitW fr x C g Qn Q → RseW fr E ef X → Kn fr (envOf N (zAt x :: args a)) [cI x C dx []] (t { nx := Qn, rt := rt })) : DefIK P w K mg base (L2.CX P w) (k + 1) C ps (spI C (preW ef args (zIn C g) md)) :=
  F.okAX S (fun qs out err ⟨a, Q, X, e, _⟩ => by rw [e]; exact len a) fun f cdv A outer s H E qs out err hr ⟨a, Q, X, e1, h, e2, e3⟩ => by
    subst e1 e2 e3
    obtain ⟨t, ht, hk⟩ := hbody f cdv A outer s H E a Q X hr h
    refine ⟨t, ht, fun fr x dx Qn rt hq hrt hrse => hk fr x dx Qn rt (fun y hy Γ Θ i dx' hi σ F' H' ok env => ?_) fun z hz Γ Θ => kr_E hrse ⟨z, hz, rfl⟩⟩
    obtain ⟨h1, ⟨o, h2, us, rfl, h4⟩, h5⟩ := ok.ce _ (List.mem_of_getElem? hi)
    have ok2 := ok.frz hi rfl h2
    have sF : Same F' (upd F' x (.ins C dx' us)) := same_upd h1
    exact hq _ ⟨y, hy, rfl⟩ σ _ H' ⟨_, ok2⟩ ⟨x, dx', us, rfl, upd_same, h4.mono sF⟩
end
end L2
set_option Elab.async false
set_option linter.all false
set_option maxRecDepth 100000
set_option maxHeartbeats 4000000
namespace L2
open PySem PySem.Spec PyProof.Rows PySem.HErr
end L2
set_option Elab.async false
set_option linter.all false
set_option maxRecDepth 100000
set_option maxHeartbeats 4000000
namespace L2
open PySem PySem.Spec PyProof.Rows PySem.HErr
/-- an address as a thing -/
def zR : Rep Addr := ⟨fun _ v a => v = .ref a, fun _ h => h⟩
/-- ghost rows of a dict of own lists: key, the list's place, what is in it -/
abbrev GR (α : Type) := List (List Int × Addr × List α)
def gK {α : Type} (g : GR α) : List (List Int × Addr) := g.map fun x => (x.1, x.2.1)
def gC {α : Type} (r : Rep α) (g : GR α) : List Cel := g.map fun x => cY x.2.1 r x.2.2
def GNd {α : Type} (g : GR α) : Prop := (g.map (·.1)).Nodup
end L2
set_option Elab.async false
set_option linter.all false
set_option maxRecDepth 100000
set_option maxHeartbeats 4000000
namespace L2
open PySem PySem.Spec PyProof.Rows PySem.HErr
section
variable {fr fr' : Fr} {Γ Γ' : Gam} {Θ Θ' : List Cel} {F F' H H' : Hp} {K : Vp → List Cel → Prop} {Qv : VK}
theorem gK_set {α : Type} {g : GR α} {m : Nat} {k : List Int} {b : Addr} {v v' : List α} (h : g[m]? = some (k, b, v)) : gK (g.set m (k, b, v')) = gK g := by
  unfold gK
  rw [List.map_set]
  refine List.ext_getElem? fun j => ?_
  rw [List.getElem?_set, List.length_map]
  split
  · rename_i e
    subst e
    rw [List.getElem?_map, h]
    split
    · rfl
    · rename_i q
      exact absurd (List.getElem?_eq_some_iff.mp h).1 q
  · rfl
theorem GNd.set {α : Type} {g : GR α} {m : Nat} {k : List Int} {b : Addr} {v v' : List α} (n : GNd g) (h : g[m]? = some (k, b, v)) : GNd (g.set m (k, b, v')) := by
  have e : (g.set m (k, b, v')).map (·.1) = (gK (g.set m (k, b, v'))).map (·.1) := by unfold gK; rw [List.map_map]; rfl
  unfold GNd
  rw [e, gK_set h]
  unfold gK
  rw [List.map_map]
  exact n
end
end L2
set_option Elab.async false
set_option linter.all false
set_option maxRecDepth 100000
set_option maxHeartbeats 4000000
namespace L2
open PySem PySem.Spec PyProof.Rows PySem.HErr
def RetNW {β : Type} (fr : Fr) (Qv : VK) (res : β → List Addr → Vp) (cel : β → List Addr → List Cel) (Q : β → Prop) : Prop := ∀ y as, Q y → ∀ Θ'' Θx, Θ''.Perm (cel y as ++ Θx) → Rt fr Θ'' Qv (res y as)
section
variable {fr fr' : Fr} {Γ Γ' : Gam} {Θ Θ' Θr : List Cel} {F F' H H' : Hp} {K : Vp → List Cel → Prop} {Qv : VK}
theorem RetNW.fine {β : Type} {res : β → List Addr → Vp} {cel : β → List Addr → List Cel} {Q : β → Prop} (h : RetNW fr Qv res cel Q) (l : FrLe fr fr') : RetNW fr' Qv res cel Q := fun y as hy Θ'' Θx pm => (h y as hy Θ'' Θx pm).fine l
/-- what may be known while the cells Θb are lent -/
def LendR (Θb : List Cel) (F Fl : Hp) : Prop := Same F Fl ∧ ∀ c ∈ Θb, ∃ o, Fl c.a = some o ∧ c.φ F o
/-- an own list, seen as a value -/
theorem LendR.lst {α : Type} {r : Rep α} {a : Addr} {xs : List α} {Fl : Hp} (h : LendR Θ F Fl) {j : Nat} (hj : Θ[j]? = some (cY a r xs)) {v : V} (hv : (iz zR a).p F v) : (iz (yL r) xs).p Fl v := by
  obtain ⟨o, h2, ⟨⟨vs, rfl, h4⟩, h5⟩⟩ := h.2 _ (List.mem_of_getElem? hj)
  have hv : v = .ref a := hv
  subst hv
  exact ⟨⟨a, vs, rfl, h2, Paired.imp2 (fun _ _ q => r.mono h.1 q) h4⟩, h5⟩
end
end L2
set_option Elab.async false
set_option linter.all false
set_option maxRecDepth 100000
set_option maxHeartbeats 4000000
namespace L2
open PySem PySem.Spec PyProof.Rows PySem.HErr
end L2
set_option Elab.async false
set_option linter.all false
set_option maxRecDepth 100000
set_option maxHeartbeats 4000000
namespace L2
open PySem PySem.Spec PyProof.Rows PySem.HErr
end L2
set_option Elab.async false
set_option linter.all false
set_option maxRecDepth 100000
set_option maxHeartbeats 4000000
namespace L2
open PySem PySem.Spec PyProof.Rows PySem.HErr
end L2
set_option Elab.async false
set_option linter.all false
set_option maxRecDepth 100000
set_option maxHeartbeats 4000000
namespace L2
open PySem PySem.Spec PyProof.Rows PySem.HErr
open PySem.W (findIn isFn)
end L2
set_option Elab.async false
set_option linter.all false
set_option maxRecDepth 100000
set_option maxHeartbeats 4000000
namespace L2
open PySem PySem.Spec PyProof.Rows PySem.HErr
instance {α β : Type} {r : Rep α} {s : Rep β} [d : XDat r] [e : XDat s] : XDat (yU r s) := ⟨fun x => match x with | .inl a => d.enc a | .inr b => e.enc b, max d.dep e.dep, fun {F v x} h => by
  cases x with
  | inl a => exact ⟨(d.xd h).1, Nat.le_trans (d.xd h).2 (Nat.le_max_left _ _)⟩
  | inr b => exact ⟨(e.xd h).1, Nat.le_trans (e.xd h).2 (Nat.le_max_right _ _)⟩⟩
instance {α β : Type} {r : Rep α} {s : Rep β} [d : NotNon r] [e : NotNon s] : NotNon (yU r s) := ⟨fun F v x h => by
  cases x with
  | inl a => exact d.nn F v a h
  | inr b => exact e.nn F v b h⟩
end L2
set_option Elab.async false
set_option linter.all false
set_option maxRecDepth 100000
set_option maxHeartbeats 4000000
namespace L2
open PySem PySem.Spec PyProof.Rows PySem.HErr
class EDat {α : Type} (r : Rep α) where
  enc : α → PyData
  dep : Nat
  dp : ∀ {Kf : PySem.W.Frag} {F : Hp} {v : V} {x : α}, r.p F v x → Dp Kf F v (enc x)
  cl : ∀ {F : Hp} {v : V} {x : α}, r.p F v x → (enc x).canLay0 = true
  dl : ∀ {F : Hp} {v : V} {x : α}, r.p F v x → (enc x).depth ≤ dep
instance (priority := low) edX {α : Type} {r : Rep α} [d : XDat r] : EDat r := ⟨d.enc, d.dep, fun {Kf F v x} h => (xp_dp (Kf := Kf) _ _ (d.xd h).1).1, fun {F v x} h => lay_nb _ (xp_dp (Kf := []) _ _ (d.xd h).1).2, fun h => (d.xd h).2⟩
instance edB : EDat zB := ⟨PyData.bool, 0, fun h => by cases (show _ = V.bl _ from h); exact .bl _, fun _ => by simp only [PyData.canLay0], fun _ => by simp [PyData.depth]⟩
instance edN : EDat yN := ⟨fun _ => PyData.none, 0, fun h => by cases (show _ = V.non from h); exact .non, fun _ => by simp only [PyData.canLay0], fun _ => by simp [PyData.depth]⟩
instance ed2 {α β : Type} {r : Rep α} {s : Rep β} [d : EDat r] [e : EDat s] : EDat (z2 r s) := ⟨fun x => .tuple [d.enc x.1, e.enc x.2], max d.dep e.dep + 1, fun ⟨a, v1, v2, h1, h2, h3, h4⟩ => by subst h1; exact .tup (SqT.of h2) (.cons (d.dp h3) (.cons (e.dp h4) .nil)),
  fun ⟨a, v1, v2, h1, h2, h3, h4⟩ => by simp only [PyData.canLay0, PyData.canLayAll0, d.cl h3, e.cl h4, Bool.and_self],
  fun ⟨a, v1, v2, h1, h2, h3, h4⟩ => by
    have := d.dl h3
    have := e.dl h4
    simp only [PyData.depth, PyData.depthAll]
    omega⟩
instance ed3 {α β γ : Type} {r : Rep α} {s : Rep β} {t : Rep γ} [d : EDat r] [e : EDat s] [f : EDat t] : EDat (z3 r s t) := ⟨fun x => .tuple [d.enc x.1, e.enc x.2.1, f.enc x.2.2], max d.dep (max e.dep f.dep) + 1, fun ⟨a, v1, v2, v3, h1, h2, h3, h4, h5⟩ => by subst h1; exact .tup (SqT.of h2) (.cons (d.dp h3) (.cons (e.dp h4) (.cons (f.dp h5) .nil))),
  fun ⟨a, v1, v2, v3, h1, h2, h3, h4, h5⟩ => by simp only [PyData.canLay0, PyData.canLayAll0, d.cl h3, e.cl h4, f.cl h5, Bool.and_self],
  fun ⟨a, v1, v2, v3, h1, h2, h3, h4, h5⟩ => by
    have := d.dl h3
    have := e.dl h4
    have := f.dl h5
    simp only [PyData.depth, PyData.depthAll]
    omega⟩
instance edO {α : Type} {r : Rep α} [d : EDat r] : EDat (yO r) := ⟨fun x => match x with | none => .none | some y => d.enc y, d.dep, fun {Kf F v x} h => by
    cases x with
    | none => cases (show v = V.non from h); exact .non
    | some y => exact d.dp h,
  fun {F v x} h => by
    cases x with
    | none => simp only [PyData.canLay0]
    | some y => exact d.cl h,
  fun {F v x} h => by
    cases x with
    | none => simp [PyData.depth]
    | some y => exact d.dl h⟩
instance edU {α β : Type} {r : Rep α} {s : Rep β} [d : EDat r] [e : EDat s] : EDat (yU r s) := ⟨fun x => match x with | .inl a => d.enc a | .inr b => e.enc b, max d.dep e.dep, fun {Kf F v x} h => by
    cases x with
    | inl a => exact d.dp h
    | inr b => exact e.dp h,
  fun {F v x} h => by
    cases x with
    | inl a => exact d.cl h
    | inr b => exact e.cl h,
  fun {F v x} h => by
    cases x with
    | inl a => exact Nat.le_trans (d.dl h) (Nat.le_max_left ..)
    | inr b => exact Nat.le_trans (e.dl h) (Nat.le_max_right ..)⟩
end L2
set_option Elab.async false
set_option linter.all false
set_option maxRecDepth 100000
set_option maxHeartbeats 4000000
namespace L2
open PySem PySem.Spec PyProof.Rows PySem.HErr
instance {α β : Type} {r : Rep α} {s : Rep β} [d : XDat r] [e : XDat s] [b : XBack r] [c : XBack s] [m : XNoS s] : XBack (z2 r s) := ⟨fun {F v x} h hd => by
  simp only [XDat.enc, xp] at h
  obtain ⟨a, vs, h1, h2, h3, h4⟩ := h
  simp only [xpAll] at h4
  obtain ⟨v1, r1, rfl, h5, v2, r2, rfl, h6, rfl⟩ := h4
  simp only [XDat.enc, PyData.depth, PyData.depthAll] at hd
  exact ⟨a, v1, v2, h1, h2.nar (by rw [isSDs_no (List.mem_cons_of_mem _ (List.mem_cons_self ..)) (m.ns x.2)]; rfl), b.bk h5 (by omega), c.bk h6 (by omega)⟩⟩
instance {α β : Type} {r : Rep α} {s : Rep β} [d : XDat r] [e : XDat s] [b : XBack r] [c : XBack s] [n : XNoS r] : XBack (z2 r s) := ⟨fun {F v x} h hd => by
  simp only [XDat.enc, xp] at h
  obtain ⟨a, vs, h1, h2, h3, h4⟩ := h
  simp only [xpAll] at h4
  obtain ⟨v1, r1, rfl, h5, v2, r2, rfl, h6, rfl⟩ := h4
  simp only [XDat.enc, PyData.depth, PyData.depthAll] at hd
  exact ⟨a, v1, v2, h1, h2.nar (by rw [isSDs_no (List.mem_cons_self ..) (n.ns x.1)]; rfl), b.bk h5 (by omega), c.bk h6 (by omega)⟩⟩
end L2
set_option Elab.async false
set_option linter.all false
set_option maxRecDepth 100000
set_option maxHeartbeats 4000000
namespace L2
open PySem PySem.Spec PyProof.Rows PySem.HErr
/-- the classmethod m of the class at C stands in its def -/
structure SrcC (K : PySem.W.Frag) (C : Addr) (m qual : Str) (st : Stmt) (ps : List Str) : Prop where
  ex : ∃ p f fd, FunA K m qual st f fd ∧ ClX.CRead K C (.type "type") ∧ ClX.CMet K C (.type "type") m p f ∧ Binds K fd ps []
structure DefC (P : Program) (w : World) (K : PySem.W.Frag) (mg : Str → Option Value) (base : Heap) (CX : CXT) (k : Nat) (C : Addr) (m : Str) (ps : List Str) (sp : Sp) : Prop where
  ex : ∃ p f fd, LkF K f fd ∧ ClX.CRead K C (.type "type") ∧ ClX.CMet K C (.type "type") m p f ∧ Binds K fd ps [] ∧ FnOk P w K mg base CX k f fd ps sp
section
variable {P : Program} {w : World} {K : PySem.W.Frag} {mg : Str → Option Value} {base : Heap} {CX : CXT} {m qual : Str} {C : Addr} {st : Stmt} {N ps : List Str} {k j : Nat} {sp : Sp}
theorem DefC.mono (D : DefC P w K mg base CX j C m ps sp) (h : j ≤ k) : DefC P w K mg base CX k C m ps sp := by
  obtain ⟨p, f, fd, h1, h2, h3, h4, h5⟩ := D.ex
  exact ⟨p, f, fd, h1, h2, h3, h4, h5.mono h⟩
theorem SrcC.okX (F : SrcC K C m qual st ps) (S : FnScope N ps (defScope st)) (len : ∀ vs H Q E, sp vs H Q E → vs.length = ps.length)
    (hbody : ∀ (f : Addr) (cdv : Value) (A : Around) (outer : List Env) (s : Shared) (H : Hp) (vs : List V) (Q : VK) (E : XK), Room k (A.deeper (envOfC qual (defScope st) s.heap.objs.size f cdv)) → sp vs H Q E →
      ∃ t, PSs (cxOf (L2.CX P w) P w K mg base N qual (defScope st) f cdv A outer s H E) (defBody st) t ∧ t { nx := fun _ H' => Q .non H', rt := Q } (start N vs) H) : DefC P w K mg base (L2.CX P w) (k + 1) C m ps sp := by
  obtain ⟨p, f, fd, h1, h2, h3, h4⟩ := F.ex
  exact ⟨p, f, fd, h1.lk, h2, h3, h4, h1.okX S len (hbody f)⟩
theorem SrcC.okAX {pre : Pre} (F : SrcC K C m qual st ps) (S : FnScope N ps (defScope st)) (len : ∀ qs out err, pre qs out err → qs.length = ps.length)
    (hbody : ∀ (f : Addr) (cdv : Value) (A : Around) (outer : List Env) (s : Shared) (H : Hp) (E : XK) (qs : List Vp) (out : Vp → Prop) (err : Er → Prop), Room k (A.deeper (envOfC qual (defScope st) s.heap.objs.size f cdv)) → pre qs out err →
      ∃ t, PSs (cxOf (L2.CX P w) P w K mg base N qual (defScope st) f cdv A outer s H E) (defBody st) t ∧ ∀ fr Q, Ret fr Q out → Rse fr E err → Kn fr (envOf N qs) [] (t { nx := fun _ H' => Q .non H', rt := Q })) : DefC P w K mg base (L2.CX P w) (k + 1) C m ps (spA pre) := by
  refine F.okX S (fun vs H Q E h => ?_) (fun f cdv A outer s H vs Q E hr h => ?_)
  · obtain ⟨F, qs, out, err, _, h2, h3, _⟩ := h
    rw [← Paired.len h2]
    exact len _ _ _ h3
  · obtain ⟨F, qs, out, err, h1, h2, h3, h4, h5⟩ := h
    obtain ⟨t, ht, hk⟩ := hbody f cdv A outer s H E qs out err hr h3
    exact ⟨t, ht, hk _ Q h4.ret h5.rse _ F H (OkF.start h1) (env_start h2)⟩
theorem SrcC.okWX {α β : Type} {ef : HE → Er} {args : α → List Vp} {r : Rep β} {md : α → DM β} (F : SrcC K C m qual st ps) (S : FnScope N ps (defScope st)) (len : ∀ x, (args x).length = ps.length)
    (hbody : ∀ (f : Addr) (cdv : Value) (A : Around) (outer : List Env) (s : Shared) (H : Hp) (E : XK) (a : α) (Q : β → Prop) (X : HE → Prop), Room k (A.deeper (envOfC qual (defScope st) s.heap.objs.size f cdv)) → md a Q X →
      ∃ t, PSs (cxOf (L2.CX P w) P w K mg base N qual (defScope st) f cdv A outer s H E) (defBody st) t ∧ ∀ fr Qv, RetW fr Qv r Q → RseW fr E ef X → Kn fr (envOf N (args a)) [] (t { nx := fun _ H' => Qv .non H', rt := Qv })) : DefC P w K mg base (L2.CX P w) (k + 1) C m ps (spA (preW ef args r md)) :=
  F.okAX S (fun qs out err ⟨a, Q, X, e, _⟩ => by rw [e]; exact len a) fun f cdv A outer s H E qs out err hr ⟨a, Q, X, e1, h, e2, e3⟩ => by
    subst e1 e2 e3
    obtain ⟨t, ht, hk⟩ := hbody f cdv A outer s H E a Q X hr h
    exact ⟨t, ht, fun fr Qv hret hrse => hk fr Qv (fun y hy Θ => hret _ ⟨y, hy, rfl⟩ Θ) fun z hz Γ Θ => kr_E hrse ⟨z, hz, rfl⟩⟩
end
section
variable {fr : Fr} {Γ : Gam} {Θ : List Cel} {F H : Hp} {K : Vp → List Cel → Prop}
/-- [x] * n, one's own -/
theorem oy_repO {α : Type} {r : Rep α} {x : α} {n : Int} (h0 : -1000000 ≤ n) (h1 : n ≤ big) (k : ∀ a, K (zAt a) (cY a r (List.replicate n.toNat x) :: Θ)) : Ops fr Θ rRep (iz (yL r) [x]) (iz zI n) K := fun F H v w ok hv hw Q q => by
  obtain ⟨⟨a, vs, rfl, h2, h3⟩, _⟩ := hv
  have hw : w = .int n := hw
  subst hw
  have hb : (big : Int) = 100000 := rfl
  have hb2 : big = 100000 := rfl
  have h4 := flat_pvs h3 n.toNat
  rw [flat_one] at h4
  exact ⟨a, n, vs, rfl, rfl, ok.fh _ _ h2, by omega, by omega, big_line (by rw [Paired.len h3]; show 1 * n.toNat ≤ big; omega), fun l nl => q (zAt l) _ (k l) _ F _ (Same.refl F) (ok.mkOwn (c := cY l r (List.replicate n.toNat x)) nl rfl ⟨⟨_, rfl, h4⟩, by rw [List.length_replicate]; omega⟩) rfl⟩
end
end L2
set_option Elab.async false
set_option linter.all false
set_option maxRecDepth 100000
set_option maxHeartbeats 4000000
namespace L2
open PySem PySem.Spec PyProof.Rows PySem.HErr
section
variable {fr : Fr} {Γ Γ' : Gam} {Θ : List Cel} {F F' H H' : Hp} {K : Vp → List Cel → Prop} {Q : VK}
theorem we_lc2W {α β γ : Type} {r : Rep α} {r1 : Rep γ} {s : Rep β} {wi wi1 : TI} {g g1 : TG} {tt tt1 : TT} {te : TE} {vs vs1 : List Nat}
    (w : Wi fr Γ Θ wi fun its Θ1 => ∃ (xs : List α) (f : α → List β → (List β → Prop) → Prop) (k : List β → Prop) (Γ2 : α → Gam), its = xs.map (iz r) ∧ Θ1 = Θ ∧ (∀ x, TgR g vs (iz r x) (wipeG Γ vs) (Γ2 x)) ∧ catD xs [] f k ∧
      (∀ x acc c kx, f x acc kx → Wt fr (Γ2 x) (c :: Θ) tt fun b Θ1 =>
        (b = true → Wi fr (Γ2 x) Θ1 wi1 fun its1 Θ2 => ∃ (ys : List γ) (f1 : γ → (Option β → Prop) → Prop) (Γ3 : γ → Gam), its1 = ys.map (iz r1) ∧ Θ2 = c :: Θ ∧ (∀ y, TgR g1 vs1 (iz r1 y) (wipeG (Γ2 x) vs1) (Γ3 y)) ∧ innD ys acc f1 kx ∧
          (∀ y c kx, f1 y kx → Wt fr (Γ3 y) (c :: Θ) tt1 fun b Θ1 => (b = true → We fr (Γ3 y) Θ1 te fun q Θ' => Θ' = c :: Θ ∧ ∃ z, q = iz s z ∧ kx (some z)) ∧ (b = false → Θ1 = c :: Θ ∧ kx none))) ∧
        (b = false → Θ1 = c :: Θ ∧ kx acc)) ∧
      (∀ ys, k ys → ys.length ≤ big → K (iz (yL s) ys) Θ)) : We fr Γ Θ (tLc2 wi g tt wi1 g1 tt1 te vs vs1) K := fun σ F H ok env Q q => by
  refine w σ F H ok env _ fun its Θ1 ⟨xs, f, k, Γ2, e1, e2, tg, hc, hs, hk⟩ J F1 H1 s1 ok1 jok => ?_
  subst e1 e2
  intro D nD
  refine ⟨fun i m H' => m = xs.length - i ∧ i ≤ xs.length ∧ ∃ F2 acc, Same F1 F2 ∧ OkF fr (cL D s acc :: Θ1) F2 H' ∧ acc.length ≤ big ∧ catD (xs.drop i) acc f k, ⟨xs.length, by simp, Nat.zero_le _, F1, [], Same.refl _, ok1.mkOwn (c := cL D s []) nD rfl ⟨[], rfl, .nil⟩, Nat.zero_le _, hc⟩, ?_⟩
  rintro i m H' ⟨rfl, hi, F2, acc, s2, ok2, yl, py⟩
  obtain ⟨j1, j2⟩ := jok F2 H' s2 ok2.fh
  by_cases hlt : i < xs.length
  · have hx : xs[i]? = some xs[i] := List.getElem?_eq_getElem hlt
    generalize xs[i] = x at hx
    obtain ⟨jg, jy⟩ := j1 i (iz r x) (by rw [List.getElem?_map, hx]; rfl)
    refine .inr ⟨jg, fun H3 => ∃ F3 acc, Same F1 F3 ∧ OkF fr (cL D s acc :: Θ1) F3 H3 ∧ acc.length ≤ big ∧ catD (xs.drop (i + 1)) acc f k, fun H3 p => ⟨xs.length - (i + 1), by omega, rfl, hlt, p⟩, fun v H3 y => ?_⟩
    obtain ⟨F3, e1, e2, e3, e4, e5⟩ := jy v H3 y
    have ok3 := ok2.grow e2 e1 e3 e4
    have s3 := s2.trans e1
    have hd : xs.drop i = x :: xs.drop (i + 1) := by
      obtain ⟨hl, e⟩ := List.getElem?_eq_some_iff.mp hx
      rw [List.drop_eq_getElem_cons hl, e]
    rw [hd] at py
    refine tg x (L2.wipe σ vs) F3 H3 v ok3.fh ((env.mono (s1.trans s3)).wipe vs) e5 _ fun σ2 env2 hw => ⟨by rw [hw, wipe_idem], ?_⟩
    refine hs x _ _ _ py σ2 F3 H3 ok3 env2 _ fun b Θ2 ⟨k1, k2⟩ F4 H4 s4 ok4 => ?_
    cases b with
    | true =>
      rw [if_pos rfl]
      refine k1 rfl σ2 F4 H4 ok4 (env2.mono s4) _ fun its1 Θ3 ⟨ys, f1, Γ3, e8, e9, tg1, hin, hs1⟩ J1 F5 H5 s5 ok5 jok1 => ?_
      subst e8 e9
      refine ⟨fun j m H6 => m = ys.length - j ∧ j ≤ ys.length ∧ ∃ F6 acc, Same F5 F6 ∧ OkF fr (cL D s acc :: Θ1) F6 H6 ∧ acc.length ≤ big ∧ innD (ys.drop j) acc f1 (fun acc' => catD (xs.drop (i + 1)) acc' f k), ⟨ys.length, by simp, Nat.zero_le _, F5, acc, Same.refl _, ok5, yl, hin⟩, ?_⟩
      rintro j m H6 ⟨rfl, hj, F6, ac2, s6, ok6, yl6, py6⟩
      obtain ⟨q1, q2⟩ := jok1 F6 H6 s6 ok6.fh
      by_cases hjl : j < ys.length
      · have hy : ys[j]? = some ys[j] := List.getElem?_eq_getElem hjl
        generalize ys[j] = z at hy
        obtain ⟨kg, ky⟩ := q1 j (iz r1 z) (by rw [List.getElem?_map, hy]; rfl)
        refine .inr ⟨kg, fun H7 => ∃ F7 acc, Same F5 F7 ∧ OkF fr (cL D s acc :: Θ1) F7 H7 ∧ acc.length ≤ big ∧ innD (ys.drop (j + 1)) acc f1 (fun acc' => catD (xs.drop (i + 1)) acc' f k), fun H7 p => ⟨ys.length - (j + 1), by omega, rfl, hjl, p⟩, fun v2 H7 y2 => ?_⟩
        obtain ⟨F7, g1', g2', g3', g4', g5'⟩ := ky v2 H7 y2
        have ok7 := ok6.grow g2' g1' g3' g4'
        have s7 := s6.trans g1'
        have hd2 : ys.drop j = z :: ys.drop (j + 1) := by
          obtain ⟨hl, e⟩ := List.getElem?_eq_some_iff.mp hy
          rw [List.drop_eq_getElem_cons hl, e]
        rw [hd2] at py6
        refine tg1 z (L2.wipe σ2 vs1) F7 H7 v2 ok7.fh ((((env2.mono s4).mono s5).mono s7).wipe vs1) g5' _ fun σ3 env3 hw3 => ⟨by rw [hw3, wipe_idem], ?_⟩
        refine hs1 z _ _ py6 σ3 F7 H7 ok7 env3 _ fun b2 Θ4 ⟨f1', f2'⟩ F8 H8 s8 ok8 => ?_
        cases b2 with
        | true =>
          rw [if_pos rfl]
          refine f1' rfl σ3 F8 H8 ok8 (env3.mono s8) _ fun p Θ5 ⟨f3, y, f4, hy'⟩ u F9 H9 s9 ok9 hp => ?_
          subst f3 f4
          obtain ⟨_, ⟨o, h2, avs, rfl, h4⟩, _⟩ := ok9.ce _ (List.mem_cons_self ..)
          have ok10 := ok9.mut (i := 0) (c := cL D s ac2) (c' := cL D s (ac2 ++ [y])) (o := .lst (avs ++ [u])) rfl rfl rfl ⟨_, rfl, PySem.Paired.snoc h4 hp⟩
          refine ⟨avs, h2, ?_, F9, ac2 ++ [y], (s7.trans s8).trans s9, ok10, hy'.1, hy'.2⟩
          rw [Paired.len h4]
          exact big_lt yl6
        | false =>
          rw [if_neg Bool.false_ne_true]
          obtain ⟨e8, hn⟩ := f2' rfl
          subst e8
          have hn2 : innD (ys.drop (j + 1)) (ac2 ++ []) f1 (fun acc' => catD (xs.drop (i + 1)) acc' f k) := hn.2
          rw [List.append_nil] at hn2
          exact ⟨F8, ac2, s7.trans s8, ok8, yl6, hn2⟩
      · have ej : j = ys.length := by omega
        subst ej
        rw [List.drop_length] at py6
        exact .inl ⟨by rw [List.length_map] at q2; exact q2, F6, ac2, ((s3.trans s4).trans s5).trans s6, ok6, yl6, py6⟩
    | false =>
      rw [if_neg Bool.false_ne_true]
      obtain ⟨e8, hn⟩ := k2 rfl
      subst e8
      exact ⟨F4, acc, s3.trans s4, ok4, yl, hn⟩
  · have e : i = xs.length := by omega
    subst e
    rw [List.drop_length] at py
    obtain ⟨_, ⟨o, h2, avs, rfl, h4⟩, _⟩ := ok2.ce _ (List.mem_cons_self ..)
    have ok3 := ok2.frz (i := 0) (c := cL D s acc) rfl rfl h2
    have sD : Same F2 (upd F2 D (.lst avs)) := same_upd (ok2.ce _ (List.mem_cons_self ..)).1
    refine .inl ⟨by rw [List.length_map] at j2; exact j2, q _ _ (hk acc py yl) _ _ H' ((s1.trans s2).trans sD) ok3 ⟨⟨D, avs, rfl, upd_same, Paired.imp2 (fun _ _ h => s.mono sD h) h4⟩, yl⟩⟩
end
end L2
set_option Elab.async false
set_option linter.all false
set_option maxRecDepth 100000
set_option maxHeartbeats 4000000
namespace L2
open PySem PySem.Spec PyProof.Rows PySem.HErr
end L2
set_option Elab.async false
set_option linter.all false
set_option maxRecDepth 100000
set_option maxHeartbeats 4000000
namespace L2
open PySem PySem.Spec PyProof.Rows PySem.HErr
def Reach (tab : List TRw) (s z : List Int) : Prop := ∃ zs, runF tab s zs = some z
theorem Reach.refl {tab : List TRw} {s : List Int} : Reach tab s s := ⟨[], rfl⟩
theorem runF_one {tab : List TRw} (hn : (tab.map (·.1)).Nodup) {r : TRw} (hr : r ∈ tab) {s : List Int} : runF tab s [r.1] = movF s r.2.1 r.2.2 := by
  unfold runF
  rw [rowOf_of hn hr]
  dsimp only
  cases movF s r.2.1 r.2.2 <;> rfl
theorem Reach.trans {tab : List TRw} {a b c : List Int} (h : Reach tab a b) (g : Reach tab b c) : Reach tab a c := by
  obtain ⟨zs, h⟩ := h
  obtain ⟨ys, g⟩ := g
  exact ⟨zs ++ ys, by rw [runF_app, h]; exact g⟩
theorem Reach.mov {tab : List TRw} (hn : (tab.map (·.1)).Nodup) {r : TRw} (hr : r ∈ tab) {s z : List Int} (h : movF s r.2.1 r.2.2 = some z) : Reach tab s z := ⟨[r.1], by rw [runF_one hn hr]; exact h⟩
theorem Reach.step {tab : List TRw} (hn : (tab.map (·.1)).Nodup) {r : TRw} (hr : r ∈ tab) {a s z : List Int} (g : Reach tab a s) (h : movF s r.2.1 r.2.2 = some z) : Reach tab a z := g.trans (.mov hn hr h)
theorem Reach.keep {n : Nat} {tab : List TRw} (tk : TabOk n tab) {s z : List Int} (hs : s.length = n) (hn : NonN s) (h : Reach tab s z) : z.length = n ∧ NonN z := by
  obtain ⟨zs, h⟩ := h
  exact runF_keep tk zs hs hn h
end L2
set_option Elab.async false
set_option linter.all false
set_option maxRecDepth 100000
set_option maxHeartbeats 4000000
namespace L2
open PySem PySem.Spec PyProof.Rows PySem.HErr
section
variable {fr : Fr} {Γ : Gam} {Θ : List Cel} {K : Vp → List Cel → Prop}
theorem kn_nrm {Γ' : Gam} {M : L2.St → Hp → Prop} (e : Γ = Γ') (k : Kn fr Γ' Θ M) : Kn fr Γ Θ M := e ▸ k
end
end L2
set_option Elab.async false
set_option linter.all false
set_option maxRecDepth 100000
set_option maxHeartbeats 4000000
namespace Held
open PySem PySem.Spec PyProof.Rows L2 PySem.HErr
local macro_rules | `(tactic| ac_rfl) => `(tactic| (repeat (first | with_reducible refine kn_seq ?_ | with_reducible refine kn_asg ?_ | with_reducible refine kn_ret ?_ | with_reducible refine kn_next ?_ | with_reducible refine we_op ?_ | with_reducible refine we_un ?_ | with_reducible refine wa_nil ?_ | with_reducible refine wa_cons ?_ | with_reducible refine we_cb ?_ | with_reducible refine we_callE ?_ | with_reducible refine we_callS ?_ | with_reducible refine we_cI ?_ | with_reducible refine we_cB ?_ | with_reducible refine we_cN ?_ | (with_reducible refine is_cS ?_; refine we_cS (asc_of (by decide)) ?_) | (with_reducible refine is_var ?_; refine we_var rfl ?_) | with_reducible refine wt_test ?_ | with_reducible refine wt_b ?_ | with_reducible refine wt_not ?_ | with_reducible refine we_not ?_ | with_reducible refine we_sl ?_ | with_reducible refine wo_none ?_ | with_reducible refine wo_some ?_ | with_reducible refine wt_yes ?_ | with_reducible refine ops_I0 ?_ | with_reducible refine ops_B0 ?_ | with_reducible refine uns_I ?_ | with_reducible refine ops_eqI ?_ | with_reducible refine ops_neI ?_ | with_reducible refine ops_eqS ?_ | with_reducible refine ops_neS ?_ | with_reducible refine ops_eqB ?_ | with_reducible refine ops_neB ?_ | with_reducible refine ops_inS seq_L ?_ | with_reducible refine ops_inS seq_T ?_ | with_reducible refine ops_ninS seq_L ?_ | with_reducible refine ops_ninS seq_T ?_ | with_reducible refine ops_inI seq_L ?_ | with_reducible refine ops_inI seq_T ?_ | with_reducible refine ops_ix20 ?_ | with_reducible refine ops_ix21 ?_ | with_reducible refine ops_ix30 ?_ | with_reducible refine ops_ix31 ?_ | with_reducible refine ops_ix32 ?_ | with_reducible refine cb_len seq_L ?_ | with_reducible refine cb_len seq_T ?_ | with_reducible refine cb_list seq_L ?_ | with_reducible refine cb_list seq_T ?_ | with_reducible refine cb_tupleL ?_ | with_reducible refine cb_tupleT ?_ | with_reducible refine cb_any ?_ | with_reducible refine cb_all ?_ | with_reducible refine cb_sum ?_ | with_reducible refine cb_int ?_ | with_reducible refine cb_abs ?_ | with_reducible refine we_fld ?_ | with_reducible refine we_dget ?_ | with_reducible refine we_din ?_ | with_reducible refine we_dnin ?_ | with_reducible refine we_met ?_ | with_reducible refine wi_list ?_ | with_reducible refine wi_tup ?_ | with_reducible refine wi_range ?_ | with_reducible refine wi_range2 ?_ | with_reducible refine kn_if ?_ | with_reducible refine kn_raise ?_ | with_reducible refine ⟨_, fldP_taken (by assumption), ?_⟩ | with_reducible refine ⟨_, fldP_given (by assumption), ?_⟩ | with_reducible refine ⟨_, fldP_places (by assumption), ?_⟩ | with_reducible refine ⟨_, fldP_begin (by assumption), ?_⟩ | with_reducible refine ⟨_, fldP_steps (by assumption), ?_⟩ | with_reducible refine ⟨_, _, _, _, dic_D, rfl, ?_⟩ | refine ⟨ins_plan rfl, ?_⟩ | with_reducible refine we_mk ?_ | with_reducible refine we_cT ?_ | with_reducible refine we_cR ?_ | with_reducible refine ops_isO ?_ | with_reducible refine ops_notO ?_ | with_reducible refine ops_isX ?_ | with_reducible refine ops_notX ?_ | with_reducible refine ops_isN ?_ | with_reducible refine ops_notN ?_ | with_reducible refine ops_eqD (by decide) ?_ | with_reducible refine ops_neD (by decide) ?_ | with_reducible apply wt_and | with_reducible apply wt_or | with_reducible refine im_t (fun _ => ?_) | with_reducible refine im_f (fun _ => ?_) | with_reducible refine im_tv (fun _ => ?_) | with_reducible refine im_fv (fun _ => ?_) | with_reducible refine cb_isi ty_L kit_ll ?_ | with_reducible refine cb_isi ty_T kit_tt ?_ | with_reducible refine cb_isi ty_2 kit_tt ?_ | with_reducible refine cb_isi ty_I kit_ii ?_ | with_reducible refine cb_isi ty_I kit_ib ?_ | with_reducible refine cb_isi ty_B kit_bb ?_ | with_reducible refine cb_isi ty_S kit_ss ?_ | exact ⟨rfl, rfl⟩ | with_reducible refine ⟨_, rfl, ?_⟩ | refine ⟨_, _, _, rfl, ?_⟩ | refine ⟨_, _, _, _, rfl, ?_⟩)))
local macro_rules | `(tactic| bv_omega) => `(tactic| (first | with_reducible refine kn_seq ?_ | with_reducible refine kn_asg ?_ | with_reducible refine kn_ret ?_ | with_reducible refine kn_next ?_ | with_reducible refine we_op ?_ | with_reducible refine we_un ?_ | with_reducible refine wa_nil ?_ | with_reducible refine wa_cons ?_ | with_reducible refine we_cb ?_ | with_reducible refine we_callE ?_ | with_reducible refine we_callS ?_ | with_reducible refine we_cI ?_ | with_reducible refine we_cB ?_ | with_reducible refine we_cN ?_ | (with_reducible refine is_cS ?_; refine we_cS (asc_of (by decide)) ?_) | (with_reducible refine is_var ?_; refine we_var rfl ?_) | with_reducible refine wt_test ?_ | with_reducible refine wt_b ?_ | with_reducible refine wt_not ?_ | with_reducible refine we_not ?_ | with_reducible refine we_sl ?_ | with_reducible refine wo_none ?_ | with_reducible refine wo_some ?_ | with_reducible refine wt_yes ?_ | with_reducible refine ops_I0 ?_ | with_reducible refine ops_B0 ?_ | with_reducible refine uns_I ?_ | with_reducible refine ops_eqI ?_ | with_reducible refine ops_neI ?_ | with_reducible refine ops_eqS ?_ | with_reducible refine ops_neS ?_ | with_reducible refine ops_eqB ?_ | with_reducible refine ops_neB ?_ | with_reducible refine ops_inS seq_L ?_ | with_reducible refine ops_inS seq_T ?_ | with_reducible refine ops_ninS seq_L ?_ | with_reducible refine ops_ninS seq_T ?_ | with_reducible refine ops_inI seq_L ?_ | with_reducible refine ops_inI seq_T ?_ | with_reducible refine ops_ix20 ?_ | with_reducible refine ops_ix21 ?_ | with_reducible refine ops_ix30 ?_ | with_reducible refine ops_ix31 ?_ | with_reducible refine ops_ix32 ?_ | with_reducible refine cb_len seq_L ?_ | with_reducible refine cb_len seq_T ?_ | with_reducible refine cb_list seq_L ?_ | with_reducible refine cb_list seq_T ?_ | with_reducible refine cb_tupleL ?_ | with_reducible refine cb_tupleT ?_ | with_reducible refine cb_any ?_ | with_reducible refine cb_all ?_ | with_reducible refine cb_sum ?_ | with_reducible refine cb_int ?_ | with_reducible refine cb_abs ?_ | with_reducible refine we_fld ?_ | with_reducible refine we_dget ?_ | with_reducible refine we_din ?_ | with_reducible refine we_dnin ?_ | with_reducible refine we_met ?_ | with_reducible refine wi_list ?_ | with_reducible refine wi_tup ?_ | with_reducible refine wi_range ?_ | with_reducible refine wi_range2 ?_ | with_reducible refine kn_if ?_ | with_reducible refine kn_raise ?_ | with_reducible refine ⟨_, fldP_taken (by assumption), ?_⟩ | with_reducible refine ⟨_, fldP_given (by assumption), ?_⟩ | with_reducible refine ⟨_, fldP_places (by assumption), ?_⟩ | with_reducible refine ⟨_, fldP_begin (by assumption), ?_⟩ | with_reducible refine ⟨_, fldP_steps (by assumption), ?_⟩ | with_reducible refine ⟨_, _, _, _, dic_D, rfl, ?_⟩ | refine ⟨ins_plan rfl, ?_⟩ | with_reducible refine we_mk ?_ | with_reducible refine we_cT ?_ | with_reducible refine we_cR ?_ | with_reducible refine ops_isO ?_ | with_reducible refine ops_notO ?_ | with_reducible refine ops_isX ?_ | with_reducible refine ops_notX ?_ | with_reducible refine ops_isN ?_ | with_reducible refine ops_notN ?_ | with_reducible refine ops_eqD (by decide) ?_ | with_reducible refine ops_neD (by decide) ?_ | with_reducible apply wt_and | with_reducible apply wt_or | with_reducible refine im_t (fun _ => ?_) | with_reducible refine im_f (fun _ => ?_) | with_reducible refine im_tv (fun _ => ?_) | with_reducible refine im_fv (fun _ => ?_) | with_reducible refine cb_isi ty_L kit_ll ?_ | with_reducible refine cb_isi ty_T kit_tt ?_ | with_reducible refine cb_isi ty_2 kit_tt ?_ | with_reducible refine cb_isi ty_I kit_ii ?_ | with_reducible refine cb_isi ty_I kit_ib ?_ | with_reducible refine cb_isi ty_B kit_bb ?_ | with_reducible refine cb_isi ty_S kit_ss ?_ | exact ⟨rfl, rfl⟩ | with_reducible refine ⟨_, rfl, ?_⟩ | refine ⟨_, _, _, rfl, ?_⟩ | refine ⟨_, _, _, _, rfl, ?_⟩))
local macro_rules | `(tactic| nofun) => `(tactic| (repeat (first | with_reducible refine kn_seq ?_ | with_reducible refine kn_asg ?_ | with_reducible refine kn_ret ?_ | with_reducible refine kn_next ?_ | with_reducible refine we_op ?_ | with_reducible refine we_un ?_ | with_reducible refine wa_nil ?_ | with_reducible refine wa_cons ?_ | with_reducible refine we_cb ?_ | with_reducible refine we_callE ?_ | with_reducible refine we_callS ?_ | with_reducible refine we_cI ?_ | with_reducible refine we_cB ?_ | with_reducible refine we_cN ?_ | (with_reducible refine is_cS ?_; refine we_cS (asc_of (by decide)) ?_) | (with_reducible refine is_var ?_; first | refine we_varB rfl ?_ | refine we_varP (by assumption) rfl ?_ | refine we_var rfl ?_) | with_reducible refine wt_test ?_ | with_reducible refine wt_b ?_ | with_reducible refine wt_not ?_ | with_reducible refine we_not ?_ | with_reducible refine we_sl ?_ | with_reducible refine wo_none ?_ | with_reducible refine wo_some ?_ | with_reducible refine wt_yes ?_ | with_reducible refine ops_I0 ?_ | with_reducible refine ops_B0 ?_ | with_reducible refine uns_I ?_ | with_reducible refine ops_eqI ?_ | with_reducible refine ops_neI ?_ | with_reducible refine ops_eqS ?_ | with_reducible refine ops_neS ?_ | with_reducible refine ops_eqB ?_ | with_reducible refine ops_neB ?_ | with_reducible refine ops_inS seq_L ?_ | with_reducible refine ops_inS seq_T ?_ | with_reducible refine ops_ninS seq_L ?_ | with_reducible refine ops_ninS seq_T ?_ | with_reducible refine ops_inI seq_L ?_ | with_reducible refine ops_inI seq_T ?_ | with_reducible refine ops_ix20 ?_ | with_reducible refine ops_ix21 ?_ | with_reducible refine ops_ix30 ?_ | with_reducible refine ops_ix31 ?_ | with_reducible refine ops_ix32 ?_ | with_reducible refine cb_len seq_L ?_ | with_reducible refine cb_len seq_T ?_ | with_reducible refine cb_list seq_L ?_ | with_reducible refine cb_list seq_T ?_ | with_reducible refine cb_tupleL ?_ | with_reducible refine cb_tupleT ?_ | with_reducible refine cb_any ?_ | with_reducible refine cb_all ?_ | with_reducible refine cb_sum ?_ | with_reducible refine cb_int ?_ | with_reducible refine cb_abs ?_ | with_reducible refine we_fld ?_ | with_reducible refine we_dget ?_ | with_reducible refine we_din ?_ | with_reducible refine we_dnin ?_ | with_reducible refine we_met ?_ | with_reducible refine wi_list ?_ | with_reducible refine wi_tup ?_ | with_reducible refine wi_range ?_ | with_reducible refine wi_range2 ?_ | with_reducible refine kn_if ?_ | with_reducible refine kn_raise ?_ | with_reducible refine ⟨_, fldP_taken (by assumption), ?_⟩ | with_reducible refine ⟨_, fldP_given (by assumption), ?_⟩ | with_reducible refine ⟨_, fldP_places (by assumption), ?_⟩ | with_reducible refine ⟨_, fldP_begin (by assumption), ?_⟩ | with_reducible refine ⟨_, fldP_steps (by assumption), ?_⟩ | with_reducible refine ⟨_, _, _, _, dic_D, rfl, ?_⟩ | refine ⟨ins_plan rfl, ?_⟩ | with_reducible refine we_mk ?_ | with_reducible refine we_cT ?_ | with_reducible refine we_cR ?_ | with_reducible refine ops_isO ?_ | with_reducible refine ops_notO ?_ | with_reducible refine ops_isX ?_ | with_reducible refine ops_notX ?_ | with_reducible refine ops_isN ?_ | with_reducible refine ops_notN ?_ | with_reducible refine ops_eqD (by decide) ?_ | with_reducible refine ops_neD (by decide) ?_ | with_reducible apply wt_and | with_reducible apply wt_or | with_reducible refine im_t (fun _ => ?_) | with_reducible refine im_f (fun _ => ?_) | with_reducible refine im_tv (fun _ => ?_) | with_reducible refine im_fv (fun _ => ?_) | with_reducible refine cb_isi ty_L kit_ll ?_ | with_reducible refine cb_isi ty_T kit_tt ?_ | with_reducible refine cb_isi ty_2 kit_tt ?_ | with_reducible refine cb_isi ty_I kit_ii ?_ | with_reducible refine cb_isi ty_I kit_ib ?_ | with_reducible refine cb_isi ty_B kit_bb ?_ | with_reducible refine cb_isi ty_S kit_ss ?_ | exact ⟨rfl, rfl⟩ | with_reducible refine ⟨_, rfl, ?_⟩ | refine ⟨_, _, _, rfl, ?_⟩ | refine ⟨_, _, _, _, rfl, ?_⟩)))
local macro_rules | `(tactic| and_intros) => `(tactic| (repeat (first | exact .nil | refine .cons (.inr rfl) ?_ | refine .cons (.inl rfl) ?_)))
local macro_rules | `(tactic| subst_vars) => `(tactic| (try dsimp only [List.set, List.eraseIdx, L2.envOf, List.map, Option.map]))
def topS (i : Nat) : Stmt := PySem.Challenge.pw_heldsteps_k16_whole_joined_or_why_not.main.body.getD i (.Pass ⟨0, 0, 0, 0⟩)
section
variable {P : Program} {w : World} {K : PySem.W.Frag} {mg : Str → Option Value} {base : Heap}
abbrev s__law_next : Stmt := topS 53
theorem sc__law_next : FnScope ["_law_box_here", "_law_many", "_law_cell", "_law_value", "_law_mixed"] ["_law_box_here", "_law_many"] (defScope s__law_next) := ⟨rfl, rfl, rfl, by decide +kernel, rfl, by decide +kernel, by decide +kernel⟩
theorem fmod_box {x m : Int} (h : 0 < m) : 0 ≤ x.fmod m ∧ x.fmod m < m := ⟨Int.fmod_nonneg_of_pos _ h, Int.fmod_lt_of_pos _ h⟩
theorem big200 {m : Int} (h0 : 0 < m) (h : m ≤ 10 ^ 40) : m.natAbs < 2 ^ 200 := by
  have e : (10 : Int) ^ 40 < 2 ^ 200 := by decide
  have e2 : ((2 ^ 200 : Nat) : Int) = 2 ^ 200 := by decide
  omega
theorem ok_next {k : Nat} (B : Bl mg) (F : Src K mg "_law_next" s__law_next ["_law_box_here", "_law_many"]) : Def P w K mg base CX0 (k + 1) "_law_next" ["_law_box_here", "_law_many"] spNext := by
  refine F.ok sc__law_next (fun vs H Q E h => ?_) (fun f cdv A outer s H vs Q E hr h => ?_)
  · obtain ⟨b, l, many, rfl, _⟩ := h
    rfl
  · obtain ⟨b, l, many, rfl, hm, hm2, hbox, q⟩ := h
    obtain ⟨ns, i, c, r, hb, hl, hi, hlb⟩ := hbox.ex
    refine ⟨_, (C8.pss_cut (ps_if (PW.pt (pw_and (pt_cmpR op_eq (pe_ix (kix_list (K := K)) (pv 0) pe_int (fun _ _ => rfl)) pe_int (nomark _)) (pw_and1 (pt_cmpR op_lt (pe_ix (kix_list (K := K)) (pv 0) pe_int (fun _ _ => rfl)) (pe_callB (kcall_len (K := K)) (by rfl) B.len PySem.boot_len (pa_cons (pe_ix (kix_list (K := K)) (pv 0) pe_int (fun _ _ => rfl)) pa_nil)) (nomark _))))) (pss_cons (ps_asg (pe_ix (kix_list (K := K)) (pe_ix (kix_list (K := K)) (pv 0) pe_int (fun _ _ => rfl)) (pe_ix (kix_list (K := K)) (pv 0) pe_int (fun _ _ => rfl)) (fun _ _ => rfl)) (pg_name (i := 2) sc__law_next.nd rfl (Or.inl rfl)))
 (pss_cons (ps_asg (pe_op op_add (pe_ix (kix_list (K := K)) (pv 0) pe_int (fun _ _ => rfl)) pe_int) (pg_sub (pv 0) pe_int set_list))
 (pss_one (ps_if (pt_cmpR op_ge (pv 2) (pe_op op_pow pe_int pe_int) (nomark _)) (pss_one (ps_asg (pv 2) (pg_sub (pv 0) pe_int set_list))) (pss_one (ps_asg (pe_op op_modN (pe_callTy call_int1 (by rfl) B.int' (by decide +kernel) (pa_cons (pe_op op_add (pe_op op_add (pe_op op_mul (pe_ix (kix_list (K := K)) (pv 0) pe_int (fun _ _ => rfl)) pe_int) (pe_op op_mul (pv 2) pe_int)) (pe_ix (kix_list (K := K)) (pv 0) pe_int (fun _ _ => rfl))) pa_nil)) pe_int) (pg_sub (pv 0) pe_int set_list))))))) pss_nil)
 (pss_cons (ps_if (pt_cmpR op_gt (pe_ix (kix_list (K := K)) (pv 0) pe_int (fun _ _ => rfl)) pe_int (nomark _)) (pss_cons (ps_asg (pe_op op_modN (pe_callTy call_int1 (by rfl) B.int' (by decide +kernel) (pa_cons (pe_ix (kix_list (K := K)) (pv 0) pe_int (fun _ _ => rfl)) pa_nil)) (pv 1)) (pg_name (i := 3) sc__law_next.nd rfl (Or.inl rfl)))
 (pss_cons (ps_asg (pe_op op_fdivW (pe_ix (kix_list (K := K)) (pv 0) pe_int (fun _ _ => rfl)) (pv 1)) (pg_sub (pv 0) pe_int set_list))
 (pss_one (ps_ret (pv 3))))) pss_nil)
 (pss_cons (ps_asg (pe_op op_modN (pe_callTy call_int1 (by rfl) B.int' (by decide +kernel) (pa_cons (pe_op op_add (pe_op op_mul (pe_ix (kix_list (K := K)) (pv 0) pe_int (fun _ _ => rfl)) pe_int) pe_int) pa_nil)) pe_int) (pg_sub (pv 0) pe_int set_list))
 (pss_cons (ps_asg (pe_op op_modN (pe_callTy call_int1 (by rfl) B.int' (by decide +kernel) (pa_cons (pe_op op_add (pe_op op_add (pe_op op_mul (pe_ix (kix_list (K := K)) (pv 0) pe_int (fun _ _ => rfl)) pe_int) (pe_op op_mul (pe_ix (kix_list (K := K)) (pv 0) pe_int (fun _ _ => rfl)) pe_int)) pe_int) pa_nil)) pe_int) (pg_name (i := 4) sc__law_next.nd rfl (Or.inl rfl)))
 (pss_one (ps_ret (pe_op op_modN (pe_op op_fdivN (pv 4) pe_int) (pv 1)))))))), ?_⟩
    have hz : ∀ o : HO, (upd H b o) l = some (.lst (ns.map V.int)) := fun o => by rw [upd_ne hlb]; exact hl
    refine ⟨fun σ' H' => ∃ (i2 c2 r2 : Int) (y2 : Option V), 0 ≤ i2 ∧ H' = upd H b (.lst [.int i2, .int c2, .int r2, .ref l]) ∧ σ' = [some (.ref b), some (.int many), y2, none, none], ?_, ?_⟩
    · have hH : H = upd H b (.lst [.int i, .int c, .int r, .ref l]) := by
        funext a
        by_cases ha : a = b
        · rw [ha, upd_same, hb]
        · rw [upd_ne ha]
      refine ⟨_, rfl, b, _, _, _, rfl, rfl, SqL.of hb, rfl, rfl, _, rfl, ?_⟩
      refine ite2 (fun h1 => ?_) (fun h1 => ?_)
      · refine ⟨_, rfl, b, _, _, _, rfl, rfl, SqL.of hb, rfl, _, rfl, b, _, _, _, rfl, rfl, SqL.of hb, rfl, l, _, rfl, .inl (SqL.of hl), _, _, rfl, rfl, _, rfl, ?_⟩
        refine ite2 (fun h2 => ?_) (fun h2 => ?_)
        · have h2 : i < (ns.map V.int).length := of_decide_eq_true h2
          rw [List.length_map] at h2
          obtain ⟨j, rfl⟩ : ∃ j : Nat, i = j := ⟨i.toNat, by omega⟩
          have hj : j < ns.length := by omega
          have g : (ns.map V.int)[j]? = some (.int ns[j]) := by
            rw [List.getElem?_map, List.getElem?_eq_getElem hj]
            rfl
          refine ⟨_, rfl, b, _, _, _, rfl, rfl, SqL.of hb, rfl, _, rfl, b, _, _, _, rfl, rfl, SqL.of hb, rfl, l, _, _, _, rfl, rfl, SqL.of hl, atI_nat g, ?_⟩
          refine ⟨_, rfl, b, _, _, _, rfl, rfl, SqL.of hb, rfl, _, _, rfl, rfl, _, rfl, b, _, _, _, rfl, rfl, hb, rfl, ?_⟩
          refine ⟨_, rfl, _, _, rfl, rfl, ⟨by decide, by decide, by decide⟩, _, _, rfl, rfl, _, rfl, ?_⟩
          refine ite2 (fun h3 => ?_) (fun h3 => ?_)
          · refine ⟨_, rfl, _, rfl, b, _, _, _, rfl, rfl, upd_same, rfl, ?_⟩
            exact ⟨(j : Int) + 1, _, _, _, by omega, upd_twice, rfl⟩
          · have hu : (upd H b (.lst ([V.int (j : Int), V.int c, V.int r, V.ref l].set (Int.toNat 0) (V.int ((j : Int) + 1))))) b = some (.lst [.int ((j : Int) + 1), .int c, .int r, .ref l]) := upd_same
            refine ⟨_, rfl, b, _, _, _, rfl, rfl, SqL.of hu, rfl, _, _, rfl, rfl, .inr ⟨by decide, by decide⟩, _, rfl, _, _, rfl, rfl, .inr ⟨by decide, by decide⟩, _, _, rfl, rfl, _, rfl, b, _, _, _, rfl, rfl, SqL.of hu, rfl, _, _, rfl, rfl, .inl ⟨_, rfl, _, _, rfl, rfl, (show (2147483647 : Int) ≠ 0 by decide), ?_⟩⟩
            refine ⟨_, rfl, b, _, _, _, rfl, rfl, hu, rfl, ?_⟩
            exact ⟨(j : Int) + 1, _, _, _, by omega, upd_twice, rfl⟩
        · exact ⟨i, c, r, none, hi, hH, rfl⟩
      · exact ⟨i, c, r, none, hi, hH, rfl⟩
    · rintro σ' H' ⟨i2, c2, r2, y2, hi2, rfl, rfl⟩
      have hu : (upd H b (.lst [.int i2, .int c2, .int r2, .ref l])) b = some (.lst [.int i2, .int c2, .int r2, .ref l]) := upd_same
      refine ⟨_, rfl, b, _, _, _, rfl, rfl, SqL.of hu, rfl, _, _, rfl, rfl, _, rfl, ?_⟩
      refine ite2 (fun h1 => ?_) (fun h1 => ?_)
      · refine ⟨_, rfl, b, _, _, _, rfl, rfl, SqL.of hu, rfl, .inl ⟨_, rfl, _, rfl, _, _, rfl, rfl, by omega, ?_⟩⟩
        refine ⟨_, rfl, b, _, _, _, rfl, rfl, SqL.of hu, rfl, _, rfl, _, _, rfl, rfl, wide_div (b := 200) hm (big200 hm hm2) (by decide) (by decide), ?_⟩
        refine ⟨_, rfl, b, _, _, _, rfl, rfl, hu, rfl, ?_⟩
        refine ⟨_, rfl, ?_⟩
        rw [upd_twice]
        have f := fmod_box (x := c2) hm
        exact q _ _ f.1 f.2 ⟨(SameB.refl b H).upd, hbox, ns, i2, _, r2, upd_same, hz _, hi2, hlb⟩
      · refine ⟨_, rfl, b, _, _, _, rfl, rfl, SqL.of hu, rfl, _, _, rfl, rfl, .inr ⟨by decide, by decide⟩, _, _, rfl, rfl, .inl ⟨_, rfl, _, _, rfl, rfl, (show (2147483647 : Int) ≠ 0 by decide), ?_⟩⟩
        refine ⟨_, rfl, b, _, _, _, rfl, rfl, hu, rfl, ?_⟩
        rw [upd_twice]
        have hu2 : (upd H b (.lst ([V.int i2, V.int c2, V.int r2, V.ref l].set (Int.toNat 2) (V.int ((r2 * 48271 + 11).fmod 2147483647))))) b = some (.lst [.int i2, .int c2, .int ((r2 * 48271 + 11).fmod 2147483647), .ref l]) := upd_same
        refine ⟨_, rfl, b, _, _, _, rfl, rfl, SqL.of hu2, rfl, _, _, rfl, rfl, .inr ⟨by decide, by decide⟩, _, rfl, b, _, _, _, rfl, rfl, SqL.of hu2, rfl, _, _, rfl, rfl, .inr ⟨by decide, by decide⟩, _, _, rfl, rfl, _, _, rfl, rfl, .inl ⟨_, rfl, _, _, rfl, rfl, (show (2147483629 : Int) ≠ 0 by decide), ?_⟩⟩
        refine ⟨_, rfl, _, _, rfl, rfl, ⟨by decide, by decide⟩, _, rfl, _, _, rfl, rfl, by omega, ?_⟩
        exact q _ _ (fmod_box hm).1 (fmod_box hm).2 ⟨(SameB.refl b H).upd, hbox, ns, i2, _, _, upd_same, hz _, hi2, hlb⟩
abbrev s__law_box : Stmt := topS 52
theorem sc__law_box : FnScope ["_law_script", "_law_cell"] ["_law_script"] (defScope s__law_box) := ⟨rfl, rfl, rfl, by decide +kernel, rfl, by decide +kernel, by decide +kernel⟩
theorem ok_box {k : Nat} (B : Bl mg) (F : Src K mg "_law_box" s__law_box ["_law_script"]) : Def P w K mg base CX0 (k + 1) "_law_box" ["_law_script"] (spBox K) := by
  refine F.ok sc__law_box (fun vs H Q E h => ?_) (fun f cdv A outer s H vs Q E hr h => ?_)
  · obtain ⟨a, ns, rfl, _⟩ := h
    rfl
  · obtain ⟨a, ns, rfl, hS, hlen, q⟩ := h
    refine ⟨_, (pss_one (ps_ret (pe_lst (pa_cons pe_int (pa_cons pe_int (pa_cons pe_int (pa_cons (pe_lc (own := [("_law_cell", 1)]) (g := gName 1) (by rfl) sc__law_box.nd (kpi_list (K := K) (pv 0)) (blkOk_by (N := ["_law_script", "_law_cell"]) (sc := defScope s__law_box) (by decide +kernel)) (fun _ _ _ _ _ => (pg_name (i := 1) sc__law_box.nd rfl (Or.inl rfl))) (fun _ _ _ _ _ => pts_nil) (fun _ _ _ _ _ => (pe_callTy call_int1 (by rfl) B.int' (by decide +kernel) (pa_cons (pv 1) pa_nil)))) pa_nil))))))), ?_⟩
    refine ⟨_, rfl, a, rfl, ⟨_, hS⟩, fun D nD => lc_list (K := K) (a := a) (xs := ns.map V.int) (fun i H' => Same H H' ∧ H' D = some (.lst ((ns.take i).map V.int))) ⟨same_upd nD, upd_same⟩ (fun i H' _ h' => h'.1.seq hS) ?_ ?_⟩
    · rintro i x H' hi ⟨sm, hD⟩
      obtain ⟨z, hz, rfl⟩ : ∃ z, ns[i]? = some z ∧ V.int z = x := by
        rw [List.getElem?_map] at hi
        cases e : ns[i]? with
        | none => rw [e] at hi; cases hi
        | some z => rw [e] at hi; exact ⟨z, rfl, Option.some.inj hi⟩
      refine ⟨rfl, ?_⟩
      refine yes_if ?_
      refine ⟨_, rfl, .inl ⟨_, rfl, _, hD, ?_, ?_, ?_⟩⟩
      · rw [List.length_map, List.length_take]
        exact small1000 (by omega)
      · intro b o e
        rw [upd_ne (ne_of_none e nD)]
        exact sm b o e
      · rw [upd_same, List.take_add_one, hz, List.map_append]
        rfl
    · rintro H' ⟨sm, hD⟩
      rw [List.length_map, List.take_length] at hD
      refine ⟨by show 4 ≤ sizeLine; decide, fun p hp => ?_⟩
      have hpD : D ≠ p := ne_of_none hD hp
      exact q p D _ (sm.free hp) (sm.trans (same_upd hp)) ⟨ns, 0, 0, 7, upd_same, by rw [upd_ne hpD]; exact hD, by omega, hpD⟩
end
section
variable {P : Program} {w : World} {K : PySem.W.Frag} {mg : Str → Option Value} {base : Heap}
abbrev s_is_word : Stmt := topS 21
theorem sc_is_word : FnScope ["word", "sign"] ["word"] (defScope s_is_word) := ⟨rfl, rfl, rfl, by decide +kernel, rfl, by decide +kernel, by decide +kernel⟩
def spIsWord : Sp := fun vs H Q _ => ∃ z : Str, vs = [.str z] ∧ z.length ≤ sizeLine ∧ ∀ H', Same H H' → Q (.bl (wd z.cps.toList)) H'
theorem ok_is_word {k : Nat} (B : Bl mg) (g_LETTERS : Glo mg "LETTERS" (.str LETTERS)) (g_DIGITS : Glo mg "DIGITS" (.str DIGITS)) (g_MOST_SIGNS : Glo mg "MOST_SIGNS" (.int 12)) (F : Src K mg "is_word" s_is_word ["word"]) : Def P w K mg base CX0 (k + 1) "is_word" ["word"] spIsWord := by
  refine F.ok sc_is_word (fun vs H Q E h => ?_) (fun f cdv A outer s H vs Q E hr h => ?_)
  · obtain ⟨z, rfl, _⟩ := h
    rfl
  · obtain ⟨z, rfl, hz, q⟩ := h
    refine ⟨_, (pss_cons (ps_if (pt_not (pt_chain op_le op_le pe_int (pe_callB call_len_str (by rfl) B.len PySem.boot_len (pa_cons (pv 0) pa_nil)) (pe_glo g_MOST_SIGNS))) (pss_one (ps_ret pe_bl)) pss_nil)
 (pss_cons (ps_if (pt_cmpR op_notIn_sign (pe_ix ix_str (pv 0) pe_int (fun _ _ => rfl)) (pe_glo g_LETTERS) rfl) (pss_one (ps_ret pe_bl)) pss_nil)
 (pss_one (ps_ret (pe_callB (kcr_all (K := K) rfl) (by rfl) B.all' (by decide +kernel) (pa_cons (pe_lc (own := [("sign", 1)]) (g := gName 1) (by rfl) sc_is_word.nd (pi_str (pv 0)) (blkOk_by (N := ["word", "sign"]) (sc := defScope s_is_word) (by decide +kernel)) (fun _ _ _ _ _ => (pg_name (i := 1) sc_is_word.nd rfl (Or.inl rfl))) (fun _ _ _ _ _ => pts_nil) (fun _ _ _ _ _ => (pe_or (pe_cmpR op_in_sign (pv 1) (pe_glo g_LETTERS) rfl) (pe_one (pe_cmpR op_in_sign (pv 1) (pe_glo g_DIGITS) rfl))))) pa_nil)))))), ?_⟩
    have hl := len_cps z
    have no : ∀ b : Bool, wd z.cps.toList = b → ∀ H', Same H H' → Q (.bl b) H' := fun b e H' s => by rw [← e]; exact q H' s
    -- not 1 <= len(word) <= 12
    refine ⟨_, rfl, _, rfl, hz, _, _, rfl, rfl, _, rfl, ?_⟩
    refine ite2 (fun h1 => ?_) (fun h1 => ?_)
    · have h1 : (1 : Int) ≤ z.length := of_decide_eq_true h1
      refine ⟨_, _, rfl, rfl, _, rfl, ?_⟩
      refine ite2 (fun h2 => ?_) (fun h2 => ?_)
      · have h2 : ¬ (z.length : Int) ≤ 12 := by simpa using h2
        refine no _ ?_ _ (Same.refl H)
        have : ¬ (1 ≤ z.cps.toList.length ∧ z.cps.toList.length ≤ 12) := by omega
        unfold wd
        rw [decide_eq_false this]
        rfl
      · have h2 : (z.length : Int) ≤ 12 := by simpa using h2
        -- word[0] not in LETTERS
        have hc : z.cps.toList[0]? = some (z.cps.toList.headD 0) := by
          cases e : z.cps.toList with
          | nil => rw [e] at hl; simp at hl; omega
          | cons a r => rfl
        have hw : (decide (1 ≤ z.cps.toList.length ∧ z.cps.toList.length ≤ 12)) = true := decide_eq_true (by omega)
        refine ⟨_, rfl, z, _, _, rfl, rfl, hz, atI_nat (j := 0) hc, _, _, rfl, rfl, _, rfl, ?_⟩
        refine ite2 (fun h3 => ?_) (fun h3 => ?_)
        · refine no _ ?_ _ (Same.refl H)
          have h3 : decide (z.cps.toList.headD 0 ∈ LETTERS.cps.toList) = false := by simpa using h3
          unfold wd
          rw [h3, Bool.false_and, Bool.and_false]
        · have h3 : decide (z.cps.toList.headD 0 ∈ LETTERS.cps.toList) = true := by simpa using h3
          have hv : wd z.cps.toList = z.cps.toList.all okc := by
            unfold wd
            rw [hw, h3, Bool.true_and, Bool.true_and]
          -- all([..])
          refine ⟨_, rfl, z, rfl, fun D nD => lc_it (walk_str (z := z)) (fun i H' => Same H H' ∧ H' D = some (.lst (((z.cps.toList.take i).map okc).map V.bl))) ⟨same_upd nD, upd_same⟩ (fun _ _ _ _ => trivial) ?_ ?_⟩
          · rintro i x H' H2 hi ⟨sm, hD⟩ ⟨rfl, c, hc, rfl⟩
            have hc2 : z.cps.toList[i]? = some c := by simpa using hc
            refine ⟨rfl, yes_if ?_⟩
            have fin : ∃ acc, H2 D = some (.lst acc) ∧ acc.length < sizeLine ∧ Same H (upd H2 D (.lst (acc ++ [V.bl (okc c)]))) ∧ upd H2 D (.lst (acc ++ [V.bl (okc c)])) D = some (.lst (((z.cps.toList.take (i + 1)).map okc).map V.bl)) := by
              refine ⟨_, hD, ?_, fun b o e => ?_, ?_⟩
              · rw [List.length_map, List.length_map, List.length_take]
                exact small1000 (by omega)
              · rw [upd_ne (ne_of_none e nD)]
                exact sm b o e
              · rw [upd_same, all_take hc2, List.map_append]
                rfl
            refine ⟨_, rfl, c, _, rfl, rfl, _, rfl, ?_⟩
            refine ite2 (fun h4 => ?_) (fun h4 => ?_)
            · have e : okc c = true := by unfold okc; rw [h4, Bool.true_or]
              rw [e] at fin
              exact fin
            · have h4 : decide (c ∈ LETTERS.cps.toList) = false := by simpa using h4
              have e : okc c = decide (c ∈ DIGITS.cps.toList) := by unfold okc; rw [h4, Bool.false_or]
              rw [e] at fin
              exact ⟨_, rfl, c, _, rfl, rfl, fin⟩
          · rintro H' ⟨sm, hD⟩
            have e : z.cps.toList.take z.cps.size = z.cps.toList := List.take_of_length_le (by simp)
            rw [e] at hD
            refine ⟨D, _, rfl, SqL.of hD, ?_⟩
            rw [all_id]
            exact no _ hv _ sm
    · have h1 : ¬ (1 : Int) ≤ z.length := by simpa using h1
      refine ⟨_, rfl, ?_⟩
      refine no _ ?_ _ (Same.refl H)
      have : ¬ (1 ≤ z.cps.toList.length ∧ z.cps.toList.length ≤ 12) := by omega
      unfold wd
      rw [decide_eq_false this]
      rfl
abbrev s_check_word : Stmt := topS 22
theorem sc_check_word : FnScope ["word"] ["word"] (defScope s_check_word) := ⟨rfl, rfl, rfl, by decide +kernel, rfl, by decide +kernel, by decide +kernel⟩
def spCheckWord (C : Addr) : Sp := fun vs H Q E => ∃ z : Str, vs = [.str z] ∧ z.length ≤ sizeLine ∧ (wd z.cps.toList = true → ∀ H', Same H H' → Q (.str z) H') ∧ (wd z.cps.toList = false → Rais E H C [("word", .str z)])
theorem ok_check_word {k : Nat} {C_BadWord f_BadWord : Addr} (X_BadWord : ErrTxt P K mg false "BadWord" C_BadWord f_BadWord ["word"]) (D_is_word : Def P w K mg base CX0 k "is_word" ["word"] spIsWord) (F : Src K mg "check_word" s_check_word ["word"]) :
    Def P w K mg base (L2.CX P w) (k + 1) "check_word" ["word"] (spCheckWord C_BadWord) := by
  refine F.okX sc_check_word (fun vs H Q E h => ?_) (fun f cdv A outer s H vs Q E hr h => ?_)
  · obtain ⟨z, rfl, _⟩ := h
    rfl
  · obtain ⟨z, rfl, hz, q1, q2⟩ := h
    refine ⟨_, (pss_cons (ps_if (pt_not (pt_val (pe_def D_is_word hr pass0 (pa_cons (pv 0) pa_nil)))) (pss_one (ps_raiseE rfl X_BadWord hr (takes_of rfl rfl rfl rfl) (pa_cons (pv 0) pa_nil))) pss_nil)
 (pss_one (ps_ret (pv 0)))), ?_⟩
    refine ⟨_, rfl, z, rfl, hz, fun H' sm => ⟨_, rfl, ?_⟩⟩
    refine ite2 (fun h1 => ?_) (fun h1 => ?_)
    · have h1 : wd z.cps.toList = false := by simpa using h1
      exact ⟨_, rfl, rfl, (fun e => by cases e), fun d hd => (q2 h1).go sm hd⟩
    · have h1 : wd z.cps.toList = true := by simpa using h1
      exact ⟨_, rfl, q1 h1 H' sm⟩
end
section
variable {P : Program} {w : World} {K : PySem.W.Frag} {mg : Str → Option Value} {base : Heap}
abbrev s_check_number : Stmt := topS 23
theorem sc_check_number : FnScope ["number", "least", "most"] ["number", "least", "most"] (defScope s_check_number) := ⟨rfl, rfl, rfl, by decide +kernel, rfl, by decide +kernel, by decide +kernel⟩
def spCheckNumber (C : Addr) : Sp := fun vs H Q E => ∃ n lo hi : Int, vs = [.int n, .int lo, .int hi] ∧ (lo ≤ n ∧ n ≤ hi → Q (.int n) H) ∧ (¬ (lo ≤ n ∧ n ≤ hi) → Rais E H C [("number", .int n)])
theorem ok_check_number {k : Nat} {C_BadNumber f_BadNumber : Addr} (X_BadNumber : ErrTxt P K mg false "BadNumber" C_BadNumber f_BadNumber ["number"]) (F : Src K mg "check_number" s_check_number ["number", "least", "most"]) :
    Def P w K mg base (L2.CX P w) (k + 1) "check_number" ["number", "least", "most"] (spCheckNumber C_BadNumber) := by
  refine F.okX sc_check_number (fun vs H Q E h => ?_) (fun f cdv A outer s H vs Q E hr h => ?_)
  · obtain ⟨n, lo, hi, rfl, _⟩ := h
    rfl
  · obtain ⟨n, lo, hi, rfl, q1, q2⟩ := h
    refine ⟨_, (pss_cons (ps_if (PW.pt (pw_or (pt_cmpR op_lt (pv 0) (pv 1) (nomark _)) (pw_or1 (pt_cmpR op_gt (pv 0) (pv 2) (nomark _))))) (pss_one (ps_raiseE rfl X_BadNumber hr (takes_of rfl rfl rfl rfl) (pa_cons (pv 0) pa_nil))) pss_nil)
 (pss_one (ps_ret (pv 0)))), ?_⟩
    refine ⟨_, rfl, _, rfl, _, _, rfl, rfl, _, rfl, ?_⟩
    refine ite2 (fun h1 => ?_) (fun h1 => ?_)
    · have h1 : n < lo := of_decide_eq_true h1
      exact iteT ⟨_, rfl, rfl, (fun e => by cases e), fun d hd => (q2 (by omega)).go (Same.refl H) hd⟩
    · have h1 : ¬ n < lo := by simpa using h1
      refine ⟨_, rfl, _, rfl, _, _, rfl, rfl, _, rfl, ?_⟩
      refine ite2 (fun h2 => ?_) (fun h2 => ?_)
      · have h2 : hi < n := of_decide_eq_true h2
        exact ⟨_, rfl, rfl, (fun e => by cases e), fun d hd => (q2 (by omega)).go (Same.refl H) hd⟩
      · have h2 : ¬ hi < n := by simpa using h2
        exact ⟨_, rfl, q1 (by omega)⟩
abbrev s_check_names : Stmt := topS 24
theorem sc_check_names : FnScope ["names", "known", "seen", "name"] ["names", "known"] (defScope s_check_names) := ⟨rfl, rfl, rfl, by decide +kernel, rfl, by decide +kernel, by decide +kernel⟩
def spCheckNames (K : PySem.W.Frag) (CU CD : Addr) : Sp := fun vs H Q E => ∃ (a c : Addr) (ws ks : List Str), vs = [.ref a, .ref c] ∧ SqL K H a (ws.map V.str) ∧ Sq K H c (ks.map V.str) ∧ ws.length ≤ 1000 ∧
  (chk ks [] ws = none → ∀ (p : Addr) (H' : Hp), H p = none → Same H H' → H' p = some (.tup (ws.map V.str)) → Q (.ref p) H') ∧
  (∀ n, chk ks [] ws = some (true, n) → Rais E H CU [("name", .str n)]) ∧ (∀ n, chk ks [] ws = some (false, n) → Rais E H CD [("name", .str n)])
theorem ok_check_names {k : Nat} {C_UnknownName f_UnknownName C_DoubleName f_DoubleName : Addr} (B : Bl mg) (X_UnknownName : ErrTxt P K mg false "UnknownName" C_UnknownName f_UnknownName ["name"]) (X_DoubleName : ErrTxt P K mg false "DoubleName" C_DoubleName f_DoubleName ["name"])
    (F : Src K mg "check_names" s_check_names ["names", "known"]) : Def P w K mg base (L2.CX P w) (k + 1) "check_names" ["names", "known"] (spCheckNames K C_UnknownName C_DoubleName) := by
  refine F.okX sc_check_names (fun vs H Q E h => ?_) (fun f cdv A outer s H vs Q E hr h => ?_)
  · obtain ⟨a, c, ws, ks, rfl, _⟩ := h
    rfl
  · obtain ⟨a, c, ws, ks, rfl, ha, hc, hlen, q1, q2, q3⟩ := h
    refine ⟨_, (pss_cons (ps_asg (pe_lst pa_nil) (pg_name (i := 2) sc_check_names.nd rfl (Or.inl rfl)))
 (pss_cons (ps_for (passes_of rfl) rfl (kpi_list (K := K) (pv 0)) (pg_name (i := 3) sc_check_names.nd rfl (Or.inl rfl)) (pss_cons (ps_if (pt_cmpR (kop_notIn (K := K)) (pv 3) (pv 1) rfl) (pss_one (ps_raiseE rfl X_UnknownName hr (takes_of rfl rfl rfl rfl) (pa_cons (pv 3) pa_nil))) pss_nil)
 (pss_cons (ps_if (pt_cmpR (kop_in (K := K)) (pv 3) (pv 2) rfl) (pss_one (ps_raiseE rfl X_DoubleName hr (takes_of rfl rfl rfl rfl) (pa_cons (pv 3) pa_nil))) pss_nil)
 (pss_one (ps_expr (pe_bm PySem.F.plainAttrs_list PySem.F.slot_list_append PySem.F.type_list_append mt_append (pv 2) (pa_cons (pv 3) pa_nil)))))))
 (pss_one (ps_ret (pe_callTy (kcall_tuple (K := K)) (by rfl) B.tuple' (by decide +kernel) (pa_cons (pv 2) pa_nil)))))), ?_⟩
    refine ⟨Nat.zero_le _, fun D nD => ?_⟩
    have s1 : Same H (upd H D (.lst [])) := same_upd nD
    refine ⟨_, rfl, a, rfl, ⟨_, s1.seq ha⟩, for_list (K := K) (a := a) (xs := ws.map V.str) (fun i σ H' => ∃ y, σ = [some (.ref a), some (.ref c), some (.ref D), y] ∧ Same H H' ∧ H' D = some (.lst ((ws.take i).map V.str)) ∧ chk ks [] ws = chk ks (ws.take i) (ws.drop i))
      ⟨none, rfl, s1, upd_same, rfl⟩ (fun i σ H' _ h' => by obtain ⟨_, _, sm, _⟩ := h'; exact sm.seq ha) ?_ ?_⟩
    · rintro i x σ H' hi ⟨y, rfl, sm, hD, hk⟩
      obtain ⟨n, hn, rfl⟩ := map_get hi
      have hdr : ws.drop i = n :: ws.drop (i + 1) := List.drop_eq_getElem?_toList_append.trans (by rw [hn]; rfl)
      rw [hdr, chk_cons] at hk
      refine ⟨_, rfl, _, rfl, c, _, rfl, sm.sq hc, rfl, flat_strsB _, _, rfl, ?_⟩
      rw [inV_strs]
      refine ite2 (fun h1 => ?_) (fun h1 => ?_)
      · have h1 : n ∉ ks := by simpa using h1
        rw [if_neg h1] at hk
        exact ⟨_, rfl, rfl, (fun e => by cases e), fun d hd => (q2 n hk).go sm hd⟩
      · have h1 : n ∈ ks := by simpa using h1
        rw [if_pos h1] at hk
        refine ⟨_, rfl, _, rfl, D, _, rfl, .inl (SqL.of hD), rfl, flat_strsB _, _, rfl, ?_⟩
        rw [inV_strs]
        refine ite2 (fun h2 => ?_) (fun h2 => ?_)
        · have h2 : n ∈ ws.take i := by simpa using h2
          rw [if_pos h2] at hk
          exact ⟨_, rfl, rfl, (fun e => by cases e), fun d hd => (q3 n hk).go sm hd⟩
        · have h2 : n ∉ ws.take i := by simpa using h2
          rw [if_neg h2] at hk
          refine ⟨_, rfl, .inl ⟨rfl, _, SqL.of hD⟩, _, rfl, D, _, _, rfl, rfl, hD, ?_, ?_⟩
          · rw [List.length_map, List.length_take]
            exact small1000 (by omega)
          · refine ⟨_, rfl, fun b o e => ?_, ?_, ?_⟩
            · rw [upd_ne (ne_of_none e nD)]
              exact sm b o e
            · rw [upd_same, take_more hn, List.map_append]
              rfl
            · rw [take_more hn]
              exact hk
    · rintro σ H' ⟨y, rfl, sm, hD, hk⟩
      rw [List.length_map, List.take_length] at hD
      rw [List.length_map, List.drop_length] at hk
      exact ⟨_, rfl, D, _, rfl, .inl ⟨SqL.of hD, fun l hl => q1 hk l _ (sm.free hl) (sm.trans (same_upd hl)) upd_same⟩⟩
end
section
variable {P : Program} {w : World} {K : PySem.W.Frag} {mg : Str → Option Value} {base : Heap}
abbrev s__law_word : Stmt := topS 54
theorem sc__law_word : FnScope ["_law_box_here", "_law_letters", "_law_signs", "_law_size", "_law_word_here", "_law_k"] ["_law_box_here"] (defScope s__law_word) := ⟨rfl, rfl, rfl, by decide +kernel, rfl, by decide +kernel, by decide +kernel⟩
theorem get_in {l : List Nat} {n : Int} (h0 : 0 ≤ n) (h1 : n < l.length) : ∃ c, atI l n = some c ∧ c ∈ l := by
  obtain ⟨j, rfl⟩ : ∃ j : Nat, n = j := ⟨n.toNat, by omega⟩
  have hj : j < l.length := by omega
  exact ⟨l[j], atI_nat (List.getElem?_eq_getElem hj), List.getElem_mem hj⟩
theorem okc_sign {c : Nat} (h : c ∈ (LETTERS ++ DIGITS).cps.toList) : okc c = true := by
  rw [show (LETTERS ++ DIGITS).cps.toList = LETTERS.cps.toList ++ DIGITS.cps.toList by decide] at h
  unfold okc
  rw [Bool.or_eq_true, decide_eq_true_iff, decide_eq_true_iff]
  exact List.mem_append.mp h
def spWord : Sp := fun vs H Q _ => ∃ b l : Addr, vs = [.ref b] ∧ Box H b l ∧ ∀ (z : Str) (H' : Hp), Wd z → Bx b l H H' → Q (.str z) H'
theorem ok_word {k : Nat} (B : Bl mg) (D__law_next : Def P w K mg base CX0 k "_law_next" ["_law_box_here", "_law_many"] spNext) (F : Src K mg "_law_word" s__law_word ["_law_box_here"]) : Def P w K mg base CX0 (k + 1) "_law_word" ["_law_box_here"] spWord := by
  refine F.ok sc__law_word (fun vs H Q E h => ?_) (fun f cdv A outer s H vs Q E hr h => ?_)
  · obtain ⟨b, l, rfl, _⟩ := h
    rfl
  · obtain ⟨b, l, rfl, hb, q⟩ := h
    refine ⟨_, (pss_cons (ps_asg pe_str (pg_name (i := 1) sc__law_word.nd rfl (Or.inl rfl)))
 (pss_cons (ps_asg (pe_op op_add_str (pv 1) pe_str) (pg_name (i := 2) sc__law_word.nd rfl (Or.inl rfl)))
 (pss_cons (ps_asg (pe_op op_add pe_int (pe_def D__law_next hr pass0 (pa_cons (pv 0) (pa_cons pe_int pa_nil)))) (pg_name (i := 3) sc__law_word.nd rfl (Or.inl rfl)))
 (C8.pss_cut (ps_if (pt_cmpR op_eq (pe_def D__law_next hr pass0 (pa_cons (pv 0) (pa_cons pe_int pa_nil))) pe_int (nomark _)) (pss_one (ps_asg pe_int (pg_name (i := 3) sc__law_word.nd rfl (Or.inl rfl)))) pss_nil)
 (pss_cons (ps_asg (pe_ix ix_str (pv 1) (pe_def D__law_next hr pass0 (pa_cons (pv 0) (pa_cons pe_int pa_nil))) (fun _ _ => rfl)) (pg_name (i := 4) sc__law_word.nd rfl (Or.inl rfl)))
 (pss_cons (ps_for PassesOwn.never rfl (pi_range1 (by rfl) B.range (pa_cons (pe_op op_sub (pv 3) pe_int) pa_nil)) (pg_name (i := 5) sc__law_word.nd rfl (Or.inl rfl)) (pss_one (ps_asg (pe_op op_add_str (pv 4) (pe_ix ix_str (pv 2) (pe_def D__law_next hr pass0 (pa_cons (pv 0) (pa_cons pe_int pa_nil))) (fun _ _ => rfl))) (pg_name (i := 4) sc__law_word.nd rfl (Or.inl rfl)))))
 (pss_one (ps_ret (pv 4))))))))), ?_⟩
    refine ⟨_, rfl, _, _, rfl, rfl, by decide, ?_⟩
    refine ⟨_, rfl, b, l, 3, rfl, by decide, by decide, hb, fun n H1 n0 n1 s1 => ⟨_, _, rfl, rfl, ?_⟩⟩
    refine ⟨fun σ' H' => ∃ m : Int, 1 ≤ m ∧ m ≤ 12 ∧ σ' = [some (.ref b), some (.str LETTERS), some (.str (LETTERS ++ DIGITS)), some (.int m), none, none] ∧ Bx b l H H', ?_, ?_⟩
    · refine ⟨_, rfl, b, l, 8, rfl, by decide, by decide, s1.b1, fun n2 H2 _ _ s2 => ⟨rfl, _, rfl, ?_⟩⟩
      refine ite2 (fun h1 => ?_) (fun h1 => ?_)
      · exact ⟨12, by omega, by omega, rfl, s1.trans s2⟩
      · exact ⟨1 + n, by omega, by omega, rfl, s1.trans s2⟩
    · rintro σ' H' ⟨m, m1, m2, rfl, sm⟩
      refine ⟨_, rfl, _, rfl, b, l, 26, rfl, by decide, by decide, sm.b1, fun n3 H3 c0 c1 s3 => ?_⟩
      obtain ⟨c, hc, hcm⟩ := get_in (l := LETTERS.cps.toList) c0 (by show n3 < 26; exact c1)
      refine ⟨_, _, c, rfl, rfl, by decide, hc, ?_⟩
      refine ⟨_, rfl, _, _, rfl, rfl, m - 1, rfl, by omega, by omega, for_range (lo := 0) (n := (m - 1).toNat) (fun i σ H2 => ∃ (z : Str) (r : List Nat) (y : Option V), z.cps.toList = c :: r ∧ r.length = i ∧ (∀ d ∈ r, okc d = true) ∧ σ = [some (.ref b), some (.str LETTERS), some (.str (LETTERS ++ DIGITS)), some (.int m), some (.str z), y] ∧ Bx b l H H2)
        ⟨⟨#[c]⟩, [], none, rfl, rfl, (fun d hd => by cases hd), rfl, sm.trans s3⟩ ?_ ?_⟩
      · rintro i σ H2 hi ⟨z, r, y, hz, hr1, hr2, rfl, sm2⟩
        refine ⟨_, rfl, _, rfl, _, rfl, b, l, 36, rfl, by decide, by decide, sm2.b1, fun n4 H5 d0 d1 s5 => ?_⟩
        obtain ⟨c2, hc2, hcm2⟩ := get_in (l := (LETTERS ++ DIGITS).cps.toList) d0 (by show n4 < 36; exact d1)
        refine ⟨_, _, c2, rfl, rfl, by decide, hc2, _, _, rfl, rfl, ?_, ?_⟩
        · show z.length + 1 ≤ sizeLine
          rw [len_cps, hz, List.length_cons]
          exact Nat.le_trans (show r.length + 1 + 1 ≤ 1000 by omega) (by decide)
        · refine ⟨z ++ ⟨#[c2]⟩, r ++ [c2], _, ?_, by rw [List.length_append, hr1]; rfl, fun d hd => ?_, rfl, sm2.trans s5⟩
          · rw [Str.cps_append, Array.toList_append, hz]
            rfl
          · rcases List.mem_append.mp hd with h | h
            · exact hr2 d h
            · rw [List.mem_singleton.mp h]
              exact okc_sign hcm2
      · rintro σ H2 ⟨z, r, y, hz, hr1, hr2, rfl, sm2⟩
        refine ⟨_, rfl, q z H2 ?_ sm2⟩
        show wd z.cps.toList = true
        rw [hz]
        exact wd_cons hcm hr2 (by omega)
abbrev s__law_words : Stmt := topS 55
theorem sc__law_words : FnScope ["_law_box_here", "_law_many", "_law_words_here", "_law_turn", "_law_word_here", "_law_spare", "_law_k", "_law_other"] ["_law_box_here", "_law_many"] (defScope s__law_words) := ⟨rfl, rfl, rfl, by decide +kernel, rfl, by decide +kernel, by decide +kernel⟩
def spWords : Sp := fun vs H Q _ => ∃ (b l : Addr) (many : Nat), vs = [.ref b, .int many] ∧ many ≤ 30 ∧ Box H b l ∧ ∀ (p : Addr) (ws : List Str) (H' : Hp), ws.length = many → ws.Nodup → (∀ z ∈ ws, Wd z) → H p = none → Bx b l H H' → H' p = some (.lst (ws.map V.str)) → Q (.ref p) H'
theorem ok_words {k : Nat} (B : Bl mg) (D__law_word : Def P w K mg base CX0 k "_law_word" ["_law_box_here"] spWord) (F : Src K mg "_law_words" s__law_words ["_law_box_here", "_law_many"]) : Def P w K mg base CX0 (k + 1) "_law_words" ["_law_box_here", "_law_many"] spWords := by
  refine F.ok sc__law_words (fun vs H Q E h => ?_) (fun f cdv A outer s H vs Q E hr h => ?_)
  · obtain ⟨b, l, many, rfl, _⟩ := h
    rfl
  · obtain ⟨b, l, many, rfl, hm, hb, q⟩ := h
    refine ⟨_, (pss_cons (ps_asg (pe_lst pa_nil) (pg_name (i := 2) sc__law_words.nd rfl (Or.inr rfl)))
 (pss_cons (ps_for PassesOwn.never rfl (pi_range1 (by rfl) B.range (pa_cons (pv 1) pa_nil)) (pg_name (i := 3) sc__law_words.nd rfl (Or.inl rfl)) (pss_cons (ps_asg (pe_def D__law_word hr pass0 (pa_cons (pv 0) pa_nil)) (pg_name (i := 4) sc__law_words.nd rfl (Or.inr rfl)))
 (C8.pss_cut (ps_if (pt_cmpR (kop_in (K := K)) (pv 4) (pv 2) rfl) (pss_cons (ps_setLc (i := 5) (own := [("_law_k", 6)]) (g := gName 6) (by rfl) sc__law_words.nd rfl rfl (sw_true rfl rfl rfl (by decide +kernel)) (pi_range1 (by rfl) B.range (pa_cons pe_int pa_nil)) (blkOk_by (N := ["_law_box_here", "_law_many", "_law_words_here", "_law_turn", "_law_word_here", "_law_spare", "_law_k", "_law_other"]) (sc := defScope s__law_words) (by decide +kernel)) (fun _ _ _ _ _ => (pg_name (i := 6) sc__law_words.nd rfl (Or.inl rfl))) (fun _ _ _ _ _ => pts_nil) (fun _ _ _ _ _ => (pe_op op_add_str (pe_op op_add_str (pe_slice sl_str (pv 4) po_none (po_some pe_int)) pe_str) (pe_callTy call_str_int (by rfl) B.str' (by decide +kernel) (pa_cons (pv 6) pa_nil)))))
 (pss_cons (ps_setLc (i := 5) (own := [("_law_other", 7)]) (g := gName 7) (by rfl) sc__law_words.nd rfl rfl (sw_true rfl rfl rfl (by decide +kernel)) (kpi_list (K := K) (pv 5)) (blkOk_by (N := ["_law_box_here", "_law_many", "_law_words_here", "_law_turn", "_law_word_here", "_law_spare", "_law_k", "_law_other"]) (sc := defScope s__law_words) (by decide +kernel)) (fun _ _ _ _ _ => (pg_name (i := 7) sc__law_words.nd rfl (Or.inl rfl))) (fun _ _ _ _ _ => pts_one (pt_cmpR (kop_notIn (K := K)) (pv 7) (pv 2) rfl)) (fun _ _ _ _ _ => (pv 7)))
 (pss_one (ps_asg (pe_ix (kix_list (K := K)) (pv 5) pe_int (fun _ _ => rfl)) (pg_name (i := 4) sc__law_words.nd rfl (Or.inr rfl)))))) pss_nil)
 (pss_one (ps_expr (pe_bm PySem.F.plainAttrs_list PySem.F.slot_list_append PySem.F.type_list_append mt_append (pv 2) (pa_cons (pv 4) pa_nil)))))))
 (pss_one (ps_ret (pv 2))))), ?_⟩
    refine ⟨Nat.zero_le _, fun D nD => ?_⟩
    refine ⟨_, rfl, many, rfl, by omega, by omega, for_range (lo := 0) (n := many) (fun i σ H' => ∃ (ws : List Str) (y1 y2 y3 : Option V), σ = [some (.ref b), some (.int many), some (.ref D), y1, y2, y3, none, none] ∧ ws.length = i ∧ ws.Nodup ∧ (∀ z ∈ ws, Wd z) ∧ Bx b l H H' ∧ H' D = some (.lst (ws.map V.str)))
      ⟨[], none, none, none, rfl, rfl, List.nodup_nil, (fun z hz => by cases hz), hb.bx.new nD, upd_same⟩ ?_ ?_⟩
    · rintro i σ H' hi ⟨ws, y1, y2, y3, rfl, hl, hn, hw, sm, hD⟩
      refine ⟨_, rfl, b, l, rfl, sm.b1, fun z H2 hz s2 => ?_⟩
      have hD2 : H2 D = some (.lst (ws.map V.str)) := s2.at hD (hb.neb nD)
      have sm2 := sm.trans s2
      -- behind the if the word is new
      refine ⟨fun σ' H3 => ∃ (z' : Str) (y3 : Option V), σ' = [some (.ref b), some (.int many), some (.ref D), some (.int (0 + (i : Nat))), some (.str z'), y3, none, none] ∧ Wd z' ∧ z' ∉ ws ∧ Bx b l H H3 ∧ H3 D = some (.lst (ws.map V.str)), ?_, ?_⟩
      · refine ⟨_, rfl, _, rfl, D, _, rfl, .inl (SqL.of hD2), rfl, flat_strsB _, _, rfl, ?_⟩
        rw [inV_strs]
        refine ite2 (fun h1 => ?_) (fun h1 => ?_)
        · -- thirty spares
          refine ⟨30, rfl, by decide, by decide, fun G nG => lc_range (lo := 0) (n := 30) (fun j H3 => Same H2 H3 ∧ H3 G = some (.lst (((List.range j).map (spare z)).map V.str))) ⟨same_upd nG, upd_same⟩ ?_ ?_⟩
          · rintro j H3 hj ⟨s3, hG⟩
            have l1 := cutS_length z none (some 9)
            have l2 := hz.len
            have hd := List.all_eq_true.mp digs30 j (List.mem_range.mpr hj)
            rw [Bool.and_eq_true, decide_eq_true_iff] at hd
            refine ⟨rfl, yes_if ?_⟩
            refine ⟨_, rfl, _, rfl, z, rfl, Nat.le_trans l2 (by decide), _, _, rfl, rfl, ?_, ?_⟩
            · show _ + 1 ≤ sizeLine
              exact Nat.le_trans (show _ + 1 ≤ 1000 by omega) (by decide)
            · refine ⟨_, rfl, (0 + (j : Nat) : Int), rfl, ?_, _, _, rfl, rfl, ?_, ?_⟩
              · have : (0 + (j : Nat) : Int).natAbs ≤ 2 ^ 10 := by omega
                exact Nat.lt_of_le_of_lt (Nat.log2_le_self _) (by omega)
              · rw [Str.length_append, Int.zero_add]
                show _ + 1 + (toString (j : Int) : Str).cps.toList.length ≤ sizeLine
                exact Nat.le_trans (show _ ≤ 1000 by omega) (by decide)
              · refine ⟨_, hG, ?_, fun b' o e => ?_, ?_⟩
                · rw [List.length_map, List.length_map, List.length_range]
                  exact small1000 (by omega)
                · rw [upd_ne (ne_of_none e nG)]
                  exact s3 b' o e
                · rw [upd_same, List.range_succ, List.map_append, List.map_append, Int.zero_add]
                  rfl
          · rintro H3 ⟨s3, hG⟩
            -- those that are not there yet
            have hD3 := s3 _ _ hD2
            refine ⟨_, rfl, G, rfl, ⟨_, SqL.of hG⟩, fun G2 nG2 => lc_list (K := K) (a := G) (xs := (spares z).map V.str) (fun j H4 => Same H3 H4 ∧ H4 G2 = some (.lst ((((spares z).take j).filter (fun o => decide (o ∉ ws))).map V.str))) ⟨same_upd nG2, upd_same⟩ (fun j H4 _ h4 => h4.1.seq (SqL.of hG)) ?_ ?_⟩
            · rintro j x H4 hj ⟨s4, hG2⟩
              obtain ⟨o, ho, rfl⟩ := map_get hj
              have hD4 := s4 _ _ hD3
              refine ⟨rfl, _, rfl, _, rfl, D, _, rfl, .inl (SqL.of hD4), rfl, flat_strsB _, _, rfl, ?_⟩
              rw [inV_strs]
              have ht : ((spares z).take (j + 1)).filter (fun o => decide (o ∉ ws)) = ((spares z).take j).filter (fun o => decide (o ∉ ws)) ++ if o ∈ ws then [] else [o] := by
                rw [take_more ho, List.filter_append]
                by_cases h : o ∈ ws <;> simp [List.filter, h]
              refine ite2 (fun h2 => ?_) (fun h2 => ?_)
              · have h2 : o ∉ ws := by simpa using h2
                refine ⟨_, rfl, _, hG2, ?_, fun b' o' e => ?_, ?_⟩
                · rw [List.length_map]
                  refine small1000 (Nat.le_trans (List.length_filter_le _ _) ?_)
                  rw [List.length_take]
                  unfold spares
                  rw [List.length_map, List.length_range]
                  omega
                · rw [upd_ne (ne_of_none e nG2)]
                  exact s4 b' o' e
                · rw [upd_same, ht, if_neg h2, List.map_append]
                  rfl
              · have h2 : o ∈ ws := by simpa using h2
                refine ⟨s4, ?_⟩
                rw [ht, if_pos h2, List.append_nil]
                exact hG2
            · rintro H4 ⟨s4, hG2⟩
              rw [List.length_map, List.take_length] at hG2
              obtain ⟨y, r, e⟩ := spare_some (z := z) (ws := ws) (by omega)
              have hy : y ∈ (spares z).filter (fun o => decide (o ∉ ws)) := by rw [e]; exact List.mem_cons_self ..
              rw [e] at hG2
              obtain ⟨hy1, hy2⟩ := List.mem_filter.mp hy
              refine ⟨_, rfl, G2, _, _, _, rfl, rfl, SqL.of hG2, atI_nat (j := 0) (v := V.str y) rfl, ?_⟩
              exact ⟨y, _, rfl, spares_wd hz hy1, of_decide_eq_true hy2, (sm2.same s3).same s4, s4 _ _ hD3⟩
        · have h1 : z ∉ ws := by simpa using h1
          exact ⟨z, _, rfl, hz, h1, sm2, hD2⟩
      · rintro σ' H3 ⟨z', y3, rfl, hz', hni, sm3, hD3⟩
        refine ⟨_, rfl, .inl ⟨rfl, _, SqL.of hD3⟩, _, rfl, D, _, _, rfl, rfl, hD3, ?_, ?_⟩
        · rw [List.length_map]
          exact small1000 (by omega)
        · refine ⟨ws ++ [z'], _, _, _, rfl, by rw [List.length_append, hl]; rfl, ?_, fun x hx => ?_, sm3.mut nD, ?_⟩
          · rw [List.nodup_append]
            refine ⟨hn, by simp, fun a ha c hc e => hni ?_⟩
            rw [← List.mem_singleton.mp hc, ← e]
            exact ha
          · rcases List.mem_append.mp hx with h | h
            · exact hw x h
            · rw [List.mem_singleton.mp h]
              exact hz'
          · rw [upd_same, List.map_append]
            rfl
    · rintro σ H' ⟨ws, y1, y2, y3, rfl, hl, hn, hw, sm, hD⟩
      exact ⟨_, rfl, q D ws H' hl hn hw nD sm hD⟩
end
section
def SameR (r q : SRow) : Prop := ∀ y, y ∈ r.2.1 ↔ y ∈ q.2.1
def JoinRw (srs : List SRow) : Prop := ∀ A : SRow → Prop, (∀ r ∈ srs, ∀ q ∈ srs, SameR r q → A r → A q) → (∃ r ∈ srs, A r) → (∃ q ∈ srs, ¬ A q) → ∃ r ∈ srs, A r ∧ ∃ q ∈ srs, ¬ A q ∧ ∃ y, y ∈ r.2.2 ∧ y ∈ q.2.1
theorem JoinRw.perm {a b : List SRow} (h : JoinRw a) (p : ∀ x, x ∈ b ↔ x ∈ a) : JoinRw b := fun A cls ⟨r, hr, ar⟩ ⟨q, hq, nq⟩ => by
  obtain ⟨r, hr, ar, q, hq, nq, y⟩ := h A (fun r hr q hq => cls r ((p r).mpr hr) q ((p q).mpr hq)) ⟨r, (p r).mp hr, ar⟩ ⟨q, (p q).mp hq, nq⟩
  exact ⟨r, (p r).mpr hr, ar, q, (p q).mpr hq, nq, y⟩
def GQ (srs : List SRow) : Prop := (∃ gs : List (List Str), gs.length ≤ 6 ∧ ∀ r ∈ srs, r.2.1 ∈ gs) ∨ JoinRw srs
end
section
variable {P : Program} {w : World} {K : PySem.W.Frag} {mg : Str → Option Value} {base : Heap}
theorem wordsG {k : Nat} {ps : List Str} (D : Def P w K mg base CX0 k "_law_words" ps spWords) : Def P w K mg base CX0 k "_law_words" ps (spC (preB preWords)) := D.imp fun vs H Q E ⟨F, qs, Θ, out, err, fh, ca, hps, ⟨b, l, qs', o, e1, e2, ⟨many, e3, hm, e4⟩, e5, e6⟩, post, _⟩ => by
  subst e1 e2 e3 e4 e5 e6
  obtain ⟨fb, hc⟩ := ca.2 _ (List.mem_singleton.mpr rfl)
  cases hps with
  | cons h1 hp => cases hp with
    | cons h2 hp => cases hp with
      | nil =>
        have h1 : _ = V.ref b := h1
        have h2 : _ = V.int many := h2
        subst h1 h2
        obtain ⟨o, hb, hφ⟩ := id hc
        refine ⟨b, l, many, rfl, hm, box_of hb hφ fh fb, fun p ws H' hl hn hw np bx hp => ?_⟩
        exact post _ _ ⟨⟨ws, hl, hn, hw, rfl⟩, rfl⟩ _ _ H' (eff_box fh fb hc bx) ⟨p, _, rfl, newB_at (fun e => by rw [e] at np; rw [show H b = some o from hb] at np; cases np) np hp, strs_pvs fun z hz => (hw z hz).asc⟩
theorem nat_of {n : Int} (h : 0 ≤ n) : ∃ m : Nat, n = m := ⟨n.toNat, by omega⟩
abbrev s__law_pick : Stmt := topS 56
theorem sc__law_pick : FnScope ["_law_box_here", "_law_words_here", "_law_least", "_law_chosen", "_law_word_here"] ["_law_box_here", "_law_words_here", "_law_least"] (defScope s__law_pick) := ⟨rfl, rfl, rfl, by decide +kernel, rfl, by decide +kernel, by decide +kernel⟩
def prePick : PreB := fun qs o => ∃ (us : List Str) (least : Int), qs = [iz (zL zS) us, iz zI least] ∧ us ≠ [] ∧ us.Nodup ∧ us.length ≤ 30 ∧ least ≤ 1 ∧ o = fun p => ∃ cs : List Str, cs.Nodup ∧ (∀ y ∈ cs, y ∈ us) ∧ (least = 1 → cs ≠ []) ∧ cs.length ≤ 30 ∧ p = iz (zL zS) cs
theorem ok_pickG {k : Nat} (B : Bl mg) (D__law_next : Def P w K mg base CX0 k "_law_next" ["_law_box_here", "_law_many"] spNext) (F : Src K mg "_law_pick" s__law_pick ["_law_box_here", "_law_words_here", "_law_least"]) : Def P w K mg base CX0 (k + 1) "_law_pick" ["_law_box_here", "_law_words_here", "_law_least"] (spC (preB prePick)) := by
  refine F.okB sc__law_pick (fun qs o ⟨_, _, h, _⟩ => by rw [h]; rfl) (fun f cdv A outer s H E b l qs o hr hq => ?_)
  obtain ⟨us, least, rfl, une, und, ul, l1, rfl⟩ := hq
  refine ⟨_, (pss_cons (ps_asg (pe_lst pa_nil) (pg_name (i := 3) sc__law_pick.nd rfl (Or.inl rfl)))
 (pss_cons (ps_for PassesOwn.never rfl (kpi_list (K := K) (pv 1)) (pg_name (i := 4) sc__law_pick.nd rfl (Or.inl rfl)) (pss_one (ps_if (pt_cmpR op_eq (pe_def D__law_next hr pass0 (pa_cons (pv 0) (pa_cons pe_int pa_nil))) pe_int (nomark _)) (pss_one (ps_expr (pe_bm PySem.F.plainAttrs_list PySem.F.slot_list_append PySem.F.type_list_append mt_append (pv 3) (pa_cons (pv 4) pa_nil)))) pss_nil)))
 (pss_cons (ps_if (pt_cmpR op_lt (pe_callB (kcall_len (K := K)) (by rfl) B.len PySem.boot_len (pa_cons (pv 3) pa_nil)) (pv 2) (nomark _)) (pss_one (ps_asg (pe_lst (pa_cons (pe_ix (kix_list (K := K)) (pv 1) (pe_def D__law_next hr pass0 (pa_cons (pv 0) (pa_cons (pe_callB (kcall_len (K := K)) (by rfl) B.len PySem.boot_len (pa_cons (pv 1) pa_nil)) pa_nil))) (fun _ _ => rfl)) pa_nil)) (pg_name (i := 3) sc__law_pick.nd rfl (Or.inl rfl)))) pss_nil)
 (pss_one (ps_ret (pv 3)))))), fun fr Q hret => ?_⟩
  ac_rfl
  refine we_nil zS fun a => ?_
  ac_rfl
  refine kn_forS (S := List Str) (r := zS) (xs := us) (fun _ => [some (zAt b), some (iz (zL zS) us), some (iz zI least), some (zAt a), none]) (fun cs => [cL a zS cs, cBox true b l]) (fun i cs => cs.Sublist (us.take i)) [] ?_ ?_ (List.nil_sublist _) (fun x s => tg_name) (fun fr' le i z cs hi hP => ?_) (fun cs hP => ?_)
  · ac_rfl
  · and_intros
  · have hcl : cs.length ≤ 30 := Nat.le_trans hP.length_le (by rw [List.length_take]; omega)
    subst_vars
    ac_rfl
    refine sps_next (.tail _ (.head _)) (by decide) (by decide) fun n h0 h1 => ?_
    ac_rfl
    refine ⟨fun h => ?_, fun h => ?_⟩
    · refine kn_append rfl (.head _) ?_
      ac_rfl
      refine ⟨_, 0, rfl, rfl, by omega, ?_⟩
      subst_vars
      refine kn_back (cs ++ [z]) ?_ ?_ rfl
      · and_intros
      · rw [take_more hi]
        exact hP.append (List.Sublist.refl _)
    · refine kn_back cs ?_ ?_ rfl
      · and_intros
      · rw [take_more hi]
        exact List.Sublist.trans hP (List.sublist_append_left _ _)
  · rw [List.take_length] at hP
    have hcl : cs.length ≤ 30 := Nat.le_trans hP.length_le ul
    ac_rfl
    refine cb_len (seq_C (.head _)) ?_
    ac_rfl
    refine ⟨fun h => ?_, fun h => ?_⟩
    · ac_rfl
      refine we_lst (r := zS) ?_
      ac_rfl
      refine sps_next (.tail _ (.head _)) ?_ (by omega) fun n h0 h1 => ?_
      · have := List.length_pos_iff.mpr une
        omega
      obtain ⟨m, rfl⟩ := nat_of h0
      have hm : m < us.length := by omega
      refine ops_ixL (x := us[m]) (atI_nat (List.getElem?_eq_getElem hm)) ?_
      ac_rfl
      refine ⟨[us[m]], rfl, by simp, ?_⟩
      subst_vars
      ac_rfl
      exact hret _ ⟨[us[m]], by simp, fun y hy => by rw [List.mem_singleton.mp hy]; exact List.getElem_mem hm, fun _ => by simp, by simp, rfl⟩ _ (.tail _ (.head _))
    · have h := of_decide_eq_false h
      ac_rfl
      exact rt_frz0 (hret _ ⟨cs, hP.nodup und, fun y hy => hP.subset hy, fun e q => h (by rw [q, e]; decide), hcl, rfl⟩ _ (.head _))
abbrev s__law_any : Stmt := topS 57
theorem sc__law_any : FnScope ["_law_box_here", "_law_words_here", "_law_places", "_law_word_here", "_law_steps_here", "_law_taken"] ["_law_box_here"] (defScope s__law_any) := ⟨rfl, rfl, rfl, by decide +kernel, rfl, by decide +kernel, by decide +kernel⟩
abbrev zRows : Rep (List (Str × Int) × List SRow) := z2 (zL (z2 zS zI)) (zL (z3 zS (zL zS) (zL zS)))
/-- a good row over the words ws -/
def RowG (ws : List Str) (r : SRow) : Prop := Wd r.1 ∧ r.2.1 ≠ [] ∧ r.2.1.Nodup ∧ (∀ y ∈ r.2.1, y ∈ ws) ∧ r.2.2.Nodup ∧ (∀ y ∈ r.2.2, y ∈ ws)
def preGR : PreB := fun qs o => qs = [] ∧ o = fun p => ∃ prs srs, GoodRows prs srs ∧ GQ srs ∧ p = iz zRows (prs, srs)
theorem ok_anyG {k : Nat} (B : Bl mg) (D__law_next : Def P w K mg base CX0 k "_law_next" ["_law_box_here", "_law_many"] spNext) (D__law_words : Def P w K mg base CX0 k "_law_words" ["_law_box_here", "_law_many"] (spC (preB preWords)))
    (D__law_pick : Def P w K mg base CX0 k "_law_pick" ["_law_box_here", "_law_words_here", "_law_least"] (spC (preB prePick))) (F : Src K mg "_law_any" s__law_any ["_law_box_here"]) : Def P w K mg base CX0 (k + 1) "_law_any" ["_law_box_here"] (spC (preB preGR)) := by
  refine F.okB sc__law_any (fun qs o ⟨h, _⟩ => by rw [h]; rfl) (fun f cdv A outer s H E b l qs o hr hq => ?_)
  obtain ⟨rfl, rfl⟩ := hq
  refine ⟨_, (pss_cons (ps_asg (pe_def D__law_words hr pass0 (pa_cons (pv 0) (pa_cons (pe_op op_add pe_int (pe_def D__law_next hr pass0 (pa_cons (pv 0) (pa_cons pe_int pa_nil)))) pa_nil))) (pg_name (i := 1) sc__law_any.nd rfl (Or.inl rfl)))
 (pss_cons (ps_asg (pe_lst pa_nil) (pg_name (i := 2) sc__law_any.nd rfl (Or.inl rfl)))
 (pss_cons (ps_for PassesOwn.never rfl (kpi_list (K := K) (pv 1)) (pg_name (i := 3) sc__law_any.nd rfl (Or.inl rfl)) (pss_one (ps_expr (pe_bm PySem.F.plainAttrs_list PySem.F.slot_list_append PySem.F.type_list_append mt_append (pv 2) (pa_cons (pe_tup (pa_cons (pv 3) (pa_cons (pe_def D__law_next hr pass0 (pa_cons (pv 0) (pa_cons pe_int pa_nil))) pa_nil))) pa_nil)))))
 (pss_cons (ps_asg (pe_lst pa_nil) (pg_name (i := 4) sc__law_any.nd rfl (Or.inl rfl)))
 (pss_cons (ps_for PassesOwn.never rfl (kpi_list (K := K) (pe_def D__law_words hr pass0 (pa_cons (pv 0) (pa_cons (pe_op op_add pe_int (pe_def D__law_next hr pass0 (pa_cons (pv 0) (pa_cons pe_int pa_nil)))) pa_nil)))) (pg_name (i := 3) sc__law_any.nd rfl (Or.inl rfl)) (pss_cons (ps_asg (pe_def D__law_pick hr pass0 (pa_cons (pv 0) (pa_cons (pv 1) (pa_cons pe_int pa_nil)))) (pg_name (i := 5) sc__law_any.nd rfl (Or.inl rfl)))
 (pss_one (ps_expr (pe_bm PySem.F.plainAttrs_list PySem.F.slot_list_append PySem.F.type_list_append mt_append (pv 4) (pa_cons (pe_tup (pa_cons (pv 3) (pa_cons (pv 5) (pa_cons (pe_def D__law_pick hr pass0 (pa_cons (pv 0) (pa_cons (pv 1) (pa_cons pe_int pa_nil)))) pa_nil)))) pa_nil))))))
 (pss_one (ps_ret (pe_tup (pa_cons (pv 2) (pa_cons (pv 4) pa_nil)))))))))), fun fr Q hret => ?_⟩
  ac_rfl
  refine sps_next (.head _) (by decide) (by decide) fun n h0 h1 => ?_
  obtain ⟨m, rfl⟩ := nat_of h0
  ac_rfl
  rw [show (1 : Int) + m = ((m + 1 : Nat) : Int) by omega]
  refine sps_B (.head _) ⟨_, rfl, by omega, rfl⟩ fun p ⟨ws, wl, wn, ww, hp⟩ => ?_
  subst hp
  ac_rfl
  refine we_nil (z2 zS zI) fun a => ?_
  ac_rfl
  refine kn_forS (S := List (Str × Int)) (r := zS) (xs := ws) (fun _ => [some (zAt b), some (iz (zL zS) ws), some (zAt a), none, none, none]) (fun prs => [cL a (z2 zS zI) prs, cBox true b l]) (fun i prs => prs.map (·.1) = ws.take i ∧ ∀ r ∈ prs, 0 ≤ r.2 ∧ r.2 ≤ 2) [] ?_ ?_ ⟨rfl, fun r hr => by cases hr⟩ (fun x s => tg_name) (fun fr' le i z prs hi hP => ?_) (fun prs hP => ?_)
  · ac_rfl
  · and_intros
  · have hpl : prs.length ≤ 30 := by
      have := congrArg List.length hP.1
      rw [List.length_map, List.length_take] at this
      omega
    subst_vars
    refine kn_append rfl (.head _) ?_
    refine we_tup ?_
    ac_rfl
    refine sps_next (.tail _ (.head _)) (by decide) (by decide) fun n2 h2 h3 => ?_
    ac_rfl
    refine ⟨by simp, _, tr2, _, 0, rfl, rfl, by omega, ?_⟩
    subst_vars
    refine kn_back (prs ++ [(z, n2)]) ?_ ⟨?_, ?_⟩ rfl
    · and_intros
    · rw [List.map_append, take_more hi, hP.1]; rfl
    · intro r hr5
      rcases List.mem_append.mp hr5 with h | h
      · exact hP.2 r h
      · rw [List.mem_singleton.mp h]
        exact ⟨h2, by show n2 ≤ 2; omega⟩
  · obtain ⟨hp1, hp2⟩ := hP
    rw [List.take_length] at hp1
    ac_rfl
    refine we_nil (z3 zS (zL zS) (zL zS)) fun c => ?_
    bv_omega
    refine kn_forN (r := zS) (A := fun ns Θ1 => ns.Nodup ∧ (∀ z ∈ ns, Wd z) ∧ 1 ≤ ns.length ∧ ns.length ≤ 6 ∧ Θ1 = [cL c (z3 zS (zL zS) (zL zS)) [], cL a (z2 zS zI) prs, cBox true b l]) ?_ (fun ns Θ1 ⟨nn, nw, n1, n6, hΘ⟩ fr2 wi' le2 hwi => ?_)
    · ac_rfl
      refine sps_next (.tail _ (.tail _ (.head _))) (by decide) (by decide) fun n2 h2 h3 => ?_
      obtain ⟨m2, rfl⟩ := nat_of h2
      ac_rfl
      rw [show (1 : Int) + m2 = ((m2 + 1 : Nat) : Int) by omega]
      refine sps_B (.tail _ (.tail _ (.head _))) ⟨_, rfl, by omega, rfl⟩ fun p ⟨ns, nl, nn, nw, hp⟩ => ?_
      subst hp
      exact ⟨_, _, ns, rfl, ns, rfl, nn, nw, by omega, by omega, rfl⟩
    subst hΘ
    refine kn_forS (S := List SRow) (r := zS) (xs := ns) (fun _ => [some (zAt b), some (iz (zL zS) ws), some (zAt a), none, some (zAt c), none]) (fun srs => [cL c (z3 zS (zL zS) (zL zS)) srs, cL a (z2 zS zI) prs, cBox true b l]) (fun i srs => srs.map (·.1) = ns.take i ∧ ∀ r ∈ srs, RowG ws r) [] hwi ?_ ⟨rfl, fun r hr => by cases hr⟩ (fun x s => tg_name) (fun fr' le i z srs hi hP => ?_) (fun srs hP => ?_)
    · and_intros
    · have hsl : srs.length ≤ 6 := by
        have := congrArg List.length hP.1
        rw [List.length_map, List.length_take] at this
        omega
      have wne : ws ≠ [] := fun q => by rw [q] at wl; cases wl
      subst_vars
      ac_rfl
      refine sps_B (.tail _ (.tail _ (.head _))) ⟨ws, 1, rfl, wne, wn, by omega, by decide, rfl⟩ fun p ⟨tk, t1, t2, t3, t4, hp⟩ => ?_
      subst hp
      subst_vars
      refine kn_append rfl (.head _) ?_
      refine we_tup ?_
      ac_rfl
      refine sps_B (.tail _ (.tail _ (.head _))) ⟨ws, 0, rfl, wne, wn, by omega, by decide, rfl⟩ fun p ⟨gv, g1, g2, g3, g4, hp⟩ => ?_
      subst hp
      ac_rfl
      refine ⟨by simp, _, tr3, _, 0, rfl, rfl, by omega, ?_⟩
      subst_vars
      refine kn_back (srs ++ [(z, tk, gv)]) ?_ ⟨?_, ?_⟩ rfl
      · and_intros
      · rw [List.map_append, take_more hi, hP.1]; rfl
      · intro r hr5
        rcases List.mem_append.mp hr5 with h | h
        · exact hP.2 r h
        · rw [List.mem_singleton.mp h]
          exact ⟨nw z (List.mem_of_getElem? hi), t3 rfl, t1, t2, g1, g2⟩
    · obtain ⟨hs1, hs2⟩ := hP
      rw [List.take_length] at hs1
      have good : GoodRows prs srs := by
        have lp : prs.length = ws.length := by rw [← hp1, List.length_map]
        have ls : srs.length = ns.length := by rw [← hs1, List.length_map]
        refine ⟨fun r hr5 => ⟨ww _ (by rw [← hp1]; exact List.mem_map.mpr ⟨r, hr5, rfl⟩), hp2 r hr5⟩, by rw [hp1]; exact wn, fun r hr5 => by rw [hp1]; exact hs2 r hr5, by rw [hs1]; exact nn, by omega, by omega, by omega, by omega⟩
      refine kn_frz (i := 4) (j := 0) rfl rfl ?_
      subst_vars
      refine kn_frz (i := 2) (j := 0) rfl rfl ?_
      subst_vars
      refine kn_ret (we_tup ?_)
      ac_rfl
      exact ⟨by simp, _, tr2, (hret.fine le2) _ ⟨prs, srs, good, .inl ⟨srs.map (·.2.1), by
        have ls : srs.length = ns.length := by rw [← hs1, List.length_map]
        rw [List.length_map]
        omega, fun r hr => List.mem_map.mpr ⟨r, hr, rfl⟩⟩, rfl⟩ _ (.head _)⟩
end
section
variable {P : Program} {w : World} {K : PySem.W.Frag} {mg : Str → Option Value} {base : Heap}
abbrev s__law_free : Stmt := topS 58
theorem sc__law_free : FnScope ["_law_box_here", "_law_words_here", "_law_places", "_law_groups_here", "_law_word_here", "_law_group", "_law_names", "_law_steps_here", "_law_turn"] ["_law_box_here"] (defScope s__law_free) := ⟨rfl, rfl, rfl, by decide +kernel, rfl, by decide +kernel, by decide +kernel⟩
theorem ok_freeG {k : Nat} (B : Bl mg) (D__law_next : Def P w K mg base CX0 k "_law_next" ["_law_box_here", "_law_many"] spNext) (D__law_words : Def P w K mg base CX0 k "_law_words" ["_law_box_here", "_law_many"] (spC (preB preWords)))
    (D__law_pick : Def P w K mg base CX0 k "_law_pick" ["_law_box_here", "_law_words_here", "_law_least"] (spC (preB prePick))) (F : Src K mg "_law_free" s__law_free ["_law_box_here"]) : Def P w K mg base CX0 (k + 1) "_law_free" ["_law_box_here"] (spC (preB preGR)) := by
  refine F.okB sc__law_free (fun qs o ⟨h, _⟩ => by rw [h]; rfl) (fun f cdv A outer s H E b l qs o hr hq => ?_)
  obtain ⟨rfl, rfl⟩ := hq
  refine ⟨_, (pss_cons (ps_asg (pe_def D__law_words hr pass0 (pa_cons (pv 0) (pa_cons (pe_op op_add pe_int (pe_def D__law_next hr pass0 (pa_cons (pv 0) (pa_cons pe_int pa_nil)))) pa_nil))) (pg_name (i := 1) sc__law_free.nd rfl (Or.inl rfl)))
 (pss_cons (ps_asg (pe_lst pa_nil) (pg_name (i := 2) sc__law_free.nd rfl (Or.inl rfl)))
 (pss_cons (ps_setLc (i := 3) (own := [("_law_word_here", 4)]) (g := gName 4) (by rfl) sc__law_free.nd rfl rfl (sw_true rfl rfl rfl (by decide +kernel)) (kpi_list (K := K) (pv 1)) (blkOk_by (N := ["_law_box_here", "_law_words_here", "_law_places", "_law_groups_here", "_law_word_here", "_law_group", "_law_names", "_law_steps_here", "_law_turn"]) (sc := defScope s__law_free) (by decide +kernel)) (fun _ _ _ _ _ => (pg_name (i := 4) sc__law_free.nd rfl (Or.inl rfl))) (fun _ _ _ _ _ => pts_nil) (fun _ _ _ _ _ => (pe_lst pa_nil)))
 (pss_cons (ps_for PassesOwn.never rfl (kpi_list (K := K) (pv 1)) (pg_name (i := 4) sc__law_free.nd rfl (Or.inl rfl)) (pss_cons (ps_expr (pe_bm PySem.F.plainAttrs_list PySem.F.slot_list_append PySem.F.type_list_append mt_append (pv 2) (pa_cons (pe_tup (pa_cons (pv 4) (pa_cons (pe_def D__law_next hr pass0 (pa_cons (pv 0) (pa_cons pe_int pa_nil))) pa_nil))) pa_nil)))
 (pss_cons (ps_asg (pe_ix (kix_list (K := K)) (pv 3) (pe_def D__law_next hr pass0 (pa_cons (pv 0) (pa_cons (pe_callB (kcall_len (K := K)) (by rfl) B.len PySem.boot_len (pa_cons (pv 1) pa_nil)) pa_nil))) (fun _ _ => rfl)) (pg_name (i := 5) sc__law_free.nd rfl (Or.inl rfl)))
 (pss_one (ps_expr (pe_bm PySem.F.plainAttrs_list PySem.F.slot_list_append PySem.F.type_list_append mt_append (pv 5) (pa_cons (pv 4) pa_nil)))))))
 (pss_cons (ps_asg (pe_def D__law_words hr pass0 (pa_cons (pv 0) (pa_cons pe_int pa_nil))) (pg_name (i := 6) sc__law_free.nd rfl (Or.inl rfl)))
 (pss_cons (ps_asg (pe_lst pa_nil) (pg_name (i := 7) sc__law_free.nd rfl (Or.inl rfl)))
 (pss_cons (ps_for PassesOwn.never rfl (kpi_list (K := K) (pv 3)) (pg_name (i := 5) sc__law_free.nd rfl (Or.inl rfl)) (pss_one (ps_if (pt_cmpR (kop_neD (K := K) hr.units) (pv 5) (pe_lst pa_nil) (nomark _)) (pss_one (ps_for PassesOwn.never rfl (pi_range1 (by rfl) B.range (pa_cons (pe_op op_add pe_int (pe_def D__law_next hr pass0 (pa_cons (pv 0) (pa_cons pe_int pa_nil)))) pa_nil)) (pg_name (i := 8) sc__law_free.nd rfl (Or.inl rfl)) (pss_one (ps_expr (pe_bm PySem.F.plainAttrs_list PySem.F.slot_list_append PySem.F.type_list_append mt_append (pv 7) (pa_cons (pe_tup (pa_cons (pe_ix (kix_list (K := K)) (pv 6) (pe_callB (kcall_len (K := K)) (by rfl) B.len PySem.boot_len (pa_cons (pv 7) pa_nil)) (fun _ _ => rfl)) (pa_cons (pe_callTy (kcall_list (K := K)) (by rfl) B.list' (by decide +kernel) (pa_cons (pv 5) pa_nil)) (pa_cons (pe_def D__law_pick hr pass0 (pa_cons (pv 0) (pa_cons (pv 1) (pa_cons pe_int pa_nil)))) pa_nil)))) pa_nil)))))) pss_nil)))
 (pss_one (ps_ret (pe_tup (pa_cons (pv 2) (pa_cons (pv 7) pa_nil)))))))))))), fun fr Q hret => ?_⟩
  ac_rfl
  refine sps_next (.head _) (by decide) (by decide) fun n h0 h1 => ?_
  obtain ⟨m, rfl⟩ := nat_of h0
  ac_rfl
  rw [show (1 : Int) + m = ((m + 1 : Nat) : Int) by omega]
  refine sps_B (.head _) ⟨_, rfl, by omega, rfl⟩ fun p ⟨ws, wl, wn, ww, hp⟩ => ?_
  subst hp
  ac_rfl
  refine we_nil (z2 zS zI) fun a => ?_
  subst_vars
  bv_omega
  bv_omega
  refine we_lcNil zS (r := zS) (xs := ws) ?_ (by omega) (fun x => tg_name) fun G ga lga => ?_
  · ac_rfl
  subst_vars
  refine Kn.perm (Θ' := cL a (z2 zS zI) [] :: cL G zRef ga :: (cells zS ga (List.replicate ws.length []) ++ [cBox true b l])) ?_ ?_
  rotate_left
  · exact (List.Perm.cons _ List.perm_middle).trans (.swap _ _ _)
  bv_omega
  refine kn_forS (S := List (Str × Int) × List (List Str)) (r := zS) (xs := ws) (fun _ => [some (zAt b), some (iz (zL zS) ws), some (zAt a), some (zAt G), none, none, none, none, none]) (fun s => cL a (z2 zS zI) s.1 :: cL G zRef ga :: (cells zS ga s.2 ++ [cBox true b l]))
    (fun i s => s.1.map (·.1) = ws.take i ∧ (∀ r ∈ s.1, 0 ≤ r.2 ∧ r.2 ≤ 2) ∧ s.2.length = ws.length ∧ (∀ g ∈ s.2, g.Nodup ∧ g.length ≤ i ∧ ∀ y ∈ g, y ∈ ws.take i) ∧ (1 ≤ i → ∃ g ∈ s.2, g ≠ [])) ([], List.replicate ws.length []) ?_ ?_ ⟨rfl, (fun r hr => by cases hr), by rw [List.length_replicate], (fun g hg => by rw [(List.mem_replicate.mp hg).2]; exact ⟨List.nodup_nil, Nat.zero_le _, fun y hy => by cases hy⟩), fun h => by cases h⟩ (fun x s => tg_name) (fun fr' le i z s hi hP => ?_) (fun s hP => ?_)
  · ac_rfl
  · and_intros
  · obtain ⟨prs, gs⟩ := s
    obtain ⟨hp1, hp2, lgs, hgs, hne⟩ := hP
    dsimp only at hp1 hp2 lgs hgs hne
    have hil : i < ws.length := (List.getElem?_eq_some_iff.mp hi).1
    have hpl : prs.length ≤ 5 := by
      have := congrArg List.length hp1
      rw [List.length_map, List.length_take] at this
      omega
    have hz : z ∉ ws.take i := fun q => by
      have e : ws = ws.take i ++ z :: ws.drop (i + 1) := by rw [← drop_at hi, List.take_append_drop]
      have := wn
      rw [e, List.nodup_append] at this
      exact this.2.2 _ q _ (List.mem_cons_self ..) rfl
    subst_vars
    bv_omega
    refine kn_append rfl (.head _) ?_
    refine we_tup ?_
    have hbx : ∀ {c d : Cel} {Θ : List Cel}, cBox true b l ∈ c :: d :: (Θ ++ [cBox true b l]) := fun {c d Θ} => .tail _ (.tail _ (List.mem_append_right _ (.head _)))
    ac_rfl
    refine sps_next hbx (by decide) (by decide) fun n2 h2 h3 => ?_
    ac_rfl
    refine ⟨by simp, _, tr2, _, 0, rfl, rfl, by omega, ?_⟩
    subst_vars
    ac_rfl
    refine sps_next hbx (by omega) (by omega) fun n3 h4 h5 => ?_
    obtain ⟨j, rfl⟩ := nat_of h4
    have hj : j < ws.length := by omega
    obtain ⟨aj, haj⟩ : ∃ aj, ga[j]? = some aj := ⟨ga[j]'(by omega), List.getElem?_eq_getElem _⟩
    obtain ⟨g, hgj⟩ : ∃ g, gs[j]? = some g := ⟨gs[j]'(by omega), List.getElem?_eq_getElem _⟩
    obtain ⟨q1, q2, q3⟩ := hgs g (List.mem_of_getElem? hgj)
    refine ops_ixC (.tail _ (.head _)) (atI_nat haj) ?_
    subst_vars
    have hcell : (cells zS ga gs ++ [cBox true b l])[j]? = some (cL aj zS g) := by
      rw [List.getElem?_append_left (by unfold cells; rw [List.length_map, List.length_zip]; omega)]
      exact cells_get haj hgj
    refine kn_append (a := aj) (r := zS) (xs := g) rfl (.tail _ (.tail _ (List.mem_of_getElem? hcell))) ?_
    ac_rfl
    refine ⟨_, j + 2, rfl, hcell, by omega, ?_⟩
    refine kn_back (prs ++ [(z, n2)], gs.set j (g ++ [z])) ?_ ⟨?_, ?_, ?_, ?_, ?_⟩ ?_
    · and_intros
    · rw [List.map_append, take_more hi, hp1]; rfl
    · intro r hr5
      rcases List.mem_append.mp hr5 with h | h
      · exact hp2 r h
      · rw [List.mem_singleton.mp h]
        exact ⟨h2, by show n2 ≤ 2; omega⟩
    · rw [List.length_set]; exact lgs
    · intro g' hg'
      rw [take_more hi]
      rcases List.mem_or_eq_of_mem_set hg' with h | h
      · obtain ⟨c1, c2, c3⟩ := hgs g' h
        exact ⟨c1, by omega, fun y hy => List.mem_append_left _ (c3 y hy)⟩
      · rw [h]
        refine ⟨nodup_snoc q1 fun hm => hz (q3 z hm), by rw [List.length_append]; show _ + 1 ≤ _; omega, fun y hy => ?_⟩
        rcases List.mem_append.mp hy with h | h
        · exact List.mem_append_left _ (q3 y h)
        · exact List.mem_append_right _ h
    · intro _
      exact ⟨g ++ [z], List.mem_of_getElem? (List.getElem?_set_self (by omega)), by simp⟩
    · dsimp only
      show cL a (z2 zS zI) (prs ++ [(z, n2)]) :: cL G zRef ga :: (cells zS ga gs ++ [cBox true b l]).set j (cL aj zS (g ++ [z])) = _
      rw [List.set_append_left _ _ (by unfold cells; rw [List.length_map, List.length_zip]; omega), cells_set haj]
  · obtain ⟨prs, gs⟩ := s
    obtain ⟨hp1, hp2, lgs, hgs, hne⟩ := hP
    dsimp only at hp1 hp2 lgs hgs hne
    rw [List.take_length] at hp1
    have hne := hne (by omega)
    subst_vars
    refine kn_frzN (i := 3) (r := zS) (G := G) (ga := ga) (ls := gs) (Θ' := [cL a (z2 zS zI) prs, cBox true b l]) rfl ?_ (by rw [lga, lgs]) ?_
    · refine (List.Perm.swap _ _ _).trans ?_
      refine (List.Perm.cons _ ((List.perm_middle (a := cL a (z2 zS zI) prs) (l₁ := cells zS ga gs) (l₂ := [cBox true b l])).symm)).trans ?_
      exact List.perm_middle.symm
    subst_vars
    ac_rfl
    refine sps_B (.tail _ (.head _)) ⟨10, rfl, by decide, rfl⟩ fun p ⟨ns, nl, nn, nw, hp⟩ => ?_
    subst hp
    ac_rfl
    refine we_nil (z3 zS (zL zS) (zL zS)) fun c => ?_
    subst_vars
    bv_omega
    have wne : ws ≠ [] := fun q => by rw [q] at wl; cases wl
    refine kn_forS (S := List SRow) (r := zL zS) (xs := gs) (fun _ => [some (zAt b), some (iz (zL zS) ws), some (zAt a), none, none, none, some (iz (zL zS) ns), some (zAt c), none]) (fun srs => [cL c (z3 zS (zL zS) (zL zS)) srs, cL a (z2 zS zI) prs, cBox true b l])
      (fun i srs => srs.map (·.1) = ns.take srs.length ∧ srs.length ≤ 2 * i ∧ (∀ r ∈ srs, RowG ws r ∧ r.2.1 ∈ gs) ∧ ((∃ g ∈ gs.take i, g ≠ []) → 1 ≤ srs.length)) [] ?_ ?_ ⟨rfl, Nat.zero_le _, (fun r hr => by cases hr), fun ⟨g, hg, _⟩ => by cases hg⟩ (fun x s => tg_name) (fun fr' le i g srs hi hP => ?_) (fun srs hP => ?_)
    · ac_rfl
    · and_intros
    · obtain ⟨hs1, hs2, hs3, hs4⟩ := hP
      have hig : i < gs.length := (List.getElem?_eq_some_iff.mp hi).1
      obtain ⟨q1, q2, q3⟩ := hgs g (List.mem_of_getElem? hi)
      rw [List.take_length] at q3
      subst_vars
      ac_rfl
      refine we_nilF zS ?_
      ac_rfl
      refine ⟨fun h => ?_, fun h => ?_⟩
      · have hgne : g ≠ [] := fun q => by rw [q] at h; simp at h
        refine kn_forN (r := zI) (A := fun ks Θ1 => 1 ≤ ks.length ∧ ks.length ≤ 2 ∧ Θ1 = [cL c (z3 zS (zL zS) (zL zS)) srs, cL a (z2 zS zI) prs, cBox true b l]) ?_ (fun ks Θ1 ⟨k1, k2, hΘ⟩ fr2 wi' le2 hwi => ?_)
        · ac_rfl
          refine sps_next (.tail _ (.tail _ (.head _))) (by decide) (by decide) fun n2 h2 h3 => ?_
          ac_rfl
          exact ⟨by omega, by omega, _, rfl, by rw [intsF_len]; omega, by rw [intsF_len]; omega, rfl⟩
        subst hΘ
        refine kn_forS (S := List SRow) (r := zI) (xs := ks) (fun _ => [some (zAt b), some (iz (zL zS) ws), some (zAt a), none, none, some (iz (zL zS) g), some (iz (zL zS) ns), some (zAt c), none]) (fun srs => [cL c (z3 zS (zL zS) (zL zS)) srs, cL a (z2 zS zI) prs, cBox true b l])
          (fun j srs' => srs'.map (·.1) = ns.take srs'.length ∧ srs'.length = srs.length + j ∧ (∀ r ∈ srs', RowG ws r ∧ r.2.1 ∈ gs)) srs hwi ?_ ⟨hs1, rfl, hs3⟩ (fun x s => tg_name) (fun fr3 le3 j kk srs2 hj hP2 => ?_) (fun srs2 hP2 => ?_)
        · and_intros
        · obtain ⟨t1, t2, t3⟩ := hP2
          have hjl : j < ks.length := (List.getElem?_eq_some_iff.mp hj).1
          have hsn : srs2.length < ns.length := by omega
          subst_vars
          refine kn_append rfl (.head _) ?_
          refine we_tup ?_
          ac_rfl
          refine cb_len (seq_C (.head _)) ?_
          refine ops_ixL (x := ns[srs2.length]) (atI_nat (List.getElem?_eq_getElem hsn)) ?_
          ac_rfl
          refine sps_B (.tail _ (.tail _ (.head _))) ⟨ws, 0, rfl, wne, wn, by omega, by decide, rfl⟩ fun p ⟨gv, g1, g2, g3, g4, hp⟩ => ?_
          subst hp
          ac_rfl
          refine ⟨by simp, _, tr3, _, 0, rfl, rfl, by omega, ?_⟩
          subst_vars
          refine kn_back (srs2 ++ [(ns[srs2.length], g, gv)]) ?_ ⟨?_, ?_, ?_⟩ rfl
          · and_intros
          · rw [List.map_append, List.length_append]
            show _ = ns.take (srs2.length + 1)
            rw [take_more (List.getElem?_eq_getElem hsn), t1]
            rfl
          · rw [List.length_append]; show _ + 1 = _; omega
          · intro r hr5
            rcases List.mem_append.mp hr5 with h | h
            · exact t3 r h
            · rw [List.mem_singleton.mp h]
              exact ⟨⟨nw _ (List.getElem_mem hsn), hgne, q1, q3, g1, g2⟩, List.mem_of_getElem? hi⟩
        · obtain ⟨t1, t2, t3⟩ := hP2
          refine Kn.fine ?_ le2
          refine kn_back srs2 ?_ ⟨t1, by omega, t3, fun _ => by omega⟩ rfl
          and_intros
      · have hge : g = [] := by
          have : decide (g = []) = true := by simpa using h
          exact of_decide_eq_true this
        ac_rfl
        refine kn_back srs ?_ ⟨hs1, by omega, hs3, fun ⟨g', hg', hn'⟩ => hs4 ?_⟩ rfl
        · and_intros
        · rw [take_more hi] at hg'
          rcases List.mem_append.mp hg' with h | h
          · exact ⟨g', h, hn'⟩
          · rw [List.mem_singleton.mp h] at hn'
            exact absurd hge hn'
    · obtain ⟨hs1, hs2, hs3, hs4⟩ := hP
      rw [List.take_length] at hs4
      have h1 := hs4 hne
      have good : GoodRows prs srs := by
        have lp : prs.length = ws.length := by rw [← hp1, List.length_map]
        refine ⟨fun r hr5 => ⟨ww _ (by rw [← hp1]; exact List.mem_map.mpr ⟨r, hr5, rfl⟩), hp2 r hr5⟩, by rw [hp1]; exact wn, fun r hr5 => by rw [hp1]; exact (hs3 r hr5).1, by rw [hs1]; exact (List.take_sublist _ _).nodup nn, by omega, by omega, by omega, by omega⟩
      refine kn_frz (i := 7) (j := 0) rfl rfl ?_
      subst_vars
      refine kn_frz (i := 2) (j := 0) rfl rfl ?_
      subst_vars
      refine kn_ret (we_tup ?_)
      ac_rfl
      exact ⟨by simp, _, tr2, hret _ ⟨prs, srs, good, .inl ⟨gs, by omega, fun r hr => (hs3 r hr).2⟩, rfl⟩ _ (.head _)⟩
end
def SmallR (prs : List (Str × Int)) (srs : List SRow) : Prop := prs.length ≤ 100 ∧ srs.length ≤ 100 ∧ ∀ r ∈ srs, r.2.1.length ≤ 100 ∧ r.2.2.length ≤ 100
def stretchS (pl w n : Str) (srs : List SRow) : List SRow := srs.map (fun r => (r.1, r.2.1.map (fun y => if y = pl then w else y), r.2.2)) ++ [(n, [pl], [w])]
def twinS (pl z : Str) (srs : List SRow) : List SRow := srs.map fun r => (r.1, r.2.1 ++ (if pl ∈ r.2.1 then [z] else []), r.2.2 ++ (if pl ∈ r.2.2 then [z] else []))
theorem ite_len {c : Prop} [Decidable c] (z : Str) : (if c then [z] else []).length ≤ 1 := by
  split <;> simp
def RowA (r : SRow) : Prop := Asc r.1 ∧ (∀ y ∈ r.2.1, Asc y) ∧ (∀ y ∈ r.2.2, Asc y)
def detourS (pl z n1 n2 : Str) (srs : List SRow) : List SRow := srs ++ [(n1, [pl], [z]), (n2, [z], [pl])]
def ringS (ws ns : List Str) (size : Nat) : List SRow := (List.range size).map fun k => (ns.getD k "", [ws.getD k ""], [ws.getD ((k + 1) % size) ""])
inductive GrownR (ws ns : List Str) : List (Str × Int) → List SRow → Prop
  | ring {size : Nat} {prs : List (Str × Int)} : 1 ≤ size → size ≤ 3 → prs.map (·.1) = ws.take size → (∀ r ∈ prs, 0 ≤ r.2 ∧ r.2 ≤ 2) → (∀ r, prs[0]? = some r → 1 ≤ r.2) → size ≤ ws.length → size ≤ ns.length → GrownR ws ns prs (ringS ws ns size)
  | stretch {prs : List (Str × Int)} {srs : List SRow} {pl z n : Str} : GrownR ws ns prs srs → pl ∈ prs.map (·.1) → ws[prs.length]? = some z → ns[srs.length]? = some n → GrownR ws ns (prs ++ [(z, 0)]) (stretchS pl z n srs)
  | twin {prs : List (Str × Int)} {srs : List SRow} {pl z : Str} {num : Int} : GrownR ws ns prs srs → (pl, num) ∈ prs → ws[prs.length]? = some z → GrownR ws ns (prs ++ [(z, num)]) (twinS pl z srs)
  | copy {prs : List (Str × Int)} {srs : List SRow} {r : SRow} {n : Str} : GrownR ws ns prs srs → r ∈ srs → ns[srs.length]? = some n → GrownR ws ns prs (srs ++ [(n, r.2.1, r.2.2)])
  | detour {prs : List (Str × Int)} {srs : List SRow} {pl z n1 n2 : Str} : GrownR ws ns prs srs → (∀ r ∈ srs, pl ∈ r.2.1 → r.2.1.length ≤ 1) → pl ∈ prs.map (·.1) → ws[prs.length]? = some z → ns[srs.length]? = some n1 → ns[srs.length + 1]? = some n2 → GrownR ws ns (prs ++ [(z, 0)]) (detourS pl z n1 n2 srs)
def RowS (ps : List Str) (r : SRow) : Prop := r.2.1 ≠ [] ∧ r.2.1.Nodup ∧ (∀ y ∈ r.2.1, y ∈ ps) ∧ r.2.2.Nodup ∧ (∀ y ∈ r.2.2, y ∈ ps)
structure Grow (ws ns : List Str) (prs : List (Str × Int)) (srs : List SRow) : Prop where
  pm : prs.map (·.1) = ws.take prs.length
  sm : srs.map (·.1) = ns.take srs.length
  pr : ∀ r ∈ prs, 0 ≤ r.2 ∧ r.2 ≤ 2
  sr : ∀ r ∈ srs, RowS (prs.map (·.1)) r
  p1 : 1 ≤ prs.length
  s1 : 1 ≤ srs.length
theorem RowS.more {ps qs : List Str} {r : SRow} (h : RowS ps r) (e : ∀ y ∈ ps, y ∈ qs) : RowS qs r := ⟨h.1, h.2.1, fun y hy => e y (h.2.2.1 y hy), h.2.2.2.1, fun y hy => e y (h.2.2.2.2 y hy)⟩
theorem new_word {ws : List Str} {i : Nat} {z : Str} (wn : ws.Nodup) (h : ws[i]? = some z) : z ∉ ws.take i := fun hm => by
  obtain ⟨a, ha, hza⟩ := List.getElem_of_mem hm
  rw [List.getElem_take] at hza
  rw [List.length_take] at ha
  have hi : i < ws.length := by
    rcases Nat.lt_or_ge i ws.length with h' | h'
    · exact h'
    · rw [List.getElem?_eq_none h'] at h
      cases h
  rw [List.getElem?_eq_getElem hi] at h
  have := (List.getElem_inj wn).mp (hza.trans (Option.some.inj h).symm)
  omega
theorem nodup_ren {l : List Str} {pl z : Str} (h : l.Nodup) (hz : z ∉ l) : (l.map fun y => if y = pl then z else y).Nodup := by
  induction l with
  | nil => exact .nil
  | cons a l ih =>
    obtain ⟨h1, h2⟩ := List.nodup_cons.mp h
    have hz2 : z ∉ l := fun q => hz (List.mem_cons_of_mem _ q)
    rw [List.map_cons, List.nodup_cons]
    refine ⟨fun hm => ?_, ih h2 hz2⟩
    obtain ⟨y, hy, e⟩ := List.mem_map.mp hm
    by_cases ea : a = pl
    · rw [if_pos ea] at e
      by_cases ey : y = pl
      · exact h1 (by rw [ea, ← ey]; exact hy)
      · rw [if_neg ey] at e
        exact hz2 (by rw [← e]; exact hy)
    · rw [if_neg ea] at e
      by_cases ey : y = pl
      · rw [if_pos ey] at e
        exact hz (by rw [e]; exact List.mem_cons_self ..)
      · rw [if_neg ey] at e
        exact h1 (by rw [← e]; exact hy)
theorem ring_mem {ws ns : List Str} {size : Nat} {r : SRow} (h : r ∈ ringS ws ns size) : ∃ k, k < size ∧ r = (ns.getD k "", [ws.getD k ""], [ws.getD ((k + 1) % size) ""]) := by
  obtain ⟨k, hk, rfl⟩ := List.mem_map.mp h
  exact ⟨k, List.mem_range.mp hk, rfl⟩
theorem getD_take {l : List Str} {k n : Nat} (hk : k < n) (hn : n ≤ l.length) : l.getD k "" ∈ l.take n := by
  have hkl : k < l.length := by omega
  rw [List.getD_eq_getElem?_getD, List.getElem?_eq_getElem hkl]
  refine List.mem_iff_getElem.mpr ⟨k, by rw [List.length_take]; omega, ?_⟩
  rw [List.getElem_take]
  rfl
theorem ring_names (ws : List Str) {ns : List Str} {size : Nat} (h : size ≤ ns.length) : (ringS ws ns size).map (·.1) = ns.take size := by
  unfold ringS
  rw [List.map_map]
  refine List.ext_getElem (by rw [List.length_map, List.length_range, List.length_take]; omega) fun i h1 h2 => ?_
  rw [List.getElem_map, List.getElem_range, List.getElem_take]
  rw [List.length_map, List.length_range] at h1
  show ns.getD i "" = _
  rw [List.getD_eq_getElem?_getD, List.getElem?_eq_getElem (by omega)]
  rfl
theorem GrownR.grow {ws ns : List Str} {prs : List (Str × Int)} {srs : List SRow} (wn : ws.Nodup) (h : GrownR ws ns prs srs) : Grow ws ns prs srs := by
  induction h with
  | @ring size prs h1 h2 h3 h4 h4' h5 h6 =>
    have lp : prs.length = size := by
      have := congrArg List.length h3
      rw [List.length_map, List.length_take] at this
      omega
    have ls : (ringS ws ns size).length = size := by unfold ringS; rw [List.length_map, List.length_range]
    refine ⟨by rw [lp]; exact h3, by rw [ls]; exact ring_names ws h6, h4, fun r hr => ?_, by omega, by omega⟩
    obtain ⟨k, hk, rfl⟩ := ring_mem hr
    rw [h3]
    refine ⟨by simp, by simp, fun y hy => ?_, by simp, fun y hy => ?_⟩
    · rw [List.mem_singleton.mp hy]
      exact getD_take hk h5
    · rw [List.mem_singleton.mp hy]
      exact getD_take (Nat.mod_lt _ (by omega)) h5
  | @stretch prs srs pl z n _ hpl hz hn ih =>
    have hzn := new_word wn hz
    rw [← ih.pm] at hzn
    have em : (prs ++ [((z : Str), (0 : Int))]).map (·.1) = prs.map (·.1) ++ [z] := by rw [List.map_append]; rfl
    have ls : (srs.map (fun r => ((r.1, r.2.1.map (fun y => if y = pl then z else y), r.2.2) : SRow))).length = srs.length := List.length_map _
    refine ⟨?_, ?_, fun r hr => ?_, fun r hr => ?_, by rw [List.length_append]; show 1 ≤ _ + 1; omega, ?_⟩
    · rw [em, ih.pm, List.length_append]
      exact (take_more hz).symm
    · unfold stretchS
      rw [List.map_append, List.map_map, List.length_append, ls]
      show srs.map (·.1) ++ [n] = ns.take (srs.length + 1)
      rw [take_more hn, ih.sm]
    · rcases List.mem_append.mp hr with h | h
      · exact ih.pr r h
      · rw [List.mem_singleton.mp h]
        exact ⟨Int.le_refl 0, show (0 : Int) ≤ 2 by decide⟩
    · rw [em]
      unfold stretchS at hr
      rcases List.mem_append.mp hr with h | h
      · obtain ⟨r, hr9, rfl⟩ := List.mem_map.mp h
        obtain ⟨a1, a2, a3, a4, a5⟩ := ih.sr r hr9
        refine ⟨fun e => a1 (List.map_eq_nil_iff.mp e), nodup_ren a2 (fun q => hzn (a3 z q)), fun y hy => ?_, a4, fun y hy => List.mem_append_left _ (a5 y hy)⟩
        obtain ⟨x, hx, rfl⟩ := List.mem_map.mp hy
        split
        · exact List.mem_append_right _ (List.mem_singleton.mpr rfl)
        · exact List.mem_append_left _ (a3 x hx)
      · rw [List.mem_singleton.mp h]
        refine ⟨by simp, by simp, fun y hy => ?_, by simp, fun y hy => ?_⟩
        · rw [List.mem_singleton.mp hy]
          exact List.mem_append_left _ hpl
        · rw [List.mem_singleton.mp hy]
          exact List.mem_append_right _ (List.mem_singleton.mpr rfl)
    · unfold stretchS
      rw [List.length_append]
      show 1 ≤ _ + 1
      omega
  | @twin prs srs pl z num _ hpl hz ih =>
    have hzn := new_word wn hz
    rw [← ih.pm] at hzn
    have em : (prs ++ [((z : Str), (num : Int))]).map (·.1) = prs.map (·.1) ++ [z] := by rw [List.map_append]; rfl
    have more : ∀ {l : List Str}, l.Nodup → (∀ y ∈ l, y ∈ prs.map (·.1)) → (l ++ (if pl ∈ l then [z] else [])).Nodup ∧ ∀ y ∈ l ++ (if pl ∈ l then [z] else []), y ∈ prs.map (·.1) ++ [z] := fun {l} h1 h2 => by
      split
      · refine ⟨nodup_snoc h1 fun q => hzn (h2 z q), fun y hy => ?_⟩
        rcases List.mem_append.mp hy with h | h
        · exact List.mem_append_left _ (h2 y h)
        · exact List.mem_append_right _ h
      · rw [List.append_nil]
        exact ⟨h1, fun y hy => List.mem_append_left _ (h2 y hy)⟩
    refine ⟨?_, ?_, fun r hr => ?_, fun r hr => ?_, by rw [List.length_append]; show 1 ≤ _ + 1; omega, ?_⟩
    · rw [em, ih.pm, List.length_append]
      exact (take_more hz).symm
    · unfold twinS
      rw [List.map_map, List.length_map]
      exact ih.sm
    · rcases List.mem_append.mp hr with h | h
      · exact ih.pr r h
      · rw [List.mem_singleton.mp h]
        exact ih.pr (pl, num) hpl
    · rw [em]
      unfold twinS at hr
      obtain ⟨r, hr9, rfl⟩ := List.mem_map.mp hr
      obtain ⟨a1, a2, a3, a4, a5⟩ := ih.sr r hr9
      obtain ⟨m1, m2⟩ := more a2 a3
      obtain ⟨m3, m4⟩ := more a4 a5
      exact ⟨fun e => a1 (List.append_eq_nil_iff.mp e).1, m1, m2, m3, m4⟩
    · unfold twinS
      rw [List.length_map]
      exact ih.s1
  | @copy prs srs r n _ hr0 hn ih =>
    refine ⟨ih.pm, ?_, ih.pr, fun r' hr => ?_, ih.p1, by rw [List.length_append]; show 1 ≤ _ + 1; omega⟩
    · rw [List.map_append, List.length_append]
      show srs.map (·.1) ++ [n] = ns.take (srs.length + 1)
      rw [take_more hn, ih.sm]
    · rcases List.mem_append.mp hr with h | h
      · exact ih.sr r' h
      · rw [List.mem_singleton.mp h]
        exact ih.sr r hr0
  | @detour prs srs pl z n1 n2 _ _ hpl hz hn1 hn2 ih =>
    have em : (prs ++ [((z : Str), (0 : Int))]).map (·.1) = prs.map (·.1) ++ [z] := by rw [List.map_append]; rfl
    have hzm : z ∈ prs.map (·.1) ++ [z] := List.mem_append_right _ (List.mem_singleton.mpr rfl)
    have hpm : pl ∈ prs.map (·.1) ++ [z] := List.mem_append_left _ hpl
    refine ⟨?_, ?_, fun r hr => ?_, fun r hr => ?_, by rw [List.length_append]; show 1 ≤ _ + 1; omega, ?_⟩
    · rw [em, ih.pm, List.length_append]
      exact (take_more hz).symm
    · unfold detourS
      rw [List.map_append, List.length_append]
      show srs.map (·.1) ++ [n1, n2] = ns.take (srs.length + 1 + 1)
      rw [take_more hn2, take_more hn1, ih.sm, List.append_assoc]
      rfl
    · rcases List.mem_append.mp hr with h | h
      · exact ih.pr r h
      · rw [List.mem_singleton.mp h]
        exact ⟨Int.le_refl 0, show (0 : Int) ≤ 2 by decide⟩
    · rw [em]
      unfold detourS at hr
      rcases List.mem_append.mp hr with h | h
      · exact (ih.sr r h).more fun y hy => List.mem_append_left _ hy
      · have one : ∀ {a c : Str} {n : Str}, a ∈ prs.map (·.1) ++ [z] → c ∈ prs.map (·.1) ++ [z] → RowS (prs.map (·.1) ++ [z]) (n, [a], [c]) := fun {a c n} ha hc =>
          ⟨by simp, by simp, fun y hy => by rw [List.mem_singleton.mp hy]; exact ha, by simp, fun y hy => by rw [List.mem_singleton.mp hy]; exact hc⟩
        rcases List.mem_cons.mp h with h | h
        · rw [h]
          exact one hpm hzm
        · rw [List.mem_singleton.mp h]
          exact one hzm hpm
    · unfold detourS
      rw [List.length_append]
      show 1 ≤ _ + 2
      omega
theorem getD_at {ws : List Str} {i : Nat} (h : i < ws.length) : ws[i]? = some (ws.getD i "") := by
  rw [List.getD_eq_getElem?_getD, List.getElem?_eq_getElem h]
  rfl
theorem perm_rot {α : Type} (l : List α) (i : Nat) : (l.drop i ++ l.take i).Perm l := by
  have h := List.perm_append_comm (l₁ := l.drop i) (l₂ := l.take i)
  rw [List.take_append_drop] at h
  exact h
theorem Grow.good {ws ns : List Str} {prs prs' : List (Str × Int)} {srs srs' : List SRow} (G : Grow ws ns prs srs) (wn : ws.Nodup) (nn : ns.Nodup) (ww : ∀ z ∈ ws, Wd z) (nw : ∀ z ∈ ns, Wd z) (lp : prs.length ≤ 7) (ls : srs.length ≤ 13) (hp : prs'.Perm prs) (hs : srs'.Perm srs) : GoodRows prs' srs' := by
  have pm : ∀ {y : Str}, y ∈ prs.map (·.1) → y ∈ prs'.map (·.1) := fun h => (hp.map (·.1)).symm.subset h
  have e1 := hp.length_eq
  have e2 := hs.length_eq
  refine ⟨fun r hr => ?_, ?_, fun r hr => ?_, ?_, by have := G.p1; omega, by omega, by have := G.s1; omega, by omega⟩
  · have hr := hp.subset hr
    have hm : r.1 ∈ prs.map (·.1) := List.mem_map.mpr ⟨r, hr, rfl⟩
    rw [G.pm] at hm
    exact ⟨ww _ (List.mem_of_mem_take hm), G.pr r hr⟩
  · refine (hp.map (·.1)).nodup_iff.mpr ?_
    rw [G.pm]
    exact (List.take_sublist _ _).nodup wn
  · have hr := hs.subset hr
    have hm : r.1 ∈ srs.map (·.1) := List.mem_map.mpr ⟨r, hr, rfl⟩
    rw [G.sm] at hm
    obtain ⟨a1, a2, a3, a4, a5⟩ := G.sr r hr
    exact ⟨nw _ (List.mem_of_mem_take hm), a1, a2, fun y hy => pm (a3 y hy), a4, fun y hy => pm (a5 y hy)⟩
  · refine (hs.map (·.1)).nodup_iff.mpr ?_
    rw [G.sm]
    exact (List.take_sublist _ _).nodup nn
theorem Grow.small {ws ns : List Str} {prs : List (Str × Int)} {srs : List SRow} (G : Grow ws ns prs srs) (lp : prs.length ≤ 7) (ls : srs.length ≤ 13) : SmallR prs srs := by
  refine ⟨by omega, by omega, fun r hr => ?_⟩
  obtain ⟨a1, a2, a3, a4, a5⟩ := G.sr r hr
  have h1 := List.Nodup.length_le_of_subset a2 a3
  have h2 := List.Nodup.length_le_of_subset a4 a5
  rw [List.length_map] at h1 h2
  omega
theorem Grow.asc {ws ns : List Str} {prs : List (Str × Int)} {srs : List SRow} (G : Grow ws ns prs srs) (ww : ∀ z ∈ ws, Wd z) (nw : ∀ z ∈ ns, Wd z) : ∀ r ∈ srs, RowA r := fun r hr => by
  obtain ⟨a1, a2, a3, a4, a5⟩ := G.sr r hr
  have hm : r.1 ∈ srs.map (·.1) := List.mem_map.mpr ⟨r, hr, rfl⟩
  rw [G.sm] at hm
  have hy : ∀ y ∈ prs.map (·.1), Asc y := fun y hy => by
    rw [G.pm] at hy
    exact (ww _ (List.mem_of_mem_take hy)).asc
  exact ⟨(nw _ (List.mem_of_mem_take hm)).asc, fun y h => hy y (a3 y h), fun y h => hy y (a5 y h)⟩
section
variable {P : Program} {w : World} {K : PySem.W.Frag} {mg : Str → Option Value} {base : Heap}
abbrev zPR0 : Rep (List (Str × Int)) := zL (z2 zS zI)
abbrev zSR0 : Rep (List SRow) := zL (z3 zS (zL zS) (zL zS))
theorem le_line {n : Nat} (h : n ≤ 999) : n ≤ sizeLine := Nat.le_of_lt (small1000 (by omega))
abbrev s__law_stretched : Stmt := topS 59
theorem sc__law_stretched : FnScope ["_law_places", "_law_steps_here", "_law_place", "_law_word_here", "_law_name", "_law_turned", "_law_old", "_law_taken", "_law_given", "_law_other"] ["_law_places", "_law_steps_here", "_law_place", "_law_word_here", "_law_name"] (defScope s__law_stretched) := ⟨rfl, rfl, rfl, by decide +kernel, rfl, by decide +kernel, by decide +kernel⟩
def preStretched : Pre := fun ps out err => ∃ prs srs pl z n, ps = [iz zPR0 prs, iz zSR0 srs, iz zS pl, iz zS z, iz zS n] ∧ SmallR prs srs ∧ out = (· = iz (zLp zPR0 zSR0) (prs ++ [(z, 0)], stretchS pl z n srs)) ∧ err = noErr
theorem ok_stretchedG {k : Nat} (B : Bl mg) (F : Src K mg "_law_stretched" s__law_stretched ["_law_places", "_law_steps_here", "_law_place", "_law_word_here", "_law_name"]) : Def P w K mg base CX0 (k + 1) "_law_stretched" ["_law_places", "_law_steps_here", "_law_place", "_law_word_here", "_law_name"] (spA preStretched) := by
  refine F.okA sc__law_stretched (fun qs out err ⟨_, _, _, _, _, h, _⟩ => by rw [h]; rfl) (fun f cdv A outer s H E qs out err hr hpre => ?_)
  obtain ⟨prs, srs, pl, z, n, rfl, ⟨l1, l2, l3⟩, rfl, rfl⟩ := hpre
  refine ⟨_, (pss_cons (ps_asg (pe_lst pa_nil) (pg_name (i := 5) sc__law_stretched.nd rfl (Or.inl rfl)))
 (pss_cons (ps_for PassesOwn.never rfl (kpi_list (K := K) (pv 1)) (pg_tup rfl (pgs_cons (pg_name (i := 6) sc__law_stretched.nd rfl (Or.inl rfl)) (pgs_cons (pg_name (i := 7) sc__law_stretched.nd rfl (Or.inl rfl)) (pgs_cons (pg_name (i := 8) sc__law_stretched.nd rfl (Or.inl rfl)) pgs_nil)))) (pss_one (ps_expr (pe_bm PySem.F.plainAttrs_list PySem.F.slot_list_append PySem.F.type_list_append mt_append (pv 5) (pa_cons (pe_tup (pa_cons (pv 6) (pa_cons (pe_lc (own := [("_law_other", 9)]) (g := gName 9) (by rfl) sc__law_stretched.nd (kpi_list (K := K) (pv 7)) (blkOk_by (N := ["_law_places", "_law_steps_here", "_law_place", "_law_word_here", "_law_name", "_law_turned", "_law_old", "_law_taken", "_law_given", "_law_other"]) (sc := defScope s__law_stretched) (by decide +kernel)) (fun _ _ _ _ _ => (pg_name (i := 9) sc__law_stretched.nd rfl (Or.inl rfl))) (fun _ _ _ _ _ => pts_nil) (fun _ _ _ _ _ => (pe_ifExp (pt_cmpR op_eq (pv 9) (pv 2) (nomark _)) (pv 3) (pv 9)))) (pa_cons (pv 8) pa_nil)))) pa_nil)))))
 (pss_one (ps_ret (pe_lst (pa_cons (pe_op op_cat (pv 0) (pe_lst (pa_cons (pe_tup (pa_cons (pv 3) (pa_cons pe_int pa_nil))) pa_nil))) (pa_cons (pe_op op_cat (pv 5) (pe_lst (pa_cons (pe_tup (pa_cons (pv 4) (pa_cons (pe_lst (pa_cons (pv 2) pa_nil)) (pa_cons (pe_lst (pa_cons (pv 3) pa_nil)) pa_nil)))) pa_nil))) pa_nil))))))), fun fr Q hret => ?_⟩
  ac_rfl
  refine we_nil (z3 zS (zL zS) (zL zS)) fun a => ?_
  ac_rfl
  refine kn_forS (S := List SRow) (r := z3 zS (zL zS) (zL zS)) (xs := srs) (fun _ => [some (iz zPR0 prs), some (iz zSR0 srs), some (iz zS pl), some (iz zS z), some (iz zS n), some (zAt a), none, none, none, none]) (fun t => [cL a (z3 zS (zL zS) (zL zS)) t]) (fun i t => t = (srs.take i).map fun r => (r.1, r.2.1.map (fun y => if y = pl then z else y), r.2.2)) [] ?_ ?_ rfl (fun x s => tg3 (by decide) (by decide) (by decide)) (fun fr' le i r t hi hP => ?_) (fun t hP => ?_)
  · ac_rfl
  · and_intros
  · have lt : t.length ≤ 100 := by rw [hP, List.length_map, List.length_take]; omega
    subst_vars
    refine kn_append rfl (.head _) ?_
    refine we_tup ?_
    ac_rfl
    refine we_lc0 (r := zS) (s := zS) (xs := r.2.1) (f := fun y => if y = pl then z else y) ?_ (by have := (l3 r (List.mem_of_getElem? hi)).1; omega) (fun x => tg_name) (fun y hy c => ?_) ?_
    · ac_rfl
    · refine we_ifJ (b := decide (y = pl)) (r := zS) (x := z) (y := y) ?_ (fun _ => ?_) (fun _ => ?_) ⟨?_, rfl⟩
      · ac_rfl
      · ac_rfl
      · ac_rfl
      · by_cases e : y = pl
        · rw [if_pos e, if_pos (decide_eq_true e)]
        · rw [if_neg e, if_neg (by rw [decide_eq_false e]; exact Bool.false_ne_true)]
    · ac_rfl
      refine ⟨by simp, _, tr3, _, 0, rfl, rfl, by omega, ?_⟩
      subst_vars
      refine kn_back (t ++ [_]) ?_ ?_ rfl
      · and_intros
      · rw [take_more hi, List.map_append, hP]; rfl
  · rw [List.take_length] at hP
    have lt : t.length = srs.length := by rw [hP, List.length_map]
    refine kn_frz (i := 5) (j := 0) rfl rfl ?_
    subst_vars
    refine kn_ret (we_lstp (r := zPR0) (s := zSR0) ?_)
    ac_rfl
    refine we_lst (r := z2 zS zI) ?_
    refine wa_cons (we_tup ?_)
    ac_rfl
    refine ⟨by simp, _, tr2, ?_⟩
    ac_rfl
    refine ⟨[(z, 0)], rfl, by simp, ?_⟩
    refine ops_cat (le_line (by simp; omega)) ?_
    ac_rfl
    refine we_lst (r := z3 zS (zL zS) (zL zS)) ?_
    refine wa_cons (we_tup ?_)
    ac_rfl
    refine we_lst1 (x := pl) (r := zS) ?_
    ac_rfl
    refine ⟨rfl, ?_⟩
    ac_rfl
    refine we_lst1 (x := z) (r := zS) ?_
    ac_rfl
    refine ⟨rfl, ?_⟩
    ac_rfl
    refine ⟨by simp, _, tr3, ?_⟩
    ac_rfl
    refine ⟨[(n, [pl], [z])], rfl, by simp, ?_⟩
    refine ops_cat (le_line (by simp; omega)) ?_
    ac_rfl
    refine ⟨_, _, rfl, hret _ ?_ _⟩
    rw [hP]
    rfl
end
section
variable {ws ns : List Str}
structure JR (ps : List Str) (srs : List SRow) : Prop where
  jn : JoinRw srs
  tk : ∀ y ∈ ps, ∃ r ∈ srs, y ∈ r.2.1
  gv : ∀ y ∈ ps, ∃ r ∈ srs, y ∈ r.2.2
theorem ring_way {n : Nat} {a : Nat → Prop} {i j : Nat} (hn : 0 < n) (hi : i < n) (hj : j < n) (h1 : a i) (h2 : ¬ a j) : ∃ k, k < n ∧ a k ∧ ¬ a ((k + 1) % n) := by
  refine Classical.byContradiction fun hc => h2 ?_
  have step : ∀ k, k < n → a k → a ((k + 1) % n) := fun k hk ha => Classical.byContradiction fun q => hc ⟨k, hk, ha, q⟩
  have all : ∀ m, a ((i + m) % n) := by
    intro m
    induction m with
    | zero => rw [Nat.add_zero, Nat.mod_eq_of_lt hi]; exact h1
    | succ m ih =>
      have := step _ (Nat.mod_lt _ hn) ih
      rwa [Nat.mod_add_mod] at this
  have := all (n + j - i)
  rwa [show i + (n + j - i) = n + j by omega, Nat.add_mod_left, Nat.mod_eq_of_lt hj] at this
theorem ring_jr {size : Nat} {prs : List (Str × Int)} (h1 : 1 ≤ size) (hp : prs.map (·.1) = ws.take size) (hw : size ≤ ws.length) : JR (prs.map (·.1)) (ringS ws ns size) := by
  have mem : ∀ k, k < size → (ns.getD k "", [ws.getD k ""], [ws.getD ((k + 1) % size) ""]) ∈ ringS ws ns size := fun k hk => List.mem_map.mpr ⟨k, List.mem_range.mpr hk, rfl⟩
  have wat : ∀ y ∈ prs.map (·.1), ∃ k, k < size ∧ ws.getD k "" = y := fun y hy => by
    rw [hp] at hy
    obtain ⟨k, hk, e⟩ := List.getElem_of_mem hy
    rw [List.length_take] at hk
    refine ⟨k, by omega, ?_⟩
    rw [List.getElem_take] at e
    rw [List.getD_eq_getElem?_getD, List.getElem?_eq_getElem (by omega), e]
    rfl
  refine ⟨fun A cls ⟨r, hr, ar⟩ ⟨q, hq, nq⟩ => ?_, fun y hy => ?_, fun y hy => ?_⟩
  · obtain ⟨i, hi, rfl⟩ := ring_mem hr
    obtain ⟨j, hj, rfl⟩ := ring_mem hq
    obtain ⟨k, hk, ak, nk⟩ := ring_way (a := fun k => A (ns.getD k "", [ws.getD k ""], [ws.getD ((k + 1) % size) ""])) (by omega) hi hj ar nq
    exact ⟨_, mem k hk, ak, _, mem _ (Nat.mod_lt _ (by omega)), nk, _, List.mem_singleton.mpr rfl, List.mem_singleton.mpr rfl⟩
  · obtain ⟨k, hk, e⟩ := wat y hy
    exact ⟨_, mem k hk, by rw [← e]; exact List.mem_singleton.mpr rfl⟩
  · obtain ⟨k, hk, e⟩ := wat y hy
    refine ⟨_, mem ((k + (size - 1)) % size) (Nat.mod_lt _ (by omega)), ?_⟩
    rw [← e]
    rw [Nat.mod_add_mod, show k + (size - 1) + 1 = size + k by omega, Nat.add_mod_left, Nat.mod_eq_of_lt hk]
    exact List.mem_singleton.mpr rfl
theorem mem_ren {pl z y : Str} {l : List Str} (hz : z ∉ l) : y ∈ l.map (fun y => if y = pl then z else y) ↔ (y ∈ l ∧ y ≠ pl) ∨ (y = z ∧ pl ∈ l) := by
  rw [List.mem_map]
  constructor
  · rintro ⟨x, hx, e⟩
    by_cases q : x = pl
    · rw [if_pos q] at e
      exact .inr ⟨e.symm, by rw [← q]; exact hx⟩
    · rw [if_neg q] at e
      exact .inl ⟨by rw [← e]; exact hx, by rw [← e]; exact q⟩
  · rintro (⟨h1, h2⟩ | ⟨h1, h2⟩)
    · exact ⟨y, h1, if_neg h2⟩
    · exact ⟨pl, h2, by rw [if_pos rfl, h1]⟩
theorem stretch_jr {ps : List Str} {srs : List SRow} {pl z n : Str} (h : JR ps srs) (hs : ∀ r ∈ srs, ∀ y ∈ r.2.1, y ∈ ps) (hz : z ∉ ps) (hp : pl ∈ ps) : JR (ps ++ [z]) (stretchS pl z n srs) := by
  have zn : ∀ r ∈ srs, z ∉ r.2.1 := fun r hr q => hz (hs r hr z q)
  let f : SRow → SRow := fun r => (r.1, r.2.1.map (fun y => if y = pl then z else y), r.2.2)
  let t : SRow := (n, [pl], [z])
  have mf : ∀ r ∈ srs, f r ∈ stretchS pl z n srs := fun r hr => List.mem_append_left _ (List.mem_map.mpr ⟨r, hr, rfl⟩)
  have mt : t ∈ stretchS pl z n srs := List.mem_append_right _ (List.mem_singleton.mpr rfl)
  have inv : ∀ x ∈ stretchS pl z n srs, (∃ r ∈ srs, f r = x) ∨ x = t := fun x hx => by
    rcases List.mem_append.mp hx with q | q
    · obtain ⟨r, hr, e⟩ := List.mem_map.mp q
      exact .inl ⟨r, hr, e⟩
    · exact .inr (List.mem_singleton.mp q)
  have tf : ∀ r ∈ srs, ∀ y, y ∈ (f r).2.1 ↔ (y ∈ r.2.1 ∧ y ≠ pl) ∨ (y = z ∧ pl ∈ r.2.1) := fun r hr y => mem_ren (zn r hr)
  obtain ⟨q0, hq0, e0⟩ := h.tk pl hp
  obtain ⟨g0, hg0, f0⟩ := h.gv pl hp
  refine ⟨fun A cls ⟨r', hr', ar'⟩ ⟨q', hq', nq'⟩ => ?_, fun y hy => ?_, fun y hy => ?_⟩
  · by_cases c1 : ∃ r ∈ srs, A (f r)
    · by_cases c2 : ∃ q ∈ srs, ¬ A (f q)
      · obtain ⟨r, hr, ar, q, hq, nq, y, y1, y2⟩ := h.jn (fun r => A (f r)) (fun r hr q hq s ar => cls _ (mf r hr) _ (mf q hq) (fun y => by rw [tf r hr, tf q hq, s y, s pl]) ar) c1 c2
        by_cases e : y = pl
        · subst e
          by_cases a : A t
          · exact ⟨t, mt, a, f q, mf q hq, nq, z, List.mem_singleton.mpr rfl, (tf q hq z).mpr (.inr ⟨rfl, y2⟩)⟩
          · exact ⟨f r, mf r hr, ar, t, mt, a, y, y1, List.mem_singleton.mpr rfl⟩
        · exact ⟨f r, mf r hr, ar, f q, mf q hq, nq, y, y1, (tf q hq y).mpr (.inl ⟨y2, e⟩)⟩
      · have na : ¬ A t := fun a => by
          rcases inv q' hq' with ⟨x, hx, rfl⟩ | rfl
          · exact c2 ⟨x, hx, nq'⟩
          · exact nq' a
        exact ⟨f g0, mf g0 hg0, Classical.byContradiction fun c => c2 ⟨g0, hg0, c⟩, t, mt, na, pl, f0, List.mem_singleton.mpr rfl⟩
    · have a : A t := by
        rcases inv r' hr' with ⟨x, hx, rfl⟩ | rfl
        · exact absurd ⟨x, hx, ar'⟩ c1
        · exact ar'
      exact ⟨t, mt, a, f q0, mf q0 hq0, fun c => c1 ⟨q0, hq0, c⟩, z, List.mem_singleton.mpr rfl, (tf q0 hq0 z).mpr (.inr ⟨rfl, e0⟩)⟩
  · rcases List.mem_append.mp hy with hy | hy
    · by_cases e : y = pl
      · exact ⟨t, mt, by rw [e]; exact List.mem_singleton.mpr rfl⟩
      · obtain ⟨r, hr, m⟩ := h.tk y hy
        exact ⟨f r, mf r hr, (tf r hr y).mpr (.inl ⟨m, e⟩)⟩
    · rw [List.mem_singleton.mp hy]
      exact ⟨f q0, mf q0 hq0, (tf q0 hq0 z).mpr (.inr ⟨rfl, e0⟩)⟩
  · rcases List.mem_append.mp hy with hy | hy
    · obtain ⟨r, hr, m⟩ := h.gv y hy
      exact ⟨f r, mf r hr, m⟩
    · rw [List.mem_singleton.mp hy]
      exact ⟨t, mt, List.mem_singleton.mpr rfl⟩
theorem mem_more {pl z y : Str} {l : List Str} : y ∈ l ++ (if pl ∈ l then [z] else []) ↔ y ∈ l ∨ (y = z ∧ pl ∈ l) := by
  rw [List.mem_append]
  split
  · rename_i h
    rw [List.mem_singleton]
    exact ⟨fun q => q.imp id fun e => ⟨e, h⟩, fun q => q.imp id fun e => e.1⟩
  · rename_i h
    exact ⟨fun q => q.imp id fun e => (by cases e), fun q => q.imp id fun e => absurd e.2 h⟩
theorem twin_jr {ps : List Str} {srs : List SRow} {pl z : Str} (h : JR ps srs) (hp : pl ∈ ps) : JR (ps ++ [z]) (twinS pl z srs) := by
  let g : SRow → SRow := fun r => (r.1, r.2.1 ++ (if pl ∈ r.2.1 then [z] else []), r.2.2 ++ (if pl ∈ r.2.2 then [z] else []))
  have mg : ∀ r ∈ srs, g r ∈ twinS pl z srs := fun r hr => List.mem_map.mpr ⟨r, hr, rfl⟩
  have tg : ∀ r : SRow, ∀ y, y ∈ (g r).2.1 ↔ y ∈ r.2.1 ∨ (y = z ∧ pl ∈ r.2.1) := fun r y => mem_more
  have gg : ∀ r : SRow, ∀ y, y ∈ (g r).2.2 ↔ y ∈ r.2.2 ∨ (y = z ∧ pl ∈ r.2.2) := fun r y => mem_more
  obtain ⟨q0, hq0, e0⟩ := h.tk pl hp
  obtain ⟨g0, hg0, f0⟩ := h.gv pl hp
  refine ⟨fun A cls ⟨r', hr', ar'⟩ ⟨q', hq', nq'⟩ => ?_, fun y hy => ?_, fun y hy => ?_⟩
  · have c1 : ∃ r ∈ srs, A (g r) := by
      obtain ⟨x, hx, e⟩ := List.mem_map.mp hr'
      exact ⟨x, hx, by rw [show g x = r' from e]; exact ar'⟩
    have c2 : ∃ r ∈ srs, ¬ A (g r) := by
      obtain ⟨x, hx, e⟩ := List.mem_map.mp hq'
      exact ⟨x, hx, by rw [show g x = q' from e]; exact nq'⟩
    obtain ⟨r, hr, ar, q, hq, nq, y, y1, y2⟩ := h.jn (fun r => A (g r)) (fun r hr q hq s ar => cls _ (mg r hr) _ (mg q hq) (fun y => by rw [tg, tg, s y, s pl]) ar) c1 c2
    exact ⟨g r, mg r hr, ar, g q, mg q hq, nq, y, (gg r y).mpr (.inl y1), (tg q y).mpr (.inl y2)⟩
  · rcases List.mem_append.mp hy with hy | hy
    · obtain ⟨r, hr, m⟩ := h.tk y hy
      exact ⟨g r, mg r hr, (tg r y).mpr (.inl m)⟩
    · rw [List.mem_singleton.mp hy]
      exact ⟨g q0, mg q0 hq0, (tg q0 z).mpr (.inr ⟨rfl, e0⟩)⟩
  · rcases List.mem_append.mp hy with hy | hy
    · obtain ⟨r, hr, m⟩ := h.gv y hy
      exact ⟨g r, mg r hr, (gg r y).mpr (.inl m)⟩
    · rw [List.mem_singleton.mp hy]
      exact ⟨g g0, mg g0 hg0, (gg g0 z).mpr (.inr ⟨rfl, f0⟩)⟩
theorem copy_jr {ps : List Str} {srs : List SRow} {r0 : SRow} {n : Str} (h : JR ps srs) (h0 : r0 ∈ srs) : JR ps (srs ++ [(n, r0.2.1, r0.2.2)]) := by
  have mo : ∀ r ∈ srs, r ∈ srs ++ [(n, r0.2.1, r0.2.2)] := fun r hr => List.mem_append_left _ hr
  have mt : ((n, r0.2.1, r0.2.2) : SRow) ∈ srs ++ [(n, r0.2.1, r0.2.2)] := List.mem_append_right _ (List.mem_singleton.mpr rfl)
  refine ⟨fun A cls ⟨r, hr, ar⟩ ⟨q, hq, nq⟩ => ?_, fun y hy => ?_, fun y hy => ?_⟩
  · have c1 : ∃ r ∈ srs, A r := by
      rcases List.mem_append.mp hr with q | q
      · exact ⟨r, q, ar⟩
      · rw [List.mem_singleton.mp q] at ar
        exact ⟨r0, h0, cls _ mt _ (mo r0 h0) (fun y => Iff.rfl) ar⟩
    have c2 : ∃ q ∈ srs, ¬ A q := by
      rcases List.mem_append.mp hq with q' | q'
      · exact ⟨q, q', nq⟩
      · rw [List.mem_singleton.mp q'] at nq
        exact ⟨r0, h0, fun a => nq (cls _ (mo r0 h0) _ mt (fun y => Iff.rfl) a)⟩
    obtain ⟨r, hr, ar, q, hq, nq, y, y1, y2⟩ := h.jn A (fun r hr q hq s => cls r (mo r hr) q (mo q hq) s) c1 c2
    exact ⟨r, mo r hr, ar, q, mo q hq, nq, y, y1, y2⟩
  · obtain ⟨r, hr, m⟩ := h.tk y hy
    exact ⟨r, mo r hr, m⟩
  · obtain ⟨r, hr, m⟩ := h.gv y hy
    exact ⟨r, mo r hr, m⟩
theorem detour_jr {ps : List Str} {srs : List SRow} {pl z n1 n2 : Str} (h : JR ps srs) (hone : ∀ r ∈ srs, pl ∈ r.2.1 → r.2.1.length ≤ 1) (hp : pl ∈ ps) : JR (ps ++ [z]) (detourS pl z n1 n2 srs) := by
  let t1 : SRow := (n1, [pl], [z])
  let t2 : SRow := (n2, [z], [pl])
  have mo : ∀ r ∈ srs, r ∈ detourS pl z n1 n2 srs := fun r hr => List.mem_append_left _ hr
  have m1 : t1 ∈ detourS pl z n1 n2 srs := List.mem_append_right _ (List.mem_cons_self ..)
  have m2 : t2 ∈ detourS pl z n1 n2 srs := List.mem_append_right _ (List.mem_cons_of_mem _ (List.mem_cons_self ..))
  have inv : ∀ x ∈ detourS pl z n1 n2 srs, x ∈ srs ∨ x = t1 ∨ x = t2 := fun x hx => by
    rcases List.mem_append.mp hx with q | q
    · exact .inl q
    · rcases List.mem_cons.mp q with q | q
      · exact .inr (.inl q)
      · exact .inr (.inr (List.mem_singleton.mp q))
  obtain ⟨u, hu, eu⟩ := h.tk pl hp
  have sm : SameR u t1 := fun y => by
    have l1 := hone u hu eu
    match e : u.2.1 with
    | [] => rw [e] at eu; cases eu
    | [x] =>
      rw [e] at eu
      rw [← List.mem_singleton.mp eu]
    | x :: x' :: l => rw [e] at l1; simp at l1
  have sm' : SameR t1 u := fun y => (sm y).symm
  refine ⟨fun A cls ⟨r, hr, ar⟩ ⟨q, hq, nq⟩ => ?_, fun y hy => ?_, fun y hy => ?_⟩
  · by_cases c1 : ∃ r ∈ srs, A r
    · by_cases c2 : ∃ q ∈ srs, ¬ A q
      · obtain ⟨r, hr, ar, q, hq, nq, y, y1, y2⟩ := h.jn A (fun r hr q hq s => cls r (mo r hr) q (mo q hq) s) c1 c2
        exact ⟨r, mo r hr, ar, q, mo q hq, nq, y, y1, y2⟩
      · have au : A u := Classical.byContradiction fun c => c2 ⟨u, hu, c⟩
        have a1 : A t1 := cls u (mo u hu) t1 m1 sm au
        have a2 : ¬ A t2 := fun a => by
          rcases inv q hq with q' | rfl | rfl
          · exact c2 ⟨q, q', nq⟩
          · exact nq a1
          · exact nq a
        exact ⟨t1, m1, a1, t2, m2, a2, z, List.mem_singleton.mpr rfl, List.mem_singleton.mpr rfl⟩
    · have n1 : ¬ A t1 := fun a => c1 ⟨u, hu, cls t1 m1 u (mo u hu) sm' a⟩
      have a2 : A t2 := by
        rcases inv r hr with q' | rfl | rfl
        · exact absurd ⟨r, q', ar⟩ c1
        · exact absurd ar n1
        · exact ar
      exact ⟨t2, m2, a2, t1, m1, n1, pl, List.mem_singleton.mpr rfl, List.mem_singleton.mpr rfl⟩
  · rcases List.mem_append.mp hy with hy | hy
    · obtain ⟨r, hr, m⟩ := h.tk y hy
      exact ⟨r, mo r hr, m⟩
    · rw [List.mem_singleton.mp hy]
      exact ⟨t2, m2, List.mem_singleton.mpr rfl⟩
  · rcases List.mem_append.mp hy with hy | hy
    · obtain ⟨r, hr, m⟩ := h.gv y hy
      exact ⟨r, mo r hr, m⟩
    · rw [List.mem_singleton.mp hy]
      exact ⟨t1, m1, List.mem_singleton.mpr rfl⟩
theorem GrownR.jr {prs : List (Str × Int)} {srs : List SRow} (wn : ws.Nodup) (h : GrownR ws ns prs srs) : JR (prs.map (·.1)) srs := by
  induction h with
  | ring h1 h2 h3 h4 h5 h6 h7 => exact ring_jr h1 h3 h6
  | @stretch prs srs pl z n h hp hz hn ih =>
    have G := h.grow wn
    rw [List.map_append]
    exact stretch_jr ih (fun r hr => (G.sr r hr).2.2.1) (by rw [G.pm]; exact new_word wn hz) hp
  | @twin prs srs pl z num h hp hz ih =>
    rw [List.map_append]
    exact twin_jr ih (List.mem_map.mpr ⟨_, hp, rfl⟩)
  | copy h h0 hn ih => exact copy_jr ih h0
  | @detour prs srs pl z n1 n2 h h1 hp hz hn1 hn2 ih =>
    rw [List.map_append]
    exact detour_jr ih h1 hp
end
section
variable {P : Program} {w : World} {K : PySem.W.Frag} {mg : Str → Option Value} {base : Heap}
theorem if_dec {c : Prop} [Decidable c] {α : Type} (x y : α) : (if decide c = true then x else y) = if c then x else y := by
  by_cases h : c
  · rw [if_pos h, if_pos (decide_eq_true h)]
  · rw [if_neg h, if_neg (by rw [decide_eq_false h]; exact Bool.false_ne_true)]
abbrev s__law_twinned : Stmt := topS 60
theorem sc__law_twinned : FnScope ["_law_places", "_law_steps_here", "_law_place", "_law_word_here", "_law_turned", "_law_old", "_law_taken", "_law_given", "_law_more", "_law_number", "_law_row"] ["_law_places", "_law_steps_here", "_law_place", "_law_word_here"] (defScope s__law_twinned) := ⟨rfl, rfl, rfl, by decide +kernel, rfl, by decide +kernel, by decide +kernel⟩
def preTwinned : Pre := fun ps out err => ∃ prs srs pl z, ps = [iz zPR0 prs, iz zSR0 srs, iz zS pl, iz zS z] ∧ SmallR prs srs ∧ pl ∈ prs.map (·.1) ∧ out = (fun p => ∃ num, (pl, num) ∈ prs ∧ p = iz (zLp zPR0 zSR0) (prs ++ [(z, num)], twinS pl z srs)) ∧ err = noErr
theorem ok_twinnedG {k : Nat} (B : Bl mg) (F : Src K mg "_law_twinned" s__law_twinned ["_law_places", "_law_steps_here", "_law_place", "_law_word_here"]) : Def P w K mg base CX0 (k + 1) "_law_twinned" ["_law_places", "_law_steps_here", "_law_place", "_law_word_here"] (spA preTwinned) := by
  refine F.okA sc__law_twinned (fun qs out err ⟨_, _, _, _, h, _⟩ => by rw [h]; rfl) (fun f cdv A outer s H E qs out err hr hpre => ?_)
  obtain ⟨prs, srs, pl, z, rfl, ⟨l1, l2, l3⟩, hpl, rfl, rfl⟩ := hpre
  refine ⟨_, (pss_cons (ps_asg (pe_lst pa_nil) (pg_name (i := 4) sc__law_twinned.nd rfl (Or.inl rfl)))
 (pss_cons (ps_for PassesOwn.never rfl (kpi_list (K := K) (pv 1)) (pg_tup rfl (pgs_cons (pg_name (i := 5) sc__law_twinned.nd rfl (Or.inl rfl)) (pgs_cons (pg_name (i := 6) sc__law_twinned.nd rfl (Or.inl rfl)) (pgs_cons (pg_name (i := 7) sc__law_twinned.nd rfl (Or.inl rfl)) pgs_nil)))) (pss_cons (ps_asg (pe_ifExp (pt_cmpR (kop_in (K := K)) (pv 2) (pv 6) rfl) (pe_lst (pa_cons (pv 3) pa_nil)) (pe_lst pa_nil)) (pg_name (i := 8) sc__law_twinned.nd rfl (Or.inl rfl)))
 (pss_one (ps_expr (pe_bm PySem.F.plainAttrs_list PySem.F.slot_list_append PySem.F.type_list_append mt_append (pv 4) (pa_cons (pe_tup (pa_cons (pv 5) (pa_cons (pe_op op_cat (pv 6) (pv 8)) (pa_cons (pe_op op_cat (pv 7) (pe_ifExp (pt_cmpR (kop_in (K := K)) (pv 2) (pv 7) rfl) (pe_lst (pa_cons (pv 3) pa_nil)) (pe_lst pa_nil))) pa_nil)))) pa_nil))))))
 (pss_cons (ps_asg (pe_ix (kix_list (K := K)) (pe_lc (own := [("_law_row", 10)]) (g := gName 10) (by rfl) sc__law_twinned.nd (kpi_list (K := K) (pv 0)) (blkOk_by (N := ["_law_places", "_law_steps_here", "_law_place", "_law_word_here", "_law_turned", "_law_old", "_law_taken", "_law_given", "_law_more", "_law_number", "_law_row"]) (sc := defScope s__law_twinned) (by decide +kernel)) (fun _ _ _ _ _ => (pg_name (i := 10) sc__law_twinned.nd rfl (Or.inl rfl))) (fun _ _ _ _ _ => pts_one (pt_cmpR op_eq (pe_ix (kix_tup (K := K)) (pv 10) pe_int (fun _ _ => rfl)) (pv 2) (nomark _))) (fun _ _ _ _ _ => (pe_ix (kix_tup (K := K)) (pv 10) pe_int (fun _ _ => rfl)))) pe_int (fun _ _ => rfl)) (pg_name (i := 9) sc__law_twinned.nd rfl (Or.inl rfl)))
 (pss_one (ps_ret (pe_lst (pa_cons (pe_op op_cat (pv 0) (pe_lst (pa_cons (pe_tup (pa_cons (pv 3) (pa_cons (pv 9) pa_nil))) pa_nil))) (pa_cons (pv 4) pa_nil)))))))), fun fr Q hret => ?_⟩
  ac_rfl
  refine we_nil (z3 zS (zL zS) (zL zS)) fun a => ?_
  ac_rfl
  refine kn_forS (S := List SRow) (r := z3 zS (zL zS) (zL zS)) (xs := srs) (fun _ => [some (iz zPR0 prs), some (iz zSR0 srs), some (iz zS pl), some (iz zS z), some (zAt a), none, none, none, none, none, none]) (fun t => [cL a (z3 zS (zL zS) (zL zS)) t]) (fun i t => t = twinS pl z (srs.take i)) [] ?_ ?_ rfl (fun x s => tg3 (by decide) (by decide) (by decide)) (fun fr' le i r t hi hP => ?_) (fun t hP => ?_)
  · ac_rfl
  · and_intros
  · have lt : t.length ≤ 100 := by rw [hP]; unfold twinS; rw [List.length_map, List.length_take]; omega
    obtain ⟨lr1, lr2⟩ := l3 r (List.mem_of_getElem? hi)
    subst_vars
    bv_omega
    bv_omega
    refine we_ifJ (b := decide (pl ∈ r.2.1)) (r := zL zS) (x := [z]) (y := []) ?_ (fun _ => ?_) (fun _ => ?_) ?_
    · ac_rfl
    · refine we_lst1 (x := z) (r := zS) ?_
      ac_rfl
      exact ⟨rfl, rfl, rfl⟩
    · refine we_nilF zS ?_
      ac_rfl
    rw [if_dec]
    subst_vars
    refine kn_append rfl (.head _) ?_
    refine we_tup ?_
    ac_rfl
    refine ops_cat (le_line (by have := ite_len (c := pl ∈ r.2.1) z; omega)) ?_
    bv_omega
    bv_omega
    bv_omega
    refine we_ifJ (b := decide (pl ∈ r.2.2)) (r := zL zS) (x := [z]) (y := []) ?_ (fun _ => ?_) (fun _ => ?_) ?_
    · ac_rfl
    · refine we_lst1 (x := z) (r := zS) ?_
      ac_rfl
      exact ⟨rfl, rfl, rfl⟩
    · refine we_nilF zS ?_
      ac_rfl
    rw [if_dec]
    refine ops_cat (le_line (by have := ite_len (c := pl ∈ r.2.2) z; omega)) ?_
    ac_rfl
    refine ⟨by simp, _, tr3, _, 0, rfl, rfl, by omega, ?_⟩
    subst_vars
    refine kn_back (t ++ [_]) ?_ ?_ rfl
    · and_intros
    · rw [take_more hi, hP]; unfold twinS; rw [List.map_append]; rfl
  · rw [List.take_length] at hP
    have lt : t.length = srs.length := by rw [hP]; unfold twinS; rw [List.length_map]
    ac_rfl
    refine we_lc (r := z2 zS zI) (s := zI) (xs := prs) (pr := fun x => decide (x.1 = pl)) (f := fun x => x.2) ?_ (by omega) (fun x => tg_name) (fun x hx c => ?_) (fun x hx hp c => ?_) ?_
    · ac_rfl
    · ac_rfl
    · ac_rfl
    obtain ⟨x0, hx0, hx0e⟩ := List.mem_map.mp hpl
    obtain ⟨y0, ys, hys⟩ : ∃ y0 ys, prs.filter (fun x => decide (x.1 = pl)) = y0 :: ys := by
      cases e : prs.filter (fun x => decide (x.1 = pl)) with
      | nil => exact absurd (decide_eq_true hx0e) (List.filter_eq_nil_iff.mp e x0 hx0)
      | cons y ys => exact ⟨y, ys, rfl⟩
    have hy0 : y0 ∈ prs ∧ y0.1 = pl := by
      have : y0 ∈ prs.filter (fun x => decide (x.1 = pl)) := by rw [hys]; exact List.mem_cons_self ..
      obtain ⟨h1, h2⟩ := List.mem_filter.mp this
      exact ⟨h1, of_decide_eq_true h2⟩
    rw [hys]
    ac_rfl
    refine ops_ixL (x := y0.2) (atI_nat (j := 0) rfl) ?_
    subst_vars
    refine kn_frz (i := 4) (j := 0) rfl rfl ?_
    subst_vars
    refine kn_ret (we_lstp (r := zPR0) (s := zSR0) ?_)
    ac_rfl
    refine we_lst (r := z2 zS zI) ?_
    refine wa_cons (we_tup ?_)
    ac_rfl
    refine ⟨by simp, _, tr2, ?_⟩
    ac_rfl
    refine ⟨[(z, y0.2)], rfl, by simp, ?_⟩
    refine ops_cat (le_line (by simp; omega)) ?_
    ac_rfl
    refine ⟨_, _, rfl, hret _ ⟨y0.2, ?_, ?_⟩ _⟩
    · rw [← hy0.2]
      exact hy0.1
    · rw [hP]
abbrev s__law_detoured : Stmt := topS 61
theorem sc__law_detoured : FnScope ["_law_places", "_law_steps_here", "_law_place", "_law_word_here", "_law_names", "_law_row"] ["_law_places", "_law_steps_here", "_law_place", "_law_word_here", "_law_names"] (defScope s__law_detoured) := ⟨rfl, rfl, rfl, by decide +kernel, rfl, by decide +kernel, by decide +kernel⟩
def preDetoured : Pre := fun ps out err => ∃ prs srs pl z n1 n2 ns, ps = [iz zPR0 prs, iz zSR0 srs, iz zS pl, iz zS z, iz (zL zS) (n1 :: n2 :: ns)] ∧ SmallR prs srs ∧ pl ∈ prs.map (·.1) ∧
  out = (fun p => (∃ num, (pl, num) ∈ prs ∧ p = iz (zLp zPR0 zSR0) (prs ++ [(z, num)], twinS pl z srs)) ∨ (∀ r ∈ srs, pl ∈ r.2.1 → r.2.1.length ≤ 1) ∧ p = iz (zLp zPR0 zSR0) (prs ++ [(z, 0)], detourS pl z n1 n2 srs)) ∧ err = noErr
theorem ok_detouredG {k : Nat} (B : Bl mg) (D__law_twinned : Def P w K mg base CX0 k "_law_twinned" ["_law_places", "_law_steps_here", "_law_place", "_law_word_here"] (spA preTwinned)) (F : Src K mg "_law_detoured" s__law_detoured ["_law_places", "_law_steps_here", "_law_place", "_law_word_here", "_law_names"]) : Def P w K mg base CX0 (k + 1) "_law_detoured" ["_law_places", "_law_steps_here", "_law_place", "_law_word_here", "_law_names"] (spA preDetoured) := by
  refine F.okA sc__law_detoured (fun qs out err ⟨_, _, _, _, _, _, _, h, _⟩ => by rw [h]; rfl) (fun f cdv A outer s H E qs out err hr hpre => ?_)
  obtain ⟨prs, srs, pl, z, n1, n2, ns, rfl, ⟨l1, l2, l3⟩, hpl, rfl, rfl⟩ := hpre
  refine ⟨_, (pss_cons (ps_if (pt_cmpR (kop_neD (K := K) hr.units) (pe_lc (own := [("_law_row", 5)]) (g := gName 5) (by rfl) sc__law_detoured.nd (kpi_list (K := K) (pv 1)) (blkOk_by (N := ["_law_places", "_law_steps_here", "_law_place", "_law_word_here", "_law_names", "_law_row"]) (sc := defScope s__law_detoured) (by decide +kernel)) (fun _ _ _ _ _ => (pg_name (i := 5) sc__law_detoured.nd rfl (Or.inl rfl))) (fun _ _ _ _ _ => pts_one (PW.pt (pw_and (pt_cmpR (kop_in (K := K)) (pv 2) (pe_ix (kix_tup (K := K)) (pv 5) pe_int (fun _ _ => rfl)) rfl) (pw_and1 (pt_cmpR op_gt (pe_callB (kcall_len (K := K)) (by rfl) B.len PySem.boot_len (pa_cons (pe_ix (kix_tup (K := K)) (pv 5) pe_int (fun _ _ => rfl)) pa_nil)) pe_int (nomark _)))))) (fun _ _ _ _ _ => (pv 5))) (pe_lst pa_nil) (nomark _)) (pss_one (ps_ret (pe_def D__law_twinned hr pass0 (pa_cons (pv 0) (pa_cons (pv 1) (pa_cons (pv 2) (pa_cons (pv 3) pa_nil))))))) pss_nil)
 (pss_one (ps_ret (pe_lst (pa_cons (pe_op op_cat (pv 0) (pe_lst (pa_cons (pe_tup (pa_cons (pv 3) (pa_cons pe_int pa_nil))) pa_nil))) (pa_cons (pe_op op_cat (pv 1) (pe_lst (pa_cons (pe_tup (pa_cons (pe_ix (kix_list (K := K)) (pv 4) pe_int (fun _ _ => rfl)) (pa_cons (pe_lst (pa_cons (pv 2) pa_nil)) (pa_cons (pe_lst (pa_cons (pv 3) pa_nil)) pa_nil)))) (pa_cons (pe_tup (pa_cons (pe_ix (kix_list (K := K)) (pv 4) pe_int (fun _ _ => rfl)) (pa_cons (pe_lst (pa_cons (pv 3) pa_nil)) (pa_cons (pe_lst (pa_cons (pv 2) pa_nil)) pa_nil)))) pa_nil)))) pa_nil)))))), fun fr Q hret => ?_⟩
  ac_rfl
  refine we_lc (r := z3 zS (zL zS) (zL zS)) (s := z3 zS (zL zS) (zL zS)) (xs := srs) (pr := fun r => decide (pl ∈ r.2.1) && decide ((1 : Int) < r.2.1.length)) (f := fun r => r) ?_ (by omega) (fun x => tg_name) (fun r hr c => ?_) (fun r hr hp c => ?_) ?_
  · ac_rfl
  · refine wt_and (b := decide (pl ∈ r.2.1)) (c := decide ((1 : Int) < r.2.1.length)) ?_ (fun _ => ?_) ⟨rfl, rfl⟩
    · ac_rfl
    · ac_rfl
  · ac_rfl
  refine we_nilF (z3 zS (zL zS) (zL zS)) ?_
  ac_rfl
  rw [List.map_id']
  refine ⟨fun h => ?_, fun h => ?_⟩
  · ac_rfl
    refine sps_A ⟨prs, srs, pl, z, rfl, ⟨l1, l2, l3⟩, hpl, rfl, rfl⟩ (fun p hp => hret _ (.inl hp) _) (fun e he => he.elim)
  · have h : (srs.filter fun r => decide (pl ∈ r.2.1) && decide ((1 : Int) < r.2.1.length)) = [] := by simpa using h
    have hone : ∀ r ∈ srs, pl ∈ r.2.1 → r.2.1.length ≤ 1 := fun r hr hp => by
      have := List.filter_eq_nil_iff.mp h r hr
      rw [decide_eq_true hp, Bool.true_and, decide_eq_true_iff] at this
      omega
    refine kn_next ?_
    subst_vars
    refine kn_ret (we_lstp (r := zPR0) (s := zSR0) ?_)
    ac_rfl
    refine we_lst (r := z2 zS zI) ?_
    refine wa_cons (we_tup ?_)
    ac_rfl
    refine ⟨by simp, _, tr2, ?_⟩
    ac_rfl
    refine ⟨[(z, 0)], rfl, by simp, ?_⟩
    refine ops_cat (le_line (by simp; omega)) ?_
    ac_rfl
    refine we_lst (r := z3 zS (zL zS) (zL zS)) ?_
    refine wa_cons (we_tup ?_)
    ac_rfl
    refine ops_ixL (x := n1) (atI_nat (j := 0) rfl) ?_
    ac_rfl
    refine we_lst1 (x := pl) (r := zS) ?_
    ac_rfl
    refine ⟨rfl, ?_⟩
    ac_rfl
    refine we_lst1 (x := z) (r := zS) ?_
    ac_rfl
    refine ⟨rfl, ?_⟩
    ac_rfl
    refine ⟨by simp, _, tr3, ?_⟩
    refine wa_cons (we_tup ?_)
    ac_rfl
    refine ops_ixL (x := n2) (atI_nat (j := 1) rfl) ?_
    ac_rfl
    refine we_lst1 (x := z) (r := zS) ?_
    ac_rfl
    refine ⟨rfl, ?_⟩
    ac_rfl
    refine we_lst1 (x := pl) (r := zS) ?_
    ac_rfl
    refine ⟨rfl, ?_⟩
    ac_rfl
    refine ⟨by simp, _, tr3, ?_⟩
    ac_rfl
    refine ⟨[(n1, [pl], [z]), (n2, [z], [pl])], rfl, by simp, ?_⟩
    refine ops_cat (le_line (by simp; omega)) ?_
    ac_rfl
    exact ⟨_, _, rfl, hret _ (.inr ⟨hone, rfl⟩) _⟩
end
section
variable {P : Program} {w : World} {K : PySem.W.Frag} {mg : Str → Option Value} {base : Heap}
abbrev s__law_ring : Stmt := topS 62
theorem sc__law_ring : FnScope ["_law_box_here", "_law_words_here", "_law_names", "_law_size", "_law_places", "_law_k"] ["_law_box_here", "_law_words_here", "_law_names"] (defScope s__law_ring) := ⟨rfl, rfl, rfl, by decide +kernel, rfl, by decide +kernel, by decide +kernel⟩
def preRing : PreB := fun qs o => ∃ ws ns : List Str, qs = [iz (zL zS) ws, iz (zL zS) ns] ∧ 3 ≤ ws.length ∧ 3 ≤ ns.length ∧ o = fun p => ∃ prs srs, GrownR ws ns prs srs ∧ prs.length ≤ 3 ∧ srs.length ≤ 3 ∧ p = iz (zLp zPR0 zSR0) (prs, srs)
theorem ok_ringG {k : Nat} (B : Bl mg) (D__law_next : Def P w K mg base CX0 k "_law_next" ["_law_box_here", "_law_many"] spNext) (F : Src K mg "_law_ring" s__law_ring ["_law_box_here", "_law_words_here", "_law_names"]) : Def P w K mg base CX0 (k + 1) "_law_ring" ["_law_box_here", "_law_words_here", "_law_names"] (spC (preB preRing)) := by
  refine F.okB sc__law_ring (fun qs o ⟨_, _, h, _⟩ => by rw [h]; rfl) (fun f cdv A outer s H E b l qs o hr hq => ?_)
  obtain ⟨ws, ns, rfl, lw, ln, rfl⟩ := hq
  refine ⟨_, (pss_cons (ps_asg (pe_op op_add pe_int (pe_def D__law_next hr pass0 (pa_cons (pv 0) (pa_cons pe_int pa_nil)))) (pg_name (i := 3) sc__law_ring.nd rfl (Or.inr rfl)))
 (pss_cons (ps_asg (pe_lst (pa_cons (pe_tup (pa_cons (pe_ix (kix_list (K := K)) (pv 1) pe_int (fun _ _ => rfl)) (pa_cons (pe_op op_add pe_int (pe_def D__law_next hr pass0 (pa_cons (pv 0) (pa_cons pe_int pa_nil)))) pa_nil))) pa_nil)) (pg_name (i := 4) sc__law_ring.nd rfl (Or.inl rfl)))
 (pss_cons (ps_for PassesOwn.never rfl (pi_range1 (by rfl) B.range (pa_cons (pe_op op_sub (pv 3) pe_int) pa_nil)) (pg_name (i := 5) sc__law_ring.nd rfl (Or.inl rfl)) (pss_one (ps_expr (pe_bm PySem.F.plainAttrs_list PySem.F.slot_list_append PySem.F.type_list_append mt_append (pv 4) (pa_cons (pe_tup (pa_cons (pe_ix (kix_list (K := K)) (pv 1) (pe_op op_add (pv 5) pe_int) (fun _ _ => rfl)) (pa_cons (pe_def D__law_next hr pass0 (pa_cons (pv 0) (pa_cons pe_int pa_nil))) pa_nil))) pa_nil)))))
 (pss_one (ps_ret (pe_lst (pa_cons (pv 4) (pa_cons (pe_lc (own := [("_law_k", 5)]) (g := gName 5) (by rfl) sc__law_ring.nd (pi_range1 (by rfl) B.range (pa_cons (pv 3) pa_nil)) (blkOk_by (N := ["_law_box_here", "_law_words_here", "_law_names", "_law_size", "_law_places", "_law_k"]) (sc := defScope s__law_ring) (by decide +kernel)) (fun _ _ _ _ _ => (pg_name (i := 5) sc__law_ring.nd rfl (Or.inl rfl))) (fun _ _ _ _ _ => pts_nil) (fun _ _ _ _ _ => (pe_tup (pa_cons (pe_ix (kix_list (K := K)) (pv 2) (pv 5) (fun _ _ => rfl)) (pa_cons (pe_lst (pa_cons (pe_ix (kix_list (K := K)) (pv 1) (pv 5) (fun _ _ => rfl)) pa_nil)) (pa_cons (pe_lst (pa_cons (pe_ix (kix_list (K := K)) (pv 1) (pe_op op_modN (pe_op op_add (pv 5) pe_int) (pv 3)) (fun _ _ => rfl)) pa_nil)) pa_nil)))))) pa_nil)))))))), fun fr Q hret => ?_⟩
  ac_rfl
  refine sps_next (.head _) (by decide) (by decide) fun n h0 h1 => ?_
  obtain ⟨m, rfl⟩ := nat_of h0
  ac_rfl
  rw [show (1 : Int) + m = ((m + 1 : Nat) : Int) by omega]
  refine we_own (z2 zS zI) ?_
  refine wa_cons (we_tup ?_)
  ac_rfl
  have hw0 : (0 : Nat) < ws.length := by omega
  refine ops_ixL (x := ws[0]) (atI_nat (j := 0) (List.getElem?_eq_getElem hw0)) ?_
  ac_rfl
  refine sps_next (.head _) (by decide) (by decide) fun n2 h2 h3 => ?_
  ac_rfl
  refine ⟨by simp, _, tr2, ?_⟩
  ac_rfl
  refine ⟨[(ws[0], 1 + n2)], rfl, by simp, fun a => ?_⟩
  subst_vars
  bv_omega
  refine kn_forS (S := List (Str × Int)) (r := zI) (xs := intsF 0 m) (fun _ => [some (zAt b), some (iz (zL zS) ws), some (iz (zL zS) ns), some (iz zI ((m + 1 : Nat) : Int)), some (zAt a), none]) (fun prs => [cL a (z2 zS zI) prs, cBox true b l])
    (fun i prs => prs.map (·.1) = ws.take (i + 1) ∧ (∀ r ∈ prs, 0 ≤ r.2 ∧ r.2 ≤ 2) ∧ ∀ r, prs[0]? = some r → 1 ≤ r.2) [(ws[0], 1 + n2)] ?_ ?_ ⟨?_, ?_, ?_⟩ (fun x s => tg_name) (fun fr' le i z prs hi hP => ?_) (fun prs hP => ?_)
  · ac_rfl
    refine ⟨by omega, by omega, ?_, rfl⟩
    rw [show (((m + 1 : Nat) : Int) - 1).toNat = m by omega]
  · and_intros
  · rw [take_more (List.getElem?_eq_getElem hw0)]; rfl
  · intro r hr5
    rw [List.mem_singleton.mp hr5]
    exact ⟨by show 0 ≤ 1 + n2; omega, by show 1 + n2 ≤ 2; omega⟩
  · intro r hr5
    cases hr5
    show 1 ≤ 1 + n2
    omega
  · obtain ⟨hi1, rfl⟩ := intsF_get hi
    obtain ⟨p1, p2, p3⟩ := hP
    have hpl : prs.length ≤ 3 := by
      have := congrArg List.length p1
      rw [List.length_map, List.length_take] at this
      omega
    have hiw : i + 1 < ws.length := by omega
    subst_vars
    refine kn_append rfl (.head _) ?_
    refine we_tup ?_
    ac_rfl
    rw [show (0 : Int) + i + 1 = ((i + 1 : Nat) : Int) by omega]
    refine ops_ixL (x := ws[i + 1]) (atI_nat (List.getElem?_eq_getElem hiw)) ?_
    ac_rfl
    refine sps_next (.tail _ (.head _)) (by decide) (by decide) fun n3 h4 h5 => ?_
    ac_rfl
    refine ⟨by simp, _, tr2, _, 0, rfl, rfl, by omega, ?_⟩
    subst_vars
    refine kn_back (prs ++ [(ws[i + 1], n3)]) ?_ ⟨?_, ?_, ?_⟩ rfl
    · and_intros
    · rw [List.map_append, take_more (List.getElem?_eq_getElem hiw), p1]; rfl
    · intro r hr5
      rcases List.mem_append.mp hr5 with h | h
      · exact p2 r h
      · rw [List.mem_singleton.mp h]
        exact ⟨h4, by show n3 ≤ 2; omega⟩
    · intro r hr5
      have hpos : 0 < prs.length := by
        have := congrArg List.length p1
        rw [List.length_map, List.length_take] at this
        omega
      rw [List.getElem?_append_left hpos] at hr5
      exact p3 r hr5
  · rw [intsF_len] at hP
    obtain ⟨p1, p2, p3⟩ := hP
    refine kn_frz (i := 4) (j := 0) rfl rfl ?_
    subst_vars
    refine kn_ret (we_lstp (r := zPR0) (s := zSR0) ?_)
    ac_rfl
    refine we_lc0 (r := zI) (s := z3 zS (zL zS) (zL zS)) (xs := intsF 0 (m + 1)) (f := fun k => (ns.getD k.toNat "", [ws.getD k.toNat ""], [ws.getD ((k.toNat + 1) % (m + 1)) ""])) ?_ (by rw [intsF_len]; omega) (fun x => tg_name) (fun x hx c => ?_) ?_
    · ac_rfl
      exact ⟨by omega, by omega, rfl, rfl⟩
    · obtain ⟨j, hj, rfl⟩ := mem_intsF hx
      have hjm : (j + 1) % (m + 1) < m + 1 := Nat.mod_lt _ (by omega)
      refine we_tup ?_
      ac_rfl
      refine ops_ixL (x := ns.getD j "") (atI_nat (getD_at (by omega))) ?_
      ac_rfl
      refine we_lst1 (r := zS) (x := ws.getD j "") ?_
      ac_rfl
      refine ops_ixL (x := ws.getD j "") (atI_nat (getD_at (by omega))) ?_
      refine ⟨rfl, ?_⟩
      ac_rfl
      refine we_lst1 (r := zS) (x := ws.getD ((j + 1) % (m + 1)) "") ?_
      ac_rfl
      refine ops_IC (by omega) ?_
      rw [Int.fmod_eq_emod_of_nonneg _ (by omega), show ((j : Int) + 1) % ((m + 1 : Nat) : Int) = (((j + 1) % (m + 1) : Nat) : Int) from (Int.natCast_emod (j + 1) (m + 1)).symm]
      refine ops_ixL (x := ws.getD ((j + 1) % (m + 1)) "") (atI_nat (getD_at (by omega))) ?_
      refine ⟨rfl, ?_⟩
      ac_rfl
      exact ⟨by simp, _, tr3, rfl, rfl⟩
    · ac_rfl
      refine ⟨_, _, rfl, hret _ ⟨prs, ringS ws ns (m + 1), ?_, ?_, ?_, ?_⟩ _ (.head _)⟩
      · exact .ring (by omega) (by omega) p1 p2 p3 (by omega) (by omega)
      · have := congrArg List.length p1
        rw [List.length_map, List.length_take] at this
        omega
      · unfold ringS
        rw [List.length_map, List.length_range]
        omega
      · have e : (intsF 0 (m + 1)).map (fun k => ((ns.getD k.toNat "", [ws.getD k.toNat ""], [ws.getD ((k.toNat + 1) % (m + 1)) ""]) : SRow)) = ringS ws ns (m + 1) := by
          unfold intsF ringS
          rw [List.map_map]
          refine List.map_congr_left fun j _ => ?_
          show ((ns.getD ((0 : Int) + j).toNat "", [ws.getD ((0 : Int) + j).toNat ""], [ws.getD ((((0 : Int) + j).toNat + 1) % (m + 1)) ""]) : SRow) = _
          rw [show ((0 : Int) + j).toNat = j by omega]
        rw [e]
abbrev s__law_grown : Stmt := topS 63
theorem sc__law_grown : FnScope ["_law_box_here", "_law_words_here", "_law_names", "_law_places", "_law_steps_here", "_law_turn", "_law_deed", "_law_place", "_law_word_here", "_law_fresh", "_law_row", "_law_first", "_law_last"] ["_law_box_here"] (defScope s__law_grown) := ⟨rfl, rfl, rfl, by decide +kernel, rfl, by decide +kernel, by decide +kernel⟩
theorem ok_grownG {k : Nat} (B : Bl mg) (D__law_next : Def P w K mg base CX0 k "_law_next" ["_law_box_here", "_law_many"] spNext) (D__law_words : Def P w K mg base CX0 k "_law_words" ["_law_box_here", "_law_many"] (spC (preB preWords)))
    (D__law_ring : Def P w K mg base CX0 k "_law_ring" ["_law_box_here", "_law_words_here", "_law_names"] (spC (preB preRing))) (D__law_stretched : Def P w K mg base CX0 k "_law_stretched" ["_law_places", "_law_steps_here", "_law_place", "_law_word_here", "_law_name"] (spA preStretched))
    (D__law_twinned : Def P w K mg base CX0 k "_law_twinned" ["_law_places", "_law_steps_here", "_law_place", "_law_word_here"] (spA preTwinned)) (D__law_detoured : Def P w K mg base CX0 k "_law_detoured" ["_law_places", "_law_steps_here", "_law_place", "_law_word_here", "_law_names"] (spA preDetoured))
    (F : Src K mg "_law_grown" s__law_grown ["_law_box_here"]) : Def P w K mg base CX0 (k + 1) "_law_grown" ["_law_box_here"] (spC (preB preGR)) := by
  refine F.okB sc__law_grown (fun qs o ⟨h, _⟩ => by rw [h]; rfl) (fun f cdv A outer s H E b l qs o hr hq => ?_)
  obtain ⟨rfl, rfl⟩ := hq
  refine ⟨_, (pss_cons (ps_asg (pe_def D__law_words hr pass0 (pa_cons (pv 0) (pa_cons pe_int pa_nil))) (pg_name (i := 1) sc__law_grown.nd rfl (Or.inl rfl)))
 (pss_cons (ps_asg (pe_def D__law_words hr pass0 (pa_cons (pv 0) (pa_cons pe_int pa_nil))) (pg_name (i := 2) sc__law_grown.nd rfl (Or.inl rfl)))
 (pss_cons (ps_asg (pe_def D__law_ring hr pass0 (pa_cons (pv 0) (pa_cons (pv 1) (pa_cons (pv 2) pa_nil)))) (pg_lst rfl (pgs_cons (pg_name (i := 3) sc__law_grown.nd rfl (Or.inl rfl)) (pgs_cons (pg_name (i := 4) sc__law_grown.nd rfl (Or.inl rfl)) pgs_nil))))
 (pss_cons (ps_for PassesOwn.never rfl (pi_range1 (by rfl) B.range (pa_cons (pe_def D__law_next hr pass0 (pa_cons (pv 0) (pa_cons pe_int pa_nil))) pa_nil)) (pg_name (i := 5) sc__law_grown.nd rfl (Or.inl rfl)) (pss_cons (ps_asg (pe_def D__law_next hr pass0 (pa_cons (pv 0) (pa_cons pe_int pa_nil))) (pg_name (i := 6) sc__law_grown.nd rfl (Or.inl rfl)))
 (pss_cons (ps_asg (pe_ix (kix_tup (K := K)) (pe_ix (kix_list (K := K)) (pv 3) (pe_def D__law_next hr pass0 (pa_cons (pv 0) (pa_cons (pe_callB (kcall_len (K := K)) (by rfl) B.len PySem.boot_len (pa_cons (pv 3) pa_nil)) pa_nil))) (fun _ _ => rfl)) pe_int (fun _ _ => rfl)) (pg_name (i := 7) sc__law_grown.nd rfl (Or.inl rfl)))
 (pss_cons (ps_asg (pe_ix (kix_list (K := K)) (pv 1) (pe_callB (kcall_len (K := K)) (by rfl) B.len PySem.boot_len (pa_cons (pv 3) pa_nil)) (fun _ _ => rfl)) (pg_name (i := 8) sc__law_grown.nd rfl (Or.inl rfl)))
 (pss_cons (ps_asg (pe_slice (ksl_list (K := K)) (pv 2) (po_some (pe_callB (kcall_len (K := K)) (by rfl) B.len PySem.boot_len (pa_cons (pv 4) pa_nil))) po_none) (pg_name (i := 9) sc__law_grown.nd rfl (Or.inl rfl)))
 (pss_one (ps_if (pt_cmpR op_eq (pv 6) pe_int (nomark _)) (pss_one (ps_asg (pe_def D__law_stretched hr pass0 (pa_cons (pv 3) (pa_cons (pv 4) (pa_cons (pv 7) (pa_cons (pv 8) (pa_cons (pe_ix (kix_list (K := K)) (pv 9) pe_int (fun _ _ => rfl)) pa_nil)))))) (pg_lst rfl (pgs_cons (pg_name (i := 3) sc__law_grown.nd rfl (Or.inl rfl)) (pgs_cons (pg_name (i := 4) sc__law_grown.nd rfl (Or.inl rfl)) pgs_nil))))) (pss_one (ps_if (pt_cmpR op_eq (pv 6) pe_int (nomark _)) (pss_one (ps_asg (pe_def D__law_twinned hr pass0 (pa_cons (pv 3) (pa_cons (pv 4) (pa_cons (pv 7) (pa_cons (pv 8) pa_nil))))) (pg_lst rfl (pgs_cons (pg_name (i := 3) sc__law_grown.nd rfl (Or.inl rfl)) (pgs_cons (pg_name (i := 4) sc__law_grown.nd rfl (Or.inl rfl)) pgs_nil))))) (pss_one (ps_if (pt_cmpR op_eq (pv 6) pe_int (nomark _)) (pss_cons (ps_asg (pe_ix (kix_list (K := K)) (pv 4) (pe_def D__law_next hr pass0 (pa_cons (pv 0) (pa_cons (pe_callB (kcall_len (K := K)) (by rfl) B.len PySem.boot_len (pa_cons (pv 4) pa_nil)) pa_nil))) (fun _ _ => rfl)) (pg_name (i := 10) sc__law_grown.nd rfl (Or.inl rfl)))
 (pss_one (ps_asg (pe_op op_cat (pv 4) (pe_lst (pa_cons (pe_tup (pa_cons (pe_ix (kix_list (K := K)) (pv 9) pe_int (fun _ _ => rfl)) (pa_cons (pe_callTy (kcall_list (K := K)) (by rfl) B.list' (by decide +kernel) (pa_cons (pe_ix (kix_tup (K := K)) (pv 10) pe_int (fun _ _ => rfl)) pa_nil)) (pa_cons (pe_callTy (kcall_list (K := K)) (by rfl) B.list' (by decide +kernel) (pa_cons (pe_ix (kix_tup (K := K)) (pv 10) pe_int (fun _ _ => rfl)) pa_nil)) pa_nil)))) pa_nil))) (pg_name (i := 4) sc__law_grown.nd rfl (Or.inl rfl))))) (pss_one (ps_asg (pe_def D__law_detoured hr pass0 (pa_cons (pv 3) (pa_cons (pv 4) (pa_cons (pv 7) (pa_cons (pv 8) (pa_cons (pv 9) pa_nil)))))) (pg_lst rfl (pgs_cons (pg_name (i := 3) sc__law_grown.nd rfl (Or.inl rfl)) (pgs_cons (pg_name (i := 4) sc__law_grown.nd rfl (Or.inl rfl)) pgs_nil))))))))))))))))
 (pss_cons (ps_asg (pe_def D__law_next hr pass0 (pa_cons (pv 0) (pa_cons (pe_callB (kcall_len (K := K)) (by rfl) B.len PySem.boot_len (pa_cons (pv 3) pa_nil)) pa_nil))) (pg_name (i := 11) sc__law_grown.nd rfl (Or.inl rfl)))
 (pss_cons (ps_asg (pe_def D__law_next hr pass0 (pa_cons (pv 0) (pa_cons (pe_callB (kcall_len (K := K)) (by rfl) B.len PySem.boot_len (pa_cons (pv 4) pa_nil)) pa_nil))) (pg_name (i := 12) sc__law_grown.nd rfl (Or.inl rfl)))
 (pss_one (ps_ret (pe_tup (pa_cons (pe_op op_cat (pe_slice (ksl_list (K := K)) (pv 3) (po_some (pv 11)) po_none) (pe_slice (ksl_list (K := K)) (pv 3) po_none (po_some (pv 11)))) (pa_cons (pe_op op_cat (pe_slice (ksl_list (K := K)) (pv 4) (po_some (pv 12)) po_none) (pe_slice (ksl_list (K := K)) (pv 4) po_none (po_some (pv 12)))) pa_nil))))))))))), fun fr Q hret => ?_⟩
  ac_rfl
  refine sps_B (.head _) ⟨7, rfl, by decide, rfl⟩ fun p ⟨ws, wl, wn, ww, hp⟩ => ?_
  subst hp
  ac_rfl
  refine sps_B (.head _) ⟨13, rfl, by decide, rfl⟩ fun p ⟨ns, nl, nn, nw, hp⟩ => ?_
  subst hp
  subst_vars
  bv_omega
  refine kn_asgT ?_
  ac_rfl
  refine sps_B (.head _) ⟨ws, ns, rfl, by omega, by omega, rfl⟩ fun p ⟨prs0, srs0, g0, lp0, ls0, hp⟩ => ?_
  subst hp
  refine ⟨_, _, tgLp (by decide) _ (fun _ _ _ _ h => h), ?_⟩
  subst_vars
  bv_omega
  refine kn_forN (r := zI) (A := fun ks Θ1 => ks.length ≤ 4 ∧ Θ1 = [cBox true b l]) ?_ (fun ks Θ1 ⟨k4, hΘ⟩ fr2 wi' le2 hwi => ?_)
  · ac_rfl
    refine sps_next (.head _) (by decide) (by decide) fun n2 h2 h3 => ?_
    ac_rfl
    exact ⟨by omega, by omega, _, rfl, by rw [intsF_len]; omega, rfl⟩
  subst hΘ
  refine kn_forS (S := List (Str × Int) × List SRow) (r := zI) (xs := ks) (fun s => [some (zAt b), some (iz (zL zS) ws), some (iz (zL zS) ns), some (iz zPR0 s.1), some (iz zSR0 s.2), none, none, none, none, none, none, none, none]) (fun _ => [cBox true b l]) (fun i s => GrownR ws ns s.1 s.2 ∧ s.1.length ≤ 3 + i ∧ s.2.length ≤ 3 + 2 * i) (prs0, srs0) hwi ?_ ⟨g0, by omega, by omega⟩ (fun x s => tg_name) (fun fr' le i z s hi hP => ?_) (fun s hP => ?_)
  · and_intros
  · obtain ⟨prs, srs⟩ := s
    obtain ⟨hg, lp, ls⟩ := hP
    dsimp only at hg lp ls
    have hil : i < ks.length := (List.getElem?_eq_some_iff.mp hi).1
    have G := hg.grow wn
    have p1 := G.p1
    have s1 := G.s1
    have sm := G.small (by omega) (by omega)
    subst_vars
    ac_rfl
    refine sps_next (.head _) (by decide) (by decide) fun deed d0 d1 => ?_
    ac_rfl
    refine sps_next (.head _) (by omega) (by omega) fun j j0 j1 => ?_
    obtain ⟨j, rfl⟩ := nat_of j0
    have hj : j < prs.length := by omega
    refine ops_ixL (x := prs[j]) (atI_nat (List.getElem?_eq_getElem hj)) ?_
    have hpm : prs[j] ∈ prs := List.getElem_mem hj
    generalize prs[j] = pr at hpm
    ac_rfl
    have hwz : prs.length < ws.length := by omega
    have hwe : ws[prs.length]? = some ws[prs.length] := List.getElem?_eq_getElem hwz
    refine ops_ixL (x := ws[prs.length]) (atI_nat hwe) ?_
    generalize ws[prs.length] = zz at hwe
    ac_rfl
    refine sls_L ?_
    rw [cutX_drop]
    have hns1 : srs.length + 1 < ns.length := by omega
    obtain ⟨n1, hn1⟩ : ∃ n1, ns[srs.length]? = some n1 := ⟨_, List.getElem?_eq_getElem (by omega)⟩
    obtain ⟨n2, hn2⟩ : ∃ n2, ns[srs.length + 1]? = some n2 := ⟨_, List.getElem?_eq_getElem hns1⟩
    rw [drop_at hn1, drop_at hn2]
    have hplm : pr.1 ∈ prs.map (·.1) := List.mem_map.mpr ⟨pr, hpm, rfl⟩
    have at0 : atI (n1 :: n2 :: ns.drop (srs.length + 1 + 1)) 0 = some n1 := atI_nat (j := 0) rfl
    subst_vars
    ac_rfl
    refine ⟨fun h => ?_, fun h => ?_⟩
    · refine kn_asgT ?_
      ac_rfl
      refine ops_ixL at0 ?_
      ac_rfl
      refine sps_A ⟨prs, srs, pr.1, zz, n1, rfl, sm, rfl, rfl⟩ (fun p hp => ?_) (fun e he => he.elim)
      subst hp
      refine ⟨_, _, tgLp (by decide) _ (fun _ _ _ _ h => h), ?_⟩
      subst_vars
      refine kn_back (prs ++ [(zz, 0)], stretchS pr.1 zz n1 srs) ?_ ⟨.stretch hg hplm hwe hn1, ?_, ?_⟩ rfl
      · and_intros
      · rw [List.length_append]; show _ + 1 ≤ _; omega
      · unfold stretchS; rw [List.length_append, List.length_map]; show _ + 1 ≤ _; omega
    ac_rfl
    refine ⟨fun h => ?_, fun h => ?_⟩
    · refine kn_asgT ?_
      ac_rfl
      refine sps_A ⟨prs, srs, pr.1, zz, rfl, sm, hplm, rfl, rfl⟩ (fun p ⟨num, hnum, hp⟩ => ?_) (fun e he => he.elim)
      subst hp
      refine ⟨_, _, tgLp (by decide) _ (fun _ _ _ _ h => h), ?_⟩
      subst_vars
      refine kn_back (prs ++ [(zz, num)], twinS pr.1 zz srs) ?_ ⟨.twin hg hnum hwe, ?_, ?_⟩ rfl
      · and_intros
      · rw [List.length_append]; show _ + 1 ≤ _; omega
      · unfold twinS; rw [List.length_map]; omega
    ac_rfl
    refine ⟨fun h => ?_, fun h => ?_⟩
    · ac_rfl
      refine sps_next (.head _) (by omega) (by omega) fun j2 j3 j4 => ?_
      obtain ⟨j2, rfl⟩ := nat_of j3
      have hj2 : j2 < srs.length := by omega
      refine ops_ixL (x := srs[j2]) (atI_nat (List.getElem?_eq_getElem hj2)) ?_
      have hrm : srs[j2] ∈ srs := List.getElem_mem hj2
      generalize srs[j2] = row at hrm
      subst_vars
      ac_rfl
      refine we_lst (r := z3 zS (zL zS) (zL zS)) ?_
      refine wa_cons (we_tup ?_)
      ac_rfl
      refine ops_ixL at0 ?_
      ac_rfl
      refine ⟨by simp, _, tr3, ?_⟩
      ac_rfl
      refine ⟨[(n1, row.2.1, row.2.2)], rfl, by simp, ?_⟩
      refine ops_cat (le_line (by simp; omega)) ?_
      subst_vars
      refine kn_back (prs, srs ++ [(n1, row.2.1, row.2.2)]) ?_ ⟨.copy hg hrm hn1, ?_, ?_⟩ rfl
      · and_intros
      · show prs.length ≤ _; omega
      · rw [List.length_append]; show _ + 1 ≤ _; omega
    · refine kn_asgT ?_
      ac_rfl
      refine sps_A ⟨prs, srs, pr.1, zz, n1, n2, _, rfl, sm, hplm, rfl, rfl⟩ (fun p hp => ?_) (fun e he => he.elim)
      rcases hp with ⟨num, hnum, hp⟩ | ⟨hone, hp⟩
      · subst hp
        refine ⟨_, _, tgLp (by decide) _ (fun _ _ _ _ h => h), ?_⟩
        subst_vars
        refine kn_back (prs ++ [(zz, num)], twinS pr.1 zz srs) ?_ ⟨.twin hg hnum hwe, ?_, ?_⟩ rfl
        · and_intros
        · rw [List.length_append]; show _ + 1 ≤ _; omega
        · unfold twinS; rw [List.length_map]; omega
      · subst hp
        refine ⟨_, _, tgLp (by decide) _ (fun _ _ _ _ h => h), ?_⟩
        subst_vars
        refine kn_back (prs ++ [(zz, 0)], detourS pr.1 zz n1 n2 srs) ?_ ⟨.detour hg hone hplm hwe hn1 hn2, ?_, ?_⟩ rfl
        · and_intros
        · rw [List.length_append]; show _ + 1 ≤ _; omega
        · unfold detourS; rw [List.length_append]; show _ + 2 ≤ _; omega
  · obtain ⟨prs, srs⟩ := s
    obtain ⟨hg, lp, ls⟩ := hP
    dsimp only at hg lp ls
    have G := hg.grow wn
    have p1 := G.p1
    have s1 := G.s1
    dsimp only
    ac_rfl
    refine sps_next (.head _) (by omega) (by omega) fun j j0 j1 => ?_
    obtain ⟨j, rfl⟩ := nat_of j0
    ac_rfl
    refine sps_next (.head _) (by omega) (by omega) fun j2 j3 j4 => ?_
    obtain ⟨j2, rfl⟩ := nat_of j3
    subst_vars
    refine kn_ret (we_tup ?_)
    ac_rfl
    refine sls_L ?_
    ac_rfl
    refine sls_L ?_
    rw [cutX_drop, cutX_take]
    refine ops_cat (le_line (by rw [List.length_drop, List.length_take]; omega)) ?_
    ac_rfl
    refine sls_L ?_
    ac_rfl
    refine sls_L ?_
    rw [cutX_drop, cutX_take]
    refine ops_cat (le_line (by rw [List.length_drop, List.length_take]; omega)) ?_
    ac_rfl
    exact ⟨by simp, _, tr2, (hret.fine le2) _ ⟨_, _, G.good wn nn ww nw (by omega) (by omega) (perm_rot prs j) (perm_rot srs j2), .inr ((hg.jr wn).jn.perm fun x => (perm_rot srs j2).mem_iff), rfl⟩ _ (.head _)⟩
end
section
variable {P : Program} {w : World} {K : PySem.W.Frag} {mg : Str → Option Value} {base : Heap}
abbrev s__law_rows : Stmt := topS 64
theorem sc__law_rows : FnScope ["_law_box_here", "_law_kind"] ["_law_box_here"] (defScope s__law_rows) := ⟨rfl, rfl, rfl, by decide +kernel, rfl, by decide +kernel, by decide +kernel⟩
theorem ok_lrowsG {k : Nat} (B : Bl mg) (D__law_next : Def P w K mg base CX0 k "_law_next" ["_law_box_here", "_law_many"] spNext) (D__law_any : Def P w K mg base CX0 k "_law_any" ["_law_box_here"] (spC (preB preGR))) (D__law_free : Def P w K mg base CX0 k "_law_free" ["_law_box_here"] (spC (preB preGR))) (D__law_grown : Def P w K mg base CX0 k "_law_grown" ["_law_box_here"] (spC (preB preGR)))
    (F : Src K mg "_law_rows" s__law_rows ["_law_box_here"]) : Def P w K mg base CX0 (k + 1) "_law_rows" ["_law_box_here"] (spC (preB preGR)) := by
  refine F.okB sc__law_rows (fun qs o ⟨h, _⟩ => by rw [h]; rfl) (fun f cdv A outer s H E b l qs o hr hq => ?_)
  obtain ⟨rfl, rfl⟩ := hq
  refine ⟨_, (pss_cons (ps_asg (pe_def D__law_next hr pass0 (pa_cons (pv 0) (pa_cons pe_int pa_nil))) (pg_name (i := 1) sc__law_rows.nd rfl (Or.inl rfl)))
 (pss_cons (ps_if (pt_cmpR op_eq (pv 1) pe_int (nomark _)) (pss_one (ps_ret (pe_def D__law_any hr pass0 (pa_cons (pv 0) pa_nil)))) pss_nil)
 (pss_cons (ps_if (pt_cmpR op_eq (pv 1) pe_int (nomark _)) (pss_one (ps_ret (pe_def D__law_free hr pass0 (pa_cons (pv 0) pa_nil)))) pss_nil)
 (pss_one (ps_ret (pe_def D__law_grown hr pass0 (pa_cons (pv 0) pa_nil))))))), fun fr Q hret => ?_⟩
  ac_rfl
  refine sps_next (.head _) (by decide) (by decide) fun n h0 h1 => ?_
  ac_rfl
  refine ⟨fun h => ?_, fun h => ?_⟩
  · ac_rfl
    exact sps_B (.head _) ⟨rfl, rfl⟩ fun p hp => hret _ hp _ (.head _)
  ac_rfl
  refine ⟨fun h => ?_, fun h => ?_⟩
  · ac_rfl
    exact sps_B (.head _) ⟨rfl, rfl⟩ fun p hp => hret _ hp _ (.head _)
  ac_rfl
  exact sps_B (.head _) ⟨rfl, rfl⟩ fun p hp => hret _ hp _ (.head _)
end
section
variable {P : Program} {w : World} {K : PySem.W.Frag} {mg : Str → Option Value} {base : Heap}
def ordRow (pl : List Str) (r : SRow) : SRow := (r.1, inOrd pl r.2.1, inOrd pl r.2.2)
/-- errors of plans -/
def erOf (cs : ECs) : PErr → Er
  | .tooMany k l => ⟨cs.tooMany, [("limit", iz zI l), ("kind", iz zS k)]⟩
  | .badWord w => ⟨cs.badWord, [("word", iz zS w)]⟩
  | .double n => ⟨cs.double, [("name", iz zS n)]⟩
  | .badNumber n => ⟨cs.badNumber, [("number", iz zI n)]⟩
  | .empty n => ⟨cs.empty, [("name", iz zS n)]⟩
  | .unknown n => ⟨cs.unknown, [("name", iz zS n)]⟩
theorem len_line {z : Str} (h : z.length ≤ 1000) : z.length ≤ sizeLine := Nat.le_of_lt (small1000 h)
def preCheckWord (cs : ECs) : Pre := fun ps out err => ∃ z, ps = [iz zS z] ∧ z.length ≤ 1000 ∧ out = (fun p => wd z.cps.toList = true ∧ p = iz zS z) ∧ err = fun e => wd z.cps.toList = false ∧ e = erOf cs (.badWord z)
theorem checkWordG {k : Nat} {cs : ECs} {ps : List Str} (D : Def P w K mg base (L2.CX P w) k "check_word" ps (spCheckWord cs.badWord)) : Def P w K mg base (L2.CX P w) k "check_word" ps (spA (preCheckWord cs)) := D.imp fun vs H Q E ⟨F, qs, out, err, fh, hps, ⟨z, e1, hz, e2, e3⟩, post, pers⟩ => by
  subst e1 e2 e3
  cases hps with
  | cons h1 hp => cases hp with
    | nil =>
      obtain ⟨h1, ha⟩ := h1
      subst h1
      exact ⟨z, rfl, len_line hz, fun h H' hh => post.flat fh ⟨h, rfl⟩ (fun _ => ⟨rfl, ha⟩) hh, fun h => pers.rais fh ⟨h, rfl⟩ (fs1S ha)⟩
def preCheckNumber (cs : ECs) : Pre := fun ps out err => ∃ n lo hi : Int, ps = [iz zI n, iz zI lo, iz zI hi] ∧ out = (fun p => (lo ≤ n ∧ n ≤ hi) ∧ p = iz zI n) ∧ err = fun e => ¬ (lo ≤ n ∧ n ≤ hi) ∧ e = erOf cs (.badNumber n)
theorem checkNumberG {k : Nat} {cs : ECs} {ps : List Str} (D : Def P w K mg base (L2.CX P w) k "check_number" ps (spCheckNumber cs.badNumber)) : Def P w K mg base (L2.CX P w) k "check_number" ps (spA (preCheckNumber cs)) := D.imp fun vs H Q E ⟨F, qs, out, err, fh, hps, ⟨n, lo, hi, e1, e2, e3⟩, post, pers⟩ => by
  subst e1 e2 e3
  cases hps with
  | cons h1 hp => cases hp with
    | cons h2 hp => cases hp with
      | cons h3 hp => cases hp with
        | nil =>
          have h1 : _ = V.int n := h1
          have h2 : _ = V.int lo := h2
          have h3 : _ = V.int hi := h3
          subst h1 h2 h3
          exact ⟨n, lo, hi, rfl, fun h => post.flat fh ⟨h, rfl⟩ (fun _ => rfl) (Same.refl H), fun h => pers.rais fh ⟨h, rfl⟩ fs1I⟩
def preCheckNames (cs : ECs) : Pre := fun ps out err => ∃ ws ks : List Str, (ps = [iz (zL zS) ws, iz (zT zS) ks] ∨ ps = [iz (zL zS) ws, iz (zL zS) ks]) ∧ ws.length ≤ 1000 ∧ out = (fun p => chk ks [] ws = none ∧ p = iz (zT zS) ws) ∧ err = fun e => ∃ x, chk ks [] ws = some x ∧ e = erOf cs (nameErr x)
theorem checkNamesG {k : Nat} {cs : ECs} {ps : List Str} (D : Def P w K mg base (L2.CX P w) k "check_names" ps (spCheckNames K cs.unknown cs.double)) : Def P w K mg base (L2.CX P w) k "check_names" ps (spA (preCheckNames cs)) := D.imp fun vs H Q E ⟨F, qs, out, err, fh, hps, ⟨ws, ks, e1, hl, e2, e3⟩, post, pers⟩ => by
  subst e2 e3
  have key : ∃ a c, vs = [.ref a, .ref c] ∧ H a = some (.lst (ws.map V.str)) ∧ (∀ y ∈ ws, Asc y) ∧ (SqT K H c (ks.map V.str) ∨ H c = some (.lst (ks.map V.str))) := by
    rcases e1 with e1 | e1
    · subst e1
      cases hps with
      | cons h1 hp => cases hp with
        | cons h2 hp => cases hp with
          | nil =>
            obtain ⟨a, us, rfl, h1, h3⟩ := h1
            obtain ⟨c, us', rfl, h2, h4⟩ := h2
            obtain ⟨rfl, h5⟩ := pvs_S h3
            obtain ⟨rfl, _⟩ := pvs_S h4
            exact ⟨a, c, rfl, fh _ _ h1, h5, .inl (h2.sq fh)⟩
    · subst e1
      cases hps with
      | cons h1 hp => cases hp with
        | cons h2 hp => cases hp with
          | nil =>
            obtain ⟨a, us, rfl, h1, h3⟩ := h1
            obtain ⟨c, us', rfl, h2, h4⟩ := h2
            obtain ⟨rfl, h5⟩ := pvs_S h3
            obtain ⟨rfl, _⟩ := pvs_S h4
            exact ⟨a, c, rfl, fh _ _ h1, h5, .inr (fh _ _ h2)⟩
  obtain ⟨a, c, rfl, ha, hw, hc⟩ := key
  refine ⟨a, c, ws, ks, rfl, SqL.of ha, ?_, hl, fun h p H' np hh hp => ?_, fun n h => ?_, fun n h => ?_⟩
  · rcases hc with hc | hc
    · exact .inr hc
    · exact .inl (SqL.of hc)
  · exact post.new fh ⟨h, rfl⟩ hh ⟨p, _, rfl, .inl (newF_at np hp), strs_pvs hw⟩
  · exact pers.rais fh ⟨_, h, rfl⟩ (fs1S (hw n (chk_mem h)))
  · exact pers.rais fh ⟨_, h, rfl⟩ (fs1S (hw n (chk_mem h)))
abbrev s_in_order : Stmt := topS 49
theorem sc_in_order : FnScope ["names", "places", "known", "place"] ["names", "places"] (defScope s_in_order) := ⟨rfl, rfl, rfl, by decide +kernel, rfl, by decide +kernel, by decide +kernel⟩
def preInOrder (cs : ECs) : Pre := fun ps out err => ∃ ws ks : List Str, ps = [iz (zL zS) ws, iz (zT zS) ks] ∧ ws.length ≤ 1000 ∧ ks.length ≤ 1000 ∧ out = (fun p => chk ks [] ws = none ∧ p = iz (zN zS) (inOrd ks ws)) ∧ err = fun e => ∃ x, chk ks [] ws = some x ∧ e = erOf cs (nameErr x)
theorem ok_in_orderG {k : Nat} {cs : ECs} (B : Bl mg) (D_check_names : Def P w K mg base (L2.CX P w) k "check_names" ["names", "known"] (spA (preCheckNames cs)))
    (F : Src K mg "in_order" s_in_order ["names", "places"]) : Def P w K mg base (L2.CX P w) (k + 1) "in_order" ["names", "places"] (spA (preInOrder cs)) := by
  refine F.okAX sc_in_order (fun qs out err ⟨_, _, h, _⟩ => by rw [h]; rfl) (fun f cdv A outer s H E qs out err hr hpre => ?_)
  obtain ⟨ws, ks, rfl, hl1, hl2, rfl, rfl⟩ := hpre
  refine ⟨_, (pss_cons (ps_asg (pe_def D_check_names hr (passes_call (takes_of rfl rfl rfl rfl) (fun _ _ _ _ h => h)) (pa_cons (pv 0) (pa_cons (pv 1) pa_nil))) (pg_name (i := 2) sc_in_order.nd rfl (Or.inr rfl)))
 (pss_one (ps_ret (pe_callTy (kcall_tuple (K := K)) (by rfl) B.tuple' (by decide +kernel) (pa_cons (pe_lc (own := [("place", 3)]) (g := gName 3) (by rfl) sc_in_order.nd (kpi_tup (K := K) (pv 1)) (blkOk_by (N := ["names", "places", "known", "place"]) (sc := defScope s_in_order) (by decide +kernel)) (fun _ _ _ _ _ => (pg_name (i := 3) sc_in_order.nd rfl (Or.inl rfl))) (fun _ _ _ _ _ => pts_one (pt_cmpR (kop_in (K := K)) (pv 3) (pv 2) rfl)) (fun _ _ _ _ _ => (pv 3))) pa_nil))))), fun fr Q hret hrse => ?_⟩
  ac_rfl
  refine sps_A ⟨ws, ks, .inl rfl, hl1, rfl, rfl⟩ (fun p ⟨hc, hp⟩ => ?_) (fun e he => kr_E hrse he)
  subst hp
  ac_rfl
  refine we_lc (r := zS) (s := zS) (xs := ks) (pr := fun x => decide (x ∈ ws)) (f := fun x => x) ?_ hl2 (fun x => tg_name) (fun x hx c => ?_) (fun x hx hp c => ?_) ?_
  · ac_rfl
  · ac_rfl
  · ac_rfl
  · refine wa_nil (cb_tupleLN ?_)
    ac_rfl
    refine hret _ ⟨hc, ?_⟩ _
    rw [List.map_id']
    rfl
/-- the places may stand at a bare place -/
def preInOrderK (cs : ECs) : Pre := fun ps out err => ∃ ws ks : List Str, ps = [iz (zL zS) ws, iz zK ks] ∧ ws.length ≤ 1000 ∧ ks.length ≤ 1000 ∧ out = (fun p => chk ks [] ws = none ∧ p = iz (zN zS) (inOrd ks ws)) ∧ err = fun e => ∃ x, chk ks [] ws = some x ∧ e = erOf cs (nameErr x)
theorem inOrderK {k : Nat} {cs : ECs} {ps : List Str} (D : Def P w K mg base (L2.CX P w) k "in_order" ps (spA (preInOrder cs))) : Def P w K mg base (L2.CX P w) k "in_order" ps (spA (preInOrderK cs)) := D.imp fun vs H Q E ⟨F, qs, out, err, fh, hps, ⟨ws, ks, e1, r⟩, post, pers⟩ => by
  subst e1
  refine ⟨F, _, out, err, fh, ?_, ⟨ws, ks, rfl, r⟩, post, pers⟩
  cases hps with
  | cons h1 hp => cases hp with
    | cons h2 hp =>
      cases hp
      exact .cons h1 (.cons (le_KT _ _ h2) .nil)
end
section
variable {P : Program} {w : World} {K : PySem.W.Frag} {mg : Str → Option Value} {base : Heap}
theorem some_none {α : Type} {o : Option α} (h : (!o.isSome) = true) : o = none := by
  cases o with
  | none => rfl
  | some x => cases h
theorem some_some {α : Type} {o : Option α} (h : (!o.isSome) = false) : ∃ x, o = some x := by
  cases o with
  | none => cases h
  | some x => exact ⟨x, rfl⟩
abbrev s_Plan_takes : Stmt := inClass (topS 50) 3
theorem sc_Plan_takes : FnScope ["self", "step"] ["self", "step"] (defScope s_Plan_takes) := ⟨rfl, rfl, rfl, by decide +kernel, rfl, by decide +kernel, by decide +kernel⟩
def preTakes (cs : ECs) (C : Addr) : Pre := fun ps out err => ∃ d n, ps = [iz (zPlan C) d, iz zS n] ∧ out = (fun p => ∃ l, getR d.tk n = some l ∧ p = iz (zT zS) l) ∧ err = fun e => getR d.tk n = none ∧ e = erOf cs (.unknown n)
theorem ok_takesG {k : Nat} {cs : ECs} {C f_UnknownName : Addr} (B : Bl mg) (T_Plan : PlanC K mg C) (X_UnknownName : ErrTxt P K mg false "UnknownName" cs.unknown f_UnknownName ["name"])
    (F : SrcM K C "takes" "Plan.takes" s_Plan_takes ["self", "step"]) : DefM P w K mg base (L2.CX P w) (k + 1) C "takes" ["self", "step"] (spA (preTakes cs C)) := by
  refine F.okAX sc_Plan_takes (fun qs out err ⟨d, n, h, _⟩ => by rw [h]; rfl) (fun f cdv A outer s H E qs out err hr hpre => ?_)
  obtain ⟨d, n, rfl, rfl, rfl⟩ := hpre
  refine ⟨_, (pss_cons (ps_if (pt_cmp (pc_dnotin (hu_of hr) (pv 1) (kpe_fld (K := K) (pv 0)))) (pss_one (ps_raiseE rfl X_UnknownName hr (takes_of rfl rfl rfl rfl) (pa_cons (pv 1) pa_nil))) pss_nil)
 (pss_one (ps_ret (pe_dget (hu_of hr) (kpe_fld (K := K) (pv 0)) (pv 1) (fun _ _ => rfl))))), fun fr Q hret hrse => ?_⟩
  ac_rfl
  refine ⟨fun h => ?_, fun h => ?_⟩
  · ac_rfl
    exact ⟨rfl, (fun h => nomatch h), kr_E hrse ⟨some_none h, rfl⟩⟩
  · obtain ⟨l, hl⟩ := some_some h
    ac_rfl
    exact ⟨_, _, _, _, l, dic_D, rfl, hl, hret _ ⟨l, hl, rfl⟩ _⟩
abbrev s_Plan_gives : Stmt := inClass (topS 50) 4
theorem sc_Plan_gives : FnScope ["self", "step"] ["self", "step"] (defScope s_Plan_gives) := ⟨rfl, rfl, rfl, by decide +kernel, rfl, by decide +kernel, by decide +kernel⟩
def preGives (cs : ECs) (C : Addr) : Pre := fun ps out err => ∃ d n, ps = [iz (zPlan C) d, iz zS n] ∧ out = (fun p => ∃ l, getR d.gv n = some l ∧ p = iz (zT zS) l) ∧ err = fun e => getR d.gv n = none ∧ e = erOf cs (.unknown n)
theorem ok_givesG {k : Nat} {cs : ECs} {C f_UnknownName : Addr} (B : Bl mg) (T_Plan : PlanC K mg C) (X_UnknownName : ErrTxt P K mg false "UnknownName" cs.unknown f_UnknownName ["name"])
    (F : SrcM K C "gives" "Plan.gives" s_Plan_gives ["self", "step"]) : DefM P w K mg base (L2.CX P w) (k + 1) C "gives" ["self", "step"] (spA (preGives cs C)) := by
  refine F.okAX sc_Plan_gives (fun qs out err ⟨d, n, h, _⟩ => by rw [h]; rfl) (fun f cdv A outer s H E qs out err hr hpre => ?_)
  obtain ⟨d, n, rfl, rfl, rfl⟩ := hpre
  refine ⟨_, (pss_cons (ps_if (pt_cmp (pc_dnotin (hu_of hr) (pv 1) (kpe_fld (K := K) (pv 0)))) (pss_one (ps_raiseE rfl X_UnknownName hr (takes_of rfl rfl rfl rfl) (pa_cons (pv 1) pa_nil))) pss_nil)
 (pss_one (ps_ret (pe_dget (hu_of hr) (kpe_fld (K := K) (pv 0)) (pv 1) (fun _ _ => rfl))))), fun fr Q hret hrse => ?_⟩
  ac_rfl
  refine ⟨fun h => ?_, fun h => ?_⟩
  · ac_rfl
    exact ⟨rfl, (fun h => nomatch h), kr_E hrse ⟨some_none h, rfl⟩⟩
  · obtain ⟨l, hl⟩ := some_some h
    ac_rfl
    exact ⟨_, _, _, _, l, dic_D, rfl, hl, hret _ ⟨l, hl, rfl⟩ _⟩
theorem tk_call {fr : L2.Fr} {Γ : Gam} {Θ : List Cel} {Kk : Vp → List Cel → Prop} {cs : ECs} {C : Addr} {E : L2.St → XK} {d : PlanD} {n : Str} {l : List Str} (h : getR d.tk n = some l) (k : Kk (iz (zT zS) l) Θ) : Sps fr Γ Θ (spA (preTakes cs C)) E [iz (zPlan C) d, iz zS n] Kk :=
  sps_A ⟨d, n, rfl, rfl, rfl⟩ (fun p ⟨l', hl, e⟩ => by
    rw [h] at hl
    cases hl
    rw [e]
    exact k) (fun e ⟨hn, _⟩ => by
    rw [h] at hn
    cases hn)
theorem gv_call {fr : L2.Fr} {Γ : Gam} {Θ : List Cel} {Kk : Vp → List Cel → Prop} {cs : ECs} {C : Addr} {E : L2.St → XK} {d : PlanD} {n : Str} {l : List Str} (h : getR d.gv n = some l) (k : Kk (iz (zT zS) l) Θ) : Sps fr Γ Θ (spA (preGives cs C)) E [iz (zPlan C) d, iz zS n] Kk :=
  sps_A ⟨d, n, rfl, rfl, rfl⟩ (fun p ⟨l', hl, e⟩ => by
    rw [h] at hl
    cases hl
    rw [e]
    exact k) (fun e ⟨hn, _⟩ => by
    rw [h] at hn
    cases hn)
end
section
variable {P : Program} {w : World} {K : PySem.W.Frag} {mg : Str → Option Value} {base : Heap}
theorem kvs_keys {F : Hp} {α : Type} {r : Rep α} {kvs : List (L2.Key × V)} {rows : List (Str × α)} (h : KVs r F kvs rows) : (kvs.map fun kv => kV kv.1) = (rows.map (·.1)).map V.str := by
  induction h with
  | nil => rfl
  | cons a _ ih =>
    rw [List.map_cons, List.map_cons, List.map_cons, ih, a.1]
    rfl
theorem cb_listD {fr : L2.Fr} {Θ : List Cel} {Kk : Vp → List Cel → Prop} {α : Type} {r : Rep α} {rows : List (Str × α)} {p : Vp} (h : DicP fr Θ p r rows) (ha : ∀ x ∈ rows, Asc x.1) (k : Kk (iz (zL zS) (rows.map (·.1))) Θ) : Cbs fr Θ rListD [p] Kk := fun F H vs ok hps Q q => by
  cases hps with
  | cons h1 hp => cases hp with
    | nil =>
      obtain ⟨a, kvs, rfl, h2, h3⟩ := h F H _ ok h1
      refine ⟨a, kvs, rfl, h2, fun l nl => ?_⟩
      rw [kvs_keys h3]
      exact q.new k ok nl ⟨l, _, rfl, upd_same, strs_pvs fun y hy => by
        obtain ⟨x, hx, rfl⟩ := List.mem_map.mp hy
        exact ha x hx⟩
def tkR (ss : List SRow) : List (Str × List Str) := ss.map fun s => (s.1, s.2.1)
def gvR (ss : List SRow) : List (Str × List Str) := ss.map fun s => (s.1, s.2.2)
def planFs (pl : List Str) (bg : List Int) (td tg : Addr) : List (Str × Vp) := [("places", iz zK pl), ("begin", iz (zT zI) bg), ("taken", zAt td), ("given", zAt tg)]
/-- the cells of a plan that is being built -/
def halfC (x C dx td tg : Addr) (pl : List Str) (bg : List Int) (ss : List SRow) : List Cel := [cI x C dx (planFs pl bg td tg), cD td (zN zS) (tkR ss), cD tg (zN zS) (gvR ss)]
theorem tkR_names (ss : List SRow) : (tkR ss).map (·.1) = ss.map (·.1) := by unfold tkR; rw [List.map_map]; rfl
theorem gvR_names (ss : List SRow) : (gvR ss).map (·.1) = ss.map (·.1) := by unfold gvR; rw [List.map_map]; rfl
theorem some_iff {α : Type} {rows : List (Str × α)} {n : Str} : (getR rows n).isSome = decide (n ∈ rows.map (·.1)) := by
  cases e : getR rows n with
  | none => rw [decide_eq_false (getR_none.mp e)]; rfl
  | some x => rw [decide_eq_true (List.mem_map.mpr ⟨_, getR_mem e, rfl⟩)]; rfl
theorem putR_new {α : Type} {rows : List (Str × α)} {n : Str} {x : α} (h : n ∉ rows.map (·.1)) : putR rows n x = rows ++ [(n, x)] := if_neg h
abbrev s_Plan_put_step : Stmt := inClass (topS 50) 1
theorem sc_Plan_put_step : FnScope ["self", "word", "takes", "gives", "taken"] ["self", "word", "takes", "gives"] (defScope s_Plan_put_step) := ⟨rfl, rfl, rfl, by decide +kernel, rfl, by decide +kernel, by decide +kernel⟩
def prePut (cs : ECs) (C : Addr) : PreC := fun ps Θ out err => ∃ x dx td tg pl bg ss r, ps = [zAt x, iz zS r.1, iz (zL zS) r.2.1, iz (zL zS) r.2.2] ∧ Θ = halfC x C dx td tg pl bg ss ∧ r.1.length ≤ 1000 ∧ r.2.1.length ≤ 1000 ∧ r.2.2.length ≤ 1000 ∧ pl.length ≤ 12 ∧ ss.length ≤ 16 ∧
  out = (fun p Θ' => stepDue pl (ss.map (·.1)) r = none ∧ p = zNon ∧ Θ' = halfC x C dx td tg pl bg (ss ++ [ordRow pl r])) ∧ err = fun e Θ' => ∃ y, stepDue pl (ss.map (·.1)) r = some y ∧ e = erOf cs y ∧ Θ' = Θ
theorem ok_put_stepG {k : Nat} {cs : ECs} {C f_DoubleName f_EmptyStep : Addr} (B : Bl mg) (T_Plan : PlanC K mg C) (X_DoubleName : ErrTxt P K mg false "DoubleName" cs.double f_DoubleName ["name"]) (X_EmptyStep : ErrTxt P K mg false "EmptyStep" cs.empty f_EmptyStep ["name"])
    (D_check_word : Def P w K mg base (L2.CX P w) k "check_word" ["word"] (spA (preCheckWord cs))) (D_in_order : Def P w K mg base (L2.CX P w) k "in_order" ["names", "places"] (spA (preInOrder cs)))
    (F : SrcM K C "put_step" "Plan.put_step" s_Plan_put_step ["self", "word", "takes", "gives"]) : DefM P w K mg base (L2.CX P w) (k + 1) C "put_step" ["self", "word", "takes", "gives"] (spC (prePut cs C)) := by
  refine F.okCX sc_Plan_put_step (fun qs Θ out err ⟨x, dx, td, tg, pl, bg, ss, r, h1, h2, _⟩ => ⟨by rw [h1]; rfl, fun c hc => by
    subst h2
    simp only [halfC, List.mem_cons, List.not_mem_nil, or_false] at hc
    rcases hc with rfl | rfl | rfl <;> rfl⟩) (fun f cdv A outer s H E qs Θ out err hr hpre => ?_)
  obtain ⟨x, dx, td, tg, pl, bg, ss, r, rfl, rfl, l1, l2, l3, lp, ls, rfl, rfl⟩ := hpre
  replace D_in_order := inOrderK D_in_order
  refine ⟨_, (pss_cons (ps_expr (pe_def D_check_word hr (passes_call (takes_of rfl rfl rfl rfl) (fun _ _ _ _ h => h)) (pa_cons (pv 1) pa_nil)))
 (pss_cons (ps_if (pt_cmp (pc_din (hu_of hr) (pv 1) (kpe_fld (K := K) (pv 0)))) (pss_one (ps_raiseE rfl X_DoubleName hr (takes_of rfl rfl rfl rfl) (pa_cons (pv 1) pa_nil))) pss_nil)
 (pss_cons (ps_if (pt_cmpR op_eq (pe_callB (kcall_len (K := K)) (by rfl) B.len PySem.boot_len (pa_cons (pv 2) pa_nil)) pe_int (nomark _)) (pss_one (ps_raiseE rfl X_EmptyStep hr (takes_of rfl rfl rfl rfl) (pa_cons (pv 1) pa_nil))) pss_nil)
 (pss_cons (ps_asg (pe_def D_in_order hr (passes_call (takes_of rfl rfl rfl rfl) (fun _ _ _ _ h => h)) (pa_cons (pv 2) (pa_cons (kpe_fld (K := K) (pv 0)) pa_nil))) (pg_name (i := 4) sc_Plan_put_step.nd rfl (Or.inl rfl)))
 (pss_cons (ps_dput (hu_of hr) (kpe_fld (K := K) (pv 0)) (pv 1) (pe_def D_in_order hr (passes_call (takes_of rfl rfl rfl rfl) (fun _ _ _ _ h => h)) (pa_cons (pv 3) (pa_cons (kpe_fld (K := K) (pv 0)) pa_nil))) rfl)
 (pss_one (ps_dput (hu_of hr) (kpe_fld (K := K) (pv 0)) (pv 1) (pv 4) rfl))))))), fun fr Q hret hrse => ?_⟩
  have er : ∀ {Γ : Gam} {y : PErr}, stepDue pl (ss.map (·.1)) r = some y → Kr fr Γ (halfC x C dx td tg pl bg ss) (fun cls d _ H => E cls d H) (erOf cs y) := fun {Γ y} h => kr_C hrse ⟨y, h, rfl, rfl⟩ rfl (Θx := []) (by rw [List.append_nil])
  -- check_word(word)
  bv_omega
  refine kn_drop ?_
  ac_rfl
  refine sps_A ⟨r.1, rfl, l1, rfl, rfl⟩ (fun p ⟨hw, hp⟩ => ?_) (fun e ⟨hw, he⟩ => ?_)
  rotate_left
  · subst he
    refine er ?_
    unfold stepDue
    rw [if_neg (by rw [hw]; exact Bool.false_ne_true)]
  -- if word in self.taken
  ac_rfl
  refine ⟨_, fld_C (.head _) T_Plan.cl T_Plan.nT rfl, _, _, _, _, dic_C (.tail _ (.head _)), rfl, _, rfl, ?_⟩
  rw [some_iff, tkR_names]
  refine ⟨fun h => ?_, fun h => ?_⟩
  · have h := of_decide_eq_true h
    ac_rfl
    refine ⟨rfl, (fun h => nomatch h), er (y := .double r.1) ?_⟩
    unfold stepDue
    rw [if_pos hw, if_pos h]
  have h1 := of_decide_eq_false h
  -- if len(takes) == 0
  ac_rfl
  refine ⟨fun h => ?_, fun h => ?_⟩
  · have h := of_decide_eq_true h
    ac_rfl
    refine ⟨rfl, (fun h => nomatch h), er (y := .empty r.1) ?_⟩
    unfold stepDue
    rw [if_pos hw, if_neg h1, if_pos (List.length_eq_zero_iff.mp (by omega))]
  have h2 : r.2.1 ≠ [] := fun q => of_decide_eq_false h (by rw [q]; rfl)
  -- taken
  ac_rfl
  refine ⟨_, fld_C (.head _) T_Plan.cl T_Plan.nP rfl, ?_⟩
  ac_rfl
  refine sps_A ⟨_, _, rfl, l2, by omega, rfl, rfl⟩ (fun p ⟨hc, hp⟩ => ?_) (fun e ⟨y, hy, he⟩ => ?_)
  rotate_left
  · subst he
    refine er ?_
    unfold stepDue
    rw [if_pos hw, if_neg h1, if_neg h2, hy]
  subst hp
  -- given
  ac_rfl
  refine kn_dput ?_
  ac_rfl
  refine ⟨_, fld_C (.head _) T_Plan.cl T_Plan.nP rfl, ?_⟩
  ac_rfl
  refine sps_A ⟨_, _, rfl, l3, by omega, rfl, rfl⟩ (fun p ⟨hc2, hp⟩ => ?_) (fun e ⟨y, hy, he⟩ => ?_)
  rotate_left
  · subst he
    refine er ?_
    unfold stepDue
    rw [if_pos hw, if_neg h1, if_neg h2, hc, hy]
    rfl
  subst hp
  have hdue : stepDue pl (ss.map (·.1)) r = none := by
    unfold stepDue
    rw [if_pos hw, if_neg h1, if_neg h2, hc, hc2]
    rfl
  ac_rfl
  refine ⟨_, fld_C (.head _) T_Plan.cl T_Plan.nG rfl, ?_⟩
  ac_rfl
  refine ⟨_, _, _, _, _, tg, 2, rfl, rfl, rfl, rfl, by unfold gvR; rw [List.length_map]; omega, ?_⟩
  subst_vars
  refine kn_dput ?_
  ac_rfl
  refine ⟨_, fld_C (.head _) T_Plan.cl T_Plan.nT rfl, ?_⟩
  ac_rfl
  refine ⟨_, _, _, _, _, td, 1, rfl, rfl, rfl, rfl, by unfold tkR; rw [List.length_map]; omega, ?_⟩
  rw [putR_new (by rw [gvR_names]; exact h1), putR_new (by rw [tkR_names]; exact h1)]
  have e1 : tkR ss ++ [(r.1, inOrd pl r.2.1)] = tkR (ss ++ [ordRow pl r]) := by unfold tkR; rw [List.map_append]; rfl
  have e2 : gvR ss ++ [(r.1, inOrd pl r.2.2)] = gvR (ss ++ [ordRow pl r]) := by unfold gvR; rw [List.map_append]; rfl
  rw [e1, e2]
  intro σ F' H' ok env
  exact hret zNon _ ⟨hdue, rfl, rfl⟩ rfl _ [] (by rw [List.append_nil]; exact .refl _) .non F' H' ok rfl
end
section
variable {P : Program} {w : World} {K : PySem.W.Frag} {mg : Str → Option Value} {base : Heap}
theorem fsok_none {F : Hp} {m : Str} : ∀ {fs : List (Str × Vp)} {us : List (Str × V)}, FsOk F fs us → fs.lookup m = none → us.lookup m = none
  | _, _, .nil, _ => rfl
  | (f1, f2) :: fs, (u1, u2) :: us, .cons ⟨h1, _⟩ r, h => by
    have h1 : f1 = u1 := h1
    subst h1
    rw [List.lookup_cons] at h ⊢
    cases e : (m == f1) with
    | true => rw [e] at h; cases h
    | false => rw [e] at h; exact fsok_none r h
theorem fsok_cons {F : Hp} {f : Str} {p : Vp} {fs : List (Str × Vp)} {us : List (Str × V)} (h : FsOk F ((f, p) :: fs) us) : ∃ w us', us = (f, w) :: us' ∧ p.p F w ∧ FsOk F fs us' := by
  cases us with
  | nil => cases h
  | cons u us =>
    cases h with
    | cons a b =>
      obtain ⟨u1, u2⟩ := u
      obtain ⟨a1, a2⟩ := a
      have a1 : f = u1 := a1
      subst a1
      exact ⟨u2, us, rfl, a2, b⟩
theorem ins_C {fr : L2.Fr} {Θ : List Cel} {a C dx : Addr} {fs : List (Str × Vp)} {m : Str} (hc : cI a C dx fs ∈ Θ) (hm : fs.lookup m = none) : InsP fr Θ (zAt a) C m := fun F H v ok hv => by
  obtain ⟨_, ⟨o, h2, us, rfl, h6⟩, _⟩ := ok.ce _ hc
  exact ⟨a, dx, us, hv, h2, fsok_none h6 hm⟩
def PRowsOk (prs : List (Str × Int)) : Prop := ∀ r ∈ prs, r.1.length ≤ 1000
def SRowsOk (srs : List SRow) : Prop := ∀ r ∈ srs, r.1.length ≤ 1000 ∧ r.2.1.length ≤ 1000 ∧ r.2.2.length ≤ 1000
abbrev zPR : Rep (List (Str × Int)) := zL (z2 zS zI)
abbrev zSR : Rep (List SRow) := zL (z3 zS (zL zS) (zL zS))
theorem placesDue_ok : ∀ {prs : List (Str × Int)} {seen : List Str}, placesDue seen prs = none → seen.Nodup → (∀ r ∈ prs, Wd r.1 ∧ 0 ≤ r.2 ∧ r.2 ≤ 99) ∧ (seen ++ prs.map (·.1)).Nodup
  | [], seen, _, hs => ⟨(fun r hr => by cases hr), by simpa using hs⟩
  | (w, n) :: r, seen, h, hs => by
    rw [placesDue_cons] at h
    by_cases h1 : wd w.cps.toList = true
    · rw [if_pos h1] at h
      by_cases h2 : w ∈ seen
      · rw [if_pos h2] at h; cases h
      · rw [if_neg h2] at h
        by_cases h3 : 0 ≤ n ∧ n ≤ 99
        · rw [if_pos h3] at h
          obtain ⟨a, b⟩ := placesDue_ok h (nodup_snoc hs h2)
          refine ⟨fun x hx => ?_, ?_⟩
          · rcases List.mem_cons.mp hx with rfl | hx
            · exact ⟨h1, h3⟩
            · exact a x hx
          · rw [List.map_cons]
            rw [List.append_assoc] at b
            exact b
        · rw [if_neg h3] at h; cases h
    · rw [if_neg h1] at h; cases h
theorem stepDue_ok {pl seen : List Str} {s : SRow} (h : stepDue pl seen s = none) : Wd s.1 ∧ s.1 ∉ seen ∧ s.2.1 ≠ [] ∧ chk pl [] s.2.1 = none ∧ chk pl [] s.2.2 = none := by
  unfold stepDue at h
  by_cases h1 : wd s.1.cps.toList = true
  · rw [if_pos h1] at h
    by_cases h2 : s.1 ∈ seen
    · rw [if_pos h2] at h; cases h
    · rw [if_neg h2] at h
      by_cases h3 : s.2.1 = []
      · rw [if_pos h3] at h; cases h
      · rw [if_neg h3] at h
        cases h4 : chk pl [] s.2.1 with
        | some x => rw [h4] at h; cases h
        | none =>
          rw [h4] at h
          cases h5 : chk pl [] s.2.2 with
          | some x => rw [h5] at h; cases h
          | none => exact ⟨h1, h2, h3, rfl, rfl⟩
  · rw [if_neg h1] at h; cases h
theorem stepsDue_ok {pl : List Str} : ∀ {srs : List SRow} {seen : List Str}, stepsDue pl seen srs = none → seen.Nodup → (∀ r ∈ srs, Wd r.1 ∧ r.2.1 ≠ [] ∧ chk pl [] r.2.1 = none ∧ chk pl [] r.2.2 = none) ∧ (seen ++ srs.map (·.1)).Nodup
  | [], seen, _, hs => ⟨(fun r hr => by cases hr), by simpa using hs⟩
  | s :: r, seen, h, hs => by
    rw [stepsDue_cons] at h
    cases h1 : stepDue pl seen s with
    | some e => rw [h1] at h; cases h
    | none =>
      rw [h1] at h
      obtain ⟨a1, a2, a3, a4, a5⟩ := stepDue_ok h1
      obtain ⟨a, b⟩ := stepsDue_ok h (nodup_snoc hs a2)
      refine ⟨fun x hx => ?_, ?_⟩
      · rcases List.mem_cons.mp hx with rfl | hx
        · exact ⟨a1, a3, a4, a5⟩
        · exact a x hx
      · rw [List.map_cons]
        rw [List.append_assoc] at b
        exact b
theorem inOrd_idem (pl ns : List Str) : inOrd pl (inOrd pl ns) = inOrd pl ns := by
  unfold inOrd
  refine List.filter_congr fun y hy => ?_
  rw [decide_eq_decide, List.mem_filter, decide_eq_true_iff]
  exact ⟨fun h => h.2, fun h => ⟨hy, h⟩⟩
theorem planDue_ok {prs : List (Str × Int)} {srs : List SRow} (h : planDue prs srs = none) : PlanOk (planOf prs srs) := by
  unfold planDue at h
  by_cases h1 : 12 < prs.length
  · rw [if_pos h1] at h; cases h
  rw [if_neg h1] at h
  by_cases h2 : 16 < srs.length
  · rw [if_pos h2] at h; cases h
  rw [if_neg h2] at h
  cases h3 : placesDue [] prs with
  | some e => rw [h3] at h; cases h
  | none =>
    rw [h3] at h
    obtain ⟨a, b⟩ := placesDue_ok h3 List.nodup_nil
    obtain ⟨c, d⟩ := stepsDue_ok h List.nodup_nil
    refine ⟨fun y hy => ?_, by simpa [planOf] using b, by simp [planOf], fun n hn => ?_, fun r hr => ?_, ?_, by simp [planOf]; omega, by simp [planOf]; omega⟩
    · obtain ⟨r, hr, rfl⟩ := List.mem_map.mp hy
      exact (a r hr).1
    · obtain ⟨r, hr, rfl⟩ := List.mem_map.mp hn
      exact (a r hr).2
    · obtain ⟨s, hs, rfl⟩ := List.mem_map.mp hr
      obtain ⟨c1, c2, c3, c4⟩ := c s hs
      refine ⟨c1, fun q => c2 ?_, inOrd_idem _ _, inOrd_idem _ _⟩
      obtain ⟨n1, n2⟩ := chk_none.mp c3
      cases e : s.2.1 with
      | nil => rfl
      | cons y ys =>
        have hy : y ∈ s.2.1 := by rw [e]; exact List.mem_cons_self ..
        have : y ∈ inOrd (prs.map (·.1)) s.2.1 := by
          unfold inOrd
          exact List.mem_filter.mpr ⟨(n2 y hy).1, decide_eq_true hy⟩
        have q : inOrd (prs.map (·.1)) s.2.1 = [] := q
        rw [q] at this
        cases this
    · have : (planOf prs srs).names = srs.map (·.1) := by
        unfold PlanD.names planOf
        rw [List.map_map]
        rfl
      rw [this]
      simpa using d
theorem kvs_tab {F : Hp} : ∀ {kvs : List (L2.Key × V)} {rows : List (Str × List Str)}, KVs (zN zS) F kvs rows → TabAt F kvs rows
  | _, _, .nil => .nil
  | _, _, .cons ⟨h1, t, us, h2, h3, h4⟩ r => by
    obtain ⟨rfl, _⟩ := pvs_S h4
    exact .cons ⟨h1, t, h2, h3⟩ (kvs_tab r)
/-- a plan that is built is frozen -/
theorem plan_frz {fr : L2.Fr} {Θ : List Cel} {F H : Hp} {x C dx td tg : Addr} {d : PlanD} (ok : OkF fr (cI x C dx [("places", iz zK d.places), ("begin", iz (zT zI) d.begin), ("taken", zAt td), ("given", zAt tg), ("steps", iz (zT zS) d.names)] :: cD td (zN zS) d.tk :: cD tg (zN zS) d.gv :: Θ) F H) (hd : PlanOk d) : ∃ F', OkF fr Θ F' H ∧ (iz (zPlan C) d).p F' (.ref x) := by
  obtain ⟨n1, ⟨o, h1, us, rfl, f1⟩, _⟩ := ok.ce _ (.head _)
  obtain ⟨n2, ⟨o, h2, kt, rfl, f2⟩, _⟩ := ok.ce _ (.tail _ (.head _))
  obtain ⟨n3, ⟨o, h3, kg, rfl, f3⟩, _⟩ := ok.ce _ (.tail _ (.tail _ (.head _)))
  have h1 : H x = some (.ins C dx us) := h1
  have h2 : H td = some (.dK kt) := h2
  have h3 : H tg = some (.dK kg) := h3
  have ok1 := ok.frz (i := 0) rfl rfl h1
  have s1 : Same F (upd F x (.ins C dx us)) := same_upd n1
  have ok2 := ok1.frz (i := 0) rfl rfl h2
  have n2' : upd F x (.ins C dx us) td = none := (ok1.ce _ (.head _)).1
  have s2 := same_upd (o := .dK kt) n2'
  have ok3 := ok2.frz (i := 0) rfl rfl h3
  have n3' : upd (upd F x (.ins C dx us)) td (.dK kt) tg = none := (ok2.ce _ (.head _)).1
  have s3 := same_upd (o := .dK kg) n3'
  have s123 := (s1.trans s2).trans s3
  refine ⟨_, ok3, ?_⟩
  obtain ⟨w1, us1, rfl, ⟨tp, vp, rfl, p1, q1⟩, g1⟩ := fsok_cons f1
  obtain ⟨w2, us2, rfl, ⟨tb, vb, rfl, p2, q2⟩, g2⟩ := fsok_cons g1
  obtain ⟨w3, us3, rfl, e3, g3⟩ := fsok_cons g2
  obtain ⟨w4, us4, rfl, e4, g4⟩ := fsok_cons g3
  obtain ⟨w5, us5, rfl, ⟨ts, vs, rfl, p5, q5⟩, g5⟩ := fsok_cons g4
  have e3 : w3 = .ref td := e3
  have e4 : w4 = .ref tg := e4
  subst e3 e4
  cases g5
  obtain ⟨rfl, _⟩ := pvs_S q1
  have := pvs_I q2
  subst this
  obtain ⟨rfl, _⟩ := pvs_S q5
  exact ⟨x, rfl, ⟨dx, tp, tb, td, tg, ts, kt, kg, s3 _ _ (s2 _ _ upd_same), p1.mono s123, s123 _ _ (p2.nar rfl), s3 _ _ upd_same, upd_same, p5.mono s123, kvs_tab (f2.mono s123), kvs_tab (f3.mono s123)⟩, hd⟩
end
section
variable {P : Program} {w : World} {K : PySem.W.Frag} {mg : Str → Option Value} {base : Heap}
abbrev s_Plan___init__ : Stmt := inClass (topS 50) 0
theorem sc_Plan___init__ : FnScope ["self", "places", "steps", "words", "numbers", "word", "number", "takes", "gives"] ["self", "places", "steps"] (defScope s_Plan___init__) := ⟨rfl, rfl, rfl, by decide +kernel, rfl, by decide +kernel, by decide +kernel⟩
def preInit (cs : ECs) (C : Addr) : Pre := fun ps out err => ∃ prs srs, ps = [iz zPR prs, iz zSR srs] ∧ PRowsOk prs ∧ SRowsOk srs ∧ out = (fun p => planDue prs srs = none ∧ p = iz (zPlan C) (planOf prs srs)) ∧ err = fun e => ∃ y, planDue prs srs = some y ∧ e = erOf cs y
theorem ok_plan_initG {k : Nat} {cs : ECs} {C f_TooMany f_DoubleName : Addr} (B : Bl mg) (T_Plan : PlanC K mg C) (g_MOST_PLACES : Glo mg "MOST_PLACES" (.int 12)) (g_MOST_STEPS : Glo mg "MOST_STEPS" (.int 16)) (g_MOST_BEGIN : Glo mg "MOST_BEGIN" (.int 99))
    (X_TooMany : ErrTxt P K mg true "TooMany" cs.tooMany f_TooMany ["kind", "limit"]) (X_DoubleName : ErrTxt P K mg false "DoubleName" cs.double f_DoubleName ["name"])
    (D_check_word : Def P w K mg base (L2.CX P w) k "check_word" ["word"] (spA (preCheckWord cs))) (D_check_number : Def P w K mg base (L2.CX P w) k "check_number" ["number", "least", "most"] (spA (preCheckNumber cs)))
    (DM_Plan_put_step : DefM P w K mg base (L2.CX P w) k C "put_step" ["self", "word", "takes", "gives"] (spC (prePut cs C)))
    (F : SrcI K C "Plan.__init__" s_Plan___init__ ["self", "places", "steps"]) : DefI P w K mg base (L2.CX P w) (k + 1) C ["self", "places", "steps"] (spI C (preInit cs C)) := by
  refine F.okAX sc_Plan___init__ (fun qs out err ⟨_, _, h, _⟩ => by rw [h]; rfl) (fun f cdv A outer s H E qs out err hr hpre => ?_)
  obtain ⟨prs, srs, rfl, okP, okS, rfl, rfl⟩ := hpre
  refine ⟨_, (pss_cons (ps_if (pt_cmpR op_gt (pe_callB (kcall_len (K := K)) (by rfl) B.len PySem.boot_len (pa_cons (pv 1) pa_nil)) (pe_glo g_MOST_PLACES) (nomark _)) (pss_one (ps_raiseE rfl X_TooMany hr (takes_of rfl rfl rfl rfl) (pa_cons pe_str (pa_cons (pe_glo g_MOST_PLACES) pa_nil)))) pss_nil)
 (pss_cons (ps_if (pt_cmpR op_gt (pe_callB (kcall_len (K := K)) (by rfl) B.len PySem.boot_len (pa_cons (pv 2) pa_nil)) (pe_glo g_MOST_STEPS) (nomark _)) (pss_one (ps_raiseE rfl X_TooMany hr (takes_of rfl rfl rfl rfl) (pa_cons pe_str (pa_cons (pe_glo g_MOST_STEPS) pa_nil)))) pss_nil)
 (pss_cons (ps_asg (pe_lst pa_nil) (pg_name (i := 3) sc_Plan___init__.nd rfl (Or.inl rfl)))
 (pss_cons (ps_asg (pe_lst pa_nil) (pg_name (i := 4) sc_Plan___init__.nd rfl (Or.inl rfl)))
 (pss_cons (ps_for (passes_of rfl) rfl (kpi_list (K := K) (pv 1)) (pg_tup rfl (pgs_cons (pg_name (i := 5) sc_Plan___init__.nd rfl (Or.inl rfl)) (pgs_cons (pg_name (i := 6) sc_Plan___init__.nd rfl (Or.inl rfl)) pgs_nil))) (pss_cons (ps_expr (pe_def D_check_word hr (passes_call (takes_of rfl rfl rfl rfl) (fun _ _ _ _ h => h)) (pa_cons (pv 5) pa_nil)))
 (pss_cons (ps_if (pt_cmpR (kop_in (K := K)) (pv 5) (pv 3) rfl) (pss_one (ps_raiseE rfl X_DoubleName hr (takes_of rfl rfl rfl rfl) (pa_cons (pv 5) pa_nil))) pss_nil)
 (pss_cons (ps_expr (pe_bm PySem.F.plainAttrs_list PySem.F.slot_list_append PySem.F.type_list_append mt_append (pv 4) (pa_cons (pe_def D_check_number hr (passes_call (takes_of rfl rfl rfl rfl) (fun _ _ _ _ h => h)) (pa_cons (pv 6) (pa_cons pe_int (pa_cons (pe_glo g_MOST_BEGIN) pa_nil)))) pa_nil)))
 (pss_one (ps_expr (pe_bm PySem.F.plainAttrs_list PySem.F.slot_list_append PySem.F.type_list_append mt_append (pv 3) (pa_cons (pv 5) pa_nil))))))))
 (pss_cons (kps_fld (K := K) (pv 0) (pe_callTy (kcall_tupleX (K := K)) (by rfl) B.tuple' (by decide +kernel) (pa_cons (pv 3) pa_nil)))
 (pss_cons (kps_fld (K := K) (pv 0) (pe_callTy (kcall_tuple (K := K)) (by rfl) B.tuple' (by decide +kernel) (pa_cons (pv 4) pa_nil)))
 (pss_cons (kps_fld (K := K) (pv 0) pe_dnewK)
 (pss_cons (kps_fld (K := K) (pv 0) pe_dnewK)
 (pss_cons (ps_for (passes_of rfl) rfl (kpi_list (K := K) (pv 2)) (pg_tup rfl (pgs_cons (pg_name (i := 5) sc_Plan___init__.nd rfl (Or.inl rfl)) (pgs_cons (pg_name (i := 7) sc_Plan___init__.nd rfl (Or.inl rfl)) (pgs_cons (pg_name (i := 8) sc_Plan___init__.nd rfl (Or.inl rfl)) pgs_nil)))) (pss_one (ps_expr (pe_metD DM_Plan_put_step T_Plan.cl hr (fun σ => Passes.at (passes_call (takes_of rfl rfl rfl rfl) (fun _ _ _ _ h => h)) σ) (pv 0) (pa_cons (pv 5) (pa_cons (pv 7) (pa_cons (pv 8) pa_nil)))))))
 (pss_one (kps_fld (K := K) (pv 0) (pe_callTy (kcall_tuple (K := K)) (by rfl) B.tuple' (by decide +kernel) (pa_cons (pe_callTy (call_list_dK rfl) (by rfl) B.list' (by decide +kernel) (pa_cons (kpe_fld (K := K) (pv 0)) pa_nil)) pa_nil)))))))))))))), fun fr x dx Q rt hQ hrt hrse => ?_⟩
  have er : ∀ {fr' : L2.Fr} {Γ : Gam} {Θ : List Cel} {y : PErr}, FrLe fr fr' → planDue prs srs = some y → Kr fr' Γ Θ (fun cls d _ H => E cls d H) (erOf cs y) := fun {fr' Γ Θ y} le h => kr_E (hrse.fine le) ⟨y, h, rfl⟩
  have le0 : FrLe fr fr := ⟨rfl, rfl, Same.refl _, fun a o h => .inl ⟨o, h⟩⟩
  ac_rfl
  refine ⟨fun h => ?_, fun h => ?_⟩
  · have h := of_decide_eq_true h
    ac_rfl
    refine ⟨rfl, (fun _ => ⟨_, _, rfl, by decide⟩), er (y := .tooMany "places" 12) le0 ?_⟩
    unfold planDue
    rw [if_pos (by omega)]
  have h1 : ¬ 12 < prs.length := fun q => of_decide_eq_false h (by omega)
  ac_rfl
  refine ⟨fun h => ?_, fun h => ?_⟩
  · have h := of_decide_eq_true h
    ac_rfl
    refine ⟨rfl, (fun _ => ⟨_, _, rfl, by decide⟩), er (y := .tooMany "steps" 16) le0 ?_⟩
    unfold planDue
    rw [if_neg h1, if_pos (by omega)]
  have h2 : ¬ 16 < srs.length := fun q => of_decide_eq_false h (by omega)
  have pd1 : ∀ {y : PErr}, placesDue [] prs = some y → planDue prs srs = some y := fun {y} h => by
    unfold planDue
    rw [if_neg h1, if_neg h2, h]
  have pd2 : placesDue [] prs = none → planDue prs srs = stepsDue (prs.map (·.1)) [] srs := fun h => by
    unfold planDue
    rw [if_neg h1, if_neg h2, h]
  ac_rfl
  refine we_nil zS fun a1 => ?_
  ac_rfl
  refine we_nil zI fun a2 => ?_
  ac_rfl
  refine kn_forS (S := List (Str × Int)) (r := z2 zS zI) (xs := prs) (fun _ => [some (zAt x), some (iz zPR prs), some (iz zSR srs), some (zAt a1), some (zAt a2), none, none, none, none]) (fun d => [cL a2 zI (d.map (·.2)), cL a1 zS (d.map (·.1)), cI x C dx []])
    (fun i d => d = prs.take i ∧ placesDue [] prs = placesDue (d.map (·.1)) (prs.drop i)) [] ?_ ?_ ⟨rfl, rfl⟩ (fun x s => tg2 (by decide)) (fun fr' le i r d hi hP => ?_) (fun d hP => ?_)
  · ac_rfl
  · and_intros
  · obtain ⟨hd, hdue⟩ := hP
    obtain ⟨z, n⟩ := r
    rw [drop_at hi, placesDue_cons] at hdue
    have lz : z.length ≤ 1000 := okP _ (List.mem_of_getElem? hi)
    have ld : d.length ≤ 12 := by rw [hd]; have := List.length_take_le i prs; rw [List.length_take] at this ⊢; omega
    subst_vars
    bv_omega
    refine kn_drop ?_
    ac_rfl
    refine sps_A ⟨z, rfl, lz, rfl, rfl⟩ (fun p ⟨hw, hp⟩ => ?_) (fun e ⟨hw, he⟩ => ?_)
    rotate_left
    · subst he
      refine er le (pd1 ?_)
      rw [hdue, if_neg (by rw [hw]; exact Bool.false_ne_true)]
    rw [if_pos hw] at hdue
    ac_rfl
    refine ops_inS (seq_C (.tail _ (.head _))) ?_
    ac_rfl
    refine ⟨fun h => ?_, fun h => ?_⟩
    · have h := of_decide_eq_true h
      ac_rfl
      refine ⟨rfl, (fun h => nomatch h), er (y := .double z) le (pd1 ?_)⟩
      rw [hdue, if_pos h]
    have h3 := of_decide_eq_false h
    rw [if_neg h3] at hdue
    ac_rfl
    refine kn_append rfl (.head _) ?_
    ac_rfl
    refine sps_A ⟨n, 0, 99, rfl, rfl, rfl⟩ (fun p ⟨hn, hp⟩ => ?_) (fun e ⟨hn, he⟩ => ?_)
    rotate_left
    · subst he
      refine er le (pd1 ?_)
      rw [hdue, if_neg hn]
    subst hp
    rw [if_pos hn] at hdue
    refine ⟨_, 0, rfl, rfl, by rw [List.length_map]; omega, ?_⟩
    subst_vars
    refine kn_append rfl (.tail _ (.head _)) ?_
    ac_rfl
    refine ⟨_, 1, rfl, rfl, by rw [List.length_map]; omega, ?_⟩
    subst_vars
    refine kn_back (d ++ [(z, n)]) ?_ ⟨?_, ?_⟩ ?_
    · and_intros
    · rw [take_more hi, hd]
    · rw [hdue, List.map_append]
      rfl
    · rw [List.map_append, List.map_append]
      rfl
  obtain ⟨hd, hdue⟩ := hP
  rw [List.take_length] at hd
  subst hd
  rw [List.drop_length] at hdue
  have hdue : placesDue [] d = none := hdue
  have hpd := pd2 hdue
  subst_vars
  bv_omega
  refine kn_fldPut ?_
  ac_rfl
  refine cb_tupleX (.tail _ (.head _)) ?_
  ac_rfl
  refine ⟨x, C, dx, [], 2, rfl, rfl, T_Plan.cl, T_Plan.nP, by decide, ?_⟩
  subst_vars
  bv_omega
  refine kn_fldPut ?_
  ac_rfl
  refine cb_tupleC (.head _) ?_
  ac_rfl
  refine ⟨x, C, dx, _, 2, rfl, rfl, T_Plan.cl, T_Plan.nB, (show 1 < 1000 by decide), ?_⟩
  subst_vars
  bv_omega
  refine kn_fldPut (we_dnew (zN zS) fun td => ?_)
  ac_rfl
  refine ⟨x, C, dx, _, 3, rfl, rfl, T_Plan.cl, T_Plan.nT, (show 2 < 1000 by decide), ?_⟩
  subst_vars
  bv_omega
  refine kn_fldPut (we_dnew (zN zS) fun tg => ?_)
  ac_rfl
  refine ⟨x, C, dx, _, 4, rfl, rfl, T_Plan.cl, T_Plan.nG, (show 3 < 1000 by decide), ?_⟩
  subst_vars
  have e4 : putP "given" (zAt tg) (putP "taken" (zAt td) (putP "begin" (iz (zT zI) (d.map (·.2))) (putP "places" (iz zK (d.map (·.1))) []))) = planFs (d.map (·.1)) (d.map (·.2)) td tg := rfl
  rw [e4]
  refine Kn.perm (Θ' := halfC x C dx td tg (d.map (·.1)) (d.map (·.2)) [] ++ [cL a2 zI (d.map (·.2)), cL a1 zS (d.map (·.1))]) ?_ ?_
  rotate_left
  · unfold halfC
    refine (List.perm_append_singleton _ [cD tg (zN zS) [], cD td (zN zS) [], cL a2 zI (d.map (·.2)), cL a1 zS (d.map (·.1))]).trans (.cons _ (.swap _ _ _))
  bv_omega
  refine kn_forS (S := List SRow) (r := z3 zS (zL zS) (zL zS)) (xs := srs) (fun _ => [some (zAt x), some (iz zPR d), some (iz zSR srs), some (zAt a1), some (zAt a2), none, none, none, none])
    (fun ss => halfC x C dx td tg (d.map (·.1)) (d.map (·.2)) ss ++ [cL a2 zI (d.map (·.2)), cL a1 zS (d.map (·.1))])
    (fun i ss => ss = (srs.take i).map (ordRow (d.map (·.1))) ∧ stepsDue (d.map (·.1)) [] srs = stepsDue (d.map (·.1)) ((srs.take i).map (·.1)) (srs.drop i)) [] ?_ ?_ ⟨rfl, rfl⟩ (fun x s => tg3 (by decide) (by decide) (by decide)) (fun fr' le i r ss hi hP => ?_) (fun ss hP => ?_)
  · ac_rfl
  · and_intros
  · obtain ⟨hs, hsd⟩ := hP
    have hnm : ss.map (·.1) = (srs.take i).map (·.1) := by rw [hs, List.map_map]; rfl
    rw [drop_at hi, stepsDue_cons] at hsd
    obtain ⟨o1, o2, o3⟩ := okS r (List.mem_of_getElem? hi)
    have lss : ss.length ≤ 16 := by rw [hs, List.length_map, List.length_take]; omega
    subst_vars
    refine kn_drop (we_met (we_var rfl ⟨ins_C (.head _) rfl, ?_⟩))
    ac_rfl
    refine sps_C (Θr := [cL a2 zI (d.map (·.2)), cL a1 zS (d.map (·.1))]) ⟨x, dx, td, tg, d.map (·.1), d.map (·.2), ss, r, rfl, rfl, o1, o2, o3, by rw [List.length_map]; omega, lss, rfl, rfl⟩ (.refl _) (fun p Θ' ⟨hdn, hp, hΘ⟩ => ?_) (fun e Θ' ⟨y, hy, he, hΘ⟩ => ?_)
    · subst hp hΘ
      rw [hnm] at hdn
      rw [hdn] at hsd
      refine kn_back (ss ++ [ordRow (d.map (·.1)) r]) ?_ ⟨?_, ?_⟩ rfl
      · and_intros
      · rw [take_more hi, List.map_append, hs]
        rfl
      · rw [hsd, take_more hi, List.map_append]
        rfl
    · subst he hΘ
      rw [hnm] at hy
      rw [hy] at hsd
      exact er le (by rw [hpd]; exact hsd)
  obtain ⟨hs, hsd⟩ := hP
  rw [List.take_length] at hs
  rw [List.drop_length] at hsd
  have hsd : stepsDue (d.map (·.1)) [] srs = none := hsd
  have hall : planDue d srs = none := by rw [hpd]; exact hsd
  have hok := planDue_ok hall
  have hss : (planOf d srs).steps = ss := by rw [hs]; rfl
  subst_vars
  refine kn_fldPut ?_
  ac_rfl
  refine ⟨_, fld_C (.head _) T_Plan.cl T_Plan.nT rfl, ?_⟩
  ac_rfl
  refine cb_listD (dic_C (.tail _ (.head _))) (fun y hy => ?_) ?_
  · obtain ⟨r, hr, rfl⟩ := List.mem_map.mp hy
    rw [← hss] at hr
    exact (hok.st r hr).1.asc
  ac_rfl
  refine ⟨x, C, dx, _, 0, rfl, rfl, T_Plan.cl, T_Plan.nS, (show 4 < 1000 by decide), ?_⟩
  intro σ F' H' ok env
  have ed : (planOf d srs).names = (tkR ss).map (·.1) := by
    unfold PlanD.names tkR
    rw [hss, List.map_map]
    rfl
  have etk : (planOf d srs).tk = tkR ss := by unfold PlanD.tk tkR; rw [hss]
  have egv : (planOf d srs).gv = gvR ss := by unfold PlanD.gv gvR; rw [hss]
  rw [← ed] at ok
  have ok : OkF fr (cI x C dx [("places", iz zK (planOf d srs).places), ("begin", iz (zT zI) (planOf d srs).begin), ("taken", zAt td), ("given", zAt tg), ("steps", iz (zT zS) (planOf d srs).names)] :: cD td (zN zS) (planOf d srs).tk :: cD tg (zN zS) (planOf d srs).gv :: [cL a2 zI (d.map (·.2)), cL a1 zS (d.map (·.1))]) F' H' := by
    rw [etk, egv]
    exact ok
  obtain ⟨F2, ok2, hp2⟩ := plan_frz ok hok
  exact hQ _ ⟨hall, rfl⟩ σ F2 H' ⟨_, ok2⟩ hp2
end
section
variable {P : Program} {w : World} {K : PySem.W.Frag} {mg : Str → Option Value} {base : Heap}
theorem fs_due {F : Hp} {cs : EK → Addr} {y : PErr} {us : List (Str × V)} (hb : ∀ z, strE y = some z → z.length ≤ 1000) (hk : ∀ k l, y = .tooMany k l → k.length ≤ 1000) (h : FsOk F (erOf (ecs cs) y).fs us) : FsOk F (erW cs (heOf y)).fs us ∧ (erOf (ecs cs) y).C = (erW cs (heOf y)).C := by
  have up : ∀ {z : Str} {v : V}, z.length ≤ 1000 → (iz zS z).p F v → (iz yS z).p F v := fun hz h => ⟨h, Nat.le_trans hz (by decide)⟩
  cases y with
  | tooMany k l =>
    refine ⟨?_, rfl⟩
    cases h with
    | cons h1 h => cases h with
      | cons h2 h => exact .cons h1 (.cons ⟨h2.1, up (hk k l rfl) h2.2⟩ h)
  | badWord z =>
    refine ⟨?_, rfl⟩
    cases h with
    | cons h1 h => exact .cons ⟨h1.1, up (hb z rfl) h1.2⟩ h
  | double z =>
    refine ⟨?_, rfl⟩
    cases h with
    | cons h1 h => exact .cons ⟨h1.1, up (hb z rfl) h1.2⟩ h
  | badNumber n => exact ⟨h, rfl⟩
  | empty z =>
    refine ⟨?_, rfl⟩
    cases h with
    | cons h1 h => exact .cons ⟨h1.1, up (hb z rfl) h1.2⟩ h
  | unknown z =>
    refine ⟨?_, rfl⟩
    cases h with
    | cons h1 h => exact .cons ⟨h1.1, up (hb z rfl) h1.2⟩ h
theorem due_kind {prs : List (Str × Int)} {srs : List SRow} {k : Str} {l : Int} (h : planDue prs srs = some (.tooMany k l)) : k.length ≤ 1000 := by
  have hp : ∀ (seen : List Str) (prs : List (Str × Int)), placesDue seen prs ≠ some (.tooMany k l) := by
    intro seen prs
    induction prs generalizing seen with
    | nil => intro h; cases h
    | cons r prs ih =>
      obtain ⟨w, n⟩ := r
      rw [placesDue_cons]
      split
      · split
        · intro h; cases h
        · split
          · exact ih _
          · intro h; cases h
      · intro h; cases h
  have hn : ∀ x, nameErr x ≠ .tooMany k l := by
    intro x
    obtain ⟨b, n⟩ := x
    cases b <;> intro h <;> cases h
  have hs : ∀ (ps seen : List Str) (srs : List SRow), stepsDue ps seen srs ≠ some (.tooMany k l) := by
    intro ps seen srs
    induction srs generalizing seen with
    | nil => intro h; cases h
    | cons s srs ih =>
      rw [stepsDue_cons]
      split
      · rename_i e he
        intro h
        cases h
        unfold stepDue at he
        split at he
        · split at he
          · cases he
          · split at he
            · cases he
            · split at he
              · rename_i x hx
                exact hn x (Option.some.inj he)
              · obtain ⟨x, _, e2⟩ := Option.map_eq_some_iff.mp he
                exact hn x e2
        · cases he
      · exact ih _
  unfold planDue at h
  split at h
  · cases h; decide
  · split at h
    · cases h; decide
    · split at h
      · rename_i e he
        cases h
        exact absurd he (hp _ _)
      · exact absurd h (hs _ _ _)
theorem planW {cs : EK → Addr} {C : Addr} {k : Nat} {ps : List Str} (D : DefI P w K mg base (L2.CX P w) k C ps (spI C (preInit (ecs cs) C))) : DefI P w K mg base (L2.CX P w) k C ps (spI C (preW (erW cs) (fun x : List (Str × Int) × List SRow => [iz yPR x.1, iz ySR x.2]) (zPlan C) (fun x => mk_Plan x.1 x.2))) := D.imp fun vs H Q E ⟨x, dx, vs', F, qs, out, err, h1, h2, h3, h4, h5, ⟨⟨prs, srs⟩, Qm, Xm, e1, ⟨hb, hq, hx⟩, e2, e3⟩, ho, he⟩ => by
  subst e1 e2 e3
  have ok1 : PRowsOk prs := hb.1
  have ok2 : SRowsOk srs := fun r hr => ⟨(hb.2 r hr).1, (hb.2 r hr).2.1, (hb.2 r hr).2.2.1⟩
  refine ⟨x, dx, vs', F, [iz zPR prs, iz zSR srs], _, _, h1, h2, h3, h4, ?_, ⟨prs, srs, rfl, ok1, ok2, rfl, rfl⟩, fun p ⟨hd, e⟩ => ho p ⟨_, hq hd, e⟩, fun e ⟨y, hy, e2⟩ F' H' d us a1 a2 a3 a4 a5 a6 => ?_⟩
  · cases h5 with
    | cons b1 h5 => cases h5 with
      | cons b2 h5 => cases h5 with
        | nil => exact .cons (le_PR _ _ b1) (.cons (le_SR _ _ b2) .nil)
  · subst e2
    obtain ⟨c1, c2⟩ := fs_due (cs := cs) (fun z hz => due_str hb hy hz) (fun k l e => by subst e; exact due_kind hy) a6
    rw [c2]
    exact he (erW cs (heOf y)) ⟨_, hx y hy, rfl⟩ F' H' d us a1 a2 a3 a4 a5 c1
end
section
variable {P : Program} {w : World} {K : PySem.W.Frag} {mg : Str → Option Value} {base : Heap}
abbrev yRows : Rep (List (Str × Int) × List SRow) := z2 yPR ySR
def m_rows : DM (List (Str × Int) × List SRow) := fun Q _ => ∀ prs srs, GoodRows prs srs → GQ srs → Q (prs, srs)
theorem rowsW {k : Nat} {x : Str} {ps : List Str} (D : Def P w K mg base CX0 k x ps (spC (preB preGR))) : Def P w K mg base CX0 k x ps (spC (preB (preBW (fun _ : Unit => []) yRows (fun _ => m_rows)))) := D.imp fun vs H Q E ⟨F, qs, Θ, out, err, h1, h2, h3, ⟨b, l, qs', o, e1, e2, ⟨u, Qm, e3, hm, e4⟩, e5, e6⟩, ho, he⟩ => by
  subst e1 e2 e3 e4 e5 e6
  refine ⟨F, _, _, _, _, h1, h2, h3, ⟨b, l, [], _, rfl, rfl, ⟨rfl, rfl⟩, rfl, rfl⟩, fun p Θ' ⟨⟨prs, srs, good, gq, e⟩, eΘ⟩ v F' H' ef hv => ?_, fun e Θ' h => h.elim⟩
  subst e
  refine ho (iz yRows (prs, srs)) Θ' ⟨⟨_, hm prs srs good gq, rfl⟩, eΘ⟩ v F' H' ef ?_
  obtain ⟨a, u, w, g1, g2, g3, g4⟩ := hv
  have pw : ∀ y ∈ prs.map (·.1), Wd y := fun y hy => by
    obtain ⟨r, hr, rfl⟩ := List.mem_map.mp hy
    exact (good.pw r hr).1
  have ln : ∀ {l : List Str}, l.Nodup → (∀ y ∈ l, y ∈ prs.map (·.1)) → l.length ≤ big := fun h1 h2 => by
    have := List.Nodup.length_le_of_subset h1 h2
    rw [List.length_map] at this
    have := good.p7
    have : big = 100000 := rfl
    omega
  refine ⟨a, u, w, g1, g2, le_LL (r := z2 zS zI) (s := z2 yS zI) (Nat.le_trans good.p7 (by decide)) (fun F v x hx ⟨a, u, w, h1, h2, h3, h4⟩ => ⟨a, u, w, h1, h2, ⟨h3, wd_big (good.pw x hx).1⟩, h4⟩) F' u g3, le_LL (r := z3 zS (zL zS) (zL zS)) (s := z3 yS (yL yS) (yL yS)) (Nat.le_trans good.s13 (by decide)) (fun F v x hx ⟨a, u, w, z, h1, h2, h3, h4, h5⟩ => ?_) F' w g4⟩
  obtain ⟨a0, a1, a2, a3, a4, a5⟩ := good.sw x hx
  exact ⟨a, u, w, z, h1, h2, ⟨h3, wd_big a0⟩, le_LL (r := zS) (s := yS) (ln a2 a3) (fun F v y hy h => ⟨h, wd_big (pw y (a3 y hy))⟩) F w h4, le_LL (r := zS) (s := yS) (ln a4 a5) (fun F v y hy h => ⟨h, wd_big (pw y (a5 y hy))⟩) F z h5⟩
theorem good_B {prs : List (Str × Int)} {srs : List SRow} (good : GoodRows prs srs) : RowsB prs srs := by
  have pw : ∀ y ∈ prs.map (·.1), Wd y := fun y hy => by
    obtain ⟨r, hr, rfl⟩ := List.mem_map.mp hy
    exact (good.pw r hr).1
  have ln : ∀ {l : List Str}, l.Nodup → (∀ y ∈ l, y ∈ prs.map (·.1)) → l.length ≤ 7 := fun h1 h2 => by
    have := List.Nodup.length_le_of_subset h1 h2
    rw [List.length_map] at this
    have := good.p7
    omega
  refine ⟨fun r hr => ?_, fun r hr => ?_⟩
  · have := (good.pw r hr).1.len
    omega
  · obtain ⟨a0, a1, a2, a3, a4, a5⟩ := good.sw r hr
    have h1 := ln a2 a3
    have h2 := ln a4 a5
    have := a0.len
    refine ⟨by omega, by omega, by omega, fun y hy => ?_, fun y hy => ?_⟩
    · have := (pw y (a3 y hy)).len
      omega
    · have := (pw y (a5 y hy)).len
      omega
theorem mk_Plan_good {prs : List (Str × Int)} {srs : List SRow} {Q : PlanD → Prop} {X : HE → Prop} (good : GoodRows prs srs) (h : Q (planOf prs srs)) : mk_Plan prs srs Q X := ⟨good_B good, fun _ => h, fun y hy => by rw [good.due] at hy; cases hy⟩
end
section
variable {P : Program} {w : World} {K : PySem.W.Frag} {mg : Str → Option Value} {base : Heap}
def m_Plan_takes (p_self : PlanD) (p_step : Str) : DM (List Str) := fun Q X =>
  ifD (!(getR p_self.tk p_step).isSome) (
  X (.unknown p_step)) (
  ∃ v1, getR p_self.tk p_step = some v1 ∧
  Q v1)
theorem ok_Plan_takes {k : Nat} {cs : EK → Addr} {C f_UnknownName : Addr} (B : Bl mg) (T_Plan : PlanC K mg C) (X_UnknownName : ErrTxt P K mg false "UnknownName" (cs .unknown) f_UnknownName ["name"])
    (F : SrcM K C "takes" "Plan.takes" s_Plan_takes ["self", "step"]) : DefM P w K mg base (L2.CX P w) (k + 1) C "takes" ["self", "step"] (spA (preW (erW cs) (fun x : PlanD × Str => [iz (zPlan C) x.1, iz yS x.2]) (yT yS) (fun x => m_Plan_takes x.1 x.2))) := by
  refine F.okWX sc_Plan_takes (fun _ => rfl) (fun f cdv A outer s H E x Q X hr h => ⟨_, (pss_cons (ps_if (pt_cmp (pc_dnotin (hu_of hr) (pv 1) (kpe_fld (K := K) (pv 0)))) (pss_one (ps_raiseE rfl X_UnknownName hr (takes_of rfl rfl rfl rfl) (pa_cons (pv 1) pa_nil))) pss_nil)
 (pss_one (ps_ret (pe_dget (hu_of hr) (kpe_fld (K := K) (pv 0)) (pv 1) (fun _ _ => rfl))))), fun fr Qv hret hrse => ?_⟩)
  obtain ⟨p_self, p_step⟩ := x
  replace h : m_Plan_takes p_self p_step Q X := h
  unfold m_Plan_takes at h
  refine kn_seq (kn_if (wt_test (wy_dnin (we_var rfl (we_fld (we_var rfl (⟨_, fy_taken T_Plan, ⟨_, _, _, _, dy_D, rfl, ⟨_, rfl, ⟨fun hc => ?_, fun hc => ?_⟩⟩⟩⟩)))))))
  · have h := h.1 hc
    refine kn_raiseY (wa_cons (we_var rfl (wa_nil ?_)))
    exact ⟨rfl, (fun h => nomatch h), hrse _ h _ _⟩
  · have h := h.2 hc
    refine kn_next ?_
    try dsimp only
    refine kn_ret (wy_dget (we_fld (we_var rfl (⟨_, fy_taken T_Plan, we_var rfl ?_⟩))))
    obtain ⟨v1, ev1, h⟩ := h
    refine ⟨_, _, _, _, _, dy_D, rfl, ev1, ?_⟩
    exact hret _ h _
def m_Plan_gives (p_self : PlanD) (p_step : Str) : DM (List Str) := fun Q X =>
  ifD (!(getR p_self.gv p_step).isSome) (
  X (.unknown p_step)) (
  ∃ v1, getR p_self.gv p_step = some v1 ∧
  Q v1)
theorem ok_Plan_gives {k : Nat} {cs : EK → Addr} {C f_UnknownName : Addr} (B : Bl mg) (T_Plan : PlanC K mg C) (X_UnknownName : ErrTxt P K mg false "UnknownName" (cs .unknown) f_UnknownName ["name"])
    (F : SrcM K C "gives" "Plan.gives" s_Plan_gives ["self", "step"]) : DefM P w K mg base (L2.CX P w) (k + 1) C "gives" ["self", "step"] (spA (preW (erW cs) (fun x : PlanD × Str => [iz (zPlan C) x.1, iz yS x.2]) (yT yS) (fun x => m_Plan_gives x.1 x.2))) := by
  refine F.okWX sc_Plan_gives (fun _ => rfl) (fun f cdv A outer s H E x Q X hr h => ⟨_, (pss_cons (ps_if (pt_cmp (pc_dnotin (hu_of hr) (pv 1) (kpe_fld (K := K) (pv 0)))) (pss_one (ps_raiseE rfl X_UnknownName hr (takes_of rfl rfl rfl rfl) (pa_cons (pv 1) pa_nil))) pss_nil)
 (pss_one (ps_ret (pe_dget (hu_of hr) (kpe_fld (K := K) (pv 0)) (pv 1) (fun _ _ => rfl))))), fun fr Qv hret hrse => ?_⟩)
  obtain ⟨p_self, p_step⟩ := x
  replace h : m_Plan_gives p_self p_step Q X := h
  unfold m_Plan_gives at h
  refine kn_seq (kn_if (wt_test (wy_dnin (we_var rfl (we_fld (we_var rfl (⟨_, fy_given T_Plan, ⟨_, _, _, _, dy_D, rfl, ⟨_, rfl, ⟨fun hc => ?_, fun hc => ?_⟩⟩⟩⟩)))))))
  · have h := h.1 hc
    refine kn_raiseY (wa_cons (we_var rfl (wa_nil ?_)))
    exact ⟨rfl, (fun h => nomatch h), hrse _ h _ _⟩
  · have h := h.2 hc
    refine kn_next ?_
    try dsimp only
    refine kn_ret (wy_dget (we_fld (we_var rfl (⟨_, fy_given T_Plan, we_var rfl ?_⟩))))
    obtain ⟨v1, ev1, h⟩ := h
    refine ⟨_, _, _, _, _, dy_D, rfl, ev1, ?_⟩
    exact hret _ h _
end
theorem takes_ok {d : PlanD} (pk : PlanOk d) {r : SRow} (hr : r ∈ d.steps) {Q : List Str → Prop} {X : HE → Prop} (h : Q r.2.1) : m_Plan_takes d r.1 Q X := by
  have e := pk.tkr hr
  exact ifD_f (by rw [e]; rfl) ⟨_, e, h⟩
theorem gives_ok {d : PlanD} (pk : PlanOk d) {r : SRow} (hr : r ∈ d.steps) {Q : List Str → Prop} {X : HE → Prop} (h : Q r.2.2) : m_Plan_gives d r.1 Q X := by
  have e := pk.gvr hr
  exact ifD_f (by rw [e]; rfl) ⟨_, e, h⟩
theorem step_of {prs : List (Str × Int)} {srs : List SRow} {r : SRow} (hr : r ∈ srs) : ordRow (prs.map (·.1)) r ∈ (planOf prs srs).steps := List.mem_map.mpr ⟨r, hr, rfl⟩
theorem names_of {prs : List (Str × Int)} {srs : List SRow} : (planOf prs srs).names = srs.map (·.1) := by
  unfold PlanD.names planOf
  rw [List.map_map]
  rfl
theorem good_plan {prs : List (Str × Int)} {srs : List SRow} (good : GoodRows prs srs) : PlanOk (planOf prs srs) := planDue_ok good.due
theorem mem_inOrd' {ps a : List Str} {y : Str} : y ∈ inOrd ps a ↔ y ∈ ps ∧ y ∈ a := by
  unfold inOrd
  rw [List.mem_filter, decide_eq_true_iff]
/-- two rows take the same places -/
def sameB (a b : List Str) : Bool := decide ((a.length : Int) = (b.length : Int)) && decide ((a.filter fun x => !decide (x ∈ b)).map (fun x => x) = [])
theorem same_iff {ps a b : List Str} (ha : a.Nodup) (hb : b.Nodup) (sa : ∀ y ∈ a, y ∈ ps) (sb : ∀ y ∈ b, y ∈ ps) : sameB a b = true ↔ inOrd ps a = inOrd ps b := by
  unfold sameB
  rw [Bool.and_eq_true, decide_eq_true_iff, decide_eq_true_iff, List.map_id', List.filter_eq_nil_iff]
  constructor
  · rintro ⟨h1, h2⟩
    have hab : ∀ y ∈ a, y ∈ b := fun y hy => by
      have := h2 y hy
      simpa using this
    have hba : ∀ y ∈ b, y ∈ a := fun y hy => by
      refine Decidable.byContradiction fun hn => ?_
      have h3 : (y :: a).Nodup := List.nodup_cons.mpr ⟨hn, ha⟩
      have := List.Nodup.length_le_of_subset h3 (fun z hz => by
        rcases List.mem_cons.mp hz with rfl | hz
        · exact hy
        · exact hab z hz)
      rw [List.length_cons] at this
      omega
    unfold inOrd
    exact List.filter_congr fun y _ => by
      by_cases h : y ∈ a
      · rw [decide_eq_true h, decide_eq_true (hab y h)]
      · rw [decide_eq_false h, decide_eq_false fun q => h (hba y q)]
  · intro h
    have hab : ∀ y ∈ a, y ∈ b := fun y hy => (mem_inOrd'.mp (h ▸ mem_inOrd'.mpr ⟨sa y hy, hy⟩)).2
    have hba : ∀ y ∈ b, y ∈ a := fun y hy => (mem_inOrd'.mp (h.symm ▸ mem_inOrd'.mpr ⟨sb y hy, hy⟩)).2
    refine ⟨?_, fun y hy => by simpa using hab y hy⟩
    have h1 := List.Nodup.length_le_of_subset ha hab
    have h2 := List.Nodup.length_le_of_subset hb hba
    omega
section
variable {P : Program} {w : World} {K : PySem.W.Frag} {mg : Str → Option Value} {base : Heap}
def takesD (d : PlanD) (n : Str) : Option (List Str) := (d.steps.map fun s => (s.1, s.2.1)).lookup n
theorem names_t (d : PlanD) : (d.steps.map fun s => (s.1, s.2.1)).map (·.1) = d.names := by
  unfold PlanD.names
  rw [List.map_map]
  rfl
def spTakes (cs : ECs) (C : Addr) : Sp := fun vs H Q E => ∃ (x : Addr) (n : Str) (d : PlanD), vs = [.ref x, .str n] ∧ PlanAt H C x d ∧
  (n ∈ d.names → ∀ t l, H t = some (.tup (l.map V.str)) → takesD d n = some l → Q (.ref t) H) ∧ (n ∉ d.names → RaisP cs E H (.unknown n))
theorem ok_takes {k : Nat} {cs : ECs} {C f_UnknownName : Addr} (B : Bl mg) (T_Plan : PlanC K mg C) (X_UnknownName : ErrTxt P K mg false "UnknownName" cs.unknown f_UnknownName ["name"])
    (F : SrcM K C "takes" "Plan.takes" s_Plan_takes ["self", "step"]) : DefM P w K mg base (L2.CX P w) (k + 1) C "takes" ["self", "step"] (spTakes cs C) := by
  refine F.okX sc_Plan_takes (fun vs H Q E h => ?_) (fun f cdv A outer s H vs Q E hr h => ?_)
  · obtain ⟨x, n, d, rfl, _⟩ := h
    rfl
  · obtain ⟨x, n, d, rfl, hp, q1, q2⟩ := h
    obtain ⟨dx, tp, tb, td, tg, ts, kt, kg, p1, p2, p3, p4, p5, p6, p7, p8⟩ := hp.ex
    refine ⟨_, (pss_cons (ps_if (pt_cmp (pc_dnotin (hu_of hr) (pv 1) (kpe_fld (K := K) (pv 0)))) (pss_one (ps_raiseE rfl X_UnknownName hr (takes_of rfl rfl rfl rfl) (pa_cons (pv 1) pa_nil))) pss_nil)
 (pss_one (ps_ret (pe_dget (hu_of hr) (kpe_fld (K := K) (pv 0)) (pv 1) (fun _ _ => rfl))))), ?_⟩
    obtain ⟨v1, v2⟩ := valV_tab p7 n
    rw [names_t] at v1 v2
    refine ⟨_, rfl, _, rfl, x, C, dx, _, _, rfl, p1, T_Plan.cl, T_Plan.nT, rfl, td, _, rfl, DGet.k (k := Sum.inr n) p4, _, rfl, ?_⟩
    by_cases hn : n ∈ d.names
    · obtain ⟨t, l, e1, e2, e3⟩ := v1 hn
      rw [e1]
      refine iteF ⟨_, rfl, x, C, dx, _, _, rfl, p1, T_Plan.cl, T_Plan.nT, rfl, ?_⟩
      have g : DGet H td (.str n) (valV kt (Sum.inr n)) := DGet.k (k := Sum.inr n) p4
      rw [e1] at g
      exact ⟨_, rfl, td, _, rfl, g, q1 hn t l e2 e3⟩
    · rw [v2 hn]
      exact iteT ⟨_, rfl, rfl, (fun e => by cases e), fun d hd => q2 hn _ _ (same_upd hd) hd upd_same⟩
def addG (gs : List (List Str × List Str)) (k : List Str) (n : Str) : List (List Str × List Str) :=
  if k ∈ gs.map (·.1) then gs.map fun x => if x.1 = k then (x.1, x.2 ++ [n]) else x else gs ++ [(k, [n])]
def choiceT (ss : List SRow) : List (List Str × List Str) := ss.foldl (fun gs s => addG gs s.2.1 s.1) []
def choicesD (d : PlanD) : List (List Str) := (choiceT d.steps).map (·.2)
theorem choiceT_snoc (ss : List SRow) (s : SRow) : choiceT (ss ++ [s]) = addG (choiceT ss) s.2.1 s.1 := by
  unfold choiceT
  rw [List.foldl_append]
  rfl
/-- a group in the heap: its key, its address, its steps -/
abbrev GRow := List Str × Addr × List Str
def encT (e : GRow) : List Key × V := (e.1.map Sum.inr, .ref e.2.1)
theorem inr_inj : ∀ {a b : List Str}, a.map (Sum.inr (α := Int)) = b.map Sum.inr → a = b
  | [], [], _ => rfl
  | [], _ :: _, h => by cases h
  | _ :: _, [], h => by cases h
  | a :: l, b :: m, h => by
    rw [List.map_cons, List.map_cons, List.cons.injEq] at h
    rw [Sum.inr.inj h.1, inr_inj h.2]
theorem valT : ∀ (L : List GRow) (k : List Str), (k ∈ L.map (·.1) → ∃ e ∈ L, e.1 = k ∧ valV (L.map encT) (k.map Sum.inr) = some (.ref e.2.1)) ∧ (k ∉ L.map (·.1) → valV (L.map encT) (k.map Sum.inr) = none)
  | [], k => ⟨(fun h => by cases h), fun _ => rfl⟩
  | e :: L, k => by
    obtain ⟨ih1, ih2⟩ := valT L k
    by_cases he : e.1 = k
    · refine ⟨fun _ => ⟨e, List.mem_cons_self .., he, ?_⟩, fun h => absurd (by rw [← he]; exact List.mem_cons_self ..) h⟩
      rw [List.map_cons, valV_pos (by rw [← he]; rfl)]
      rfl
    · have hk : ¬ (encT e).1 = k.map Sum.inr := fun q => he (inr_inj q)
      refine ⟨fun h => ?_, fun h => ?_⟩
      · rcases List.mem_cons.mp h with h | h
        · exact absurd h.symm he
        · obtain ⟨e', h1, h2, h3⟩ := ih1 h
          exact ⟨e', List.mem_cons_of_mem _ h1, h2, by rw [List.map_cons, valV_neg hk]; exact h3⟩
      · rw [List.map_cons, valV_neg hk]
        exact ih2 fun q => h (List.mem_cons_of_mem _ q)
theorem lookup_nd {β : Type} {k : Str} {v : β} : ∀ {l : List (Str × β)}, (l.map (·.1)).Nodup → (k, v) ∈ l → l.lookup k = some v
  | [], _, h => by cases h
  | (a, b) :: l, hn, h => by
    rw [List.map_cons, List.nodup_cons] at hn
    rcases List.mem_cons.mp h with h | h
    · cases h
      rw [List.lookup_cons]
      simp
    · have ne : (k == a) = false := by
        simp only [beq_eq_false_iff_ne, ne_eq]
        intro q
        exact hn.1 (List.mem_map.mpr ⟨(k, v), h, q⟩)
      rw [List.lookup_cons, ne]
      exact lookup_nd hn.2 h
theorem takes_of_mem {d : PlanD} {r : SRow} (hn : d.names.Nodup) (h : r ∈ d.steps) : takesD d r.1 = some r.2.1 := by
  unfold takesD
  refine lookup_nd ?_ (List.mem_map.mpr ⟨r, h, rfl⟩)
  rw [names_t]
  exact hn
def putG (k : List Str) (n : Str) (e : GRow) : GRow := if e.1 = k then (e.1, e.2.1, e.2.2 ++ [n]) else e
theorem putG_enc (k : List Str) (n : Str) (e : GRow) : encT (putG k n e) = encT e := by
  unfold putG
  split <;> rfl
theorem putG_addr (k : List Str) (n : Str) (e : GRow) : (putG k n e).2.1 = e.2.1 := by
  unfold putG
  split <;> rfl
theorem putG_key (k : List Str) (n : Str) (e : GRow) : (putG k n e).1 = e.1 := by
  unfold putG
  split <;> rfl
theorem nodup_key {α β : Type} {f : α → β} : ∀ {l : List α}, (l.map f).Nodup → ∀ {a b : α}, a ∈ l → b ∈ l → f a = f b → a = b
  | [], _, _, _, h, _, _ => by cases h
  | x :: l, hn, a, b, ha, hb, e => by
    rw [List.map_cons, List.nodup_cons] at hn
    rcases List.mem_cons.mp ha with ha | ha
    · rcases List.mem_cons.mp hb with hb | hb
      · rw [ha, hb]
      · exact absurd (List.mem_map.mpr ⟨b, hb, by rw [← e, ha]⟩) hn.1
    · rcases List.mem_cons.mp hb with hb | hb
      · exact absurd (List.mem_map.mpr ⟨a, ha, by rw [e, hb]⟩) hn.1
      · exact nodup_key hn.2 ha hb e
abbrev s_choices : Stmt := topS 2
theorem sc_choices : FnScope ["plan", "groups", "step", "group"] ["plan"] (defScope s_choices) := ⟨rfl, rfl, rfl, by decide +kernel, rfl, by decide +kernel, by decide +kernel⟩
def spChoices (C : Addr) : Sp := fun vs H Q _ => ∃ (x : Addr) (d : PlanD), vs = [.ref x] ∧ PlanAt H C x d ∧ d.names.Nodup ∧ d.steps.length ≤ 16 ∧
  ∀ (p : Addr) (ts : List Addr) (H' : Hp), Same H H' → H p = none → H' p = some (.lst (ts.map V.ref)) → Paired (fun t g => H' t = some (.tup (g.map V.str)) ∧ H t = none) ts (choicesD d) → Q (.ref p) H'
theorem ok_choices {k : Nat} {cs : ECs} {C : Addr} (B : Bl mg) (T_Plan : PlanC K mg C) (DM_Plan_takes : DefM P w K mg base (L2.CX P w) k C "takes" ["self", "step"] (spTakes cs C))
    (F : Src K mg "choices" s_choices ["plan"]) : Def P w K mg base CX0 (k + 1) "choices" ["plan"] (spChoices C) := by
  refine F.ok sc_choices (fun vs H Q E h => ?_) (fun f cdv A outer s H vs Q E hr h => ?_)
  · obtain ⟨x, d, rfl, _⟩ := h
    rfl
  · obtain ⟨x, d, rfl, hp, hnd, hl, q⟩ := h
    obtain ⟨dx, tp, tb, td, tg, ts, kt, kg, p1, p2, p3, p4, p5, p6, p7, p8⟩ := hp.ex
    refine ⟨_, (pss_cons (ps_asg pe_dnewT (pg_name (i := 1) sc_choices.nd rfl (Or.inl rfl)))
 (pss_cons (ps_for PassesOwn.never rfl (kpi_tup (K := K) (kpe_fld (K := K) (pv 0))) (pg_name (i := 2) sc_choices.nd rfl (Or.inl rfl)) (pss_cons (ps_asg (pe_bm PySem.F.plainAttrs_dict PySem.F.slot_dict_setdefault PySem.F.type_dict_setdefault (mt_setdefT (hu_of hr)) (pv 1) (pa_cons (pe_metD DM_Plan_takes T_Plan.cl hr (fun σ => Passes.at passL σ) (pv 0) (pa_cons (pv 2) pa_nil)) (pa_cons (pe_lst pa_nil) pa_nil))) (pg_name (i := 3) sc_choices.nd rfl (Or.inl rfl)))
 (pss_one (ps_expr (pe_bm PySem.F.plainAttrs_list PySem.F.slot_list_append PySem.F.type_list_append mt_append (pv 3) (pa_cons (pv 2) pa_nil))))))
 (pss_one (ps_ret (pe_lock (pe_lc (own := [("group", 3)]) (g := gName 3) (by rfl) sc_choices.nd (pi_valuesT (pv 1)) (blkOk_by (N := ["plan", "groups", "step", "group"]) (sc := defScope s_choices) (by decide +kernel)) (fun _ _ _ _ _ => (pg_name (i := 3) sc_choices.nd rfl (Or.inl rfl))) (fun _ _ _ _ _ => pts_nil) (fun _ _ _ _ _ => (pe_callTy (kcall_tuple (K := K)) (by rfl) B.tuple' (by decide +kernel) (pa_cons (pv 3) pa_nil))))))))), ?_⟩
    refine fun G nG => ?_
    have s0 := same_upd (o := .dT []) nG
    have hpn : d.names.length = d.steps.length := by unfold PlanD.names; rw [List.length_map]
    refine ⟨_, rfl, x, C, dx, _, _, rfl, s0 _ _ p1, T_Plan.cl, T_Plan.nS, rfl, ts, rfl, ⟨_, p6.sq s0⟩, for_tup (K := K) (a := ts) (xs := d.names.map V.str) (fun i σ H' => ∃ (L : List GRow) (y2 y3 : Option V), σ = [some (.ref x), some (.ref G), y2, y3] ∧ Same H H' ∧ H' G = some (.dT (L.map encT)) ∧ (∀ e ∈ L, H' e.2.1 = some (.lst (e.2.2.map V.str)) ∧ H e.2.1 = none ∧ e.2.2.length ≤ i) ∧ (L.map (·.2.1)).Nodup ∧ (L.map (·.1)).Nodup ∧ L.map (fun e => (e.1, e.2.2)) = choiceT (d.steps.take i) ∧ L.length ≤ i)
      ⟨[], none, none, rfl, s0, upd_same, (fun e h => by cases h), .nil, .nil, rfl, Nat.le_refl _⟩ (fun i σ H' _ ⟨_, _, _, _, sm, _⟩ => p6.sq sm) ?_ ?_⟩
    · rintro i v σ H' hi ⟨L, y2, y3, rfl, sm, hG, hL, na, nk, hch, hlen⟩
      obtain ⟨n, hn, rfl⟩ := map_get hi
      have hi2 : i < d.steps.length := by
        rw [← hpn]
        rcases Nat.lt_or_ge i d.names.length with h | h
        · exact h
        · rw [List.getElem?_eq_none h] at hn
          cases hn
      have hr1 : d.steps[i]? = some d.steps[i] := List.getElem?_eq_getElem hi2
      generalize hre : d.steps[i] = r at hr1
      have hrn : n = r.1 := by
        unfold PlanD.names at hn
        rw [List.getElem?_map, hr1] at hn
        exact (Option.some.inj hn).symm
      subst hrn
      have hrm := List.mem_of_getElem? hr1
      have hnm : r.1 ∈ d.names := List.mem_map.mpr ⟨r, hrm, rfl⟩
      refine ⟨_, rfl, .inr (.inr (.inl ⟨rfl, .inr ⟨_, hG⟩⟩)), _, rfl, x, dx, _, rfl, sm _ _ p1, rfl, _, rfl, x, r.1, d, rfl, hp.keep sm, fun _ t l e2 e3 => ?_, fun h => absurd hnm h⟩
      have el : l = r.2.1 := by
        rw [takes_of_mem hnd hrm] at e3
        exact (Option.some.inj e3).symm
      subst el
      refine ⟨Nat.zero_le _, fun p np => ?_⟩
      have u1 := same_upd (o := .lst []) np
      have hG1 := u1 _ _ hG
      have htk : (upd H' p (.lst [])) t = some (.tup ((r.2.1.map Sum.inr).map kV)) := by
        rw [List.map_map]
        exact u1 _ _ e2
      obtain ⟨v1, v2⟩ := valT L r.2.1
      refine ⟨G, _, _, t, .ref p, rfl, rfl, hG1, htk, by rw [List.length_map]; exact small1000 (by omega), fun v hv => ?_, fun hv => ?_⟩
      · have hin : r.2.1 ∈ L.map (·.1) := Decidable.byContradiction fun h => by
          rw [v2 h] at hv
          cases hv
        obtain ⟨e, he, hek, hev⟩ := v1 hin
        rw [hev] at hv
        cases hv
        obtain ⟨h1, h2, h3⟩ := hL e he
        have h1' := u1 _ _ h1
        have nGe : G ≠ e.2.1 := fun q => by rw [← q, hG] at h1; cases h1
        refine ⟨_, rfl, .inl ⟨rfl, _, SqL.of h1'⟩, _, rfl, e.2.1, _, _, rfl, rfl, h1', by rw [List.length_map]; exact small1000 (by omega), ?_⟩
        refine ⟨L.map (putG r.2.1 r.1), _, _, rfl, (sm.trans u1).mut h2, ?_, fun e' he' => ?_, ?_, ?_, ?_, by rw [List.length_map]; omega⟩
        · rw [upd_ne nGe, hG1, List.map_map]
          congr 2
          exact List.map_congr_left fun y _ => (putG_enc _ _ y).symm
        · obtain ⟨y, hy, rfl⟩ := List.mem_map.mp he'
          rw [putG_addr]
          obtain ⟨g1, g2, g3⟩ := hL y hy
          by_cases hyk : y.1 = r.2.1
          · have hye : y = e := nodup_key nk hy he (by rw [hyk, hek])
            rw [hye]
            have : putG r.2.1 r.1 e = (e.1, e.2.1, e.2.2 ++ [r.1]) := by unfold putG; rw [if_pos hek]
            rw [this]
            refine ⟨by rw [upd_same, List.map_append]; rfl, h2, by rw [List.length_append]; show _ + 1 ≤ _; omega⟩
          · have : putG r.2.1 r.1 y = y := by unfold putG; rw [if_neg hyk]
            rw [this]
            have hne : y.2.1 ≠ e.2.1 := fun q => hyk (by rw [nodup_key na hy he q]; exact hek)
            exact ⟨by rw [upd_ne hne]; exact u1 _ _ g1, g2, by omega⟩
        · rw [List.map_map, show ((fun e : GRow => e.2.1) ∘ putG r.2.1 r.1) = fun e => e.2.1 from funext fun y => putG_addr _ _ y]
          exact na
        · rw [List.map_map, show ((fun e : GRow => e.1) ∘ putG r.2.1 r.1) = fun e => e.1 from funext fun y => putG_key _ _ y]
          exact nk
        · rw [take_more hr1, choiceT_snoc, ← hch]
          unfold addG
          rw [if_pos (by rw [List.map_map]; exact hin), List.map_map, List.map_map]
          refine List.map_congr_left fun y _ => ?_
          show ((putG r.2.1 r.1 y).1, (putG r.2.1 r.1 y).2.2) = if y.1 = r.2.1 then (y.1, y.2.2 ++ [r.1]) else (y.1, y.2.2)
          unfold putG
          split <;> rfl
      · have hin : r.2.1 ∉ L.map (·.1) := fun h => by
          obtain ⟨e, _, _, hev⟩ := v1 h
          rw [hev] at hv
          cases hv
        have nGp : G ≠ p := ne_of_none hG np
        have hp1 : (upd (upd H' p (.lst [])) G (.dT (L.map encT ++ [(r.2.1.map Sum.inr, .ref p)]))) p = some (.lst []) := by
          rw [upd_ne (Ne.symm nGp)]
          exact upd_same
        have npH := sm.free np
        refine ⟨_, rfl, .inl ⟨rfl, _, SqL.of hp1⟩, _, rfl, p, _, _, rfl, rfl, hp1, Nat.zero_lt_of_lt (show 0 < sizeLine by decide), ?_⟩
        refine ⟨L ++ [(r.2.1, p, [r.1])], _, _, rfl, (((sm.trans u1).mut nG).mut npH), ?_, fun e' he' => ?_, ?_, ?_, ?_, by rw [List.length_append]; show _ + 1 ≤ _; omega⟩
        · rw [upd_ne nGp, upd_same, List.map_append]
          rfl
        · rcases List.mem_append.mp he' with h | h
          · obtain ⟨g1, g2, g3⟩ := hL e' h
            have n1 : e'.2.1 ≠ p := ne_of_none g1 np
            have n2 : e'.2.1 ≠ G := fun q => by rw [q, hG] at g1; cases g1
            exact ⟨by rw [upd_ne n1, upd_ne n2]; exact u1 _ _ g1, g2, by omega⟩
          · rw [List.mem_singleton.mp h]
            exact ⟨upd_same, npH, by show 1 ≤ _; omega⟩
        · rw [List.map_append]
          refine nodup_snoc na fun h => ?_
          obtain ⟨y, hy, hy2⟩ := List.mem_map.mp h
          have := (hL y hy).1
          rw [show y.2.1 = p from hy2, np] at this
          cases this
        · rw [List.map_append]
          exact nodup_snoc nk hin
        · rw [take_more hr1, choiceT_snoc, ← hch, List.map_append]
          unfold addG
          rw [if_neg (by rw [List.map_map]; exact hin)]
          rfl
    · rintro σ H' ⟨L, y2, y3, rfl, sm, hG, hL, na, nk, hch, hlen⟩
      rw [List.length_map, hpn] at hlen
      rw [List.length_map, hpn, List.take_length] at hch
      refine ⟨G, _, hG, trivial, fun od => ?_⟩
      have hne : ∀ {c : Addr} {o : HO}, H' c = some o → c ≠ G → (upd H' G (.frz od (.dT (L.map encT)))) c = some o := fun h n => by rw [upd_ne n]; exact h
      refine ⟨_, rfl, G, od, _, rfl, upd_same, fun D nD => ?_⟩
      have nDG : D ≠ G := fun q => by rw [q, upd_same] at nD; cases nD
      have nDH' : H' D = none := by rw [upd_ne nDG] at nD; exact nD
      refine lc_it (walk_valuesT (kvs := L.map encT)) (fun i J => ∃ tl : List Addr, Same (upd H' G (.frz od (.dT (L.map encT)))) J ∧ J D = some (.lst (tl.map V.ref)) ∧ Paired (fun t g => J t = some (.tup (g.map V.str)) ∧ H t = none) tl ((L.take i).map (·.2.2))) ⟨[], same_upd nD, upd_same, .nil⟩ (fun i J _ ⟨_, sj, _⟩ => sj _ _ upd_same) ?_ ?_
      · rintro i y J0 J hi ⟨tl, sj, hJD, pj⟩ ⟨rfl, kk, hkk⟩
        rw [List.getElem?_map] at hkk
        obtain ⟨e, he, hee⟩ := Option.map_eq_some_iff.mp hkk
        cases hee
        have hem := List.mem_of_getElem? he
        obtain ⟨g1, g2, g3⟩ := hL e hem
        have n2 : e.2.1 ≠ G := fun q => by rw [q, hG] at g1; cases g1
        have hJe := sj _ _ (hne g1 n2)
        refine ⟨rfl, yes_if ?_⟩
        refine ⟨_, rfl, e.2.1, _, rfl, .inl ⟨SqL.of hJe, fun t nt => ?_⟩⟩
        have u := same_upd (o := .tup (e.2.2.map V.str)) nt
        have ltl : tl.length ≤ i := by
          rw [Paired.len pj, List.length_map, List.length_take]
          omega
        have hi3 : i < L.length := by
          rw [List.length_map] at hi
          exact hi
        refine ⟨_, u _ _ hJD, by rw [List.length_map]; exact small1000 (by omega), tl ++ [t], (sj.trans u).mut nD, by rw [upd_same, List.map_append]; rfl, ?_⟩
        have nJD : ∀ {c : Addr} {xs : List V}, (upd J t (.tup (e.2.2.map V.str))) c = some (.tup xs) → (upd (upd J t (.tup (e.2.2.map V.str))) D (.lst (tl.map V.ref ++ [V.ref t]))) c = some (.tup xs) := fun {c xs} h => by
          rw [upd_ne (fun q => by rw [q, u _ _ hJD] at h; cases h)]
          exact h
        have hnt : H t = none := by
          cases q : H t with
          | none => rfl
          | some o =>
            have nc : t ≠ G := ne_of_none q nG
            rw [sj _ _ (hne (sm _ _ q) nc)] at nt
            cases nt
        rw [take_more he, List.map_append]
        exact PySem.Paired.snoc (Paired.imp2 (fun c g h => ⟨nJD (u _ _ h.1), h.2⟩) pj) ⟨nJD upd_same, hnt⟩
      · rintro J ⟨tl, sj, hJD, pj⟩
        rw [List.length_map, List.take_length] at pj
        have hJG : J G = some (.frz od (.dT (L.map encT))) := sj _ _ upd_same
        refine ⟨hJG, ?_⟩
        have hs : Same H (upd J G (.dT (L.map encT))) := fun c o e => by
          have nc : c ≠ G := ne_of_none e nG
          rw [upd_ne nc]
          exact sj _ _ (hne (sm _ _ e) nc)
        refine q D tl _ hs (sm.free nDH') (by rw [upd_ne nDG]; exact hJD) ?_
        have e2 : choicesD d = L.map (·.2.2) := by
          unfold choicesD
          rw [← hch, List.map_map]
          rfl
        rw [e2]
        exact Paired.imp2 (fun c g h => ⟨by rw [upd_ne (fun q => by have := h.1; rw [q, hJG] at this; cases this)]; exact h.1, h.2⟩) pj
end
section
variable {P : Program} {w : World} {K : PySem.W.Frag} {mg : Str → Option Value} {base : Heap}
/-- the names of a choice are steps -/
theorem choiceT_mem {ss : List SRow} : ∀ x ∈ choiceT ss, ∀ y ∈ x.2, ∃ r ∈ ss, r.1 = y ∧ r.2.1 = x.1 := by
  suffices h : ∀ (l : List SRow) (pre : List SRow), (∀ x ∈ choiceT pre, ∀ y ∈ x.2, ∃ r ∈ pre, r.1 = y ∧ r.2.1 = x.1) → ∀ x ∈ choiceT (pre ++ l), ∀ y ∈ x.2, ∃ r ∈ pre ++ l, r.1 = y ∧ r.2.1 = x.1 by
    have := h ss [] (fun x hx => by cases hx)
    simpa using this
  intro l
  induction l with
  | nil => intro pre h; simpa using h
  | cons s l ih =>
    intro pre h
    have e : pre ++ s :: l = (pre ++ [s]) ++ l := by simp
    rw [e]
    refine ih _ fun x hx y hy => ?_
    rw [choiceT_snoc] at hx
    unfold addG at hx
    split at hx
    · obtain ⟨z, hz, rfl⟩ := List.mem_map.mp hx
      by_cases hk : z.1 = s.2.1
      · rw [if_pos hk] at hy
        rw [if_pos hk]
        rcases List.mem_append.mp hy with hy | hy
        · obtain ⟨r, h1, h2, h3⟩ := h z hz y hy
          exact ⟨r, List.mem_append_left _ h1, h2, h3⟩
        · exact ⟨s, List.mem_append_right _ (List.mem_singleton.mpr rfl), (List.mem_singleton.mp hy).symm, hk.symm⟩
      · rw [if_neg hk] at hy
        rw [if_neg hk]
        obtain ⟨r, h1, h2, h3⟩ := h z hz y hy
        exact ⟨r, List.mem_append_left _ h1, h2, h3⟩
    · rcases List.mem_append.mp hx with hx | hx
      · obtain ⟨r, h1, h2, h3⟩ := h x hx y hy
        exact ⟨r, List.mem_append_left _ h1, h2, h3⟩
      · rw [List.mem_singleton.mp hx] at hy ⊢
        exact ⟨s, List.mem_append_right _ (List.mem_singleton.mpr rfl), (List.mem_singleton.mp hy).symm, rfl⟩
theorem choiceT_ne {ss : List SRow} : ∀ x ∈ choiceT ss, x.2 ≠ [] := by
  suffices h : ∀ (l : List SRow) (pre : List SRow), (∀ x ∈ choiceT pre, x.2 ≠ []) → ∀ x ∈ choiceT (pre ++ l), x.2 ≠ [] by
    have := h ss [] (fun x hx => by cases hx)
    simpa using this
  intro l
  induction l with
  | nil => intro pre h; simpa using h
  | cons s l ih =>
    intro pre h
    have e : pre ++ s :: l = (pre ++ [s]) ++ l := by simp
    rw [e]
    refine ih _ fun x hx => ?_
    rw [choiceT_snoc] at hx
    unfold addG at hx
    split at hx
    · obtain ⟨z, hz, rfl⟩ := List.mem_map.mp hx
      by_cases hk : z.1 = s.2.1
      · rw [if_pos hk]
        simp
      · rw [if_neg hk]
        exact h z hz
    · rcases List.mem_append.mp hx with hx | hx
      · exact h x hx
      · rw [List.mem_singleton.mp hx]
        simp
theorem choiceT_len (ss : List SRow) : (choiceT ss).length ≤ ss.length := by
  suffices h : ∀ (l : List SRow) (pre : List SRow), (choiceT pre).length ≤ pre.length → (choiceT (pre ++ l)).length ≤ (pre ++ l).length by
    have := h ss [] (Nat.le_refl _)
    simpa using this
  intro l
  induction l with
  | nil => intro pre h; simpa using h
  | cons s l ih =>
    intro pre h
    have e : pre ++ s :: l = (pre ++ [s]) ++ l := by simp
    rw [e]
    refine ih _ ?_
    rw [choiceT_snoc]
    unfold addG
    split
    · rw [List.length_map, List.length_append]; omega
    · rw [List.length_append, List.length_append]; show _ + 1 ≤ _ + 1; omega
theorem choiceT_glen (ss : List SRow) : ∀ x ∈ choiceT ss, x.2.length ≤ ss.length := by
  suffices h : ∀ (l : List SRow) (pre : List SRow), (∀ x ∈ choiceT pre, x.2.length ≤ pre.length) → ∀ x ∈ choiceT (pre ++ l), x.2.length ≤ (pre ++ l).length by
    have := h ss [] (fun x hx => by cases hx)
    simpa using this
  intro l
  induction l with
  | nil => intro pre h; simpa using h
  | cons s l ih =>
    intro pre h
    have e : pre ++ s :: l = (pre ++ [s]) ++ l := by simp
    rw [e]
    refine ih _ fun x hx => ?_
    rw [choiceT_snoc] at hx
    unfold addG at hx
    rw [List.length_append]
    split at hx
    · obtain ⟨z, hz, rfl⟩ := List.mem_map.mp hx
      have := h z hz
      by_cases hk : z.1 = s.2.1
      · rw [if_pos hk, List.length_append]
        show _ + 1 ≤ _ + 1
        omega
      · rw [if_neg hk]
        omega
    · rcases List.mem_append.mp hx with hx | hx
      · have := h x hx
        omega
      · rw [List.mem_singleton.mp hx]
        show 1 ≤ _ + 1
        omega
def preChoices (C : Addr) : Pre := fun ps out err => ∃ d, ps = [iz (zPlan C) d] ∧ out = (· = iz (zL (zT zS)) (choicesD d)) ∧ err = noErr
theorem tups_pvs {F H' H : Hp} {ts : List Addr} {gs : List (List Str)} (h : Paired (fun t g => H' t = some (.tup (g.map V.str)) ∧ H t = none) ts gs) (ha : ∀ g ∈ gs, ∀ y ∈ g, Asc y) : PVs (zT zS) (newF F H H') (ts.map V.ref) gs := by
  induction h with
  | nil => exact .nil
  | cons a _ ih => exact .cons ⟨_, _, rfl, .inl (newF_at a.2 a.1), strs_pvs (ha _ (List.mem_cons_self ..))⟩ (ih fun g hg => ha g (List.mem_cons_of_mem _ hg))
theorem choices_asc {d : PlanD} (h : PlanOk d) : ∀ g ∈ choicesD d, ∀ y ∈ g, Asc y := fun g hg y hy => by
  obtain ⟨x, hx, rfl⟩ := List.mem_map.mp hg
  obtain ⟨r, hr, e, _⟩ := choiceT_mem x hx y hy
  rw [← e]
  exact (h.st r hr).1.asc
theorem choicesG {k : Nat} {C : Addr} {ps : List Str} (D : Def P w K mg base CX0 k "choices" ps (spChoices C)) : Def P w K mg base CX0 k "choices" ps (spA (preChoices C)) := D.imp fun vs H Q E ⟨F, qs, out, err, fh, hps, ⟨d, e1, e2, e3⟩, post, _⟩ => by
  subst e1 e2 e3
  cases hps with
  | cons h1 hp => cases hp with
    | nil =>
      obtain ⟨x, h1, h2, h3⟩ := h1
      refine ⟨x, d, by rw [h1], h2.keep fh, h3.sn, h3.s16, fun p ts H' hh np hp pt => ?_⟩
      obtain ⟨n1, n2, n3⟩ := newF_of fh hh
      exact post _ rfl _ _ _ hh n1 n2 n3 ⟨p, _, rfl, newF_at np hp, tups_pvs pt (choices_asc h3)⟩
end
section
variable {P : Program} {w : World} {K : PySem.W.Frag} {mg : Str → Option Value} {base : Heap}
def m_choices (d : PlanD) : DM (List (List Str)) := fun Q _ => Q (choicesD d)
theorem choicesW {k : Nat} {cs : EK → Addr} {C : Addr} {ps : List Str} (D : Def P w K mg base CX0 k "choices" ps (spA (preChoices C))) : Def P w K mg base CX0 k "choices" ps (spA (preW (erW cs) (fun d : PlanD => [iz (zPlan C) d]) (yL (yT yS)) m_choices)) := D.imp fun vs H Q E ⟨F, qs, out, err, fh, hps, ⟨d, Qm, X, e1, h, e2, e3⟩, post, pers⟩ => by
  subst e1 e2 e3
  have pk : PlanOk d := by
    cases hps with
    | cons h1 hp =>
      obtain ⟨x, _, _, h3⟩ := h1
      exact h3
  refine ⟨F, _, _, _, fh, hps, ⟨d, rfl, rfl, rfl⟩, fun p hp v F' H' hh ff fh' nw hv => ?_, fun e he => he.elim⟩
  subst hp
  refine post (iz (yL (yT yS)) (choicesD d)) ⟨_, h, rfl⟩ v F' H' hh ff fh' nw ?_
  have s16 := pk.s16
  have hb : big = 100000 := rfl
  have l1 : (choicesD d).length ≤ big := by
    unfold choicesD
    rw [List.length_map]
    have := choiceT_len d.steps
    omega
  refine le_LL (r := zT zS) (s := yT yS) l1 (fun F v g hg q => ?_) F' v hv
  obtain ⟨x, hx, e⟩ := List.mem_map.mp hg
  have hw : ∀ y ∈ g, y.length ≤ big := fun y hy => by
    rw [← e] at hy
    obtain ⟨r, hr, er, _⟩ := choiceT_mem x hx y hy
    rw [← er]
    have := (pk.st r hr).1.len
    have h12 : r.1.length ≤ 12 := this
    omega
  have := choiceT_glen d.steps x hx
  exact le_TT (r := zS) (s := yS) (by rw [← e]; omega) (fun F v y hy q => ⟨q, hw y hy⟩) F v q
end
section
variable {P : Program} {w : World} {K : PySem.W.Frag} {mg : Str → Option Value} {base : Heap}
abbrev s_meets : Stmt := topS 3
theorem sc_meets : FnScope ["places", "others", "place"] ["places", "others"] (defScope s_meets) := ⟨rfl, rfl, rfl, by decide +kernel, rfl, by decide +kernel, by decide +kernel⟩
def preMeets : Pre := fun ps out err => ∃ xs ys : List Str, ps = [iz (zT zS) xs, iz (zL zS) ys] ∧ xs.length ≤ 1000 ∧ out = (· = iz zB (xs.any fun x => decide (x ∈ ys))) ∧ err = noErr
theorem ok_meets {k : Nat} (B : Bl mg) (F : Src K mg "meets" s_meets ["places", "others"]) : Def P w K mg base CX0 (k + 1) "meets" ["places", "others"] (spA preMeets) := by
  refine F.okA sc_meets (fun qs out err ⟨xs, ys, h, _⟩ => by rw [h]; rfl) (fun f cdv A outer s H E qs out err hr hpre => ?_)
  obtain ⟨xs, ys, rfl, hl, rfl, rfl⟩ := hpre
  refine ⟨_, (pss_one (ps_ret (pe_callB (kcr_any (K := K) rfl) (by rfl) B.any' (by decide +kernel) (pa_cons (pe_lc (own := [("place", 2)]) (g := gName 2) (by rfl) sc_meets.nd (kpi_tup (K := K) (pv 0)) (blkOk_by (N := ["places", "others", "place"]) (sc := defScope s_meets) (by decide +kernel)) (fun _ _ _ _ _ => (pg_name (i := 2) sc_meets.nd rfl (Or.inl rfl))) (fun _ _ _ _ _ => pts_nil) (fun _ _ _ _ _ => (pe_cmpR (kop_in (K := K)) (pv 2) (pv 1) rfl))) pa_nil)))), fun fr Q hret => ?_⟩
  ac_rfl
  refine we_lc (r := zS) (s := zB) (xs := xs) (pr := fun _ => true) (f := fun x => decide (x ∈ ys)) ?_ hl (fun x => tg_name) (fun x hx c => ?_) (fun x hx hp c => ?_) ?_
  · ac_rfl
  · ac_rfl
  · ac_rfl
  · ac_rfl
    refine hret _ ?_ _
    rw [List.filter_eq_self.mpr fun _ _ => rfl, List.any_map]
    rfl
end
section
variable {P : Program} {w : World} {K : PySem.W.Frag} {mg : Str → Option Value} {base : Heap}
/-- the arrows of a plan -/
def arrowsD (d : PlanD) : List (List Int) := (choiceT d.steps).map fun g => (intsF 0 (choiceT d.steps).length).filter fun k => ((choiceT d.steps)[k.toNat]?.getD ([], [])).1.any fun x => decide (x ∈ g.2.flatMap fun n => (getR d.gv n).getD [])
abbrev s_arrows : Stmt := topS 4
theorem sc_arrows : FnScope ["plan", "groups", "rows", "group", "given", "step", "place", "k"] ["plan"] (defScope s_arrows) := ⟨rfl, rfl, rfl, by decide +kernel, rfl, by decide +kernel, by decide +kernel⟩
def preArrows (C : Addr) : PreN := fun ps out err => ∃ d, ps = [iz (zPlan C) d] ∧ out = (fun p Θn => ∃ a as, as.length = (arrowsD d).length ∧ p = zAt a ∧ Θn = cL a zRef as :: cells zI as (arrowsD d)) ∧ err = noErr
def preArrowsF (C : Addr) : Pre := fun ps out err => ∃ d, ps = [iz (zPlan C) d] ∧ out = (· = iz (zL (zL zI)) (arrowsD d)) ∧ err = noErr
theorem arrowsF {k : Nat} {C : Addr} {ps : List Str} (D : Def P w K mg base CX0 k "arrows" ps (spN (preArrows C))) : Def P w K mg base CX0 k "arrows" ps (spA (preArrowsF C)) := D.imp fun vs H Q E ⟨F, qs, out, err, fh, hps, ⟨d, e1, e2, e3⟩, post, pers⟩ => by
  subst e1 e2 e3
  refine ⟨F, _, _, _, fh, hps, ⟨d, rfl, rfl, rfl⟩, fun p Θn ⟨a, as, hl, e4, e5⟩ v F' H' hh ff fh' nw ca hn hv => ?_, pers⟩
  subst e4 e5
  have hv : v = .ref a := hv
  subst hv
  have ok := (OkF.start fh).more hh ff fh' nw ca hn
  obtain ⟨F2, s2, ok2, h2⟩ := nest_frz ok hl
  obtain ⟨a1, a2, a3, a4⟩ := ok2.post
  exact post _ rfl _ F2 H' a1 a2 a3 a4 h2
theorem ok_arrows {k : Nat} {cs : ECs} {C : Addr} (B : Bl mg) (T_Plan : PlanC K mg C) (DM_Plan_takes : DefM P w K mg base (L2.CX P w) k C "takes" ["self", "step"] (spA (preTakes cs C))) (DM_Plan_gives : DefM P w K mg base (L2.CX P w) k C "gives" ["self", "step"] (spA (preGives cs C)))
    (D_choices : Def P w K mg base CX0 k "choices" ["plan"] (spA (preChoices C))) (D_meets : Def P w K mg base CX0 k "meets" ["places", "others"] (spA preMeets))
    (F : Src K mg "arrows" s_arrows ["plan"]) : Def P w K mg base CX0 (k + 1) "arrows" ["plan"] (spN (preArrows C)) := by
  refine F.okN sc_arrows (fun qs out err ⟨xs, h, _⟩ => by rw [h]; rfl) (fun f cdv A outer s H E qs out err hr hpre => ?_)
  obtain ⟨d, rfl, rfl, rfl⟩ := hpre
  refine ⟨_, (pss_cons (ps_asg (pe_def D_choices hr pass0 (pa_cons (pv 0) pa_nil)) (pg_name (i := 1) sc_arrows.nd rfl (Or.inr rfl)))
 (pss_cons (ps_asg (pe_lst pa_nil) (pg_name (i := 2) sc_arrows.nd rfl (Or.inl rfl)))
 (pss_cons (ps_for PassesOwn.never rfl (kpi_list (K := K) (pv 1)) (pg_name (i := 3) sc_arrows.nd rfl (Or.inl rfl)) (pss_cons (ps_asg (pe_lc2 (own := [("step", 5), ("place", 6)]) (vs1 := [6]) (by rfl) sc_arrows.nd (kpi_tup (K := K) (pv 3)) (blkOk_by (N := ["plan", "groups", "rows", "group", "given", "step", "place", "k"]) (sc := defScope s_arrows) (by decide +kernel)) (by decide) (fun _ _ _ _ _ => (pg_name (i := 5) sc_arrows.nd rfl (Or.inl rfl))) (fun _ _ _ _ _ => pts_nil) (fun _ _ _ _ _ => (kpi_tup (K := K) (pe_metD DM_Plan_gives T_Plan.cl hr (fun σ => Passes.at passL σ) (pv 0) (pa_cons (pv 5) pa_nil)))) (fun _ _ _ _ _ => (pg_name (i := 6) sc_arrows.nd rfl (Or.inl rfl))) (fun _ _ _ _ _ => pts_nil) (fun _ _ _ _ _ => (pv 6))) (pg_name (i := 4) sc_arrows.nd rfl (Or.inr rfl)))
 (pss_one (ps_expr (pe_bm PySem.F.plainAttrs_list PySem.F.slot_list_append PySem.F.type_list_append mt_append (pv 2) (pa_cons (pe_lc (own := [("k", 7)]) (g := gName 7) (by rfl) sc_arrows.nd (pi_range1 (by rfl) B.range (pa_cons (pe_callB (kcall_len (K := K)) (by rfl) B.len PySem.boot_len (pa_cons (pv 1) pa_nil)) pa_nil)) (blkOk_by (N := ["plan", "groups", "rows", "group", "given", "step", "place", "k"]) (sc := defScope s_arrows) (by decide +kernel)) (fun _ _ _ _ _ => (pg_name (i := 7) sc_arrows.nd rfl (Or.inl rfl))) (fun _ _ _ _ _ => pts_one (pt_val (pe_def D_meets hr pass0 (pa_cons (pe_metD DM_Plan_takes T_Plan.cl hr (fun σ => Passes.at passL σ) (pv 0) (pa_cons (pe_ix (kix_tup (K := K)) (pe_ix (kix_list (K := K)) (pv 1) (pv 7) (fun _ _ => rfl)) pe_int (fun _ _ => rfl)) pa_nil)) (pa_cons (pv 4) pa_nil))))) (fun _ _ _ _ _ => (pv 7))) pa_nil))))))
 (pss_one (ps_ret (pv 2)))))), fun fr Q hret => ?_⟩
  refine kn_fact (i := 0) (p := iz (zPlan C) d) rfl (fun F v h => plan_ok h) fun pok => ?_
  ac_rfl
  refine sps_A ⟨_, rfl, rfl, rfl⟩ (fun p hp => ?_) (fun e he => he.elim)
  subst hp
  ac_rfl
  refine we_nil zRef fun a => ?_
  ac_rfl
  refine kn_forS (S := List Addr × List (List Int)) (r := zT zS) (xs := choicesD d) (fun _ => [some (iz (zPlan C) d), some (iz (zL (zT zS)) (choicesD d)), some (zAt a), none, none, none, none, none]) (fun s => cL a zRef s.1 :: cells zI s.1 s.2) (fun i s => s.2 = (arrowsD d).take i ∧ s.1.length = s.2.length) ([], []) ?_ ?_ ⟨rfl, rfl⟩ (fun x s => tg_name) (fun fr' le i g s hi hP => ?_) (fun s hP => ?_)
  · ac_rfl
  · and_intros
  · obtain ⟨as, out⟩ := s
    obtain ⟨hP, hla⟩ := hP
    dsimp only at hP hla
    subst_vars
    ac_rfl
    have hg : g ∈ choicesD d := List.mem_of_getElem? hi
    have hgv : ∀ n ∈ g, ∃ r ∈ d.steps, r.1 = n ∧ getR d.gv n = some r.2.2 := fun n hn => by
      obtain ⟨x, hx, rfl⟩ := List.mem_map.mp hg
      obtain ⟨r, hr, e, _⟩ := choiceT_mem x hx n hn
      exact ⟨r, hr, e, by rw [← e]; exact pok.gvr hr⟩
    have lg : g.length ≤ 16 := by
      obtain ⟨x, hx, rfl⟩ := List.mem_map.mp hg
      exact Nat.le_trans (choiceT_glen d.steps x hx) pok.s16
    have lf : (g.flatMap fun n => (getR d.gv n).getD []).length ≤ 16 * 12 := by
      refine Nat.le_trans (flat_le (m := 12) fun n hn => ?_) (Nat.mul_le_mul_right 12 lg)
      obtain ⟨r, hr, e, hgr⟩ := hgv n hn
      rw [hgr]
      show r.2.2.length ≤ 12
      rw [← (pok.st r hr).2.2.2]
      exact Nat.le_trans (List.length_filter_le _ _) pok.p12
    refine we_lc20 (r := zS) (r1 := zS) (s := zS) (xs := g) (ys := fun n => (getR d.gv n).getD []) (f := fun _ y => y) ?_ (fun x => tg_name.sub (by decide)) (fun x hx c => ?_) (fun x y => tg_name) (fun x hx y hy c => ?_) ?_ ?_
    · ac_rfl
    · obtain ⟨r, hr, e, hgr⟩ := hgv x hx
      ac_rfl
      refine gv_call hgr ?_
      ac_rfl
      refine ⟨?_, rfl⟩
      rw [hgr]
      rfl
    · ac_rfl
    · simp only [List.map_id']
      omega
    · simp only [List.map_id']
      generalize hgiv : (g.flatMap fun n => (getR d.gv n).getD []) = giv
      subst_vars
      refine kn_append rfl (.head _) ?_
      have lc : (choicesD d).length ≤ 16 := by
        unfold choicesD
        rw [List.length_map]
        exact Nat.le_trans (choiceT_len d.steps) pok.s16
      have lcc : (choicesD d).length = (choiceT d.steps).length := by unfold choicesD; rw [List.length_map]
      refine we_lcO (r := zI) (s := zI) (xs := intsF 0 (choicesD d).length) (pr := fun k => ((choiceT d.steps)[k.toNat]?.getD ([], [])).1.any fun x => decide (x ∈ giv)) (f := fun k => k) ?_ (by rw [intsF_len]; omega) (fun x => tg_name) (fun x hx c => ?_) (fun x hx hp c => ?_) (fun b => ?_)
      · ac_rfl
        exact ⟨by omega, by omega, rfl, rfl⟩
      · obtain ⟨j, hj, rfl⟩ := mem_intsF hx
        rw [lcc] at hj
        have hxe : (choiceT d.steps)[j]? = some (choiceT d.steps)[j] := List.getElem?_eq_getElem hj
        generalize (choiceT d.steps)[j] = e at hxe
        have hxm := List.mem_of_getElem? hxe
        have hce : (choicesD d)[j]? = some e.2 := by unfold choicesD; rw [List.getElem?_map, hxe]; rfl
        obtain ⟨n, r, hnr⟩ : ∃ n r, e.2 = n :: r := by
          cases q : e.2 with
          | nil => exact absurd q (choiceT_ne e hxm)
          | cons n r => exact ⟨n, r, rfl⟩
        obtain ⟨row, hrow, hr1, hr2⟩ := choiceT_mem e hxm n (by rw [hnr]; exact List.mem_cons_self ..)
        have htk : getR d.tk n = some e.1 := by rw [← hr1, ← hr2]; exact pok.tkr hrow
        ac_rfl
        refine ops_ixL (atI_nat hce) ?_
        ac_rfl
        refine ops_ixT (x := n) (atI_nat (j := 0) (by rw [hnr]; rfl)) ?_
        ac_rfl
        refine tk_call htk ?_
        ac_rfl
        refine sps_A ⟨_, _, rfl, ?_, rfl, rfl⟩ (fun p hp => ?_) (fun e he => he.elim)
        · rw [← hr2, ← (pok.st row hrow).2.2.1]
          exact Nat.le_trans (List.length_filter_le _ _) (by have := pok.p12; omega)
        · subst hp
          refine ⟨_, rfl, ?_, rfl⟩
          show _ = ((choiceT d.steps)[(j : Int).toNat]?.getD ([], [])).1.any fun x => decide (x ∈ giv)
          rw [Int.toNat_natCast, hxe]
          rfl
      · ac_rfl
      · have lo : out.length ≤ 16 := by
          rw [hP, List.length_take]
          unfold arrowsD
          rw [List.length_map, ← lcc]
          omega
        refine ⟨b, 1, rfl, rfl, by omega, ?_⟩
        subst_vars
        rw [List.map_id']
        obtain ⟨x, hx1, hx2⟩ : ∃ x, (choiceT d.steps)[i]? = some x ∧ x.2 = g := by
          unfold choicesD at hi
          rw [List.getElem?_map] at hi
          exact Option.map_eq_some_iff.mp hi
        have hne : (arrowsD d)[i]? = some ((intsF 0 (choiceT d.steps).length).filter fun k => ((choiceT d.steps)[k.toNat]?.getD ([], [])).1.any fun x => decide (x ∈ giv)) := by
          unfold arrowsD
          rw [List.getElem?_map, hx1, ← hgiv, ← hx2]
          rfl
        rw [lcc]
        generalize ((intsF 0 (choiceT d.steps).length).filter fun k => ((choiceT d.steps)[k.toNat]?.getD ([], [])).1.any fun x => decide (x ∈ giv)) = ys at hne
        refine Kn.perm (Θ' := cL a zRef (as ++ [b]) :: (cells zI as out ++ [cL b zI ys])) (kn_back (as ++ [b], out ++ [ys]) ?_ ⟨?_, ?_⟩ ?_) ?_
        · and_intros
        · rw [take_more hne, hP]
        · rw [List.length_append, List.length_append, hla]; rfl
        · dsimp only
          rw [cells_snoc hla]
        · exact (List.perm_append_singleton (cL b zI ys) (cL a zRef (as ++ [b]) :: cells zI as out)).symm
  · obtain ⟨as, out⟩ := s
    obtain ⟨hP, hla⟩ := hP
    dsimp only at hP hla
    have hall : out = arrowsD d := by
      rw [hP, List.take_of_length_le]
      unfold arrowsD choicesD
      rw [List.length_map, List.length_map]
      exact Nat.le_refl _
    subst hall
    ac_rfl
    refine hret (zAt a) (cL a zRef as :: cells zI as (arrowsD d)) ⟨a, as, hla, rfl, rfl⟩ (fun c hc => ?_) _ [] (by rw [List.append_nil]) 
    rcases List.mem_cons.mp hc with rfl | hc
    · rfl
    · exact cells_own hc
end
section
variable {P : Program} {w : World} {K : PySem.W.Frag} {mg : Str → Option Value} {base : Heap}
def sameS (a b : List Str) : Bool := decide (a.length = b.length ∧ ∀ w ∈ b, w ∈ a)
abbrev LG := List Str × List Str
def gAt (gs : List LG) (j : Nat) : LG := gs.getD j ([], [])
def addS (gs : List LG) (t : List Str) (n : Str) : List LG :=
  match (List.range gs.length).filter fun i => sameS (gAt gs i).1 t with
  | [] => gs ++ [(t, [n])]
  | j :: _ => gs.set j ((gAt gs j).1, (gAt gs j).2 ++ [n])
def groupsR (srs : List SRow) : List LG := srs.foldl (fun gs r => addS gs r.2.1 r.1) []
theorem groupsR_snoc (ss : List SRow) (s : SRow) : groupsR (ss ++ [s]) = addS (groupsR ss) s.2.1 s.1 := by
  unfold groupsR
  rw [List.foldl_append]
  rfl
theorem ints_filter {p : Int → Bool} (n : Nat) : (intsF 0 n).filter p = ((List.range n).filter fun i : Nat => p i).map fun i : Nat => (i : Int) := by
  unfold intsF
  rw [List.filter_map]
  have e : (fun i : Nat => (0 : Int) + i) = fun i : Nat => (i : Int) := funext fun i => Int.zero_add _
  rw [e]
  rfl
theorem gAt_get {gs : List LG} {j : Nat} (hj : j < gs.length) : gAt gs j = gs[j] := by
  unfold gAt
  rw [List.getD_eq_getElem?_getD, List.getElem?_eq_getElem hj]
  rfl
abbrev s__law_groups : Stmt := topS 65
theorem sc__law_groups : FnScope ["_law_rows_here", "_law_sets_here", "_law_groups_here", "_law_word_here", "_law_taken", "_law_given", "_law_at", "_law_group", "_law_k", "_law_w"] ["_law_rows_here"] (defScope s__law_groups) := ⟨rfl, rfl, rfl, by decide +kernel, rfl, by decide +kernel, by decide +kernel⟩
def preGroups : Pre := fun ps out err => ∃ prs srs, ps = [iz zRows (prs, srs)] ∧ srs.length ≤ 20 ∧ (∀ r ∈ srs, r.2.1.length ≤ 20) ∧ out = (· = iz (zL (zL (zL zS))) [(groupsR srs).map (·.1), (groupsR srs).map (·.2)]) ∧ err = noErr
theorem ok_groupsG {k : Nat} (B : Bl mg) (F : Src K mg "_law_groups" s__law_groups ["_law_rows_here"]) : Def P w K mg base CX0 (k + 1) "_law_groups" ["_law_rows_here"] (spA preGroups) := by
  refine F.okA sc__law_groups (fun qs out err ⟨_, _, h, _⟩ => by rw [h]; rfl) (fun f cdv A outer s H E qs out err hr hpre => ?_)
  obtain ⟨prs, srs, rfl, ls, lr, rfl, rfl⟩ := hpre
  refine ⟨_, (pss_cons (ps_asg (pe_lst pa_nil) (pg_name (i := 1) sc__law_groups.nd rfl (Or.inr rfl)))
 (pss_cons (ps_asg (pe_lst pa_nil) (pg_name (i := 2) sc__law_groups.nd rfl (Or.inl rfl)))
 (pss_cons (ps_for PassesOwn.never rfl (kpi_list (K := K) (pe_ix (kix_tup (K := K)) (pv 0) pe_int (fun _ _ => rfl))) (pg_tup rfl (pgs_cons (pg_name (i := 3) sc__law_groups.nd rfl (Or.inl rfl)) (pgs_cons (pg_name (i := 4) sc__law_groups.nd rfl (Or.inr rfl)) (pgs_cons (pg_name (i := 5) sc__law_groups.nd rfl (Or.inl rfl)) pgs_nil)))) (pss_cons (ps_setLc (i := 6) (own := [("_law_k", 8)]) (g := gName 8) (by rfl) sc__law_groups.nd rfl rfl (sw_true rfl rfl rfl (by decide +kernel)) (pi_range1 (by rfl) B.range (pa_cons (pe_callB (kcall_len (K := K)) (by rfl) B.len PySem.boot_len (pa_cons (pv 1) pa_nil)) pa_nil)) (blkOk_by (N := ["_law_rows_here", "_law_sets_here", "_law_groups_here", "_law_word_here", "_law_taken", "_law_given", "_law_at", "_law_group", "_law_k", "_law_w"]) (sc := defScope s__law_groups) (by decide +kernel)) (fun _ _ _ _ _ => (pg_name (i := 8) sc__law_groups.nd rfl (Or.inr rfl))) (fun _ _ _ _ _ => pts_one (PW.pt (pw_and (pt_cmpR op_eq (pe_callB (kcall_len (K := K)) (by rfl) B.len PySem.boot_len (pa_cons (pe_ix (kix_list (K := K)) (pv 1) (pv 8) (fun _ _ => rfl)) pa_nil)) (pe_callB (kcall_len (K := K)) (by rfl) B.len PySem.boot_len (pa_cons (pv 4) pa_nil)) (nomark _)) (pw_and1 (pt_cmpR (kop_eqD (K := K) hr.units) (pe_lc (own := [("_law_w", 9)]) (g := gName 9) (by rfl) sc__law_groups.nd (kpi_list (K := K) (pv 4)) (blkOk_by (N := ["_law_rows_here", "_law_sets_here", "_law_groups_here", "_law_word_here", "_law_taken", "_law_given", "_law_at", "_law_group", "_law_k", "_law_w"]) (sc := _) (by kernel_rfl)) (fun _ _ _ _ _ => (pg_name (i := 9) sc__law_groups.nd rfl (Or.inl rfl))) (fun _ _ _ _ _ => pts_one (pt_cmpR (kop_notIn (K := K)) (pv 9) (pe_ix (kix_list (K := K)) (pv 1) (pv 8) (fun _ _ => rfl)) rfl)) (fun _ _ _ _ _ => (pv 9))) (pe_lst pa_nil) (nomark _)))))) (fun _ _ _ _ _ => (pv 8)))
 (pss_one (ps_if (pt_cmpR (kop_eqD (K := K) hr.units) (pv 6) (pe_lst pa_nil) (nomark _)) (pss_cons (ps_expr (pe_bm PySem.F.plainAttrs_list PySem.F.slot_list_append PySem.F.type_list_append mt_append (pv 1) (pa_cons (pv 4) pa_nil)))
 (pss_one (ps_expr (pe_bm PySem.F.plainAttrs_list PySem.F.slot_list_append PySem.F.type_list_append mt_append (pv 2) (pa_cons (pe_lst (pa_cons (pv 3) pa_nil)) pa_nil))))) (pss_cons (ps_asg (pe_ix (kix_list (K := K)) (pv 2) (pe_ix (kix_list (K := K)) (pv 6) pe_int (fun _ _ => rfl)) (fun _ _ => rfl)) (pg_name (i := 7) sc__law_groups.nd rfl (Or.inl rfl)))
 (pss_one (ps_expr (pe_bm PySem.F.plainAttrs_list PySem.F.slot_list_append PySem.F.type_list_append mt_append (pv 7) (pa_cons (pv 3) pa_nil)))))))))
 (pss_one (ps_ret (pe_lst (pa_cons (pv 1) (pa_cons (pv 2) pa_nil)))))))), fun fr Q hret => ?_⟩
  ac_rfl
  refine we_nil (zL zS) fun S => ?_
  ac_rfl
  refine we_nil zRef fun G => ?_
  ac_rfl
  refine kn_forS (S := List Addr × List LG) (r := z3 zS (zL zS) (zL zS)) (xs := srs) (fun _ => [some (iz zRows (prs, srs)), some (zAt S), some (zAt G), none, none, none, none, none, none, none])
    (fun s => cL G zRef s.1 :: cL S (zL zS) (s.2.map (·.1)) :: cells zS s.1 (s.2.map (·.2))) (fun i s => s.2 = groupsR (srs.take i) ∧ s.1.length = s.2.length ∧ s.2.length ≤ i ∧ ∀ x ∈ s.2, x.2.length ≤ i) ([], []) ?_ ?_ ⟨rfl, rfl, Nat.zero_le _, fun x hx => by cases hx⟩ (fun x s => tg3 (by decide) (by decide) (by decide)) (fun fr' le i r s hi hP => ?_) (fun s hP => ?_)
  · ac_rfl
  · and_intros
  · obtain ⟨ga, gs⟩ := s
    obtain ⟨hgs, hga, lgs, lx⟩ := hP
    dsimp only at hgs hga lgs lx
    have i20 : i < srs.length := (List.getElem?_eq_some_iff.mp hi).1
    have lt := lr r (List.mem_of_getElem? hi)
    subst_vars
    bv_omega
    bv_omega
    refine we_lc (r := zI) (s := zI) (xs := intsF 0 gs.length) (pr := fun k => sameS (gAt gs k.toNat).1 r.2.1) (f := fun k => k) ?_ (by rw [intsF_len]; omega) (fun x => tg_name) (fun x hx c => ?_) (fun x hx hp c => ?_) ?_
    · ac_rfl
      refine cb_len (seq_C (.tail _ (.head _))) ?_
      ac_rfl
      rw [List.length_map]
      exact ⟨by omega, by omega, rfl, rfl⟩
    · obtain ⟨j, hj, rfl⟩ := mem_intsF hx
      have hje : gs[j]? = some gs[j] := List.getElem?_eq_getElem hj
      have hge := gAt_get hj
      generalize gs[j] = e at hje hge
      have hat : atI (gs.map (·.1)) (j : Int) = some e.1 := atI_nat (by rw [List.getElem?_map, hje]; rfl)
      have hcS : ∀ {c : Cel} {Θ : List Cel}, cL S (zL zS) (gs.map (·.1)) ∈ c :: cL G zRef ga :: cL S (zL zS) (gs.map (·.1)) :: Θ := fun {c Θ} => .tail _ (.tail _ (.head _))
      refine wt_and (b := decide ((e.1.length : Int) = r.2.1.length)) (c := decide ((r.2.1.filter fun y => !decide (y ∈ e.1)) = [])) ?_ (fun _ => ?_) ⟨?_, rfl⟩
      · ac_rfl
        refine ops_ixC hcS hat ?_
        ac_rfl
      · ac_rfl
        refine we_lc (r := zS) (s := zS) (xs := r.2.1) (pr := fun y => !decide (y ∈ e.1)) (f := fun y => y) ?_ (by omega) (fun x => tg_name) (fun y hy c2 => ?_) (fun y hy hp c2 => ?_) ?_
        · ac_rfl
        · ac_rfl
          refine ops_ixC (.tail _ hcS) hat ?_
          ac_rfl
        · ac_rfl
        · refine we_nilF zS ?_
          ac_rfl
          rw [List.map_id']
          exact ⟨rfl, rfl⟩
      · show _ = sameS (gAt gs (j : Int).toNat).1 r.2.1
        rw [Int.toNat_natCast, hge]
        unfold sameS
        rw [Bool.eq_iff_iff, Bool.and_eq_true, decide_eq_true_iff, decide_eq_true_iff, decide_eq_true_iff, List.filter_eq_nil_iff]
        constructor
        · rintro ⟨a1, a2⟩
          exact ⟨by omega, fun y hy => by simpa using a2 y hy⟩
        · rintro ⟨a1, a2⟩
          exact ⟨by omega, fun y hy => by simpa using a2 y hy⟩
    · ac_rfl
    · rw [List.map_id', ints_filter]
      simp only [Int.toNat_natCast]
      have hadd : addS gs r.2.1 r.1 = match (List.range gs.length).filter fun i => sameS (gAt gs i).1 r.2.1 with
        | [] => gs ++ [(r.2.1, [r.1])]
        | j :: _ => gs.set j ((gAt gs j).1, (gAt gs j).2 ++ [r.1]) := rfl
      have hnext : groupsR (srs.take (i + 1)) = addS gs r.2.1 r.1 := by rw [take_more hi, groupsR_snoc, ← hgs]
      generalize hFF : (List.range gs.length).filter (fun i => sameS (gAt gs i).1 r.2.1) = FF at hadd
      subst_vars
      ac_rfl
      refine we_nilF zI ?_
      ac_rfl
      refine ⟨fun h => ?_, fun h => ?_⟩
      · have h := of_decide_eq_true h
        have h : FF = [] := by simpa using h
        subst h
        have hadd : addS gs r.2.1 r.1 = gs ++ [(r.2.1, [r.1])] := hadd
        bv_omega
        refine kn_append rfl (.tail _ (.head _)) ?_
        ac_rfl
        refine ⟨_, 1, rfl, rfl, by rw [List.length_map]; omega, ?_⟩
        subst_vars
        refine kn_append rfl (.head _) ?_
        refine we_own zS ?_
        ac_rfl
        refine ⟨[r.1], rfl, by simp, fun a => ⟨a, 1, rfl, rfl, by omega, ?_⟩⟩
        subst_vars
        refine Kn.perm (Θ' := cL G zRef (ga ++ [a]) :: cL S (zL zS) (gs.map (·.1) ++ [r.2.1]) :: (cells zS ga (gs.map (·.2)) ++ [cL a zS [r.1]])) (kn_back (ga ++ [a], gs ++ [(r.2.1, [r.1])]) ?_ ⟨?_, ?_, ?_, ?_⟩ ?_) ?_
        · and_intros
        · rw [hnext, hadd]
        · rw [List.length_append, List.length_append, hga]; rfl
        · rw [List.length_append]; show _ + 1 ≤ _; omega
        · intro x hx
          rcases List.mem_append.mp hx with hx | hx
          · have := lx x hx; omega
          · rw [List.mem_singleton.mp hx]; show 1 ≤ _; omega
        · dsimp only
          rw [List.map_append, List.map_append]
          show _ = cL G zRef (ga ++ [a]) :: cL S (zL zS) (gs.map (·.1) ++ [r.2.1]) :: cells zS (ga ++ [a]) (gs.map (·.2) ++ [[r.1]])
          rw [cells_snoc (by rw [List.length_map]; exact hga)]
        · exact (List.perm_append_singleton (cL a zS [r.1]) (cL G zRef (ga ++ [a]) :: cL S (zL zS) (gs.map (·.1) ++ [r.2.1]) :: cells zS ga (gs.map (·.2)))).symm
      · have h := of_decide_eq_false h
        obtain ⟨j, rest, hj⟩ : ∃ j rest, FF = j :: rest := by
          cases FF with
          | nil => exact absurd rfl h
          | cons j rest => exact ⟨j, rest, rfl⟩
        subst hj
        have hadd : addS gs r.2.1 r.1 = gs.set j ((gAt gs j).1, (gAt gs j).2 ++ [r.1]) := hadd
        have hjm : j ∈ (List.range gs.length).filter (fun i => sameS (gAt gs i).1 r.2.1) := by rw [hFF]; exact List.mem_cons_self ..
        have hjl : j < gs.length := List.mem_range.mp (List.mem_filter.mp hjm).1
        have hje : gs[j]? = some gs[j] := List.getElem?_eq_getElem hjl
        rw [gAt_get hjl] at hadd
        generalize hee : gs[j] = e at hje hadd
        have hle := lx e (List.mem_of_getElem? hje)
        obtain ⟨a, ha⟩ : ∃ a, ga[j]? = some a := ⟨ga[j]'(by omega), List.getElem?_eq_getElem _⟩
        ac_rfl
        refine ops_ixL (x := (j : Int)) (atI_nat (j := 0) rfl) ?_
        refine ops_ixC (.head _) (atI_nat ha) ?_
        have hcell : (cells zS ga (gs.map (·.2)))[j]? = some (cL a zS e.2) := cells_get ha (by rw [List.getElem?_map, hje]; rfl)
        subst_vars
        refine kn_append (a := a) (r := zS) (xs := e.2) rfl (.tail _ (.tail _ (List.mem_of_getElem? hcell))) ?_
        ac_rfl
        refine ⟨_, j + 2, rfl, hcell, by omega, ?_⟩
        refine kn_back (ga, gs.set j (e.1, e.2 ++ [r.1])) ?_ ⟨?_, ?_, ?_, ?_⟩ ?_
        · and_intros
        · rw [hnext, hadd]
        · rw [List.length_set]; exact hga
        · rw [List.length_set]; omega
        · intro x hx
          rcases List.mem_or_eq_of_mem_set hx with hx | hx
          · have := lx x hx; omega
          · rw [hx, List.length_append]; show _ + 1 ≤ _; omega
        · dsimp only
          have e1 : (gs.set j (e.1, e.2 ++ [r.1])).map (·.1) = gs.map (·.1) := by
            rw [List.map_set]
            apply List.ext_getElem?
            intro m
            rw [List.getElem?_set]
            split
            · rename_i q
              subst q
              rw [if_pos (by rw [List.length_map]; exact hjl), List.getElem?_map, hje]
              rfl
            · rfl
          rw [e1, List.map_set, ← cells_set ha]
          rfl
  · obtain ⟨ga, gs⟩ := s
    obtain ⟨hgs, hga, lgs, lx⟩ := hP
    dsimp only at hgs hga lgs lx
    rw [List.take_length] at hgs
    subst hgs
    dsimp only
    refine kn_frz (i := 1) (j := 1) rfl rfl ?_
    subst_vars
    refine kn_frzN (i := 2) (r := zS) (ls := (groupsR srs).map (·.2)) (Θ' := []) rfl (List.perm_append_singleton _ _).symm (by rw [List.length_map]; exact hga) ?_
    subst_vars
    ac_rfl
    refine we_lst (r := zL (zL zS)) ?_
    ac_rfl
    exact ⟨[_, _], rfl, by simp, hret _ rfl _⟩
end
theorem fold_snoc {P : List SRow → Prop} (h0 : P []) (hs : ∀ pre s, P pre → P (pre ++ [s])) (ss : List SRow) : P ss := by
  suffices h : ∀ (l : List SRow) (pre : List SRow), P pre → P (pre ++ l) by
    have := h ss [] h0
    simpa using this
  intro l
  induction l with
  | nil => intro pre h; simpa using h
  | cons s l ih =>
    intro pre h
    have e : pre ++ s :: l = (pre ++ [s]) ++ l := by simp
    rw [e]
    exact ih _ (hs pre s h)
theorem addS_cases (gs : List LG) (t : List Str) (n : Str) : addS gs t n = gs ++ [(t, [n])] ∨ ∃ j, j < gs.length ∧ addS gs t n = gs.set j ((gAt gs j).1, (gAt gs j).2 ++ [n]) := by
  unfold addS
  generalize hF : (List.range gs.length).filter (fun i => sameS (gAt gs i).1 t) = FF
  cases FF with
  | nil => exact .inl rfl
  | cons j rest =>
    have hjm : j ∈ (List.range gs.length).filter (fun i => sameS (gAt gs i).1 t) := by rw [hF]; exact List.mem_cons_self ..
    exact .inr ⟨j, List.mem_range.mp (List.mem_filter.mp hjm).1, rfl⟩
theorem groupsR_inv (ss : List SRow) : (groupsR ss).length ≤ ss.length ∧ ∀ x ∈ groupsR ss, (∀ n ∈ x.2, ∃ r ∈ ss, r.1 = n) ∧ x.2.length ≤ ss.length ∧ ∃ r ∈ ss, r.2.1 = x.1 := by
  refine fold_snoc (P := fun ss => (groupsR ss).length ≤ ss.length ∧ ∀ x ∈ groupsR ss, (∀ n ∈ x.2, ∃ r ∈ ss, r.1 = n) ∧ x.2.length ≤ ss.length ∧ ∃ r ∈ ss, r.2.1 = x.1) ⟨Nat.le_refl _, fun x hx => by cases hx⟩ (fun pre s ⟨h1, h2⟩ => ?_) ss
  rw [groupsR_snoc]
  have up : ∀ x, ((∀ n ∈ x.2, ∃ r ∈ pre, r.1 = n) ∧ x.2.length ≤ pre.length ∧ ∃ r ∈ pre, r.2.1 = x.1) → (∀ n ∈ (x : LG).2, ∃ r ∈ pre ++ [s], r.1 = n) ∧ x.2.length ≤ (pre ++ [s]).length ∧ ∃ r ∈ pre ++ [s], r.2.1 = x.1 := fun x ⟨a, b, r, hr, c⟩ =>
    ⟨fun n hn => (a n hn).imp fun r ⟨h, e⟩ => ⟨List.mem_append_left _ h, e⟩, by rw [List.length_append]; omega, r, List.mem_append_left _ hr, c⟩
  rcases addS_cases (groupsR pre) s.2.1 s.1 with e | ⟨j, hj, e⟩
  · rw [e]
    refine ⟨by rw [List.length_append, List.length_append]; show _ + 1 ≤ _ + 1; omega, fun x hx => ?_⟩
    rcases List.mem_append.mp hx with hx | hx
    · exact up x (h2 x hx)
    · rw [List.mem_singleton.mp hx]
      exact ⟨fun n hn => ⟨s, List.mem_append_right _ (List.mem_singleton.mpr rfl), (List.mem_singleton.mp hn).symm⟩, by rw [List.length_append]; show 1 ≤ _ + 1; omega, s, List.mem_append_right _ (List.mem_singleton.mpr rfl), rfl⟩
  · rw [e]
    refine ⟨by rw [List.length_set, List.length_append]; omega, fun x hx => ?_⟩
    rcases List.mem_or_eq_of_mem_set hx with hx | hx
    · exact up x (h2 x hx)
    · rw [gAt_get hj] at hx
      obtain ⟨a, b, r, hr, c⟩ := h2 _ (List.getElem_mem hj)
      rw [hx]
      refine ⟨fun n hn => ?_, by rw [List.length_append, List.length_append]; show _ + 1 ≤ _ + 1; omega, r, List.mem_append_left _ hr, c⟩
      rcases List.mem_append.mp hn with hn | hn
      · exact (a n hn).imp fun r ⟨h, e⟩ => ⟨List.mem_append_left _ h, e⟩
      · exact ⟨s, List.mem_append_right _ (List.mem_singleton.mpr rfl), (List.mem_singleton.mp hn).symm⟩
theorem groupsR_len (ss : List SRow) : (groupsR ss).length ≤ ss.length := (groupsR_inv ss).1
theorem groupsR_mem (ss : List SRow) (x : LG) (hx : x ∈ groupsR ss) (n : Str) (hn : n ∈ x.2) : ∃ r ∈ ss, r.1 = n := ((groupsR_inv ss).2 x hx).1 n hn
theorem groupsR_glen (ss : List SRow) (x : LG) (hx : x ∈ groupsR ss) : x.2.length ≤ ss.length := ((groupsR_inv ss).2 x hx).2.1
theorem groupsR_set (ss : List SRow) (x : LG) (hx : x ∈ groupsR ss) : ∃ r ∈ ss, r.2.1 = x.1 := ((groupsR_inv ss).2 x hx).2.2
section
variable {P : Program} {w : World} {K : PySem.W.Frag} {mg : Str → Option Value} {base : Heap}
def reachR (srs : List SRow) (g : List Str) : List Str := g.flatMap fun n => (getR (gvR srs) n).getD []
def arrowsR (srs : List SRow) : List (List Int) := (groupsR srs).map fun g => (intsF 0 (groupsR srs).length).filter fun k => !decide ((((groupsR srs)[k.toNat]?.getD ([], [])).1.filter fun y => decide (y ∈ reachR srs g.2)) = [])
abbrev s__law_arrows : Stmt := topS 66
theorem sc__law_arrows : FnScope ["_law_rows_here", "_law_sets_here", "_law_groups_here", "_law_gives", "_law_word_here", "_law_taken", "_law_given", "_law_table", "_law_group", "_law_reached", "_law_step", "_law_k", "_law_w"] ["_law_rows_here"] (defScope s__law_arrows) := ⟨rfl, rfl, rfl, by decide +kernel, rfl, by decide +kernel, by decide +kernel⟩
def preLArrows : Pre := fun ps out err => ∃ prs srs, ps = [iz zRows (prs, srs)] ∧ srs.length ≤ 20 ∧ (∀ r ∈ srs, r.2.1.length ≤ 20 ∧ r.2.2.length ≤ 20) ∧ (srs.map (·.1)).Nodup ∧ out = (· = iz (zL (zL zI)) (arrowsR srs)) ∧ err = noErr
theorem ok_larrows {k : Nat} (B : Bl mg) (D__law_groups : Def P w K mg base CX0 k "_law_groups" ["_law_rows_here"] (spA preGroups)) (F : Src K mg "_law_arrows" s__law_arrows ["_law_rows_here"]) : Def P w K mg base CX0 (k + 1) "_law_arrows" ["_law_rows_here"] (spA preLArrows) := by
  refine F.okA sc__law_arrows (fun qs out err ⟨_, _, h, _⟩ => by rw [h]; rfl) (fun f cdv A outer s H E qs out err hr hpre => ?_)
  obtain ⟨prs, srs, rfl, ls, lr, hnd, rfl, rfl⟩ := hpre
  refine ⟨_, (pss_cons (ps_asg (pe_def D__law_groups hr pass0 (pa_cons (pv 0) pa_nil)) (pg_lst rfl (pgs_cons (pg_name (i := 1) sc__law_arrows.nd rfl (Or.inr rfl)) (pgs_cons (pg_name (i := 2) sc__law_arrows.nd rfl (Or.inl rfl)) pgs_nil))))
 (pss_cons (ps_asg pe_dnewK (pg_name (i := 3) sc__law_arrows.nd rfl (Or.inl rfl)))
 (pss_cons (ps_for PassesOwn.never rfl (kpi_list (K := K) (pe_ix (kix_tup (K := K)) (pv 0) pe_int (fun _ _ => rfl))) (pg_tup rfl (pgs_cons (pg_name (i := 4) sc__law_arrows.nd rfl (Or.inl rfl)) (pgs_cons (pg_name (i := 5) sc__law_arrows.nd rfl (Or.inl rfl)) (pgs_cons (pg_name (i := 6) sc__law_arrows.nd rfl (Or.inl rfl)) pgs_nil)))) (pss_one (ps_dput (hu_of hr) (pv 3) (pv 4) (pv 6) rfl)))
 (pss_cons (ps_asg (pe_lst pa_nil) (pg_name (i := 7) sc__law_arrows.nd rfl (Or.inl rfl)))
 (pss_cons (ps_for PassesOwn.never rfl (kpi_list (K := K) (pv 2)) (pg_name (i := 8) sc__law_arrows.nd rfl (Or.inl rfl)) (pss_cons (ps_asg (pe_lst pa_nil) (pg_name (i := 9) sc__law_arrows.nd rfl (Or.inr rfl)))
 (pss_cons (ps_for PassesOwn.never rfl (kpi_list (K := K) (pv 8)) (pg_name (i := 10) sc__law_arrows.nd rfl (Or.inl rfl)) (pss_one (ps_asg (pe_op op_cat (pv 9) (pe_dget (hu_of hr) (pv 3) (pv 10) (fun _ _ => rfl))) (pg_name (i := 9) sc__law_arrows.nd rfl (Or.inr rfl)))))
 (pss_one (ps_expr (pe_bm PySem.F.plainAttrs_list PySem.F.slot_list_append PySem.F.type_list_append mt_append (pv 7) (pa_cons (pe_lc (own := [("_law_k", 11)]) (g := gName 11) (by rfl) sc__law_arrows.nd (pi_range1 (by rfl) B.range (pa_cons (pe_callB (kcall_len (K := K)) (by rfl) B.len PySem.boot_len (pa_cons (pv 1) pa_nil)) pa_nil)) (blkOk_by (N := ["_law_rows_here", "_law_sets_here", "_law_groups_here", "_law_gives", "_law_word_here", "_law_taken", "_law_given", "_law_table", "_law_group", "_law_reached", "_law_step", "_law_k", "_law_w"]) (sc := defScope s__law_arrows) (by decide +kernel)) (fun _ _ _ _ _ => (pg_name (i := 11) sc__law_arrows.nd rfl (Or.inl rfl))) (fun _ _ _ _ _ => pts_one (pt_cmpR (kop_neD (K := K) hr.units) (pe_lc (own := [("_law_w", 12)]) (g := gName 12) (by rfl) sc__law_arrows.nd (kpi_list (K := K) (pe_ix (kix_list (K := K)) (pv 1) (pv 11) (fun _ _ => rfl))) (blkOk_by (N := ["_law_rows_here", "_law_sets_here", "_law_groups_here", "_law_gives", "_law_word_here", "_law_taken", "_law_given", "_law_table", "_law_group", "_law_reached", "_law_step", "_law_k", "_law_w"]) (sc := _) (by kernel_rfl)) (fun _ _ _ _ _ => (pg_name (i := 12) sc__law_arrows.nd rfl (Or.inl rfl))) (fun _ _ _ _ _ => pts_one (pt_cmpR (kop_in (K := K)) (pv 12) (pv 9) rfl)) (fun _ _ _ _ _ => (pv 12))) (pe_lst pa_nil) (nomark _))) (fun _ _ _ _ _ => (pv 11))) pa_nil)))))))
 (pss_one (ps_ret (pv 7)))))))), fun fr Q hret => ?_⟩
  bv_omega
  refine kn_asgT ?_
  ac_rfl
  refine sps_A ⟨prs, srs, rfl, ls, fun r hr => (lr r hr).1, rfl, rfl⟩ (fun p hp => ?_) (fun e he => he.elim)
  subst hp
  refine ⟨_, _, tgL2 (by decide) _ (fun _ _ _ _ h => h), ?_⟩
  subst_vars
  ac_rfl
  refine we_dnew (zL zS) fun dg => ?_
  subst_vars
  bv_omega
  refine kn_forS (S := List (Str × List Str)) (r := z3 zS (zL zS) (zL zS)) (xs := srs) (fun _ => [some (iz zRows (prs, srs)), some (iz (zL (zL zS)) ((groupsR srs).map (·.1))), some (iz (zL (zL zS)) ((groupsR srs).map (·.2))), some (zAt dg), none, none, none, none, none, none, none, none, none])
    (fun rows => [cD dg (zL zS) rows]) (fun i rows => rows = gvR (srs.take i)) [] ?_ ?_ rfl (fun x s => tg3 (by decide) (by decide) (by decide)) (fun fr' le i r rows hi hP => ?_) (fun rows hP => ?_)
  · ac_rfl
  · and_intros
  · subst_vars
    refine kn_dput ?_
    ac_rfl
    have hl : rows.length ≤ 20 := by rw [hP]; unfold gvR; rw [List.length_map, List.length_take]; omega
    refine ⟨_, _, rows, _, _, dg, 0, rfl, rfl, rfl, rfl, by omega, ?_⟩
    subst_vars
    refine kn_back (rows ++ [(r.1, r.2.2)]) ?_ ?_ ?_
    · and_intros
    · rw [hP, take_more hi]
      unfold gvR
      rw [List.map_append]
      rfl
    · rw [putR_new]
      rw [hP, gvR_names]
      intro q
      have e : srs.map (·.1) = (srs.take i).map (·.1) ++ r.1 :: (srs.drop (i + 1)).map (·.1) := by
        rw [← List.map_cons, ← List.map_append, ← drop_at hi, List.take_append_drop]
      rw [e, List.nodup_append] at hnd
      exact hnd.2.2 _ q _ (List.mem_cons_self ..) rfl
  · rw [List.take_length] at hP
    subst hP
    ac_rfl
    refine we_nil (zL zI) fun tb => ?_
    subst_vars
    bv_omega
    have lg : (groupsR srs).length ≤ 20 := Nat.le_trans (groupsR_len srs) ls
    refine kn_forS (S := List (List Int)) (r := zL zS) (xs := (groupsR srs).map (·.2)) (fun _ => [some (iz zRows (prs, srs)), some (iz (zL (zL zS)) ((groupsR srs).map (·.1))), some (iz (zL (zL zS)) ((groupsR srs).map (·.2))), some (zAt dg), none, none, none, some (zAt tb), none, none, none, none, none])
      (fun out => [cL tb (zL zI) out, cD dg (zL zS) (gvR srs)]) (fun i out => out = (arrowsR srs).take i) [] ?_ ?_ rfl (fun x s => tg_name) (fun fr' le i g out hi hP => ?_) (fun out hP => ?_)
    · ac_rfl
    · and_intros
    · obtain ⟨x, hx1, hx2⟩ : ∃ x, (groupsR srs)[i]? = some x ∧ x.2 = g := by
        rw [List.getElem?_map] at hi
        exact Option.map_eq_some_iff.mp hi
      have hgm : ∀ n ∈ g, ∃ r ∈ srs, r.1 = n ∧ getR (gvR srs) n = some r.2.2 := fun n hn => by
        rw [← hx2] at hn
        obtain ⟨r, hr, e⟩ := groupsR_mem srs x (List.mem_of_getElem? hx1) n hn
        exact ⟨r, hr, e, by rw [← e]; exact getR_nodup (by rw [gvR_names]; exact hnd) (List.mem_map.mpr ⟨r, hr, rfl⟩)⟩
      have lgg : g.length ≤ 20 := by rw [← hx2]; exact Nat.le_trans (groupsR_glen srs x (List.mem_of_getElem? hx1)) ls
      subst_vars
      bv_omega
      bv_omega
      refine we_nilF zS ?_
      subst_vars
      bv_omega
      refine kn_forS (S := List Str) (r := zS) (xs := g) (fun re => [some (iz zRows (prs, srs)), some (iz (zL (zL zS)) ((groupsR srs).map (·.1))), some (iz (zL (zL zS)) ((groupsR srs).map (·.2))), some (zAt dg), none, none, none, some (zAt tb), some (iz (zL zS) g), some (iz (zL zS) re), none, none, none])
        (fun _ => [cL tb (zL zI) out, cD dg (zL zS) (gvR srs)]) (fun j re => re = reachR srs (g.take j) ∧ re.length ≤ j * 20) [] ?_ ?_ ⟨rfl, by decide⟩ (fun x s => tg_name) (fun fr2 le2 j n re hj hR => ?_) (fun re hR => ?_)
      · ac_rfl
      · and_intros
      · obtain ⟨r, hr, e, hgr⟩ := hgm n (List.mem_of_getElem? hj)
        obtain ⟨hR1, hR2⟩ := hR
        have hl2 := (lr r hr).2
        have hjl : j < g.length := (List.getElem?_eq_some_iff.mp hj).1
        subst_vars
        ac_rfl
        refine ⟨_, _, _, _, _, dic_C (.tail _ (.head _)), rfl, hgr, ?_⟩
        refine ops_cat (by exact Nat.le_of_lt (small1000 (by omega))) ?_
        subst_vars
        refine kn_back (re ++ r.2.2) ?_ ⟨?_, ?_⟩ rfl
        · and_intros
        · rw [take_more hj, hR1]
          unfold reachR
          rw [List.flatMap_append, List.flatMap_cons, hgr, List.flatMap_nil, List.append_nil]
          rfl
        · rw [List.length_append, Nat.succ_mul]; omega
      · obtain ⟨hR1, hR2⟩ := hR
        rw [List.take_length] at hR1
        subst hR1
        subst_vars
        refine kn_append rfl (.head _) ?_
        refine we_lc (r := zI) (s := zI) (xs := intsF 0 (groupsR srs).length) (pr := fun k => !decide ((((groupsR srs)[k.toNat]?.getD ([], [])).1.filter fun y => decide (y ∈ reachR srs g)) = [])) (f := fun k => k) ?_ (by rw [intsF_len]; omega) (fun x => tg_name) (fun kk hkk c => ?_) (fun kk hkk hp c => ?_) ?_
        · ac_rfl
          rw [List.length_map]
          exact ⟨by omega, by omega, rfl, rfl⟩
        · obtain ⟨m, hm, rfl⟩ := mem_intsF hkk
          have hme : (groupsR srs)[m]? = some (groupsR srs)[m] := List.getElem?_eq_getElem hm
          generalize (groupsR srs)[m] = e at hme
          have lse : e.1.length ≤ 20 := by
            obtain ⟨r, hr, e2⟩ := groupsR_set srs e (List.mem_of_getElem? hme)
            rw [← e2]
            exact (lr r hr).1
          ac_rfl
          refine we_lc (r := zS) (s := zS) (xs := e.1) (pr := fun y => decide (y ∈ reachR srs g)) (f := fun y => y) ?_ (by omega) (fun x => tg_name) (fun y hy c2 => ?_) (fun y hy hp c2 => ?_) ?_
          · ac_rfl
            refine ops_ixL (x := e.1) (atI_nat (by rw [List.getElem?_map, hme]; rfl)) ?_
            ac_rfl
          · ac_rfl
          · ac_rfl
          · refine we_nilF zS ?_
            ac_rfl
            rw [List.map_id']
            refine ⟨?_, rfl⟩
            show _ = !decide ((((groupsR srs)[(m : Int).toNat]?.getD ([], [])).1.filter fun y => decide (y ∈ reachR srs g)) = [])
            rw [Int.toNat_natCast, hme]
            rfl
        · ac_rfl
        · have lo : out.length ≤ 20 := by
            rw [hP, List.length_take]
            unfold arrowsR
            rw [List.length_map]
            omega
          refine ⟨_, 0, rfl, rfl, by omega, ?_⟩
          subst_vars
          rw [List.map_id']
          refine kn_back (out ++ [_]) ?_ ?_ rfl
          · and_intros
          · have : (arrowsR srs)[i]? = some ((intsF 0 (groupsR srs).length).filter fun k => !decide ((((groupsR srs)[k.toNat]?.getD ([], [])).1.filter fun y => decide (y ∈ reachR srs g)) = [])) := by
              unfold arrowsR
              rw [List.getElem?_map, hx1, ← hx2]
              rfl
            rw [take_more this, hP]
    · ac_rfl
      refine rt_frz (j := 0) rfl (hret _ ?_ _)
      rw [hP, List.take_of_length_le]
      unfold arrowsR
      rw [List.length_map, List.length_map]
      exact Nat.le_refl _
end
section
variable {P : Program} {w : World} {K : PySem.W.Frag} {mg : Str → Option Value} {base : Heap}
def m_arrows (d : PlanD) : DM (List (List Int)) := fun Q _ => Q (arrowsD d)
theorem ints_len (n : Nat) (p : Int → Bool) : ((intsF 0 n).filter p).length ≤ n := by
  refine Nat.le_trans (List.length_filter_le _ _) ?_
  rw [intsF_len]
  exact Nat.le_refl _
theorem arrowsW {k : Nat} {cs : EK → Addr} {C : Addr} {ps : List Str} (D : Def P w K mg base CX0 k "arrows" ps (spA (preArrowsF C))) : Def P w K mg base CX0 k "arrows" ps (spA (preW (erW cs) (fun d : PlanD => [iz (zPlan C) d]) (yL (yL zI)) m_arrows)) := D.imp fun vs H Q E ⟨F, qs, out, err, fh, hps, ⟨d, Qm, X, e1, h, e2, e3⟩, post, pers⟩ => by
  subst e1 e2 e3
  have pk : PlanOk d := by
    cases hps with
    | cons h1 hp =>
      obtain ⟨x, _, _, h3⟩ := h1
      exact h3
  refine ⟨F, _, _, _, fh, hps, ⟨d, rfl, rfl, rfl⟩, fun p hp v F' H' hh ff fh' nw hv => ?_, fun e he => he.elim⟩
  subst hp
  refine post (iz (yL (yL zI)) (arrowsD d)) ⟨_, h, rfl⟩ v F' H' hh ff fh' nw ?_
  have s16 := pk.s16
  have hb : big = 100000 := rfl
  have lc := choiceT_len d.steps
  have l1 : (arrowsD d).length ≤ big := by
    unfold arrowsD
    rw [List.length_map]
    omega
  refine le_LL (r := zL zI) (s := yL zI) l1 (fun F v g hg q => ⟨q, ?_⟩) F' v hv
  obtain ⟨x, hx, e⟩ := List.mem_map.mp hg
  rw [← e]
  have := ints_len (choiceT d.steps).length fun k => ((choiceT d.steps)[k.toNat]?.getD ([], [])).1.any fun z => decide (z ∈ x.2.flatMap fun n => (getR d.gv n).getD [])
  omega
def m_lgroups (x : List (Str × Int) × List SRow) : DM (List (List Str) × List (List Str)) := fun Q _ => (x.2.length ≤ 20 ∧ ∀ r ∈ x.2, r.1.length ≤ 20 ∧ r.2.1.length ≤ 20 ∧ ∀ y ∈ r.2.1, y.length ≤ 20) ∧ Q ((groupsR x.2).map (·.1), (groupsR x.2).map (·.2))
def m_larrows (x : List (Str × Int) × List SRow) : DM (List (List Int)) := fun Q _ => (x.2.length ≤ 20 ∧ (∀ r ∈ x.2, r.2.1.length ≤ 20 ∧ r.2.2.length ≤ 20) ∧ (x.2.map (·.1)).Nodup) ∧ Q (arrowsR x.2)
theorem le_rows {x : List (Str × Int) × List SRow} : (iz yRows x).Le (iz zRows x) := fun F v ⟨a, u, w, h1, h2, h3, h4⟩ => ⟨a, u, w, h1, h2, le_PR F u h3, le_SR F w h4⟩
theorem lgroupsW {k : Nat} {cs : EK → Addr} {x : Str} {ps : List Str} (D : Def P w K mg base CX0 k x ps (spA preGroups)) : Def P w K mg base CX0 k x ps (spA (preW (erW cs) (fun d : List (Str × Int) × List SRow => [iz yRows d]) (zLp (yL (yL yS)) (yL (yL yS))) m_lgroups)) := D.imp fun vs H Q E ⟨F, qs, out, err, fh, hps, ⟨d, Qm, X, e1, h, e2, e3⟩, post, pers⟩ => by
  subst e1 e2 e3
  obtain ⟨⟨ls, lr⟩, h⟩ := h
  have hb : big = 100000 := rfl
  refine ⟨F, [iz zRows d], _, _, fh, (by
    cases hps with
    | cons h1 hp =>
      cases hp with
      | nil => exact .cons (le_rows _ _ h1) .nil), ⟨d.1, d.2, rfl, ls, fun r hr => (lr r hr).2.1, rfl, rfl⟩, fun p hp v F' H' hh ff fh' nw hv => ?_, fun e he => he.elim⟩
  subst hp
  refine post (iz (zLp (yL (yL yS)) (yL (yL yS))) ((groupsR d.2).map (·.1), (groupsR d.2).map (·.2))) ⟨_, h, rfl⟩ v F' H' hh ff fh' nw ?_
  obtain ⟨a, vs, h1, h2, h3⟩ := hv
  cases h3 with
  | cons p1 h3 =>
    cases h3 with
    | cons p2 h3 =>
      cases h3 with
      | nil =>
        have gl := groupsR_len d.2
        refine ⟨a, _, _, h1, h2, ?_, ?_⟩
        · refine le_LL (r := zL zS) (s := yL yS) (by rw [List.length_map]; omega) (fun F v g hg q => ?_) F' _ p1
          obtain ⟨x, hx, rfl⟩ := List.mem_map.mp hg
          obtain ⟨r, hr, e⟩ := groupsR_set d.2 x hx
          obtain ⟨_, l1, l2⟩ := lr r hr
          refine le_LL (r := zS) (s := yS) (by rw [← e]; omega) (fun F v y hy q => ⟨q, ?_⟩) F v q
          rw [← e] at hy
          have := l2 y hy
          omega
        · refine le_LL (r := zL zS) (s := yL yS) (by rw [List.length_map]; omega) (fun F v g hg q => ?_) F' _ p2
          obtain ⟨x, hx, rfl⟩ := List.mem_map.mp hg
          have gg := groupsR_glen d.2 x hx
          refine le_LL (r := zS) (s := yS) (by omega) (fun F v y hy q => ⟨q, ?_⟩) F v q
          obtain ⟨r, hr, e⟩ := groupsR_mem d.2 x hx y hy
          have := (lr r hr).1
          rw [← e]
          omega
theorem larrowsW {k : Nat} {cs : EK → Addr} {x : Str} {ps : List Str} (D : Def P w K mg base CX0 k x ps (spA preLArrows)) : Def P w K mg base CX0 k x ps (spA (preW (erW cs) (fun d : List (Str × Int) × List SRow => [iz yRows d]) (yL (yL zI)) m_larrows)) := D.imp fun vs H Q E ⟨F, qs, out, err, fh, hps, ⟨d, Qm, X, e1, h, e2, e3⟩, post, pers⟩ => by
  subst e1 e2 e3
  obtain ⟨⟨ls, lr, nd⟩, h⟩ := h
  have hb : big = 100000 := rfl
  refine ⟨F, [iz zRows d], _, _, fh, (by
    cases hps with
    | cons h1 hp =>
      cases hp with
      | nil => exact .cons (le_rows _ _ h1) .nil), ⟨d.1, d.2, rfl, ls, lr, nd, rfl, rfl⟩, fun p hp v F' H' hh ff fh' nw hv => ?_, fun e he => he.elim⟩
  subst hp
  refine post (iz (yL (yL zI)) (arrowsR d.2)) ⟨_, h, rfl⟩ v F' H' hh ff fh' nw ?_
  have gl := groupsR_len d.2
  refine le_LL (r := zL zI) (s := yL zI) (by unfold arrowsR; rw [List.length_map]; omega) (fun F v g hg q => ⟨q, ?_⟩) F' v hv
  obtain ⟨x, hx, e⟩ := List.mem_map.mp hg
  rw [← e]
  have := ints_len (groupsR d.2).length fun k => !decide ((((groupsR d.2)[k.toNat]?.getD ([], [])).1.filter fun y => decide (y ∈ reachR d.2 x.2)) = [])
  omega
end
section
variable {P : Program} {w : World} {K : PySem.W.Frag} {mg : Str → Option Value} {base : Heap}
abbrev JF := PlanD → PyData → DM Bool
abbrev spJ (cs : EK → Addr) (C : Addr) (m : JF) : Sp := spA (preW (erW cs) (fun x : PlanD × PyData => [iz (zPlan C) x.1, iz yP x.2]) zB (fun x => m x.1 x.2))
structure JTab (P : Program) (w : World) (K : PySem.W.Frag) (mg : Str → Option Value) (base : Heap) (k : Nat) (a : Addr) (cs : EK → Addr) (C : Addr) (J : Str → Option (Option JF)) : Prop where
  no : ∀ z, J z = some none → KDat K w a z none
  yes : ∀ z m, J z = some (some m) → ∃ f, KDat K w a z (some (.ref f)) ∧ Held P w K mg base k f (spJ cs C m)
  one : ∀ z z' m m' f, J z = some (some m) → J z' = some (some m') → KDat K w a z (some (.ref f)) → KDat K w a z' (some (.ref f)) → m = m'
def m_judge_plan (J : Str → Option (Option JF)) (d : PlanD) (p : PyData) : DM Bool := fun Q _ =>
  (pit p = [] → Q false) ∧ ∀ y ys, pit p = y :: ys → ∃ z, y = .str z ∧ ((J z = some none ∧ Q false) ∨ ∃ m, J z = some (some m) ∧ m d p Q noX)
open Classical in
noncomputable def jmap (K : PySem.W.Frag) (w : World) (a : Addr) (cs : EK → Addr) (C : Addr) (J : Str → Option (Option JF)) (f : Addr) : Option Sp :=
  if h : ∃ m z, J z = some (some m) ∧ KDat K w a z (some (.ref f)) then some (spJ cs C (Classical.choose h)) else none
theorem held_of {k : Nat} {x : Str} {ps : List Str} {sp : Sp} {f : Addr} (D : Def P w K mg base CX0 k x ps sp) (h : mg x = some (.ref f)) : Held P w K mg base k f sp := by
  obtain ⟨f', fd, _, h1, h2, h3, h4⟩ := D.ex
  rw [h] at h1
  cases h1
  exact ⟨fd, ps, h4, h2, h3⟩
theorem kdat_one {a : Addr} {z : Str} {o o' : Option Value} (h : KDat K w a z o) (h' : KDat K w a z o') : o = o' := by
  obtain ⟨_, _, _, _, _, h1⟩ := h
  obtain ⟨_, _, _, _, _, h2⟩ := h'
  rw [h1] at h2
  exact Option.some.inj h2
abbrev s_judge_plan : Stmt := topS 44
theorem sc_judge_plan : FnScope ["plan", "paper", "judge"] ["plan", "paper"] (defScope s_judge_plan) := ⟨rfl, rfl, rfl, by decide +kernel, rfl, by decide +kernel, by decide +kernel⟩
theorem ok_judge_plan {k : Nat} {cs : EK → Addr} {C a : Addr} {J : Str → Option (Option JF)} (B : Bl mg) (g_PLAN_JUDGES : Glo mg "PLAN_JUDGES" (.ref a)) (T : JTab P w K mg base k a cs C J)
    (F : Src K mg "judge_plan" s_judge_plan ["plan", "paper"]) : Def P w K mg base CX0 (k + 1) "judge_plan" ["plan", "paper"] (spJ cs C (m_judge_plan J)) := by
  have A_judge : ∀ f sp, jmap K w a cs C J f = some sp → Held P w K mg base k f sp := fun f sp h => by
    unfold jmap at h
    split at h
    · rename_i hx
      cases h
      obtain ⟨z, h1, h2⟩ := Classical.choose_spec hx
      obtain ⟨f', h3, h4⟩ := T.yes z _ h1
      obtain ⟨es, n, a1, _, _, a2⟩ := h2
      obtain ⟨es', n', _, _, _, a3⟩ := h3
      rw [a2] at a3
      cases a3
      exact h4
    · cases h
  refine F.okW sc_judge_plan (fun _ => rfl) (fun f cdv A outer s H E x Q X hr h => ⟨_, (pss_cons (ps_if (PW.pt (pw_or (pt_cmpR op_eq (pe_callB (kcall_len (K := K)) (by rfl) B.len PySem.boot_len (pa_cons (pv 1) pa_nil)) pe_int (nomark _)) (pw_or1 (pt_cmpR (kop_notinKD (Kf := K) (w := w)) (pe_ix (kix_tup (K := K)) (pv 1) pe_int (fun _ _ => rfl)) (pe_glo g_PLAN_JUDGES) rfl)))) (pss_one (ps_ret pe_bl)) pss_nil)
 (pss_cons (ps_asg (pe_ix (kix_kdict (Kf := K) (w := w)) (pe_glo g_PLAN_JUDGES) (pe_ix (kix_tup (K := K)) (pv 1) pe_int (fun _ _ => rfl)) (fun _ _ => rfl)) (pg_name (i := 2) sc_judge_plan.nd rfl (Or.inl rfl)))
 (pss_one (ps_ret (pe_callA A_judge hr (i := 2) rfl (Or.inl rfl) (pa_cons (pv 0) (pa_cons (pv 1) pa_nil))))))), fun fr Qv hret => ?_⟩)
  obtain ⟨d, p⟩ := x
  obtain ⟨h1, h2⟩ := h
  cases hp : pit p with
  | nil =>
    have h1 := h1 hp
    refine kn_seq (kn_if (wt_orC (wt_test (we_op (we_cb (wa_cons (we_var rfl (wa_nil (cy_len sp_P (fun e1 => we_cI (ops_eqI ⟨_, rfl, ?_⟩)))))))))))
    have e0 : decide (((pit (d, p).2).length : Int) = 0) = true := by rw [show pit (d, p).2 = [] from hp]; rfl
    rw [e0]
    refine ⟨(fun h => nomatch h), fun _ => ⟨fun _ => ?_, (fun h => nomatch h)⟩⟩
    exact kn_ret (we_cB (hret _ h1 _))
  | cons y ys =>
    obtain ⟨z, e, h2⟩ := h2 y ys hp
    have ix : atI (pit (d, p).2) 0 = some y := by rw [show pit (d, p).2 = y :: ys from hp]; exact atI_nat (j := 0) rfl
    refine kn_seq (kn_if (wt_orC (wt_test (we_op (we_cb (wa_cons (we_var rfl (wa_nil (cy_len sp_P (fun e1 => we_cI (ops_eqI ⟨_, rfl, ?_⟩)))))))))))
    have e0 : decide (((pit (d, p).2).length : Int) = 0) = false := by
      rw [show pit (d, p).2 = y :: ys from hp]
      exact decide_eq_false (by rw [List.length_cons]; omega)
    rw [e0]
    refine ⟨fun _ => ?_, (fun h => nomatch h)⟩
    rcases h2 with ⟨hJ, hq⟩ | ⟨m, hJ, hm⟩
    · refine wt_test (we_op (We.conv (we_op (we_var rfl (we_cI (oy_ixP ix ⟨_, le_XS e, ?_⟩))))))
      refine we_cR ((ops_notinKD (T.no z hJ) ⟨_, rfl, ?_⟩).le le_zS (Vp.Le.refl _))
      refine ⟨fun _ => ?_, (fun h => nomatch h)⟩
      exact kn_ret (we_cB (hret _ hq _))
    · obtain ⟨f, hk, hh⟩ := T.yes z m hJ
      refine wt_test (we_op (We.conv (we_op (we_var rfl (we_cI (oy_ixP ix ⟨_, le_XS e, ?_⟩))))))
      refine we_cR ((ops_notinKD hk ⟨_, rfl, ?_⟩).le le_zS (Vp.Le.refl _))
      refine ⟨(fun h => nomatch h), fun _ => ?_⟩
      refine kn_next ?_
      try dsimp only
      refine kn_seq (kn_asg (we_op (we_cR (We.conv (we_op (we_var rfl (we_cI (oy_ixP ix ⟨_, le_XS e, ?_⟩))))))))
      refine (ops_ixKD hk ?_).le (Vp.Le.refl _) le_zS
      have hS : jmap K w a cs C J f = some (spJ cs C m) := by
        unfold jmap
        have hx : ∃ m z, J z = some (some m) ∧ KDat K w a z (some (.ref f)) := ⟨m, z, hJ, hk⟩
        rw [dif_pos hx]
        obtain ⟨z', h3, h4⟩ := Classical.choose_spec hx
        rw [T.one z' z _ m f h3 hJ h4 hk]
      refine kn_ret (we_callA rfl hS (wa_cons (we_var rfl (wa_cons (we_var rfl (wa_nil ?_))))))
      exact sps_W0 (d, p) hm fun v hv => hret _ hv _
end
section
variable {P : Program} {w : World} {K : PySem.W.Frag} {mg : Str → Option Value} {base : Heap}
/-- the judges that a law asks, the words that are no kind -/
def JL (js : List (Str × JF)) (nos : List Str) (z : Str) : Option (Option JF) := match js.find? (fun e => decide (e.1 = z)) with
  | some e => some (some e.2)
  | none => if z ∈ nos then some none else none
theorem JL_some {js : List (Str × JF)} {nos : List Str} {z : Str} {m : JF} (h : JL js nos z = some (some m)) : (z, m) ∈ js := by
  unfold JL at h
  split at h
  · rename_i e he
    have h1 := List.find?_some he
    have h2 := List.mem_of_find?_eq_some he
    have h3 := of_decide_eq_true h1
    cases h
    subst h3
    exact h2
  · split at h <;> cases h
theorem JL_none {js : List (Str × JF)} {nos : List Str} {z : Str} (h : JL js nos z = some none) : z ∈ nos := by
  unfold JL at h
  split at h
  · cases h
  · split at h
    · rename_i e
      exact e
    · cases h
theorem paired_of {α β : Type} {R : α → β → Prop} {l : List α} {m : List β} (h : Paired R l m) {x : α} (hx : x ∈ l) : ∃ (i : Nat) (y : β), l[i]? = some x ∧ m[i]? = some y ∧ R x y := by
  obtain ⟨i, hi⟩ := List.getElem?_of_mem hx
  obtain ⟨y, h1, h2⟩ := Paired.get h hi
  exact ⟨i, y, hi, h1, h2⟩
theorem jtabL {k : Nat} {cs : EK → Addr} {C a : Addr} {es : Array DictEntry} {n : Nat} (hl : K.lookup a = some ⟨.type "dict", none, .dict es n, #[]⟩) (hk : PySem.W.KeysLit w.params es.toList) (hs : (a == sysModules) = false)
    {js : List (Str × JF)} {nos : List Str} {fs : List Addr} (nd : fs.Nodup) (hj : Paired (fun (j : Str × JF) (f : Addr) => PySem.W.nsIn K a j.1 = some (some (.ref f)) ∧ Held P w K mg base k f (spJ cs C j.2)) js fs)
    (hn : ∀ z ∈ nos, PySem.W.nsIn K a z = some none) : JTab P w K mg base k a cs C (JL js nos) := by
  have kd : ∀ {z : Str} {o : Option Value}, PySem.W.nsIn K a z = some o → KDat K w a z o := fun h => ⟨es, n, hl, hk, hs, h⟩
  refine ⟨fun z h => kd (hn z (JL_none h)), fun z m h => ?_, fun z z' m m' f h h' q q' => ?_⟩
  · obtain ⟨i, f, _, _, h1, h2⟩ := paired_of hj (JL_some h)
    exact ⟨f, kd h1, h2⟩
  · obtain ⟨i, f1, e1, e2, h1, _⟩ := paired_of hj (JL_some h)
    obtain ⟨i', f2, e1', e2', h2, _⟩ := paired_of hj (JL_some h')
    have a1 := kdat_one q (kd h1)
    have a2 := kdat_one q' (kd h2)
    cases a1
    cases a2
    have hlt := (List.getElem?_eq_some_iff.mp e2).1
    have hi : i = i' := (List.getElem?_inj hlt nd).mp (e2.trans e2'.symm)
    subst hi
    rw [e1] at e1'
    cases e1'
    rfl
end
section
variable {P : Program} {w : World} {K : PySem.W.Frag} {mg : Str → Option Value} {base : Heap}
abbrev s_Plan___contains__ : Stmt := inClass (topS 50) 10
theorem sc_Plan___contains__ : FnScope ["self", "step"] ["self", "step"] (defScope s_Plan___contains__) := ⟨rfl, rfl, rfl, by decide +kernel, rfl, by decide +kernel, by decide +kernel⟩
def m_Plan___contains__ (p_self : PlanD) (p_step : Str) : DM Bool := fun Q X =>
  Q ((getR p_self.tk p_step).isSome)
theorem ok_Plan___contains__ {k : Nat} {cs : EK → Addr} {C : Addr} (B : Bl mg) (T_Plan : PlanC K mg C)
    (F : SrcM K C "__contains__" "Plan.__contains__" s_Plan___contains__ ["self", "step"]) : DefM P w K mg base CX0 (k + 1) C "__contains__" ["self", "step"] (spA (preW (erW cs) (fun x : PlanD × Str => [iz (zPlan C) x.1, iz yS x.2]) zB (fun x => m_Plan___contains__ x.1 x.2))) := by
  refine F.okW sc_Plan___contains__ (fun _ => rfl) (fun f cdv A outer s H E x Q X hr h => ⟨_, (pss_one (ps_ret (pe_cmp (pc_din (hu_of hr) (pv 1) (kpe_fld (K := K) (pv 0))) rfl))), fun fr Qv hret => ?_⟩)
  obtain ⟨p_self, p_step⟩ := x
  replace h : m_Plan___contains__ p_self p_step Q X := h
  unfold m_Plan___contains__ at h
  refine kn_ret (wy_din (we_var rfl (we_fld (we_var rfl (⟨_, fy_taken T_Plan, ⟨_, _, _, _, dy_D, rfl, ?_⟩⟩)))))
  exact hret _ h _
abbrev s_judge_apart : Stmt := topS 39
theorem sc_judge_apart : FnScope ["plan", "paper", "inside", "step", "other", "led", "place"] ["plan", "paper"] (defScope s_judge_apart) := ⟨rfl, rfl, rfl, by decide +kernel, rfl, by decide +kernel, by decide +kernel⟩
def m_judge_apart (p_plan : PlanD) (p_paper : PyData) : DM Bool := fun Q X =>
  ifD (!decide (((pit p_paper).length : Int) = (2 : Int))) (
  Q false) (
  ∃ v5, atI (pit p_paper) (1 : Int) = some v5 ∧
  ∃ zv6 : (List Str), (v5 = .list (zv6.map (XDat.enc (r := yS))) ∨ v5 = .tuple (zv6.map (XDat.enc (r := yS)))) ∧
  forD zv6 ([]) (fun x4 s3 nx bk =>
  m_Plan___contains__ p_plan x4 (fun v8 =>
  ifD ((!v8) || (decide (x4 ∈ s3))) (
  Q false) (
  (s3).length < big ∧
  nx (s3 ++ [x4]))) noX) (fun s3 =>
  ifD ((decide (((s3).length : Int) = (0 : Int))) || (decide (((s3).length : Int) = ((p_plan.names).length : Int)))) (
  Q false) (
  forD s3 () (fun x15 s14 nx bk =>
  forD p_plan.names () (fun x18 s17 nx bk =>
  m_Plan_takes p_plan x18 (fun v20 =>
  m_Plan_takes p_plan x15 (fun v21 =>
  ∀ led22, led22 = (decide (v20 = v21)) →
  orD led22 (fun k24 => m_Plan_gives p_plan x15 (fun v28 =>
  mapD v28 [] (fun x25 k26 =>
  m_Plan_takes p_plan x18 (fun v31 =>
  k26 (decide (x25 ∈ v31))) noX) (fun ys27 =>
  k24 ((ys27).any id))) noX) (fun c23 =>
  ifD (c23 && (!decide (x18 ∈ s3))) (
  Q false) (
  nx ()))) noX) noX) (fun s17 =>
  nx ())) (fun s14 =>
  Q true))))
theorem ok_judge_apart {k : Nat} {cs : EK → Addr} {C : Addr} (B : Bl mg) (T_Plan : PlanC K mg C) (DM_Plan___contains__ : DefM P w K mg base CX0 k C "__contains__" ["self", "step"] (spA (preW (erW cs) (fun x : PlanD × Str => [iz (zPlan C) x.1, iz yS x.2]) zB (fun x => m_Plan___contains__ x.1 x.2)))) (DM_Plan_takes : DefM P w K mg base (L2.CX P w) k C "takes" ["self", "step"] (spA (preW (erW cs) (fun x : PlanD × Str => [iz (zPlan C) x.1, iz yS x.2]) (yT yS) (fun x => m_Plan_takes x.1 x.2)))) (DM_Plan_gives : DefM P w K mg base (L2.CX P w) k C "gives" ["self", "step"] (spA (preW (erW cs) (fun x : PlanD × Str => [iz (zPlan C) x.1, iz yS x.2]) (yT yS) (fun x => m_Plan_gives x.1 x.2))))
    (F : Src K mg "judge_apart" s_judge_apart ["plan", "paper"]) : Def P w K mg base CX0 (k + 1) "judge_apart" ["plan", "paper"] (spA (preW (erW cs) (fun x : PlanD × PyData => [iz (zPlan C) x.1, iz yP x.2]) zB (fun x => m_judge_apart x.1 x.2))) := by
  refine F.okW sc_judge_apart (fun _ => rfl) (fun f cdv A outer s H E x Q X hr h => ⟨_, (pss_cons (ps_if (pt_cmpR op_ne (pe_callB (kcall_len (K := K)) (by rfl) B.len PySem.boot_len (pa_cons (pv 1) pa_nil)) pe_int (nomark _)) (pss_one (ps_ret pe_bl)) pss_nil)
 (pss_cons (ps_asg (pe_lst pa_nil) (pg_name (i := 2) sc_judge_apart.nd rfl (Or.inl rfl)))
 (pss_cons (ps_for PassesOwn.never rfl (kpi_any (K := K) (pe_ix (kix_tup (K := K)) (pv 1) pe_int (fun _ _ => rfl))) (pg_name (i := 3) sc_judge_apart.nd rfl (Or.inl rfl)) (pss_cons (ps_if (PW.pt (pw_or (pt_cmp (pc_notinO DM_Plan___contains__ hr passAt0 (pv 3) (pv 0))) (pw_or1 (pt_cmpR (kop_in (K := K)) (pv 3) (pv 2) rfl)))) (pss_one (ps_ret pe_bl)) pss_nil)
 (pss_one (ps_expr (pe_bm PySem.F.plainAttrs_list PySem.F.slot_list_append PySem.F.type_list_append mt_append (pv 2) (pa_cons (pv 3) pa_nil))))))
 (pss_cons (ps_if (PW.pt (pw_or (pt_cmpR op_eq (pe_callB (kcall_len (K := K)) (by rfl) B.len PySem.boot_len (pa_cons (pv 2) pa_nil)) pe_int (nomark _)) (pw_or1 (pt_cmpR op_eq (pe_callB (kcall_len (K := K)) (by rfl) B.len PySem.boot_len (pa_cons (pv 2) pa_nil)) (pe_callB (kcall_len (K := K)) (by rfl) B.len PySem.boot_len (pa_cons (kpe_fld (K := K) (pv 0)) pa_nil)) (nomark _))))) (pss_one (ps_ret pe_bl)) pss_nil)
 (pss_cons (ps_for PassesOwn.never rfl (kpi_list (K := K) (pv 2)) (pg_name (i := 3) sc_judge_apart.nd rfl (Or.inl rfl)) (pss_one (ps_for PassesOwn.never rfl (kpi_tup (K := K) (kpe_fld (K := K) (pv 0))) (pg_name (i := 4) sc_judge_apart.nd rfl (Or.inr rfl)) (pss_cons (ps_asg (pe_cmpR (kop_eqD (K := K) hr.units) (pe_metD DM_Plan_takes T_Plan.cl hr (fun σ => Passes.at passL σ) (pv 0) (pa_cons (pv 4) pa_nil)) (pe_metD DM_Plan_takes T_Plan.cl hr (fun σ => Passes.at passL σ) (pv 0) (pa_cons (pv 3) pa_nil)) (nomark _)) (pg_name (i := 5) sc_judge_apart.nd rfl (Or.inl rfl)))
 (pss_cons (ps_asg (pe_or (pv 5) (pe_one (pe_callB (kcr_any (K := K) rfl) (by rfl) B.any' (by decide +kernel) (pa_cons (pe_lc (own := [("place", 6)]) (g := gName 6) (by rfl) sc_judge_apart.nd (kpi_tup (K := K) (pe_metD DM_Plan_gives T_Plan.cl hr (fun σ => Passes.at passL σ) (pv 0) (pa_cons (pv 3) pa_nil))) (blkOk_by (N := ["plan", "paper", "inside", "step", "other", "led", "place"]) (sc := defScope s_judge_apart) (by decide +kernel)) (fun _ _ _ _ _ => (pg_name (i := 6) sc_judge_apart.nd rfl (Or.inl rfl))) (fun _ _ _ _ _ => pts_nil) (fun _ _ _ _ _ => (pe_cmpR (kop_in (K := K)) (pv 6) (pe_metD DM_Plan_takes T_Plan.cl hr (fun σ => Passes.at passL σ) (pv 0) (pa_cons (pv 4) pa_nil)) rfl))) pa_nil)))) (pg_name (i := 5) sc_judge_apart.nd rfl (Or.inl rfl)))
 (pss_one (ps_if (PW.pt (pw_and (pt_val (pv 5)) (pw_and1 (pt_cmpR (kop_notIn (K := K)) (pv 4) (pv 2) rfl)))) (pss_one (ps_ret pe_bl)) pss_nil)))))))
 (pss_one (ps_ret pe_bl))))))), fun fr Qv hret => ?_⟩)
  obtain ⟨p_plan, p_paper⟩ := x
  replace h : m_judge_apart p_plan p_paper Q X := h
  unfold m_judge_apart at h
  refine kn_seq (kn_if (wt_test (we_op (we_cb (wa_cons (we_var rfl (wa_nil (cy_len sp_P (fun e1 => (we_cI (ops_neI (⟨_, rfl, ⟨fun hc => ?_, fun hc => ?_⟩⟩))))))))))))
  · have h := h.1 hc
    refine kn_ret (we_cB ?_)
    exact hret _ h _
  · have h := h.2 hc
    refine kn_next ?_
    try dsimp only
    refine kn_seq (kn_asg (i := 2) (we_ownY yS (wa_nil (⟨[], rfl, Nat.le_of_ble_eq_true rfl, fun a2 => ?_⟩))))
    refine kn_nrm (Γ' := [some (iz (zPlan C) p_plan), some (iz yP p_paper), some (zAt a2), none, none, none, none]) rfl ?_
    try dsimp only
    refine kn_seq (kn_forW (r := yS) (S := (List Str)) (fun s3 => [some (iz (zPlan C) p_plan), some (iz yP p_paper), some (zAt a2), none, none, none, none]) (fun s3 => [cY a2 yS s3]) ([]) (wi_yQ (We.conv (we_op (we_var rfl (we_cI ?_))))))
    obtain ⟨v5, ev5, h⟩ := h
    refine oy_ixP ev5 ?_
    obtain ⟨zv6, ezv6, h⟩ := h
    refine ⟨_, le_XQ (r := yS) ezv6, ⟨_, _, _, rfl, fun e7 => ⟨_, _, _, _, _, rfl, rfl, (by and_intros), fun _ _ => tg_name, h, fun fr' le x4 s3 nx M hnx hbk h => ?_, fun s3 h => ?_⟩⟩⟩
    · have hret := hret.fine le
      refine kn_seq (kn_if (wt_orP (wt_test (we_notinO (we_var rfl (we_var rfl (⟨InsP.c (ins_plan (m := "__contains__") rfl), ?_⟩)))))))
      refine sps_W0 (p_plan, x4) h (fun v8 h => ?_)
      refine ⟨_, rfl, ⟨_, rfl, ⟨_, fun _ => wt_test (we_op (we_var rfl (we_var rfl (oy_inS (sy_C (j := 0) rfl) (⟨_, rfl, ⟨rfl, rfl⟩⟩))))), ⟨fun hc => ?_, fun hc => ?_⟩⟩⟩⟩
      · have h := h.1 hc
        refine kn_ret (we_cB ?_)
        exact hret _ h _
      · have h := h.2 hc
        refine kn_next ?_
        try dsimp only
        refine kn_appY (i := 2) (j := 0) rfl rfl (we_var rfl ?_)
        obtain ⟨g9, h⟩ := h
        refine ⟨_, rfl, rfl, g9, ?_⟩
        exact hnx (s3 ++ [x4]) _ _ h (by and_intros) rfl
    try dsimp only
    refine kn_seq (kn_if (wt_orP (wt_test (we_op (we_cb (wa_cons (we_var rfl (wa_nil (cy_len (sy_C (j := 0) rfl) (fun e13 => (we_cI (ops_eqI (⟨_, rfl, ⟨_, fun _ => wt_test (we_op (we_cb (wa_cons (we_var rfl (wa_nil (cy_len (sy_C (j := 0) rfl) (fun e11 => (we_cb (wa_cons (we_fld (we_var rfl (⟨_, fy_steps T_Plan, wa_nil (cy_len sy_T (fun e12 => (ops_eqI (⟨_, rfl, ⟨rfl, rfl⟩⟩))))⟩)))))))))))), ⟨fun hc => ?_, fun hc => ?_⟩⟩⟩)))))))))))))
    · have h := h.1 hc
      refine kn_ret (we_cB ?_)
      exact hret _ h _
    · have h := h.2 hc
      refine kn_next ?_
      try dsimp only
      refine kn_frzY (i := 2) (j := 0) rfl rfl ?_
      refine kn_seq (kn_forW (r := yS) (S := Unit) (fun s14 => [some (iz (zPlan C) p_plan), some (iz yP p_paper), some (iz (yL yS) s3), none, none, none, none]) (fun s14 => []) () (wi_yL (we_var rfl (⟨_, _, _, rfl, fun e16 => ⟨_, _, _, _, _, rfl, rfl, (by and_intros), fun _ _ => tg_name, h, fun fr' le x15 s14 nx M hnx hbk h => ?_, fun s14 h => ?_⟩⟩))))
      · have hret := hret.fine le
        refine kn_forW (r := yS) (S := Unit) (fun s17 => [some (iz (zPlan C) p_plan), some (iz yP p_paper), some (iz (yL yS) s3), some (iz yS x15), none, none, none]) (fun s17 => []) () (wi_yT (we_fld (we_var rfl (⟨_, fy_steps T_Plan, ⟨_, _, _, _, rfl, fun e19 => ⟨_, _, _, _, _, rfl, rfl, (by and_intros), fun _ _ => tg_name, h, fun fr' le x18 s17 nx M hnx hbk h => ?_, fun s17 h => ?_⟩⟩⟩))))
        · have hret := hret.fine le
          refine kn_seq (kn_asgL (i := 5) (r := zB) (we_op (we_met (we_var rfl (⟨ins_plan rfl, wa_cons (we_var rfl (wa_nil ?_))⟩)))))
          refine sps_W0 (p_plan, x18) h (fun v20 h => ?_)
          refine we_met (we_var rfl (⟨ins_plan rfl, wa_cons (we_var rfl (wa_nil ?_))⟩))
          refine sps_W0 (p_plan, x15) h (fun v21 h => ?_)
          refine ops_eqD (r := (yT yS)) (by decide) (⟨_, rfl, fun led22 eled22 => ?_⟩)
          have h := h led22 eled22
          refine kn_nrm (Γ' := [some (iz (zPlan C) p_plan), some (iz yP p_paper), some (iz (yL yS) s3), some (iz yS x15), some (iz yS x18), some (iz zB led22), none]) rfl ?_
          try dsimp only
          refine kn_seq (kn_asg (i := 5) (we_orC (we_var rfl ?_)))
          refine orKv h (fun h => ?_) (fun c23 h => ?_)
          · refine we_cb (wa_cons (we_lcM (r := yS) (s := zB) (wi_yT (we_met (we_var rfl (⟨ins_plan rfl, wa_cons (we_var rfl (wa_nil ?_))⟩))))))
            refine sps_W0 (p_plan, x15) h (fun v28 h => ?_)
            refine ⟨_, _, _, _, rfl, fun e29 => ⟨_, _, _, _, rfl, rfl, e29, fun _ => tg_name, h, fun x25 c k26 h => ?_, fun ys27 h eys27 => ?_⟩⟩
            · refine we_op (we_var rfl (we_met (we_var rfl (⟨ins_plan rfl, wa_cons (we_var rfl (wa_nil ?_))⟩))))
              refine sps_W0 (p_plan, x18) h (fun v31 h => ?_)
              refine oy_inS sy_T ?_
              exact ⟨rfl, _, rfl, h⟩
            refine wa_nil (cy_any ?_)
            exact ⟨rfl, _, rfl, h⟩
          refine kn_nrm (Γ' := [some (iz (zPlan C) p_plan), some (iz yP p_paper), some (iz (yL yS) s3), some (iz yS x15), some (iz yS x18), some (iz zB c23), none]) rfl ?_
          try dsimp only
          refine kn_if (wt_andP (wt_b (we_var rfl (⟨_, rfl, ⟨_, fun _ => wt_test (we_op (we_var rfl (we_var rfl (oy_ninS sy_L (⟨_, rfl, ⟨rfl, rfl⟩⟩))))), ⟨fun hc => ?_, fun hc => ?_⟩⟩⟩))))
          · have h := h.1 hc
            refine kn_ret (we_cB ?_)
            exact hret _ h _
          · have h := h.2 hc
            refine kn_next ?_
            exact hnx () _ _ h (by and_intros) rfl
        exact hnx () _ _ h (by and_intros) rfl
      try dsimp only
      refine kn_ret (we_cB ?_)
      exact hret _ h _
abbrev s_distances : Stmt := topS 5
theorem sc_distances : FnScope ["rows", "start", "far", "order", "done", "at", "other"] ["rows", "start"] (defScope s_distances) := ⟨rfl, rfl, rfl, by decide +kernel, rfl, by decide +kernel, by decide +kernel⟩
def m_distances (p_rows : (List (List Int))) (p_start : Int) : DM (List Int) := fun Q X =>
  (-1000000 ≤ ((p_rows).length : Int) ∧ ((p_rows).length : Int) ≤ (big : Nat)) ∧
  ∃ m4, ixN ((List.replicate (((p_rows).length : Int)).toNat (-(1 : Int)))).length p_start = some m4 ∧
  whileD ((0 : Int), (((List.replicate (((p_rows).length : Int)).toNat (-(1 : Int)))).set m4 (0 : Int)), [p_start]) (fun s6 nx bk =>
  ifD (decide (s6.1 < ((s6.2.2).length : Int))) (
  ∃ v8, atI s6.2.2 s6.1 = some v8 ∧
  ∃ v11, atI p_rows v8 = some v11 ∧
  forD v11 (s6.2.1, s6.2.2) (fun x10 s9 nx bk =>
  ∃ v13, atI s9.1 x10 = some v13 ∧
  ifD (decide (v13 < (0 : Int))) (
  ∃ v14, atI s9.1 v8 = some v14 ∧
  ∃ m15, ixN (s9.1).length x10 = some m15 ∧
  (s9.2).length < big ∧
  nx (((s9.1).set m15 (v14 + (1 : Int))), (s9.2 ++ [x10]))) (
  nx (s9.1, s9.2))) (fun s9 =>
  nx ((s6.1 + (1 : Int)), s9.1, s9.2))) (bk s6)) (fun s6 =>
  Q s6.2.1)
theorem ok_distances {k : Nat} {cs : EK → Addr} (B : Bl mg) 
    (F : Src K mg "distances" s_distances ["rows", "start"]) : Def P w K mg base CX0 (k + 1) "distances" ["rows", "start"] (spA (preW (erW cs) (fun x : (List (List Int)) × Int => [iz (yL (yL zI)) x.1, iz zI x.2]) (yL zI) (fun x => m_distances x.1 x.2))) := by
  refine F.okW sc_distances (fun _ => rfl) (fun f cdv A outer s H E x Q X hr h => ⟨_, (pss_cons (ps_asg (pe_op op_rep (pe_lst (pa_cons (pe_un un_neg pe_int) pa_nil)) (pe_callB (kcall_len (K := K)) (by rfl) B.len PySem.boot_len (pa_cons (pv 0) pa_nil))) (pg_name (i := 2) sc_distances.nd rfl (Or.inl rfl)))
 (pss_cons (ps_asg pe_int (pg_sub (pv 2) (pv 1) set_list))
 (pss_cons (ps_asg (pe_lst (pa_cons (pv 1) pa_nil)) (pg_name (i := 3) sc_distances.nd rfl (Or.inl rfl)))
 (pss_cons (ps_asg pe_int (pg_name (i := 4) sc_distances.nd rfl (Or.inl rfl)))
 (pss_cons (ps_while PassesOwn.never (pt_cmpR op_lt (pv 4) (pe_callB (kcall_len (K := K)) (by rfl) B.len PySem.boot_len (pa_cons (pv 3) pa_nil)) (nomark _)) (pss_cons (ps_asg (pe_ix (kix_list (K := K)) (pv 3) (pv 4) (fun _ _ => rfl)) (pg_name (i := 5) sc_distances.nd rfl (Or.inl rfl)))
 (pss_cons (ps_for PassesOwn.never rfl (kpi_list (K := K) (pe_ix (kix_list (K := K)) (pv 0) (pv 5) (fun _ _ => rfl))) (pg_name (i := 6) sc_distances.nd rfl (Or.inl rfl)) (pss_one (ps_if (pt_cmpR op_lt (pe_ix (kix_list (K := K)) (pv 2) (pv 6) (fun _ _ => rfl)) pe_int (nomark _)) (pss_cons (ps_asg (pe_op op_add (pe_ix (kix_list (K := K)) (pv 2) (pv 5) (fun _ _ => rfl)) pe_int) (pg_sub (pv 2) (pv 6) set_list))
 (pss_one (ps_expr (pe_bm PySem.F.plainAttrs_list PySem.F.slot_list_append PySem.F.type_list_append mt_append (pv 3) (pa_cons (pv 6) pa_nil))))) pss_nil)))
 (pss_one (ps_aug (i := 4) sc_distances.nd rfl (Or.inl rfl) pe_int ip_add)))))
 (pss_one (ps_ret (pv 2)))))))), fun fr Qv hret => ?_⟩)
  obtain ⟨p_rows, p_start⟩ := x
  replace h : m_distances p_rows p_start Q X := h
  unfold m_distances at h
  refine kn_seq (kn_asg (i := 2) (we_op (we_lstY (r := zI) (wa_cons (we_un (we_cI (uns_I (wa_nil (⟨[(-(1 : Int))], rfl, Nat.le_of_ble_eq_true rfl, we_cb (wa_cons (we_var rfl (wa_nil (cy_len sy_L (fun e1 => ?_)))))⟩)))))))))
  obtain ⟨g2, h⟩ := h
  refine oy_repO g2.1 g2.2 (fun a3 => ?_)
  refine kn_nrm (Γ' := [some (iz (yL (yL zI)) p_rows), some (iz zI p_start), some (zAt a3), none, none, none, none]) rfl ?_
  try dsimp only
  refine kn_seq (kn_setY (r := zI) (xs := (List.replicate (((p_rows).length : Int)).toNat (-(1 : Int)))) (i := 2) (j := 0) rfl (we_cI (we_var rfl ?_)))
  obtain ⟨m4, em4, h⟩ := h
  refine ⟨_, _, _, rfl, rfl, rfl, em4, ?_⟩
  refine kn_nrm (Γ' := [some (iz (yL (yL zI)) p_rows), some (iz zI p_start), some (zAt a3), none, none, none, none]) rfl ?_
  try dsimp only
  refine kn_seq (kn_asg (i := 3) (we_ownY zI (wa_cons (we_var rfl (wa_nil (⟨[p_start], rfl, Nat.le_of_ble_eq_true rfl, fun a5 => ?_⟩))))))
  refine kn_nrm (Γ' := [some (iz (yL (yL zI)) p_rows), some (iz zI p_start), some (zAt a3), some (zAt a5), none, none, none]) rfl ?_
  try dsimp only
  refine kn_seq (kn_asg (i := 4) (we_cI ?_))
  refine kn_nrm (Γ' := [some (iz (yL (yL zI)) p_rows), some (iz zI p_start), some (zAt a3), some (zAt a5), some (iz zI (0 : Int)), none, none]) rfl ?_
  try dsimp only
  refine kn_seq (kn_whileW (S := Int × (List Int) × (List Int)) (fun s6 => [some (iz (yL (yL zI)) p_rows), some (iz zI p_start), some (zAt a3), some (zAt a5), some (iz zI s6.1), none, none]) (fun s6 => [cY a5 zI s6.2.2, cY a3 zI s6.2.1]) ((0 : Int), (((List.replicate (((p_rows).length : Int)).toNat (-(1 : Int)))).set m4 (0 : Int)), [p_start]) h (by and_intros) rfl (fun s6 nx M hnx hbk h => ?_) (fun s6 h => ?_))
  · refine wt_test (we_op (we_var rfl (we_cb (wa_cons (we_var rfl (wa_nil (cy_len (sy_C (j := 0) rfl) (fun e7 => (ops_B0 (⟨_, rfl, ⟨fun hc => ?_, fun hc => hbk _ _ _ (h.2 hc) (by and_intros) rfl⟩⟩))))))))))
    have h := h.1 hc
    refine kn_seq (kn_asg (i := 5) (we_op (we_var rfl (we_var rfl ?_))))
    obtain ⟨v8, ev8, h⟩ := h
    refine oy_ixC (j := 0) rfl ev8 ?_
    refine kn_nrm (Γ' := [some (iz (yL (yL zI)) p_rows), some (iz zI p_start), some (zAt a3), some (zAt a5), some (iz zI s6.1), some (iz zI v8), none]) rfl ?_
    try dsimp only
    refine kn_seq (kn_forW (r := zI) (S := (List Int) × (List Int)) (fun s9 => [some (iz (yL (yL zI)) p_rows), some (iz zI p_start), some (zAt a3), some (zAt a5), some (iz zI s6.1), some (iz zI v8), none]) (fun s9 => [cY a5 zI s9.2, cY a3 zI s9.1]) (s6.2.1, s6.2.2) (wi_yL (we_op (we_var rfl (we_var rfl ?_)))))
    obtain ⟨v11, ev11, h⟩ := h
    refine oy_ixL ev11 (⟨_, _, _, rfl, fun e12 => ⟨_, _, _, _, _, rfl, rfl, (by and_intros), fun _ _ => tg_name, h, fun fr' le x10 s9 nx M hnx hbk h => ?_, fun s9 h => ?_⟩⟩)
    · have hret := hret.fine le
      refine kn_if (wt_test (we_op (we_op (we_var rfl (we_var rfl ?_)))))
      obtain ⟨v13, ev13, h⟩ := h
      refine oy_ixC (j := 1) rfl ev13 (we_cI (ops_B0 (⟨_, rfl, ⟨fun hc => ?_, fun hc => ?_⟩⟩)))
      · have h := h.1 hc
        refine kn_seq (kn_setY (r := zI) (xs := s9.1) (i := 2) (j := 1) rfl (we_op (we_op (we_var rfl (we_var rfl ?_)))))
        obtain ⟨v14, ev14, h⟩ := h
        refine oy_ixC (j := 1) rfl ev14 (we_cI (ops_I0 (we_var rfl ?_)))
        obtain ⟨m15, em15, h⟩ := h
        refine ⟨_, _, _, rfl, rfl, rfl, em15, ?_⟩
        refine kn_nrm (Γ' := [some (iz (yL (yL zI)) p_rows), some (iz zI p_start), some (zAt a3), some (zAt a5), some (iz zI s6.1), some (iz zI v8), some (iz zI x10)]) rfl ?_
        try dsimp only
        refine kn_appY (i := 3) (j := 0) rfl rfl (we_var rfl ?_)
        obtain ⟨g16, h⟩ := h
        refine ⟨_, rfl, rfl, g16, ?_⟩
        exact hnx (((s9.1).set m15 (v14 + (1 : Int))), (s9.2 ++ [x10])) _ _ h (by and_intros) rfl
      · have h := h.2 hc
        refine kn_next ?_
        exact hnx (s9.1, s9.2) _ _ h (by and_intros) rfl
    try dsimp only
    refine kn_augI (i := 4) rfl (we_cI (⟨_, rfl, ?_⟩))
    exact hnx ((s6.1 + (1 : Int)), s9.1, s9.2) _ _ h (by and_intros) rfl
  try dsimp only
  refine kn_ret (we_var rfl ?_)
  exact rt_frzY (j := 1) rfl (hret _ h _)
abbrev s_apart_paper : Stmt := topS 8
theorem sc_apart_paper : FnScope ["plan", "groups", "rows", "k", "far", "inside", "at", "step"] ["plan"] (defScope s_apart_paper) := ⟨rfl, rfl, rfl, by decide +kernel, rfl, by decide +kernel, by decide +kernel⟩
def m_apart_paper (p_plan : PlanD) : DM (Option PyData) := fun Q X =>
  m_choices p_plan (fun v1 =>
  m_arrows p_plan (fun v2 =>
  forD (intsF 0 (((v1).length : Int)).toNat) () (fun x4 s3 nx bk =>
  m_distances v2 x4 (fun v6 =>
  ifD (decide ((-(1 : Int)) ∈ v6)) (
  catD (intsF 0 (((v1).length : Int)).toNat) [] (fun x7 acc9 k10 =>
  ∃ v14, atI v6 x7 = some v14 ∧
  ifD (decide (v14 ≥ (0 : Int))) (∃ v15, atI v1 x7 = some v15 ∧
  innD v15 acc9 (fun y8 k11 =>
  k11 (some y8)) k10) (k10 acc9)) (fun ys12 =>
  Q (some (XDat.enc (r := (z2 yS (yL yS))) (("APART" : Str), ((p_plan.names).filter fun x17 => (decide (x17 ∈ ys12))).map (fun x17 => x17)))))) (
  nx ())) noX) (fun s3 =>
  Q (none : (Option PyData)))) noX) noX
theorem ok_apart_paper {k : Nat} {cs : EK → Addr} {C : Addr} (B : Bl mg) (T_Plan : PlanC K mg C) (D_choices : Def P w K mg base CX0 k "choices" ["plan"] (spA (preW (erW cs) (fun d : PlanD => [iz (zPlan C) d]) (yL (yT yS)) m_choices))) (D_arrows : Def P w K mg base CX0 k "arrows" ["plan"] (spA (preW (erW cs) (fun d : PlanD => [iz (zPlan C) d]) (yL (yL zI)) m_arrows))) (D_distances : Def P w K mg base CX0 k "distances" ["rows", "start"] (spA (preW (erW cs) (fun x : (List (List Int)) × Int => [iz (yL (yL zI)) x.1, iz zI x.2]) (yL zI) (fun x => m_distances x.1 x.2))))
    (F : Src K mg "apart_paper" s_apart_paper ["plan"]) : Def P w K mg base CX0 (k + 1) "apart_paper" ["plan"] (spA (preW (erW cs) (fun x : PlanD => [iz (zPlan C) x]) (yO yP) (fun x => m_apart_paper x))) := by
  refine F.okW sc_apart_paper (fun _ => rfl) (fun f cdv A outer s H E p_plan Q X hr h => ⟨_, (pss_cons (ps_asg (pe_def D_choices hr pass0 (pa_cons (pv 0) pa_nil)) (pg_name (i := 1) sc_apart_paper.nd rfl (Or.inr rfl)))
 (pss_cons (ps_asg (pe_def D_arrows hr pass0 (pa_cons (pv 0) pa_nil)) (pg_name (i := 2) sc_apart_paper.nd rfl (Or.inl rfl)))
 (pss_cons (ps_for PassesOwn.never rfl (pi_range1 (by rfl) B.range (pa_cons (pe_callB (kcall_len (K := K)) (by rfl) B.len PySem.boot_len (pa_cons (pv 1) pa_nil)) pa_nil)) (pg_name (i := 3) sc_apart_paper.nd rfl (Or.inl rfl)) (pss_cons (ps_asg (pe_def D_distances hr pass0 (pa_cons (pv 2) (pa_cons (pv 3) pa_nil))) (pg_name (i := 4) sc_apart_paper.nd rfl (Or.inr rfl)))
 (pss_one (ps_if (pt_cmpR (kop_in (K := K)) (pe_un un_neg pe_int) (pv 4) rfl) (pss_cons (ps_asg (pe_lc2 (own := [("at", 6), ("step", 7)]) (vs1 := [7]) (by rfl) sc_apart_paper.nd (pi_range1 (by rfl) B.range (pa_cons (pe_callB (kcall_len (K := K)) (by rfl) B.len PySem.boot_len (pa_cons (pv 1) pa_nil)) pa_nil)) (blkOk_by (N := ["plan", "groups", "rows", "k", "far", "inside", "at", "step"]) (sc := defScope s_apart_paper) (by decide +kernel)) (by decide) (fun _ _ _ _ _ => (pg_name (i := 6) sc_apart_paper.nd rfl (Or.inl rfl))) (fun _ _ _ _ _ => pts_one (pt_cmpR op_ge (pe_ix (kix_list (K := K)) (pv 4) (pv 6) (fun _ _ => rfl)) pe_int (nomark _))) (fun _ _ _ _ _ => (kpi_tup (K := K) (pe_ix (kix_list (K := K)) (pv 1) (pv 6) (fun _ _ => rfl)))) (fun _ _ _ _ _ => (pg_name (i := 7) sc_apart_paper.nd rfl (Or.inl rfl))) (fun _ _ _ _ _ => pts_nil) (fun _ _ _ _ _ => (pv 7))) (pg_name (i := 5) sc_apart_paper.nd rfl (Or.inr rfl)))
 (pss_one (ps_ret (pe_tup (pa_cons pe_str (pa_cons (pe_lc (own := [("step", 7)]) (g := gName 7) (by rfl) sc_apart_paper.nd (kpi_tup (K := K) (kpe_fld (K := K) (pv 0))) (blkOk_by (N := ["plan", "groups", "rows", "k", "far", "inside", "at", "step"]) (sc := defScope s_apart_paper) (by decide +kernel)) (fun _ _ _ _ _ => (pg_name (i := 7) sc_apart_paper.nd rfl (Or.inl rfl))) (fun _ _ _ _ _ => pts_one (pt_cmpR (kop_in (K := K)) (pv 7) (pv 5) rfl)) (fun _ _ _ _ _ => (pv 7))) pa_nil)))))) pss_nil))))
 (pss_one (ps_ret pe_non))))), fun fr Qv hret => ?_⟩)
  replace h : m_apart_paper p_plan Q X := h
  unfold m_apart_paper at h
  refine kn_seq (kn_asg (i := 1) (we_callE (wa_cons (we_var rfl (wa_nil ?_)))))
  refine sps_W0 p_plan h (fun v1 h => ?_)
  refine kn_nrm (Γ' := [some (iz (zPlan C) p_plan), some (iz (yL (yT yS)) v1), none, none, none, none, none, none]) rfl ?_
  try dsimp only
  refine kn_seq (kn_asg (i := 2) (we_callE (wa_cons (we_var rfl (wa_nil ?_)))))
  refine sps_W0 p_plan h (fun v2 h => ?_)
  refine kn_nrm (Γ' := [some (iz (zPlan C) p_plan), some (iz (yL (yT yS)) v1), some (iz (yL (yL zI)) v2), none, none, none, none, none]) rfl ?_
  try dsimp only
  refine kn_seq (kn_forW (r := zI) (S := Unit) (fun s3 => [some (iz (zPlan C) p_plan), some (iz (yL (yT yS)) v1), some (iz (yL (yL zI)) v2), none, none, none, none, none]) (fun s3 => []) () (wi_range (wa_cons (we_cb (wa_cons (we_var rfl (wa_nil (cy_len sy_L (fun e5 => (wa_nil (⟨_, rfl, (by have hb : big = 100000 := rfl; omega), (by have hb : big = 100000 := rfl; omega), ⟨_, _, _, _, _, rfl, rfl, (by and_intros), fun _ _ => tg_name, h, fun fr' le x4 s3 nx M hnx hbk h => ?_, fun s3 h => ?_⟩⟩)))))))))))
  · have hret := hret.fine le
    refine kn_seq (kn_asg (i := 4) (we_callE (wa_cons (we_var rfl (wa_cons (we_var rfl (wa_nil ?_)))))))
    refine sps_W0 (v2, x4) h (fun v6 h => ?_)
    refine kn_nrm (Γ' := [some (iz (zPlan C) p_plan), some (iz (yL (yT yS)) v1), some (iz (yL (yL zI)) v2), some (iz zI x4), some (iz (yL zI) v6), none, none, none]) rfl ?_
    try dsimp only
    refine kn_if (wt_test (we_op (we_un (we_cI (uns_I (we_var rfl (oy_inI sy_L (⟨_, rfl, ⟨fun hc => ?_, fun hc => ?_⟩⟩))))))))
    · have h := h.1 hc
      refine kn_seq (kn_asg (i := 5) (we_lc2W (r := zI) (r1 := yS) (s := yS) (wi_range (wa_cons (we_cb (wa_cons (we_var rfl (wa_nil (cy_len sy_L (fun e13 => (wa_nil (⟨_, rfl, (by have hb : big = 100000 := rfl; omega), (by have hb : big = 100000 := rfl; omega), ⟨_, _, _, _, rfl, rfl, fun _ => (tg_name).sub (by decide), h, fun x7 acc9 c k10 h => ?_, fun ys12 h eys12 => ?_⟩⟩))))))))))))
      · refine wt_test (we_op (we_op (we_var rfl (we_var rfl ?_))))
        obtain ⟨v14, ev14, h⟩ := h
        refine oy_ixL ev14 (we_cI (ops_B0 (⟨_, rfl, ⟨fun hc => ?_, fun hc => ⟨rfl, h.2 hc⟩⟩⟩)))
        have h := h.1 hc
        refine wi_yT (we_op (we_var rfl (we_var rfl ?_)))
        obtain ⟨v15, ev15, h⟩ := h
        refine oy_ixL ev15 (⟨_, _, _, _, rfl, fun e16 => ⟨_, _, _, rfl, rfl, fun _ => tg_name, h, fun y8 c k11 h => ?_⟩⟩)
        · refine wt_yes ⟨fun _ => (we_var rfl ?_), (fun h => nomatch h)⟩
          exact ⟨rfl, _, rfl, h⟩
      refine kn_nrm (Γ' := [some (iz (zPlan C) p_plan), some (iz (yL (yT yS)) v1), some (iz (yL (yL zI)) v2), some (iz zI x4), some (iz (yL zI) v6), some (iz (yL yS) ys12), none, none]) rfl ?_
      try dsimp only
      refine kn_ret (We.conv (we_tup (wa_cons (we_cSy (z := "APART") (asc_of (by decide)) (by decide) (wa_cons (we_lcP (r := yS) (s := yS) (wi_yT (we_fld (we_var rfl (⟨_, fy_steps T_Plan, ⟨_, _, _, _, rfl, fun e18 => ⟨_, fun x17 => (decide (x17 ∈ ys12)), fun x17 => x17, _, rfl, rfl, e18, fun x17 => tg_name, fun x17 c => wt_test (we_op (we_var rfl (we_var rfl (oy_inS sy_L (⟨_, rfl, ⟨rfl, rfl⟩⟩))))), fun x17 c => we_var rfl (⟨rfl, rfl⟩), wa_nil (⟨Nat.le_of_ble_eq_true rfl, iz (z2 yS (yL yS)) (("APART" : Str), ((p_plan.names).filter fun x17 => (decide (x17 ∈ ys12))).map (fun x17 => x17)), tr2, ⟨_, (show Vp.Le (iz (z2 yS (yL yS)) (("APART" : Str), ((p_plan.names).filter fun x17 => (decide (x17 ∈ ys12))).map (fun x17 => x17))) (iz (yO yP) (some (XDat.enc (r := (z2 yS (yL yS))) (("APART" : Str), ((p_plan.names).filter fun x17 => (decide (x17 ∈ ys12))).map (fun x17 => x17))))) from fun F v h => ((le_P (r := (z2 yS (yL yS)))) : Vp.Le (iz (z2 yS (yL yS)) _) (iz yP _)) F v h), ?_⟩⟩)⟩⟩⟩))))))))))
      exact hret _ h _
    · have h := h.2 hc
      refine kn_next ?_
      exact hnx () _ _ h (by and_intros) rfl
  try dsimp only
  refine kn_ret (We.conv (we_cNy (⟨_, (le_On (r := yP)), ?_⟩)))
  exact hret _ h _
end
section
variable {P : Program} {w : World} {K : PySem.W.Frag} {mg : Str → Option Value} {base : Heap}
abbrev s__law_spread : Stmt := topS 67
theorem sc__law_spread : FnScope ["_law_table", "_law_start", "_law_reached", "_law_at", "_law_k"] ["_law_table", "_law_start"] (defScope s__law_spread) := ⟨rfl, rfl, rfl, by decide +kernel, rfl, by decide +kernel, by decide +kernel⟩
def m__law_spread (p_law_table : (List (List Int))) (p_law_start : Int) : DM (List Int) := fun Q X =>
  ∀ reached1, reached1 = [p_law_start] →
  forD (intsF 0 (((p_law_table).length : Int)).toNat) reached1 (fun x3 s2 nx bk =>
  ifD (decide (x3 < ((s2).length : Int))) (
  ∃ v7, atI s2 x3 = some v7 ∧
  ∃ v8, atI p_law_table v7 = some v8 ∧
  (s2).length + (((v8).filter fun x6 => (!decide (x6 ∈ s2))).map (fun x6 => x6)).length ≤ big ∧
  ∀ reached11, reached11 = (s2 ++ ((v8).filter fun x6 => (!decide (x6 ∈ s2))).map (fun x6 => x6)) →
  nx reached11) (
  nx s2)) (fun s2 =>
  Q s2)
theorem ok__law_spread {k : Nat} {cs : EK → Addr} (B : Bl mg) 
    (F : Src K mg "_law_spread" s__law_spread ["_law_table", "_law_start"]) : Def P w K mg base CX0 (k + 1) "_law_spread" ["_law_table", "_law_start"] (spA (preW (erW cs) (fun x : (List (List Int)) × Int => [iz (yL (yL zI)) x.1, iz zI x.2]) (yL zI) (fun x => m__law_spread x.1 x.2))) := by
  refine F.okW sc__law_spread (fun _ => rfl) (fun f cdv A outer s H E x Q X hr h => ⟨_, (pss_cons (ps_asg (pe_lst (pa_cons (pv 1) pa_nil)) (pg_name (i := 2) sc__law_spread.nd rfl (Or.inr rfl)))
 (pss_cons (ps_for PassesOwn.never rfl (pi_range1 (by rfl) B.range (pa_cons (pe_callB (kcall_len (K := K)) (by rfl) B.len PySem.boot_len (pa_cons (pv 0) pa_nil)) pa_nil)) (pg_name (i := 3) sc__law_spread.nd rfl (Or.inl rfl)) (pss_one (ps_if (pt_cmpR op_lt (pv 3) (pe_callB (kcall_len (K := K)) (by rfl) B.len PySem.boot_len (pa_cons (pv 2) pa_nil)) (nomark _)) (pss_one (ps_asg (pe_op op_cat (pv 2) (pe_lc (own := [("_law_k", 4)]) (g := gName 4) (by rfl) sc__law_spread.nd (kpi_list (K := K) (pe_ix (kix_list (K := K)) (pv 0) (pe_ix (kix_list (K := K)) (pv 2) (pv 3) (fun _ _ => rfl)) (fun _ _ => rfl))) (blkOk_by (N := ["_law_table", "_law_start", "_law_reached", "_law_at", "_law_k"]) (sc := defScope s__law_spread) (by decide +kernel)) (fun _ _ _ _ _ => (pg_name (i := 4) sc__law_spread.nd rfl (Or.inl rfl))) (fun _ _ _ _ _ => pts_one (pt_cmpR (kop_notIn (K := K)) (pv 4) (pv 2) rfl)) (fun _ _ _ _ _ => (pv 4)))) (pg_name (i := 2) sc__law_spread.nd rfl (Or.inr rfl)))) pss_nil)))
 (pss_one (ps_ret (pv 2))))), fun fr Qv hret => ?_⟩)
  obtain ⟨p_law_table, p_law_start⟩ := x
  replace h : m__law_spread p_law_table p_law_start Q X := h
  unfold m__law_spread at h
  refine kn_seq (kn_asgL (i := 2) (r := (yL zI)) (we_lstY (r := zI) (wa_cons (we_var rfl (wa_nil (⟨[p_law_start], rfl, Nat.le_of_ble_eq_true rfl, ⟨_, rfl, fun reached1 ereached1 => ?_⟩⟩))))))
  have h := h reached1 ereached1
  refine kn_nrm (Γ' := [some (iz (yL (yL zI)) p_law_table), some (iz zI p_law_start), some (iz (yL zI) reached1), none, none]) rfl ?_
  try dsimp only
  refine kn_seq (kn_forW (r := zI) (S := (List Int)) (fun s2 => [some (iz (yL (yL zI)) p_law_table), some (iz zI p_law_start), some (iz (yL zI) s2), none, none]) (fun s2 => []) reached1 (wi_range (wa_cons (we_cb (wa_cons (we_var rfl (wa_nil (cy_len sy_L (fun e4 => (wa_nil (⟨_, rfl, (by have hb : big = 100000 := rfl; omega), (by have hb : big = 100000 := rfl; omega), ⟨_, _, _, _, _, rfl, rfl, (by and_intros), fun _ _ => tg_name, h, fun fr' le x3 s2 nx M hnx hbk h => ?_, fun s2 h => ?_⟩⟩)))))))))))
  · have hret := hret.fine le
    refine kn_if (wt_test (we_op (we_var rfl (we_cb (wa_cons (we_var rfl (wa_nil (cy_len sy_L (fun e5 => (ops_B0 (⟨_, rfl, ⟨fun hc => ?_, fun hc => ?_⟩⟩)))))))))))
    · have h := h.1 hc
      refine kn_asgL (i := 2) (r := (yL zI)) (we_op (we_var rfl (we_lcP (r := zI) (s := zI) (wi_yL (we_op (we_var rfl (we_op (we_var rfl (we_var rfl ?_)))))))))
      obtain ⟨v7, ev7, h⟩ := h
      refine oy_ixL ev7 ?_
      obtain ⟨v8, ev8, h⟩ := h
      refine oy_ixL ev8 (⟨_, _, _, rfl, fun e9 => ⟨_, fun x6 => (!decide (x6 ∈ s2)), fun x6 => x6, _, rfl, rfl, e9, fun x6 => tg_name, fun x6 c => wt_test (we_op (we_var rfl (we_var rfl (oy_ninI sy_L (⟨_, rfl, ⟨rfl, rfl⟩⟩))))), fun x6 c => we_var rfl (⟨rfl, rfl⟩), ?_⟩⟩)
      obtain ⟨g10, h⟩ := h
      refine oy_cat g10 (⟨_, rfl, fun reached11 ereached11 => ?_⟩)
      have h := h reached11 ereached11
      exact hnx reached11 _ _ h (by and_intros) rfl
    · have h := h.2 hc
      refine kn_next ?_
      exact hnx s2 _ _ h (by and_intros) rfl
  try dsimp only
  refine kn_ret (we_var rfl ?_)
  exact hret _ h _
abbrev s__law_sets : Stmt := topS 68
theorem sc__law_sets : FnScope ["_law_box_here", "_law_groups_here", "_law_sets_here", "_law_k", "_law_part"] ["_law_box_here", "_law_groups_here"] (defScope s__law_sets) := ⟨rfl, rfl, rfl, by decide +kernel, rfl, by decide +kernel, by decide +kernel⟩
def m__law_sets (p_law_groups_here : (List (List Str))) : DM (List (List Int)) := fun Q X =>
  ∀ sets1, sets1 = [[]] →
  forD (intsF 0 (((p_law_groups_here).length : Int)).toNat) sets1 (fun x3 s2 nx bk =>
  ifD (decide (((s2).length : Int) < (64 : Int))) (
  mapD s2 [] (fun x6 k7 =>
  (x6).length + ([x3]).length ≤ big ∧
  k7 (x6 ++ [x3])) (fun ys8 =>
  (s2).length + (ys8).length ≤ big ∧
  ∀ sets13, sets13 = (s2 ++ ys8) →
  nx sets13)) (
  drawD ((s2).length : Int) (fun n15 =>
  ∃ v16, atI s2 n15 = some v16 ∧
  (v16).length + ([x3]).length ≤ big ∧
  (s2).length + ([(v16 ++ [x3])]).length ≤ big ∧
  ∀ sets19, sets19 = (s2 ++ [(v16 ++ [x3])]) →
  nx sets19))) (fun s2 =>
  Q s2)
theorem ok__law_sets {k : Nat} {cs : EK → Addr} (B : Bl mg) (D__law_next : Def P w K mg base CX0 k "_law_next" ["_law_box_here", "_law_many"] spNext)
    (F : Src K mg "_law_sets" s__law_sets ["_law_box_here", "_law_groups_here"]) : Def P w K mg base CX0 (k + 1) "_law_sets" ["_law_box_here", "_law_groups_here"] (spC (preB (preBW (fun x : (List (List Str)) => [iz (yL (yL yS)) x]) (yL (yL zI)) (fun x => m__law_sets x)))) := by
  refine F.okBW sc__law_sets (fun _ => rfl) (fun f cdv A outer s H E b l p_law_groups_here Q hr h => ⟨_, (pss_cons (ps_asg (pe_lst (pa_cons (pe_lst pa_nil) pa_nil)) (pg_name (i := 2) sc__law_sets.nd rfl (Or.inl rfl)))
 (pss_cons (ps_for PassesOwn.never rfl (pi_range1 (by rfl) B.range (pa_cons (pe_callB (kcall_len (K := K)) (by rfl) B.len PySem.boot_len (pa_cons (pv 1) pa_nil)) pa_nil)) (pg_name (i := 3) sc__law_sets.nd rfl (Or.inr rfl)) (pss_one (ps_if (pt_cmpR op_lt (pe_callB (kcall_len (K := K)) (by rfl) B.len PySem.boot_len (pa_cons (pv 2) pa_nil)) pe_int (nomark _)) (pss_one (ps_asg (pe_op op_cat (pv 2) (pe_lc (own := [("_law_part", 4)]) (g := gName 4) (by rfl) sc__law_sets.nd (kpi_list (K := K) (pv 2)) (blkOk_by (N := ["_law_box_here", "_law_groups_here", "_law_sets_here", "_law_k", "_law_part"]) (sc := defScope s__law_sets) (by decide +kernel)) (fun _ _ _ _ _ => (pg_name (i := 4) sc__law_sets.nd rfl (Or.inl rfl))) (fun _ _ _ _ _ => pts_nil) (fun _ _ _ _ _ => (pe_op op_cat (pv 4) (pe_lst (pa_cons (pv 3) pa_nil)))))) (pg_name (i := 2) sc__law_sets.nd rfl (Or.inl rfl)))) (pss_one (ps_asg (pe_op op_cat (pv 2) (pe_lst (pa_cons (pe_op op_cat (pe_ix (kix_list (K := K)) (pv 2) (pe_def D__law_next hr pass0 (pa_cons (pv 0) (pa_cons (pe_callB (kcall_len (K := K)) (by rfl) B.len PySem.boot_len (pa_cons (pv 2) pa_nil)) pa_nil))) (fun _ _ => rfl)) (pe_lst (pa_cons (pv 3) pa_nil))) pa_nil))) (pg_name (i := 2) sc__law_sets.nd rfl (Or.inl rfl)))))))
 (pss_one (ps_ret (pv 2))))), fun fr Qv hret => ?_⟩)
  replace h : m__law_sets p_law_groups_here Q noX := h
  unfold m__law_sets at h
  refine kn_seq (kn_asgL (i := 2) (r := (yL (yL zI))) (we_lstY (r := (yL zI)) (wa_cons (we_lstY (r := zI) (wa_nil (⟨[], rfl, Nat.le_of_ble_eq_true rfl, wa_nil (⟨[[]], rfl, Nat.le_of_ble_eq_true rfl, ⟨_, rfl, fun sets1 esets1 => ?_⟩⟩)⟩))))))
  have h := h sets1 esets1
  refine kn_nrm (Γ' := [some (zAt b), some (iz (yL (yL yS)) p_law_groups_here), some (iz (yL (yL zI)) sets1), none, none]) rfl ?_
  try dsimp only
  refine kn_seq (kn_forW (r := zI) (S := (List (List Int))) (fun s2 => [some (zAt b), some (iz (yL (yL yS)) p_law_groups_here), some (iz (yL (yL zI)) s2), none, none]) (fun s2 => [cBox true b l]) sets1 (wi_range (wa_cons (we_cb (wa_cons (we_var rfl (wa_nil (cy_len sy_L (fun e4 => (wa_nil (⟨_, rfl, (by have hb : big = 100000 := rfl; omega), (by have hb : big = 100000 := rfl; omega), ⟨_, _, _, _, _, rfl, rfl, (by and_intros), fun _ _ => tg_name, h, fun fr' le x3 s2 nx M hnx hbk h => ?_, fun s2 h => ?_⟩⟩)))))))))))
  · have hret := hret.fine le
    refine kn_if (wt_test (we_op (we_cb (wa_cons (we_var rfl (wa_nil (cy_len sy_L (fun e5 => (we_cI (ops_B0 (⟨_, rfl, ⟨fun hc => ?_, fun hc => ?_⟩⟩)))))))))))
    · have h := h.1 hc
      refine kn_asgL (i := 2) (r := (yL (yL zI))) (we_op (we_var rfl (we_lcM (r := (yL zI)) (s := (yL zI)) (wi_yL (we_var rfl (⟨_, _, _, rfl, fun e9 => ⟨_, _, _, _, rfl, rfl, e9, fun _ => tg_name, h, fun x6 c k7 h => ?_, fun ys8 h eys8 => ?_⟩⟩))))))
      · refine we_op (we_var rfl (we_lstY (r := zI) (wa_cons (we_var rfl (wa_nil (⟨[x3], rfl, Nat.le_of_ble_eq_true rfl, ?_⟩))))))
        obtain ⟨g11, h⟩ := h
        refine oy_cat g11 ?_
        exact ⟨rfl, _, rfl, h⟩
      obtain ⟨g12, h⟩ := h
      refine oy_cat g12 (⟨_, rfl, fun sets13 esets13 => ?_⟩)
      have h := h sets13 esets13
      exact hnx sets13 _ _ h (by and_intros) rfl
    · have h := h.2 hc
      refine kn_asgL (i := 2) (r := (yL (yL zI))) (we_op (we_var rfl (we_lstY (r := (yL zI)) (wa_cons (we_op (we_op (we_var rfl (we_callE (wa_cons (we_var rfl (wa_cons (we_cb (wa_cons (we_var rfl (wa_nil (cy_len sy_L (fun e14 => (wa_nil ?_))))))))))))))))))
      refine sps_draw (j := 0) rfl h (fun n15 h => ?_)
      obtain ⟨v16, ev16, h⟩ := h
      refine oy_ixL ev16 (we_lstY (r := zI) (wa_cons (we_var rfl (wa_nil (⟨[x3], rfl, Nat.le_of_ble_eq_true rfl, ?_⟩)))))
      obtain ⟨g17, h⟩ := h
      refine oy_cat g17 (wa_nil (⟨[(v16 ++ [x3])], rfl, Nat.le_of_ble_eq_true rfl, ?_⟩))
      obtain ⟨g18, h⟩ := h
      refine oy_cat g18 (⟨_, rfl, fun sets19 esets19 => ?_⟩)
      have h := h sets19 esets19
      exact hnx sets19 _ _ h (by and_intros) rfl
  try dsimp only
  refine kn_ret (we_var rfl ?_)
  exact hret _ h _ (List.mem_of_getElem? (i := 0) rfl)
abbrev s__law_steps : Stmt := topS 69
theorem sc__law_steps : FnScope ["_law_groups_here", "_law_chosen", "_law_steps_here", "_law_k"] ["_law_groups_here", "_law_chosen"] (defScope s__law_steps) := ⟨rfl, rfl, rfl, by decide +kernel, rfl, by decide +kernel, by decide +kernel⟩
def m__law_steps (p_law_groups_here : (List (List Str))) (p_law_chosen : (List Int)) : DM (List Str) := fun Q X =>
  ∀ steps1, steps1 = [] →
  forD p_law_chosen steps1 (fun x3 s2 nx bk =>
  ∃ v5, atI p_law_groups_here x3 = some v5 ∧
  (s2).length + (v5).length ≤ big ∧
  ∀ steps7, steps7 = (s2 ++ v5) →
  nx steps7) (fun s2 =>
  Q s2)
theorem ok__law_steps {k : Nat} {cs : EK → Addr} (B : Bl mg) 
    (F : Src K mg "_law_steps" s__law_steps ["_law_groups_here", "_law_chosen"]) : Def P w K mg base CX0 (k + 1) "_law_steps" ["_law_groups_here", "_law_chosen"] (spA (preW (erW cs) (fun x : (List (List Str)) × (List Int) => [iz (yL (yL yS)) x.1, iz (yL zI) x.2]) (yL yS) (fun x => m__law_steps x.1 x.2))) := by
  refine F.okW sc__law_steps (fun _ => rfl) (fun f cdv A outer s H E x Q X hr h => ⟨_, (pss_cons (ps_asg (pe_lst pa_nil) (pg_name (i := 2) sc__law_steps.nd rfl (Or.inl rfl)))
 (pss_cons (ps_for PassesOwn.never rfl (kpi_list (K := K) (pv 1)) (pg_name (i := 3) sc__law_steps.nd rfl (Or.inl rfl)) (pss_one (ps_asg (pe_op op_cat (pv 2) (pe_ix (kix_list (K := K)) (pv 0) (pv 3) (fun _ _ => rfl))) (pg_name (i := 2) sc__law_steps.nd rfl (Or.inl rfl)))))
 (pss_one (ps_ret (pv 2))))), fun fr Qv hret => ?_⟩)
  obtain ⟨p_law_groups_here, p_law_chosen⟩ := x
  replace h : m__law_steps p_law_groups_here p_law_chosen Q X := h
  unfold m__law_steps at h
  refine kn_seq (kn_asgL (i := 2) (r := (yL yS)) (we_lstY (r := yS) (wa_nil (⟨[], rfl, Nat.le_of_ble_eq_true rfl, ⟨_, rfl, fun steps1 esteps1 => ?_⟩⟩))))
  have h := h steps1 esteps1
  try dsimp only
  refine kn_seq (kn_forW (r := zI) (S := (List Str)) (fun s2 => [some (iz (yL (yL yS)) p_law_groups_here), some (iz (yL zI) p_law_chosen), some (iz (yL yS) s2), none]) (fun s2 => []) steps1 (wi_yL (we_var rfl (⟨_, _, _, rfl, fun e4 => ⟨_, _, _, _, _, rfl, rfl, (by and_intros), fun _ _ => tg_name, h, fun fr' le x3 s2 nx M hnx hbk h => ?_, fun s2 h => ?_⟩⟩))))
  · have hret := hret.fine le
    refine kn_asgL (i := 2) (r := (yL yS)) (we_op (we_var rfl (we_op (we_var rfl (we_var rfl ?_)))))
    obtain ⟨v5, ev5, h⟩ := h
    refine oy_ixL ev5 ?_
    obtain ⟨g6, h⟩ := h
    refine oy_cat g6 (⟨_, rfl, fun steps7 esteps7 => ?_⟩)
    have h := h steps7 esteps7
    exact hnx steps7 _ _ h (by and_intros) rfl
  try dsimp only
  refine kn_ret (we_var rfl ?_)
  exact hret _ h _
abbrev s__law_right : Stmt := topS 70
theorem sc__law_right : FnScope ["_law_table", "_law_groups_here", "_law_chosen", "_law_k", "_law_at"] ["_law_table", "_law_groups_here", "_law_chosen"] (defScope s__law_right) := ⟨rfl, rfl, rfl, by decide +kernel, rfl, by decide +kernel, by decide +kernel⟩
def m__law_right (p_law_table : (List (List Int))) (p_law_groups_here : (List (List Str))) (p_law_chosen : (List Int)) : DM Bool := fun Q X =>
  ifD ((decide (p_law_chosen = [])) || (decide (((p_law_chosen).length : Int) = ((p_law_groups_here).length : Int)))) (
  Q false) (
  forD p_law_chosen () (fun x4 s3 nx bk =>
  ∃ v7, atI p_law_table x4 = some v7 ∧
  ifD (!decide (((v7).filter fun x6 => (!decide (x6 ∈ p_law_chosen))).map (fun x6 => x6) = [])) (
  Q false) (
  nx ())) (fun s3 =>
  Q true))
theorem ok__law_right {k : Nat} {cs : EK → Addr} (B : Bl mg) 
    (F : Src K mg "_law_right" s__law_right ["_law_table", "_law_groups_here", "_law_chosen"]) : Def P w K mg base CX0 (k + 1) "_law_right" ["_law_table", "_law_groups_here", "_law_chosen"] (spA (preW (erW cs) (fun x : (List (List Int)) × (List (List Str)) × (List Int) => [iz (yL (yL zI)) x.1, iz (yL (yL yS)) x.2.1, iz (yL zI) x.2.2]) zB (fun x => m__law_right x.1 x.2.1 x.2.2))) := by
  refine F.okW sc__law_right (fun _ => rfl) (fun f cdv A outer s H E x Q X hr h => ⟨_, (pss_cons (ps_if (PW.pt (pw_or (pt_cmpR (kop_eqD (K := K) hr.units) (pv 2) (pe_lst pa_nil) (nomark _)) (pw_or1 (pt_cmpR op_eq (pe_callB (kcall_len (K := K)) (by rfl) B.len PySem.boot_len (pa_cons (pv 2) pa_nil)) (pe_callB (kcall_len (K := K)) (by rfl) B.len PySem.boot_len (pa_cons (pv 1) pa_nil)) (nomark _))))) (pss_one (ps_ret pe_bl)) pss_nil)
 (pss_cons (ps_for PassesOwn.never rfl (kpi_list (K := K) (pv 2)) (pg_name (i := 3) sc__law_right.nd rfl (Or.inl rfl)) (pss_one (ps_if (pt_cmpR (kop_neD (K := K) hr.units) (pe_lc (own := [("_law_at", 4)]) (g := gName 4) (by rfl) sc__law_right.nd (kpi_list (K := K) (pe_ix (kix_list (K := K)) (pv 0) (pv 3) (fun _ _ => rfl))) (blkOk_by (N := ["_law_table", "_law_groups_here", "_law_chosen", "_law_k", "_law_at"]) (sc := defScope s__law_right) (by decide +kernel)) (fun _ _ _ _ _ => (pg_name (i := 4) sc__law_right.nd rfl (Or.inl rfl))) (fun _ _ _ _ _ => pts_one (pt_cmpR (kop_notIn (K := K)) (pv 4) (pv 2) rfl)) (fun _ _ _ _ _ => (pv 4))) (pe_lst pa_nil) (nomark _)) (pss_one (ps_ret pe_bl)) pss_nil)))
 (pss_one (ps_ret pe_bl)))), fun fr Qv hret => ?_⟩)
  obtain ⟨p_law_table, p_law_groups_here, p_law_chosen⟩ := x
  replace h : m__law_right p_law_table p_law_groups_here p_law_chosen Q X := h
  unfold m__law_right at h
  refine kn_seq (kn_if (wt_orP (wt_test (we_op (we_var rfl (we_lstY (r := zI) (wa_nil (⟨[], rfl, Nat.le_of_ble_eq_true rfl, ops_eqD (r := (yL zI)) (by decide) (⟨_, rfl, ⟨_, fun _ => wt_test (we_op (we_cb (wa_cons (we_var rfl (wa_nil (cy_len sy_L (fun e1 => (we_cb (wa_cons (we_var rfl (wa_nil (cy_len sy_L (fun e2 => (ops_eqI (⟨_, rfl, ⟨rfl, rfl⟩⟩))))))))))))))), ⟨fun hc => ?_, fun hc => ?_⟩⟩⟩)⟩))))))))
  · have h := h.1 hc
    refine kn_ret (we_cB ?_)
    exact hret _ h _
  · have h := h.2 hc
    refine kn_next ?_
    try dsimp only
    refine kn_seq (kn_forW (r := zI) (S := Unit) (fun s3 => [some (iz (yL (yL zI)) p_law_table), some (iz (yL (yL yS)) p_law_groups_here), some (iz (yL zI) p_law_chosen), none, none]) (fun s3 => []) () (wi_yL (we_var rfl (⟨_, _, _, rfl, fun e5 => ⟨_, _, _, _, _, rfl, rfl, (by and_intros), fun _ _ => tg_name, h, fun fr' le x4 s3 nx M hnx hbk h => ?_, fun s3 h => ?_⟩⟩))))
    · have hret := hret.fine le
      refine kn_if (wt_test (we_op (we_lcP (r := zI) (s := zI) (wi_yL (we_op (we_var rfl (we_var rfl ?_)))))))
      obtain ⟨v7, ev7, h⟩ := h
      refine oy_ixL ev7 (⟨_, _, _, rfl, fun e8 => ⟨_, fun x6 => (!decide (x6 ∈ p_law_chosen)), fun x6 => x6, _, rfl, rfl, e8, fun x6 => tg_name, fun x6 c => wt_test (we_op (we_var rfl (we_var rfl (oy_ninI sy_L (⟨_, rfl, ⟨rfl, rfl⟩⟩))))), fun x6 c => we_var rfl (⟨rfl, rfl⟩), we_lstY (r := zI) (wa_nil (⟨[], rfl, Nat.le_of_ble_eq_true rfl, ops_neD (r := (yL zI)) (by decide) (⟨_, rfl, ⟨fun hc => ?_, fun hc => ?_⟩⟩)⟩))⟩⟩)
      · have h := h.1 hc
        refine kn_ret (we_cB ?_)
        exact hret _ h _
      · have h := h.2 hc
        refine kn_next ?_
        exact hnx () _ _ h (by and_intros) rfl
    try dsimp only
    refine kn_ret (we_cB ?_)
    exact hret _ h _
end
def spLaw (K : PySem.W.Frag) : Sp := fun vs H Q _ => ∃ (a : Addr) (ns : List Int), vs = [.ref a] ∧ SqL K H a (ns.map V.int) ∧ ns.length ≤ 63 ∧ ∀ H', Q (.bl true) H'
section
variable {P : Program} {w : World} {K : PySem.W.Frag} {mg : Str → Option Value} {base : Heap}
abbrev s_law : Stmt := topS 71
theorem sc_law : FnScope ["_law_script", "_law_box_here", "_law_rows_here", "_law_plan", "_law_groups_here", "_law_table", "_law_due", "_law_k", "_law_reached", "_law_inside", "_law_found", "_law_chosen", "_law_steps_here", "_law_right_here", "_law_at", "_law_whole", "_law_strange", "_law_odd", "_law_row"] ["_law_script"] (defScope s_law) := ⟨rfl, rfl, rfl, by decide +kernel, rfl, by decide +kernel, by decide +kernel⟩
def m_law  : DM Bool := fun Q X =>
  m_rows  (fun v1 =>
  mk_Plan v1.1 v1.2 (fun v2 =>
  m_lgroups v1 (fun v3 =>
  m_larrows v1 (fun v4 =>
  ∀ due5, due5 = (none : (Option PyData)) →
  forD (intsF 0 (((v3.2).length : Int)).toNat) due5 (fun x7 s6 nx bk =>
  m__law_spread v4 x7 (fun v9 =>
  ifD ((s6).isNone && (decide (((v9).length : Int) < ((v3.2).length : Int)))) (
  m__law_steps v3.2 v9 (fun v12 =>
  ∀ due15, due15 = (some (XDat.enc (r := (z2 yS (yL yS))) (("APART" : Str), (((v1.2).filter fun x13 => (decide (x13.1 ∈ v12))).map fun x13 => x13.1)))) →
  nx due15) noX) (
  nx s6)) noX) (fun s6 =>
  m_apart_paper v2 (fun v16 =>
  ifD (!xeq (XDat.enc (r := (yO yP)) v16) (XDat.enc (r := (yO yP)) s6)) (
  Q false) (
  m__law_sets v3.2 (fun v19 =>
  forD v19 false (fun x18 s17 nx bk =>
  m__law_steps v3.2 x18 (fun v21 =>
  m__law_right v4 v3.2 x18 (fun v22 =>
  ∀ found23, found23 = (s17 || v22) →
  drawD (((v21).length : Int) + (1 : Int)) (fun n25 =>
  ((cutX v21 (some n25) none)).length + ((cutX v21 none (some n25))).length ≤ big ∧
  ∀ steps27, steps27 = ((cutX v21 (some n25) none) ++ (cutX v21 none (some n25))) →
  m_judge_plan (JL [("APART", m_judge_apart)] []) v2 (XDat.enc (r := (z2 yS (yL yS))) (("APART" : Str), steps27)) (fun v28 =>
  orD (!decide (v28 = v22)) (fun k30 => m_judge_plan (JL [("APART", m_judge_apart)] []) v2 (XDat.enc (r := (z2 yS (yT yS))) (("APART" : Str), steps27)) (fun v31 =>
  k30 (!decide (v31 = v22))) noX) (fun c29 =>
  ifD c29 (
  Q false) (
  compD x18 [] (fun x32 k33 =>
  ∃ v37, atI steps27 (0 : Int) = some v37 ∧
  ∃ v38, atI v3.2 x32 = some v38 ∧
  andD (decide (v37 ∈ v38)) (fun k40 => ∃ v41, atI v3.2 x32 = some v41 ∧
  k40 (decide (((v41).length : Int) > (1 : Int)))) (fun c39 =>
  ifD c39 (k33 (some x32)) (k33 none))) (fun ys34 =>
  ∀ whole43, whole43 = (decide (ys34 = [])) →
  andD (!whole43) (fun k45 => m_judge_plan (JL [("APART", m_judge_apart)] []) v2 (XDat.enc (r := (z2 yS (yL yS))) (("APART" : Str), (cutX steps27 (some (1 : Int)) none))) (fun v46 =>
  k45 (!decide (v46 = false))) noX) (fun c44 =>
  ifD c44 (
  Q false) (
  ifD v22 (
  ((((v1.2).map fun x47 => x47.1)).map (·.length)).sum + (((v1.2).map fun x47 => x47.1)).length * (("" : Str)).length ≤ big ∧
  (("z" : Str)).length + ((Txt.join ("" : Str) ((v1.2).map fun x47 => x47.1))).length ≤ big ∧
  ∀ strange51, strange51 = (("z" : Str) ++ (Txt.join ("" : Str) ((v1.2).map fun x47 => x47.1))) →
  ∃ v54, atI steps27 (0 : Int) = some v54 ∧
  (steps27).length + ([v54]).length ≤ big ∧
  (steps27).length + ([strange51]).length ≤ big ∧
  ([strange51]).length + ((cutX steps27 (some (1 : Int)) none)).length ≤ big ∧
  forD ([(steps27 ++ [v54]), (steps27 ++ [strange51]), ([strange51] ++ (cutX steps27 (some (1 : Int)) none))]) () (fun x53 s52 nx bk =>
  m_judge_plan (JL [("APART", m_judge_apart)] []) v2 (XDat.enc (r := (z2 yS (yL yS))) (("APART" : Str), x53)) (fun v59 =>
  ifD (!decide (v59 = false)) (
  Q false) (
  nx ())) noX) (fun s52 =>
  nx found23)) (
  nx found23))))))) noX)) noX) noX) (fun s17 =>
  Q (s17 || (s6).isNone))) noX)) noX)) noX) noX) noX) noX
theorem ok_law {k : Nat} {cs : EK → Addr} {C : Addr} (B : Bl mg) (D__law_rows : Def P w K mg base CX0 (k + 1) "_law_rows" ["_law_box_here"] (spC (preB (preBW (fun _ : Unit => []) yRows (fun _ => m_rows))))) (D__law_groups : Def P w K mg base CX0 (k + 1) "_law_groups" ["_law_rows_here"] (spA (preW (erW cs) (fun d : List (Str × Int) × List SRow => [iz yRows d]) (zLp (yL (yL yS)) (yL (yL yS))) m_lgroups))) (D__law_arrows : Def P w K mg base CX0 (k + 1) "_law_arrows" ["_law_rows_here"] (spA (preW (erW cs) (fun d : List (Str × Int) × List SRow => [iz yRows d]) (yL (yL zI)) m_larrows))) (D__law_spread : Def P w K mg base CX0 (k + 1) "_law_spread" ["_law_table", "_law_start"] (spA (preW (erW cs) (fun x : (List (List Int)) × Int => [iz (yL (yL zI)) x.1, iz zI x.2]) (yL zI) (fun x => m__law_spread x.1 x.2)))) (D__law_steps : Def P w K mg base CX0 (k + 1) "_law_steps" ["_law_groups_here", "_law_chosen"] (spA (preW (erW cs) (fun x : (List (List Str)) × (List Int) => [iz (yL (yL yS)) x.1, iz (yL zI) x.2]) (yL yS) (fun x => m__law_steps x.1 x.2)))) (D_apart_paper : Def P w K mg base CX0 (k + 1) "apart_paper" ["plan"] (spA (preW (erW cs) (fun x : PlanD => [iz (zPlan C) x]) (yO yP) (fun x => m_apart_paper x)))) (D__law_sets : Def P w K mg base CX0 (k + 1) "_law_sets" ["_law_box_here", "_law_groups_here"] (spC (preB (preBW (fun x : (List (List Str)) => [iz (yL (yL yS)) x]) (yL (yL zI)) (fun x => m__law_sets x))))) (D__law_right : Def P w K mg base CX0 (k + 1) "_law_right" ["_law_table", "_law_groups_here", "_law_chosen"] (spA (preW (erW cs) (fun x : (List (List Int)) × (List (List Str)) × (List Int) => [iz (yL (yL zI)) x.1, iz (yL (yL yS)) x.2.1, iz (yL zI) x.2.2]) zB (fun x => m__law_right x.1 x.2.1 x.2.2)))) (D__law_next : Def P w K mg base CX0 (k + 1) "_law_next" ["_law_box_here", "_law_many"] spNext) (D_judge_plan : Def P w K mg base CX0 (k + 1) "judge_plan" ["plan", "paper"] (spJ cs C (m_judge_plan (JL [("APART", m_judge_apart)] [])))) (m_Plan : mg "Plan" = some (.ref C)) (DI_Plan : DefI P w K mg base (L2.CX P w) k C ["self", "places", "steps"] (spI C (preW (erW cs) (fun x : List (Str × Int) × List SRow => [iz yPR x.1, iz ySR x.2]) (zPlan C) (fun x => mk_Plan x.1 x.2)))) (D__law_box : Def P w K mg base CX0 (k + 1) "_law_box" ["_law_script"] (spBox K))
    {f : Addr} {fd : FuncData} (F : Fun K "law" "law" s_law f fd) (hm : m_law (· = true) noX) : FnOk P w K mg base CX0 (k + 2) f fd ["_law_script"] (spLaw K) := by
  refine F.ok sc_law (fun vs H Q E h => ?_) (fun cdv A outer s H vs Q E hr h => ?_)
  · obtain ⟨a, ns, rfl, _⟩ := h
    rfl
  obtain ⟨a, ns, rfl, hS, hlen, q⟩ := h
  refine ⟨_, (pss_cons (ps_asg (pe_def D__law_box hr pass0 (pa_cons (pv 0) pa_nil)) (pg_name (i := 1) sc_law.nd rfl (Or.inl rfl)))
 (pss_cons (ps_asg (pe_def D__law_rows hr pass0 (pa_cons (pv 1) pa_nil)) (pg_name (i := 2) sc_law.nd rfl (Or.inl rfl)))
 (pss_cons (ps_asg (pe_mkD DI_Plan m_Plan hr (fun σ => Passes.at passL σ) (pa_cons (pe_ix (kix_tup (K := K)) (pv 2) pe_int (fun _ _ => rfl)) (pa_cons (pe_ix (kix_tup (K := K)) (pv 2) pe_int (fun _ _ => rfl)) pa_nil))) (pg_name (i := 3) sc_law.nd rfl (Or.inl rfl)))
 (pss_cons (ps_asg (pe_ix (kix_list (K := K)) (pe_def D__law_groups hr pass0 (pa_cons (pv 2) pa_nil)) pe_int (fun _ _ => rfl)) (pg_name (i := 4) sc_law.nd rfl (Or.inr rfl)))
 (pss_cons (ps_asg (pe_def D__law_arrows hr pass0 (pa_cons (pv 2) pa_nil)) (pg_name (i := 5) sc_law.nd rfl (Or.inl rfl)))
 (pss_cons (ps_asg pe_non (pg_name (i := 6) sc_law.nd rfl (Or.inl rfl)))
 (pss_cons (ps_for PassesOwn.never rfl (pi_range1 (by rfl) B.range (pa_cons (pe_callB (kcall_len (K := K)) (by rfl) B.len PySem.boot_len (pa_cons (pv 4) pa_nil)) pa_nil)) (pg_name (i := 7) sc_law.nd rfl (Or.inl rfl)) (pss_cons (ps_asg (pe_def D__law_spread hr pass0 (pa_cons (pv 5) (pa_cons (pv 7) pa_nil))) (pg_name (i := 8) sc_law.nd rfl (Or.inl rfl)))
 (pss_one (ps_if (PW.pt (pw_and (pt_cmpR op_isN (pv 6) pe_non (nomark _)) (pw_and1 (pt_cmpR op_lt (pe_callB (kcall_len (K := K)) (by rfl) B.len PySem.boot_len (pa_cons (pv 8) pa_nil)) (pe_callB (kcall_len (K := K)) (by rfl) B.len PySem.boot_len (pa_cons (pv 4) pa_nil)) (nomark _))))) (pss_cons (ps_asg (pe_def D__law_steps hr pass0 (pa_cons (pv 4) (pa_cons (pv 8) pa_nil))) (pg_name (i := 9) sc_law.nd rfl (Or.inr rfl)))
 (pss_one (ps_asg (pe_tup (pa_cons pe_str (pa_cons (pe_lc (own := [("_law_row", 18)]) (g := gName 18) (by rfl) sc_law.nd (kpi_list (K := K) (pe_ix (kix_tup (K := K)) (pv 2) pe_int (fun _ _ => rfl))) (blkOk_by (N := ["_law_script", "_law_box_here", "_law_rows_here", "_law_plan", "_law_groups_here", "_law_table", "_law_due", "_law_k", "_law_reached", "_law_inside", "_law_found", "_law_chosen", "_law_steps_here", "_law_right_here", "_law_at", "_law_whole", "_law_strange", "_law_odd", "_law_row"]) (sc := defScope s_law) (by decide +kernel)) (fun _ _ _ _ _ => (pg_name (i := 18) sc_law.nd rfl (Or.inl rfl))) (fun _ _ _ _ _ => pts_one (pt_cmpR (kop_in (K := K)) (pe_ix (kix_tup (K := K)) (pv 18) pe_int (fun _ _ => rfl)) (pv 9) rfl)) (fun _ _ _ _ _ => (pe_ix (kix_tup (K := K)) (pv 18) pe_int (fun _ _ => rfl)))) pa_nil))) (pg_name (i := 6) sc_law.nd rfl (Or.inl rfl))))) pss_nil))))
 (pss_cons (ps_if (pt_cmpR (kop_neD (K := K) hr.units) (pe_def D_apart_paper hr pass0 (pa_cons (pv 3) pa_nil)) (pv 6) (nomark _)) (pss_one (ps_ret pe_bl)) pss_nil)
 (pss_cons (ps_asg pe_bl (pg_name (i := 10) sc_law.nd rfl (Or.inl rfl)))
 (pss_cons (ps_for PassesOwn.never rfl (kpi_list (K := K) (pe_def D__law_sets hr pass0 (pa_cons (pv 1) (pa_cons (pv 4) pa_nil)))) (pg_name (i := 11) sc_law.nd rfl (Or.inl rfl)) (pss_cons (ps_asg (pe_def D__law_steps hr pass0 (pa_cons (pv 4) (pa_cons (pv 11) pa_nil))) (pg_name (i := 12) sc_law.nd rfl (Or.inr rfl)))
 (pss_cons (ps_asg (pe_def D__law_right hr pass0 (pa_cons (pv 5) (pa_cons (pv 4) (pa_cons (pv 11) pa_nil)))) (pg_name (i := 13) sc_law.nd rfl (Or.inl rfl)))
 (pss_cons (ps_asg (pe_or (pv 10) (pe_one (pv 13))) (pg_name (i := 10) sc_law.nd rfl (Or.inl rfl)))
 (pss_cons (ps_asg (pe_def D__law_next hr pass0 (pa_cons (pv 1) (pa_cons (pe_op op_add (pe_callB (kcall_len (K := K)) (by rfl) B.len PySem.boot_len (pa_cons (pv 12) pa_nil)) pe_int) pa_nil))) (pg_name (i := 14) sc_law.nd rfl (Or.inl rfl)))
 (pss_cons (ps_asg (pe_op op_cat (pe_slice (ksl_list (K := K)) (pv 12) (po_some (pv 14)) po_none) (pe_slice (ksl_list (K := K)) (pv 12) po_none (po_some (pv 14)))) (pg_name (i := 12) sc_law.nd rfl (Or.inr rfl)))
 (pss_cons (ps_if (PW.pt (pw_or (pt_cmpR op_ne (pe_def D_judge_plan hr pass0 (pa_cons (pv 3) (pa_cons (pe_tup (pa_cons pe_str (pa_cons (pv 12) pa_nil))) pa_nil))) (pv 13) (nomark _)) (pw_or1 (pt_cmpR op_ne (pe_def D_judge_plan hr pass0 (pa_cons (pv 3) (pa_cons (pe_tup (pa_cons pe_str (pa_cons (pe_callTy (kcall_tuple (K := K)) (by rfl) B.tuple' (by decide +kernel) (pa_cons (pv 12) pa_nil)) pa_nil))) pa_nil))) (pv 13) (nomark _))))) (pss_one (ps_ret pe_bl)) pss_nil)
 (pss_cons (ps_asg (pe_cmpR (kop_eqD (K := K) hr.units) (pe_lc (own := [("_law_k", 7)]) (g := gName 7) (by rfl) sc_law.nd (kpi_list (K := K) (pv 11)) (blkOk_by (N := ["_law_script", "_law_box_here", "_law_rows_here", "_law_plan", "_law_groups_here", "_law_table", "_law_due", "_law_k", "_law_reached", "_law_inside", "_law_found", "_law_chosen", "_law_steps_here", "_law_right_here", "_law_at", "_law_whole", "_law_strange", "_law_odd", "_law_row"]) (sc := defScope s_law) (by decide +kernel)) (fun _ _ _ _ _ => (pg_name (i := 7) sc_law.nd rfl (Or.inl rfl))) (fun _ _ _ _ _ => pts_one (PW.pt (pw_and (pt_cmpR (kop_in (K := K)) (pe_ix (kix_list (K := K)) (pv 12) pe_int (fun _ _ => rfl)) (pe_ix (kix_list (K := K)) (pv 4) (pv 7) (fun _ _ => rfl)) rfl) (pw_and1 (pt_cmpR op_gt (pe_callB (kcall_len (K := K)) (by rfl) B.len PySem.boot_len (pa_cons (pe_ix (kix_list (K := K)) (pv 4) (pv 7) (fun _ _ => rfl)) pa_nil)) pe_int (nomark _)))))) (fun _ _ _ _ _ => (pv 7))) (pe_lst pa_nil) (nomark _)) (pg_name (i := 15) sc_law.nd rfl (Or.inl rfl)))
 (pss_cons (ps_if (PW.pt (pw_and (pt_not (pt_val (pv 15))) (pw_and1 (pt_cmpR op_isnot_bl (pe_def D_judge_plan hr pass0 (pa_cons (pv 3) (pa_cons (pe_tup (pa_cons pe_str (pa_cons (pe_slice (ksl_list (K := K)) (pv 12) (po_some pe_int) po_none) pa_nil))) pa_nil))) pe_bl (nomark _))))) (pss_one (ps_ret pe_bl)) pss_nil)
 (pss_one (ps_if (pt_val (pv 13)) (pss_cons (ps_asg (pe_op op_add_str pe_str (pe_bm PySem.F.plainAttrs_str PySem.F.slot_str_join PySem.F.type_str_join mt_join pe_str (pa_cons (pe_lc (own := [("_law_row", 18)]) (g := gName 18) (by rfl) sc_law.nd (kpi_list (K := K) (pe_ix (kix_tup (K := K)) (pv 2) pe_int (fun _ _ => rfl))) (blkOk_by (N := ["_law_script", "_law_box_here", "_law_rows_here", "_law_plan", "_law_groups_here", "_law_table", "_law_due", "_law_k", "_law_reached", "_law_inside", "_law_found", "_law_chosen", "_law_steps_here", "_law_right_here", "_law_at", "_law_whole", "_law_strange", "_law_odd", "_law_row"]) (sc := defScope s_law) (by decide +kernel)) (fun _ _ _ _ _ => (pg_name (i := 18) sc_law.nd rfl (Or.inl rfl))) (fun _ _ _ _ _ => pts_nil) (fun _ _ _ _ _ => (pe_ix (kix_tup (K := K)) (pv 18) pe_int (fun _ _ => rfl)))) pa_nil))) (pg_name (i := 16) sc_law.nd rfl (Or.inl rfl)))
 (pss_one (ps_for PassesOwn.never rfl (kpi_list (K := K) (pe_lst (pa_cons (pe_op op_cat (pv 12) (pe_lst (pa_cons (pe_ix (kix_list (K := K)) (pv 12) pe_int (fun _ _ => rfl)) pa_nil))) (pa_cons (pe_op op_cat (pv 12) (pe_lst (pa_cons (pv 16) pa_nil))) (pa_cons (pe_op op_cat (pe_lst (pa_cons (pv 16) pa_nil)) (pe_slice (ksl_list (K := K)) (pv 12) (po_some pe_int) po_none)) pa_nil))))) (pg_name (i := 17) sc_law.nd rfl (Or.inl rfl)) (pss_one (ps_if (pt_cmpR op_isnot_bl (pe_def D_judge_plan hr pass0 (pa_cons (pv 3) (pa_cons (pe_tup (pa_cons pe_str (pa_cons (pv 17) pa_nil))) pa_nil))) pe_bl (nomark _)) (pss_one (ps_ret pe_bl)) pss_nil))))) pss_nil)))))))))))
 (pss_one (ps_ret (pe_or (pv 10) (pe_one (pe_cmpR op_isN (pv 6) pe_non (nomark _)))))))))))))))), ?_⟩
  refine ⟨_, rfl, a, ns, rfl, hS, hlen, fun b l H1 nb1 s1 hb => ?_⟩
  have hret : ∀ {fr : L2.Fr} {Θ : List Cel} (c : Bool), c = true → Rt fr Θ Q (iz zB c) := fun {fr Θ} c hc v F' H' ok hv => by
    subst hc
    have hv : v = .bl true := hv
    subst hv
    exact q H'
  refine go_name ?_
  refine enter1 hb (EnvF.set (i := 1) (p := zAt b) (env_start (ps := [zAt a]) (.cons rfl .nil)) rfl) fun fr => ?_
  have h := hm
  unfold m_law at h
  refine kn_seq (kn_asg (i := 2) (we_callE (wa_cons (we_var rfl (wa_nil ?_)))))
  refine sps_BW (j := 0) rfl () h (fun v1 h => ?_)
  try dsimp only
  refine kn_seq (kn_asg (i := 3) (we_mkP (wa_cons (we_op (we_var rfl (we_cI (ops_ix20 (wa_cons (we_op (we_var rfl (we_cI (ops_ix21 (wa_nil ?_)))))))))))))
  refine mkW0 (v1.1, v1.2) h (fun v2 h => ?_)
  try dsimp only
  refine kn_seq (kn_asg (i := 4) (we_op (we_callE (wa_cons (we_var rfl (wa_nil ?_))))))
  refine sps_W0 v1 h (fun v3 h => ?_)
  refine we_cI (oy_ixLp1 ?_)
  try dsimp only
  refine kn_seq (kn_asg (i := 5) (we_callE (wa_cons (we_var rfl (wa_nil ?_)))))
  refine sps_W0 v1 h (fun v4 h => ?_)
  try dsimp only
  refine kn_seq (kn_asgL (i := 6) (r := (yO yP)) (We.conv (we_cNy (⟨_, (le_On (r := yP)), ⟨_, rfl, fun due5 edue5 => ?_⟩⟩))))
  have h := h due5 edue5
  try dsimp only
  refine kn_seq (kn_forW (r := zI) (S := (Option PyData)) (fun s6 => [none, some (zAt b), some (iz (z2 (yL (z2 yS zI)) (yL (z3 yS (yL yS) (yL yS)))) v1), some (iz (zPlan C) v2), some (iz (yL (yL yS)) v3.2), some (iz (yL (yL zI)) v4), some (iz (yO yP) s6), none, none, none, none, none, none, none, none, none, none, none, none]) (fun s6 => [cBox true b l]) due5 (wi_range (wa_cons (we_cb (wa_cons (we_var rfl (wa_nil (cy_len sy_L (fun e8 => (wa_nil (⟨_, rfl, (by have hb : big = 100000 := rfl; omega), (by have hb : big = 100000 := rfl; omega), ⟨_, _, _, _, _, rfl, rfl, (by and_intros), fun _ _ => tg_name, h, fun fr' le x7 s6 nx M hnx hbk h => ?_, fun s6 h => ?_⟩⟩)))))))))))
  · refine kn_seq (kn_asg (i := 8) (we_callE (wa_cons (we_var rfl (wa_cons (we_var rfl (wa_nil ?_)))))))
    refine sps_W0 (v4, x7) h (fun v9 h => ?_)
    try dsimp only
    refine kn_if (wt_andP (wt_test (we_op (we_var rfl (we_cNy (oy_isO (⟨_, rfl, ⟨_, fun _ => wt_test (we_op (we_cb (wa_cons (we_var rfl (wa_nil (cy_len sy_L (fun e10 => (we_cb (wa_cons (we_var rfl (wa_nil (cy_len sy_L (fun e11 => (ops_B0 (⟨_, rfl, ⟨rfl, rfl⟩⟩))))))))))))))), ⟨fun hc => ?_, fun hc => ?_⟩⟩⟩)))))))
    · have h := h.1 hc
      refine kn_seq (kn_asg (i := 9) (we_callE (wa_cons (we_var rfl (wa_cons (we_var rfl (wa_nil ?_)))))))
      refine sps_W0 (v3.2, v9) h (fun v12 h => ?_)
      try dsimp only
      refine kn_asgL (i := 6) (r := (yO yP)) (We.conv (we_tup (wa_cons (we_cSy (z := "APART") (asc_of (by decide)) (by decide) (wa_cons (we_lcP (r := (z3 yS (yL yS) (yL yS))) (s := yS) (wi_yL (we_op (we_var rfl (we_cI (ops_ix21 (⟨_, _, _, rfl, fun e14 => ⟨_, fun x13 => (decide (x13.1 ∈ v12)), fun x13 => x13.1, _, rfl, rfl, e14, fun x13 => tg_name, fun x13 c => wt_test (we_op (we_op (we_var rfl (we_cI (ops_ix30 (we_var rfl (oy_inS sy_L (⟨_, rfl, ⟨rfl, rfl⟩⟩)))))))), fun x13 c => we_op (we_var rfl (we_cI (ops_ix30 (⟨rfl, rfl⟩)))), wa_nil (⟨Nat.le_of_ble_eq_true rfl, iz (z2 yS (yL yS)) (("APART" : Str), (((v1.2).filter fun x13 => (decide (x13.1 ∈ v12))).map fun x13 => x13.1)), tr2, ⟨_, (show Vp.Le (iz (z2 yS (yL yS)) (("APART" : Str), (((v1.2).filter fun x13 => (decide (x13.1 ∈ v12))).map fun x13 => x13.1))) (iz (yO yP) (some (XDat.enc (r := (z2 yS (yL yS))) (("APART" : Str), (((v1.2).filter fun x13 => (decide (x13.1 ∈ v12))).map fun x13 => x13.1))))) from fun F v h => ((le_P (r := (z2 yS (yL yS)))) : Vp.Le (iz (z2 yS (yL yS)) _) (iz yP _)) F v h), ⟨_, rfl, fun due15 edue15 => ?_⟩⟩⟩)⟩⟩))))))))))))
      have h := h due15 edue15
      exact hnx due15 _ _ h (by and_intros) rfl
    · have h := h.2 hc
      refine kn_next ?_
      exact hnx s6 _ _ h (by and_intros) rfl
  try dsimp only
  refine kn_seq (kn_if (wt_test (we_op (we_callE (wa_cons (we_var rfl (wa_nil ?_)))))))
  refine sps_W0 v2 h (fun v16 h => ?_)
  refine we_var rfl (oy_neX (r := (yO yP)) (by decide) (⟨_, rfl, ⟨fun hc => ?_, fun hc => ?_⟩⟩))
  · have h := h.1 hc
    refine kn_ret (we_cB ?_)
    exact hret _ h
  · have h := h.2 hc
    refine kn_next ?_
    try dsimp only
    refine kn_seq (kn_asg (i := 10) (we_cB ?_))
    try dsimp only
    refine kn_seq (kn_forW (r := (yL zI)) (S := Bool) (fun s17 => [none, some (zAt b), some (iz (z2 (yL (z2 yS zI)) (yL (z3 yS (yL yS) (yL yS)))) v1), some (iz (zPlan C) v2), some (iz (yL (yL yS)) v3.2), some (iz (yL (yL zI)) v4), some (iz (yO yP) s6), none, none, none, some (iz zB s17), none, none, none, none, none, none, none, none]) (fun s17 => [cBox true b l]) false (wi_yL (we_callE (wa_cons (we_var rfl (wa_cons (we_var rfl (wa_nil ?_))))))))
    refine sps_BW (j := 0) rfl v3.2 h (fun v19 h => ?_)
    refine ⟨_, _, _, rfl, fun e20 => ⟨_, _, _, _, _, rfl, rfl, (by and_intros), fun _ _ => tg_name, h, fun fr' le x18 s17 nx M hnx hbk h => ?_, fun s17 h => ?_⟩⟩
    · refine kn_seq (kn_asg (i := 12) (we_callE (wa_cons (we_var rfl (wa_cons (we_var rfl (wa_nil ?_)))))))
      refine sps_W0 (v3.2, x18) h (fun v21 h => ?_)
      try dsimp only
      refine kn_seq (kn_asg (i := 13) (we_callE (wa_cons (we_var rfl (wa_cons (we_var rfl (wa_cons (we_var rfl (wa_nil ?_)))))))))
      refine sps_W0 (v4, v3.2, x18) h (fun v22 h => ?_)
      try dsimp only
      refine kn_seq (kn_asgL (i := 10) (r := zB) (we_orP (we_var rfl (⟨_, _, rfl, fun _ => we_var rfl (⟨rfl, rfl⟩), ⟨_, rfl, fun found23 efound23 => ?_⟩⟩))))
      have h := h found23 efound23
      try dsimp only
      refine kn_seq (kn_asg (i := 14) (we_callE (wa_cons (we_var rfl (wa_cons (we_op (we_cb (wa_cons (we_var rfl (wa_nil (cy_len sy_L (fun e24 => (we_cI (ops_I0 (wa_nil ?_)))))))))))))))
      refine sps_draw (j := 0) rfl h (fun n25 h => ?_)
      try dsimp only
      refine kn_seq (kn_asgL (i := 12) (r := (yL yS)) (we_op (we_sl (we_var rfl (wo_some (we_var rfl (⟨_, rfl, wo_none (sy_slL (we_sl (we_var rfl (wo_none (wo_some (we_var rfl (⟨_, rfl, sy_slL ?_⟩)))))))⟩)))))))
      obtain ⟨g26, h⟩ := h
      refine oy_cat g26 (⟨_, rfl, fun steps27 esteps27 => ?_⟩)
      have h := h steps27 esteps27
      try dsimp only
      refine kn_seq (kn_if (wt_orC (wt_test (we_op (we_callE (wa_cons (we_var rfl (wa_cons (We.conv (we_tup (wa_cons (we_cSy (z := "APART") (asc_of (by decide)) (by decide) (wa_cons (we_var rfl (wa_nil (⟨Nat.le_of_ble_eq_true rfl, iz (z2 yS (yL yS)) (("APART" : Str), steps27), tr2, ⟨_, (le_P (r := (z2 yS (yL yS)))), wa_nil ?_⟩⟩))))))))))))))))
      refine sps_W0 (v2, (XDat.enc (r := (z2 yS (yL yS))) (("APART" : Str), steps27))) h (fun v28 h => ?_)
      refine we_var rfl (ops_neB (⟨_, rfl, ?_⟩))
      refine orK h (fun h => ?_) (fun c29 h => ?_)
      · refine wt_test (we_op (we_callE (wa_cons (we_var rfl (wa_cons (We.conv (we_tup (wa_cons (we_cSy (z := "APART") (asc_of (by decide)) (by decide) (wa_cons (we_cb (wa_cons (we_var rfl (wa_nil (cy_tupleL (wa_nil (⟨Nat.le_of_ble_eq_true rfl, iz (z2 yS (yT yS)) (("APART" : Str), steps27), tr2, ⟨_, (le_P (r := (z2 yS (yT yS)))), wa_nil ?_⟩⟩)))))))))))))))))
        refine sps_W0 (v2, (XDat.enc (r := (z2 yS (yT yS))) (("APART" : Str), steps27))) h (fun v31 h => ?_)
        refine we_var rfl (ops_neB (⟨_, rfl, ?_⟩))
        exact ⟨rfl, h⟩
      refine ⟨fun hc => ?_, fun hc => ?_⟩
      · have h := h.1 hc
        refine kn_ret (we_cB ?_)
        exact hret _ h
      · have h := h.2 hc
        refine kn_next ?_
        try dsimp only
        refine kn_seq (kn_asgL (i := 15) (r := zB) (we_op (we_lcW (r := zI) (s := zI) (wi_yL (we_var rfl (⟨_, _, _, rfl, fun e35 => ⟨_, _, _, _, rfl, rfl, e35, fun _ => tg_name, h, fun x32 c k33 h => ?_, fun ys34 h eys34 => ?_⟩⟩))))))
        · refine wt_andC (wt_test (we_op (we_op (we_var rfl (we_cI ?_)))))
          obtain ⟨v37, ev37, h⟩ := h
          refine oy_ixL ev37 (we_op (we_var rfl (we_var rfl ?_)))
          obtain ⟨v38, ev38, h⟩ := h
          refine oy_ixL ev38 (oy_inS sy_L (⟨_, rfl, ?_⟩))
          refine andK h (fun h => ?_) (fun c39 h => ?_)
          · refine wt_test (we_op (we_cb (wa_cons (we_op (we_var rfl (we_var rfl ?_))))))
            obtain ⟨v41, ev41, h⟩ := h
            refine oy_ixL ev41 (wa_nil (cy_len sy_L (fun e42 => (we_cI (ops_B0 (⟨_, rfl, ?_⟩))))))
            exact ⟨rfl, h⟩
          refine ⟨fun hc => ?_, fun hc => ⟨rfl, h.2 hc⟩⟩
          have h := h.1 hc
          refine we_var rfl ?_
          exact ⟨rfl, _, rfl, h⟩
        refine we_lstY (r := zI) (wa_nil (⟨[], rfl, Nat.le_of_ble_eq_true rfl, ops_eqD (r := (yL zI)) (by decide) (⟨_, rfl, fun whole43 ewhole43 => ?_⟩)⟩))
        have h := h whole43 ewhole43
        try dsimp only
        refine kn_seq (kn_if (wt_andC (wt_not (wt_b (we_var rfl (⟨_, rfl, ?_⟩))))))
        refine andK h (fun h => ?_) (fun c44 h => ?_)
        · refine wt_test (we_op (we_callE (wa_cons (we_var rfl (wa_cons (We.conv (we_tup (wa_cons (we_cSy (z := "APART") (asc_of (by decide)) (by decide) (wa_cons (we_sl (we_var rfl (wo_some (we_cI (⟨_, rfl, wo_none (sy_slL (wa_nil (⟨Nat.le_of_ble_eq_true rfl, iz (z2 yS (yL yS)) (("APART" : Str), (cutX steps27 (some (1 : Int)) none)), tr2, ⟨_, (le_P (r := (z2 yS (yL yS)))), wa_nil ?_⟩⟩)))⟩)))))))))))))))
          refine sps_W0 (v2, (XDat.enc (r := (z2 yS (yL yS))) (("APART" : Str), (cutX steps27 (some (1 : Int)) none)))) h (fun v46 h => ?_)
          refine we_cB (oy_notB (⟨_, rfl, ?_⟩))
          exact ⟨rfl, h⟩
        refine ⟨fun hc => ?_, fun hc => ?_⟩
        · have h := h.1 hc
          refine kn_ret (we_cB ?_)
          exact hret _ h
        · have h := h.2 hc
          refine kn_next ?_
          try dsimp only
          refine kn_if (wt_b (we_var rfl (⟨_, rfl, ⟨fun hc => ?_, fun hc => ?_⟩⟩)))
          · have h := h.1 hc
            refine kn_seq (kn_asgL (i := 16) (r := yS) (we_op (we_cSy (z := "z") (asc_of (by decide)) (by decide) (we_bm (we_cSy (z := "") (asc_of (by decide)) (by decide) (⟨tyl_yS, wa_cons (we_lcM0 (r := (z3 yS (yL yS) (yL yS))) (s := yS) (wi_yL (we_op (we_var rfl (we_cI (ops_ix21 (⟨_, _, _, rfl, fun e48 => ⟨_, fun x47 => x47.1, _, rfl, rfl, e48, fun x47 => tg_name, fun x47 c => we_op (we_var rfl (we_cI (ops_ix30 (⟨rfl, rfl⟩)))), wa_nil ?_⟩⟩)))))))⟩))))))
            obtain ⟨g49, h⟩ := h
            refine my_join g49 ?_
            obtain ⟨g50, h⟩ := h
            refine oy_addS g50 (⟨_, rfl, fun strange51 estrange51 => ?_⟩)
            have h := h strange51 estrange51
            try dsimp only
            refine kn_forW (r := (yL yS)) (S := Unit) (fun s52 => [none, some (zAt b), some (iz (z2 (yL (z2 yS zI)) (yL (z3 yS (yL yS) (yL yS)))) v1), some (iz (zPlan C) v2), some (iz (yL (yL yS)) v3.2), some (iz (yL (yL zI)) v4), some (iz (yO yP) s6), none, none, none, some (iz zB found23), some (iz (yL zI) x18), some (iz (yL yS) steps27), some (iz zB v22), some (iz zI n25), some (iz zB whole43), some (iz yS strange51), none, none]) (fun s52 => [cBox true b l]) () (wi_yL (we_lstY (r := (yL yS)) (wa_cons (we_op (we_var rfl (we_lstY (r := yS) (wa_cons (we_op (we_var rfl (we_cI ?_))))))))))
            obtain ⟨v54, ev54, h⟩ := h
            refine oy_ixL ev54 (wa_nil (⟨[v54], rfl, Nat.le_of_ble_eq_true rfl, ?_⟩))
            obtain ⟨g55, h⟩ := h
            refine oy_cat g55 (wa_cons (we_op (we_var rfl (we_lstY (r := yS) (wa_cons (we_var rfl (wa_nil (⟨[strange51], rfl, Nat.le_of_ble_eq_true rfl, ?_⟩))))))))
            obtain ⟨g56, h⟩ := h
            refine oy_cat g56 (wa_cons (we_op (we_lstY (r := yS) (wa_cons (we_var rfl (wa_nil (⟨[strange51], rfl, Nat.le_of_ble_eq_true rfl, we_sl (we_var rfl (wo_some (we_cI (⟨_, rfl, wo_none (sy_slL ?_)⟩))))⟩)))))))
            obtain ⟨g57, h⟩ := h
            refine oy_cat g57 (wa_nil (⟨[(steps27 ++ [v54]), (steps27 ++ [strange51]), ([strange51] ++ (cutX steps27 (some (1 : Int)) none))], rfl, Nat.le_of_ble_eq_true rfl, ⟨_, _, _, rfl, fun e58 => ⟨_, _, _, _, _, rfl, rfl, (by and_intros), fun _ _ => tg_name, h, fun fr' le x53 s52 nx M hnx hbk h => ?_, fun s52 h => ?_⟩⟩⟩))
            · refine kn_if (wt_test (we_op (we_callE (wa_cons (we_var rfl (wa_cons (We.conv (we_tup (wa_cons (we_cSy (z := "APART") (asc_of (by decide)) (by decide) (wa_cons (we_var rfl (wa_nil (⟨Nat.le_of_ble_eq_true rfl, iz (z2 yS (yL yS)) (("APART" : Str), x53), tr2, ⟨_, (le_P (r := (z2 yS (yL yS)))), wa_nil ?_⟩⟩))))))))))))))
              refine sps_W0 (v2, (XDat.enc (r := (z2 yS (yL yS))) (("APART" : Str), x53))) h (fun v59 h => ?_)
              refine we_cB (oy_notB (⟨_, rfl, ⟨fun hc => ?_, fun hc => ?_⟩⟩))
              · have h := h.1 hc
                refine kn_ret (we_cB ?_)
                exact hret _ h
              · have h := h.2 hc
                refine kn_next ?_
                exact hnx () _ _ h (by and_intros) rfl
            exact hnx found23 _ _ h (by and_intros) rfl
          · have h := h.2 hc
            refine kn_next ?_
            exact hnx found23 _ _ h (by and_intros) rfl
    try dsimp only
    refine kn_ret (we_orP (we_var rfl (⟨_, _, rfl, fun _ => we_op (we_var rfl (we_cNy (oy_isO (⟨rfl, rfl⟩)))), ?_⟩)))
    exact hret _ h
end
theorem sub_of_len {a t : List Str} (ht : t.Nodup) (h : ∀ w ∈ t, w ∈ a) (hl : a.length = t.length) : ∀ w ∈ a, w ∈ t := fun w hw => Decidable.byContradiction fun hn => by
  have h1 := List.Nodup.length_le_of_subset (nodup_snoc ht hn) (l₂ := a) (fun y hy => by
    rcases List.mem_append.mp hy with h' | h'
    · exact h y h'
    · rw [List.mem_singleton.mp h']
      exact hw)
  rw [List.length_append] at h1
  have : t.length + 1 ≤ a.length := h1
  omega
theorem inOrd_congr {ps a t : List Str} (h : ∀ y ∈ ps, (y ∈ a ↔ y ∈ t)) : inOrd ps a = inOrd ps t := by
  unfold inOrd
  exact List.filter_congr fun y hy => by rw [decide_eq_decide]; exact h y hy
theorem mem_inOrd {ps a : List Str} {y : Str} : y ∈ inOrd ps a ↔ y ∈ ps ∧ y ∈ a := by
  unfold inOrd
  rw [List.mem_filter, decide_eq_true_iff]
theorem sameS_iff {ps a t : List Str} (ha : a.Nodup) (ha2 : ∀ y ∈ a, y ∈ ps) (ht : t.Nodup) (ht2 : ∀ y ∈ t, y ∈ ps) : sameS a t = true ↔ inOrd ps a = inOrd ps t := by
  unfold sameS
  rw [decide_eq_true_iff]
  refine ⟨fun ⟨h1, h2⟩ => inOrd_congr fun y _ => ⟨sub_of_len ht h2 h1 y, h2 y⟩, fun h => ?_⟩
  have h1 : ∀ w ∈ t, w ∈ a := fun w hw => (mem_inOrd.mp (by rw [h]; exact mem_inOrd.mpr ⟨ht2 w hw, hw⟩ : w ∈ inOrd ps a)).2
  have h2 : ∀ w ∈ a, w ∈ t := fun w hw => (mem_inOrd.mp (by rw [← h]; exact mem_inOrd.mpr ⟨ha2 w hw, hw⟩ : w ∈ inOrd ps t)).2
  exact ⟨Nat.le_antisymm (List.Nodup.length_le_of_subset ha h2) (List.Nodup.length_le_of_subset ht h1), h1⟩
def ordG (ps : List Str) (x : LG) : LG := (inOrd ps x.1, x.2)
structure KeysOk (ps : List Str) (gs : List LG) : Prop where
  sub : ∀ x ∈ gs, x.1.Nodup ∧ ∀ y ∈ x.1, y ∈ ps
  nd : (gs.map fun x => inOrd ps x.1).Nodup
theorem addS_step {ps : List Str} {gs : List LG} {t : List Str} {n : Str} (hk : KeysOk ps gs) (ht : t.Nodup) (ht2 : ∀ y ∈ t, y ∈ ps) : addG (gs.map (ordG ps)) (inOrd ps t) n = (addS gs t n).map (ordG ps) ∧ KeysOk ps (addS gs t n) := by
  have hin : inOrd ps t ∈ (gs.map (ordG ps)).map (·.1) ↔ ∃ j, j < gs.length ∧ sameS (gAt gs j).1 t = true := by
    rw [List.map_map]
    constructor
    · intro h
      obtain ⟨x, hx, e⟩ := List.mem_map.mp h
      obtain ⟨j, hj, rfl⟩ := List.getElem_of_mem hx
      refine ⟨j, hj, ?_⟩
      rw [gAt_get hj]
      obtain ⟨k1, k2⟩ := hk.sub _ hx
      exact (sameS_iff k1 k2 ht ht2).mpr e
    · rintro ⟨j, hj, h⟩
      rw [gAt_get hj] at h
      obtain ⟨k1, k2⟩ := hk.sub _ (List.getElem_mem hj)
      exact List.mem_map.mpr ⟨gs[j], List.getElem_mem hj, (sameS_iff k1 k2 ht ht2).mp h⟩
  unfold addS
  generalize hF : (List.range gs.length).filter (fun i => sameS (gAt gs i).1 t) = FF
  cases FF with
  | nil =>
    have hno : ¬ ∃ j, j < gs.length ∧ sameS (gAt gs j).1 t = true := fun ⟨j, hj, h⟩ => by
      have : j ∈ (List.range gs.length).filter (fun i => sameS (gAt gs i).1 t) := List.mem_filter.mpr ⟨List.mem_range.mpr hj, h⟩
      rw [hF] at this
      cases this
    have hn2 : inOrd ps t ∉ (gs.map (ordG ps)).map (·.1) := fun h => hno (hin.mp h)
    refine ⟨?_, ⟨fun x hx => ?_, ?_⟩⟩
    · unfold addG
      rw [if_neg hn2, List.map_append]
      rfl
    · rcases List.mem_append.mp hx with h | h
      · exact hk.sub x h
      · rw [List.mem_singleton.mp h]
        exact ⟨ht, ht2⟩
    · rw [List.map_append]
      refine nodup_snoc hk.nd ?_
      rw [List.map_map] at hn2
      exact hn2
  | cons j rest =>
    have hjm : j ∈ (List.range gs.length).filter (fun i => sameS (gAt gs i).1 t) := by rw [hF]; exact List.mem_cons_self ..
    obtain ⟨hj1, hj2⟩ := List.mem_filter.mp hjm
    have hj : j < gs.length := List.mem_range.mp hj1
    have hyes : inOrd ps t ∈ (gs.map (ordG ps)).map (·.1) := hin.mpr ⟨j, hj, hj2⟩
    show addG (gs.map (ordG ps)) (inOrd ps t) n = (gs.set j ((gAt gs j).1, (gAt gs j).2 ++ [n])).map (ordG ps) ∧ KeysOk ps (gs.set j ((gAt gs j).1, (gAt gs j).2 ++ [n]))
    rw [gAt_get hj] at hj2 ⊢
    obtain ⟨k1, k2⟩ := hk.sub _ (List.getElem_mem hj)
    have hkey := (sameS_iff k1 k2 ht ht2).mp hj2
    refine ⟨?_, ⟨fun x hx => ?_, ?_⟩⟩
    · unfold addG
      rw [if_pos hyes]
      refine List.ext_getElem (by simp) fun i h1 h2 => ?_
      have hi : i < gs.length := by simpa using h1
      rw [List.getElem_map, List.getElem_map, List.getElem_map, List.getElem_set]
      by_cases e : j = i
      · subst e
        have hk' : (ordG ps gs[j]).1 = inOrd ps t := hkey
        rw [if_pos rfl, if_pos hk']
        rfl
      · have hne : ¬ (ordG ps gs[i]).1 = inOrd ps t := fun q => by
          have q2 : inOrd ps gs[i].1 = inOrd ps gs[j].1 := q.trans hkey.symm
          have hnd := hk.nd
          have := (List.getElem_inj hnd (i := i) (j := j) (h₀ := by rw [List.length_map]; exact hi) (h₁ := by rw [List.length_map]; exact hj)).mp (by rw [List.getElem_map, List.getElem_map]; exact q2)
          exact e this.symm
        rw [if_neg e, if_neg hne]
    · rcases List.mem_or_eq_of_mem_set hx with h | h
      · exact hk.sub x h
      · rw [h]
        exact ⟨k1, k2⟩
    · have : (gs.set j (gs[j].1, gs[j].2 ++ [n])).map (fun x => inOrd ps x.1) = gs.map fun x => inOrd ps x.1 := by
        refine List.ext_getElem (by simp) fun i h1 h2 => ?_
        rw [List.getElem_map, List.getElem_map, List.getElem_set]
        split
        · rename_i e
          subst e
          rfl
        · rfl
      rw [this]
      exact hk.nd
theorem fold_choices {ps : List Str} : ∀ {srs : List SRow} {gs : List LG}, KeysOk ps gs → (∀ r ∈ srs, r.2.1.Nodup ∧ ∀ y ∈ r.2.1, y ∈ ps) →
    (srs.map (ordRow ps)).foldl (fun gs s => addG gs s.2.1 s.1) (gs.map (ordG ps)) = (srs.foldl (fun gs r => addS gs r.2.1 r.1) gs).map (ordG ps) ∧ KeysOk ps (srs.foldl (fun gs r => addS gs r.2.1 r.1) gs)
  | [], gs, hk, _ => ⟨rfl, hk⟩
  | r :: srs, gs, hk, h => by
    obtain ⟨h1, h2⟩ := h r (List.mem_cons_self ..)
    obtain ⟨e, hk2⟩ := addS_step (n := r.1) hk h1 h2
    rw [List.map_cons, List.foldl_cons, List.foldl_cons]
    have : addG (gs.map (ordG ps)) (ordRow ps r).2.1 (ordRow ps r).1 = (addS gs r.2.1 r.1).map (ordG ps) := e
    rw [this]
    exact fold_choices hk2 fun r hr => h r (List.mem_cons_of_mem _ hr)
theorem groups_choices {ps : List Str} {srs : List SRow} (h : ∀ r ∈ srs, r.2.1.Nodup ∧ ∀ y ∈ r.2.1, y ∈ ps) : choiceT (srs.map (ordRow ps)) = (groupsR srs).map (ordG ps) ∧ KeysOk ps (groupsR srs) :=
  fold_choices (gs := []) ⟨by simp, by simp⟩ h
def GInv (ss : List SRow) (gs : List LG) : Prop := (∀ x ∈ gs, x.2 = (ss.filter fun s => decide (s.2.1 = x.1)).map (·.1)) ∧ ∀ s ∈ ss, s.2.1 ∈ gs.map (·.1)
theorem filt_snoc (ss : List SRow) (s : SRow) (k : List Str) : ((ss ++ [s]).filter fun s => decide (s.2.1 = k)).map (·.1) = (ss.filter fun s => decide (s.2.1 = k)).map (·.1) ++ if s.2.1 = k then [s.1] else [] := by
  rw [List.filter_append, List.map_append, List.filter_cons, List.filter_nil]
  by_cases e : s.2.1 = k
  · rw [if_pos e, if_pos (decide_eq_true e)]
    rfl
  · rw [if_neg e, if_neg (by rw [decide_eq_false e]; exact Bool.false_ne_true)]
    rfl
theorem GInv.step {ss : List SRow} {gs : List LG} {s : SRow} (h : GInv ss gs) : GInv (ss ++ [s]) (addG gs s.2.1 s.1) := by
  obtain ⟨h1, h2⟩ := h
  unfold addG
  by_cases hin : s.2.1 ∈ gs.map (·.1)
  · rw [if_pos hin]
    refine ⟨fun x hx => ?_, fun r hr => ?_⟩
    · obtain ⟨y, hy, rfl⟩ := List.mem_map.mp hx
      by_cases e : y.1 = s.2.1
      · rw [if_pos e, filt_snoc, if_pos e.symm, ← h1 y hy]
      · rw [if_neg e, filt_snoc, if_neg (Ne.symm e), List.append_nil]
        exact h1 y hy
    · have hk : (gs.map fun x => if x.1 = s.2.1 then ((x.1, x.2 ++ [s.1]) : LG) else x).map (·.1) = gs.map (·.1) := by
        rw [List.map_map]
        refine List.map_congr_left fun y _ => ?_
        show (if y.1 = s.2.1 then ((y.1, y.2 ++ [s.1]) : LG) else y).1 = y.1
        split <;> rfl
      rw [hk]
      rcases List.mem_append.mp hr with h | h
      · exact h2 r h
      · rw [List.mem_singleton.mp h]
        exact hin
  · rw [if_neg hin]
    have hnil : (ss.filter fun r => decide (r.2.1 = s.2.1)) = [] := List.filter_eq_nil_iff.mpr fun r hr hq => hin (by rw [← of_decide_eq_true hq]; exact h2 r hr)
    refine ⟨fun x hx => ?_, fun r hr => ?_⟩
    · rcases List.mem_append.mp hx with h | h
      · have hne : x.1 ≠ s.2.1 := fun e => hin (by rw [← e]; exact List.mem_map.mpr ⟨x, h, rfl⟩)
        rw [filt_snoc, if_neg (Ne.symm hne), List.append_nil]
        exact h1 x h
      · rw [List.mem_singleton.mp h, filt_snoc, if_pos rfl, hnil]
        rfl
    · rw [List.map_append]
      rcases List.mem_append.mp hr with h | h
      · exact List.mem_append_left _ (h2 r h)
      · rw [List.mem_singleton.mp h]
        exact List.mem_append_right _ (List.mem_singleton.mpr rfl)
theorem fold_ginv : ∀ {ss pre : List SRow} {gs : List LG}, GInv pre gs → GInv (pre ++ ss) (ss.foldl (fun gs s => addG gs s.2.1 s.1) gs)
  | [], pre, gs, h => by rw [List.append_nil]; exact h
  | s :: ss, pre, gs, h => by
    have := fold_ginv (ss := ss) (h.step (s := s))
    rw [List.append_assoc] at this
    exact this
theorem choice_ginv (ss : List SRow) : GInv ss (choiceT ss) := fold_ginv (pre := []) (gs := []) ⟨(fun x h => by cases h), (fun s h => by cases h)⟩
section
variable {prs : List (Str × Int)} {srs : List SRow}
theorem flat_len_le {α β : Type} {f : α → List β} {l : List α} {m n : Nat} (h : ∀ x ∈ l, (f x).length ≤ m) (hl : l.length ≤ n) : (l.flatMap f).length ≤ n * m := Nat.le_trans (flat_le h) (Nat.mul_le_mul_right m hl)
end
section
def TbOk (T : List (List Int)) : Prop := ∀ r ∈ T, r.Nodup ∧ ∀ x ∈ r, ∃ j : Nat, x = (j : Int) ∧ j < T.length
def Sx (T : List (List Int)) (u v : Nat) : Prop := (v : Int) ∈ T.getD u []
def RK (T : List (List Int)) (s : Nat) : Nat → Nat → Prop
  | 0, v => v = s
  | k + 1, v => RK T s k v ∨ ∃ u, RK T s k u ∧ Sx T u v
variable {T : List (List Int)} {s : Nat}
theorem Sx.lt (hT : TbOk T) {u v : Nat} (h : Sx T u v) : v < T.length := by
  unfold Sx at h
  by_cases hu : u < T.length
  · rw [List.getD_eq_getElem?_getD, List.getElem?_eq_getElem hu] at h
    obtain ⟨j, e, hj⟩ := (hT _ (List.getElem_mem hu)).2 _ h
    omega
  · rw [List.getD_eq_getElem?_getD, List.getElem?_eq_none (by omega)] at h
    cases h
theorem RK.lt (hT : TbOk T) (hs : s < T.length) : ∀ {k v : Nat}, RK T s k v → v < T.length
  | 0, v, h => by
    have h : v = s := h
    rw [h]
    exact hs
  | k + 1, v, h => by
    rcases h with h | ⟨u, _, h⟩
    · exact RK.lt hT hs h
    · exact h.lt hT
theorem RK.up {k v : Nat} (h : RK T s k v) : ∀ {m : Nat}, k ≤ m → RK T s m v
  | 0, e => by
    have : k = 0 := by omega
    subst this
    exact h
  | m + 1, e => by
    by_cases q : k = m + 1
    · subst q
      exact h
    · exact .inl (h.up (by omega))
/-- far tells the distances from s -/
def DistOk (T : List (List Int)) (s : Nat) (far : List Int) : Prop := far.length = T.length ∧ ∀ v, v < T.length → -1 ≤ far.getD v 0 ∧ ∀ k : Nat, RK T s k v ↔ 0 ≤ far.getD v 0 ∧ far.getD v 0 ≤ k
structure BI (T : List (List Int)) (s done : Nat) (far : List Int) (ord : List Nat) : Prop where
  ln : far.length = T.length
  nd : ord.Nodup
  lt : ∀ v ∈ ord, v < T.length
  mem : ∀ v, v < T.length → (v ∈ ord ↔ 0 ≤ far.getD v 0)
  neg : ∀ v, v < T.length → -1 ≤ far.getD v 0
  srt : ord.Pairwise fun a b => far.getD a 0 ≤ far.getD b 0
  rk : ∀ v ∈ ord, RK T s (far.getD v 0).toNat v
  st : s ∈ ord
  s0 : far.getD s 0 = 0
  dl : done ≤ ord.length
  pr : ∀ i, i < done → ∀ u, ord[i]? = some u → ∀ v, Sx T u v → v ∈ ord ∧ far.getD v 0 ≤ far.getD u 0 + 1
theorem BI.len {done : Nat} {far : List Int} {ord : List Nat} (h : BI T s done far ord) : ord.length ≤ T.length := by
  have := List.Nodup.length_le_of_subset h.nd (l₂ := List.range T.length) fun v hv => List.mem_range.mpr (h.lt v hv)
  rw [List.length_range] at this
  exact this
theorem BI.add {done u v : Nat} {far : List Int} {ord : List Nat} (h : BI T s done far ord) (hu : ord[done]? = some u) (top : ∀ w ∈ ord, far.getD w 0 ≤ far.getD u 0 + 1) (hv : v < T.length) (hn : far.getD v 0 < 0) (hS : Sx T u v) :
    BI T s done (far.set v (far.getD u 0 + 1)) (ord ++ [v]) ∧ (∀ w ∈ ord, (far.set v (far.getD u 0 + 1)).getD w 0 = far.getD w 0) ∧ (far.set v (far.getD u 0 + 1)).getD v 0 = far.getD u 0 + 1 := by
  have hvo : v ∉ ord := fun q => by
    have := (h.mem v hv).mp q
    omega
  have gs : ∀ w, (far.set v (far.getD u 0 + 1)).getD w 0 = if v = w then far.getD u 0 + 1 else far.getD w 0 := fun w => getD_set (by rw [h.ln]; exact hv)
  have old : ∀ w ∈ ord, (far.set v (far.getD u 0 + 1)).getD w 0 = far.getD w 0 := fun w hw => by
    rw [gs, if_neg fun e => hvo (by rw [e]; exact hw)]
  have new : (far.set v (far.getD u 0 + 1)).getD v 0 = far.getD u 0 + 1 := by rw [gs, if_pos rfl]
  have uo : u ∈ ord := List.mem_of_getElem? hu
  have u0 := (h.mem u (h.lt u uo)).mp uo
  refine ⟨⟨by rw [List.length_set]; exact h.ln, nodup_snoc h.nd hvo, fun w hw => ?_, fun w hw => ?_, fun w hw => ?_, ?_, fun w hw => ?_, List.mem_append_left _ h.st, by rw [old s h.st]; exact h.s0, by rw [List.length_append]; have := h.dl; omega, fun i hi x hx y hy => ?_⟩, old, new⟩
  · rcases List.mem_append.mp hw with q | q
    · exact h.lt w q
    · rw [List.mem_singleton.mp q]
      exact hv
  · by_cases q : v = w
    · subst q
      rw [new]
      exact ⟨fun _ => by omega, fun _ => List.mem_append_right _ (List.mem_singleton.mpr rfl)⟩
    · rw [gs, if_neg q, ← h.mem w hw, List.mem_append, List.mem_singleton]
      exact ⟨fun z => z.resolve_right fun e => q e.symm, .inl⟩
  · rw [gs]
    split
    · omega
    · exact h.neg w hw
  · rw [List.pairwise_append]
    refine ⟨h.srt.imp_of_mem fun {a b} ha hb q => ?_, List.pairwise_singleton .., fun a ha b hb => ?_⟩
    · rw [old a ha, old b hb]
      exact q
    · rw [List.mem_singleton.mp hb, old a ha, new]
      exact top a ha
  · rcases List.mem_append.mp hw with q | q
    · rw [old w q]
      exact h.rk w q
    · rw [List.mem_singleton.mp q, new, show (far.getD u 0 + 1).toNat = (far.getD u 0).toNat + 1 by omega]
      exact .inr ⟨u, h.rk u uo, hS⟩
  · have hil : i < ord.length := Nat.lt_of_lt_of_le hi h.dl
    rw [List.getElem?_append_left hil] at hx
    obtain ⟨q1, q2⟩ := h.pr i hi x hx y hy
    refine ⟨List.mem_append_left _ q1, ?_⟩
    rw [old y q1, old x (List.mem_of_getElem? hx)]
    exact q2
theorem BI.fin {far : List Int} {ord : List Nat} {done : Nat} (h : BI T s done far ord) (hd : ord.length ≤ done) (hT : TbOk T) (hs : s < T.length) : DistOk T s far := by
  have key : ∀ k v, RK T s k v → v ∈ ord ∧ far.getD v 0 ≤ k := fun k => by
    induction k with
    | zero =>
      intro v q
      have q : v = s := q
      subst q
      exact ⟨h.st, by rw [h.s0]; omega⟩
    | succ k ih =>
      intro v q
      rcases q with q | ⟨u, q1, q2⟩
      · obtain ⟨a, b⟩ := ih v q
        exact ⟨a, by omega⟩
      · obtain ⟨a, b⟩ := ih u q1
        obtain ⟨i, hi, e⟩ := List.getElem_of_mem a
        obtain ⟨c, d⟩ := h.pr i (by omega) u (by rw [List.getElem?_eq_getElem hi, e]) v q2
        exact ⟨c, by omega⟩
  refine ⟨h.ln, fun v hv => ⟨h.neg v hv, fun k => ⟨fun q => ?_, fun ⟨q1, q2⟩ => ?_⟩⟩⟩
  · obtain ⟨a, b⟩ := key k v q
    exact ⟨(h.mem v hv).mp a, b⟩
  · exact (h.rk v ((h.mem v hv).mpr q1)).up (by omega)
theorem atI_getD {l : List Int} {i : Nat} (h : i < l.length) : atI l (i : Int) = some (l.getD i 0) := atI_nat (by rw [List.getD_eq_getElem?_getD, List.getElem?_eq_getElem h]; rfl)
theorem atI_row {i : Nat} (h : i < T.length) : atI T (i : Int) = some (T.getD i []) := atI_nat (by rw [List.getD_eq_getElem?_getD, List.getElem?_eq_getElem h]; rfl)
theorem row_ok (hT : TbOk T) {u : Nat} (h : u < T.length) : (T.getD u []).Nodup ∧ ∀ x ∈ T.getD u [], ∃ j : Nat, x = (j : Int) ∧ j < T.length ∧ Sx T u j := by
  have e : T.getD u [] = T[u] := by rw [List.getD_eq_getElem?_getD, List.getElem?_eq_getElem h]; rfl
  obtain ⟨a, b⟩ := hT _ (List.getElem_mem h)
  refine ⟨by rw [e]; exact a, fun x hx => ?_⟩
  obtain ⟨j, e1, hj⟩ := b x (by rw [← e]; exact hx)
  exact ⟨j, e1, hj, by unfold Sx; rw [← e1]; exact hx⟩
theorem dist_ok (hT : TbOk T) (hl : T.length ≤ 1000) (hs : s < T.length) {Q : List Int → Prop} {X : HE → Prop} (h : ∀ far, DistOk T s far → Q far) : m_distances T (s : Int) Q X := by
  unfold m_distances
  have hb : big = 100000 := rfl
  have hr : ((List.replicate (((T.length : Int))).toNat (-(1 : Int)))) = List.replicate T.length (-1) := by rw [Int.toNat_natCast]
  have g0 : ∀ w, w < T.length → ((List.replicate T.length (-1 : Int)).set s 0).getD w 0 = if s = w then 0 else -1 := fun w hw => by
    rw [getD_set (by rw [List.length_replicate]; exact hs), List.getD_eq_getElem?_getD, List.getElem?_replicate, if_pos hw]
    rfl
  refine ⟨⟨by omega, by omega⟩, s, by rw [hr, List.length_replicate]; exact ixNn hs, ?_⟩
  rw [hr]
  refine whileD_inv (fun st : Int × List Int × List Int => ∃ (done : Nat) (ord : List Nat), st.1 = (done : Int) ∧ st.2.2 = ord.map (fun v : Nat => (v : Int)) ∧ BI T s done st.2.1 ord ∧ ∀ u, ord[done]? = some u → ∀ v ∈ ord, st.2.1.getD v 0 ≤ st.2.1.getD u 0 + 1) (fun st => T.length - st.1.toNat)
    ⟨0, [s], rfl, rfl, ⟨by rw [List.length_set, List.length_replicate], by simp, fun v hv => by rw [List.mem_singleton.mp hv]; exact hs, fun v hv => ?_, fun v hv => ?_, List.pairwise_singleton .., fun v hv => ?_, by simp, by rw [g0 s hs, if_pos rfl], Nat.zero_le _, fun i hi => by omega⟩, fun u hu v hv => ?_⟩ (fun st nx hI hnx => ?_)
  · show v ∈ [s] ↔ 0 ≤ ((List.replicate T.length (-1 : Int)).set s 0).getD v 0
    rw [g0 v hv, List.mem_singleton]
    split
    · exact ⟨fun _ => by omega, fun _ => by omega⟩
    · exact ⟨fun e => by omega, fun e => by omega⟩
  · show -1 ≤ ((List.replicate T.length (-1 : Int)).set s 0).getD v 0
    rw [g0 v hv]
    split <;> omega
  · show RK T s (((List.replicate T.length (-1 : Int)).set s 0).getD v 0).toNat v
    rw [List.mem_singleton.mp hv, g0 s hs, if_pos rfl]
    rfl
  · show ((List.replicate T.length (-1 : Int)).set s 0).getD v 0 ≤ ((List.replicate T.length (-1 : Int)).set s 0).getD u 0 + 1
    have : u = s := by
      have := List.mem_of_getElem? hu
      exact List.mem_singleton.mp this
    rw [List.mem_singleton.mp hv, this]
    omega
  · obtain ⟨d, far, ord'⟩ := st
    obtain ⟨done, ord, e1, e2, hB, top⟩ := hI
    dsimp only at e1 e2 hB top hnx ⊢
    subst e1 e2
    by_cases hd : done < ord.length
    · refine ifD_t (decide_eq_true (by rw [List.length_map]; omega)) ?_
      have hu : ord[done]? = some ord[done] := List.getElem?_eq_getElem hd
      generalize ord[done] = u at hu
      have uo : u ∈ ord := List.mem_of_getElem? hu
      have ul := hB.lt u uo
      refine ⟨(u : Int), atI_nat (by rw [List.getElem?_map, hu]; rfl), _, atI_row ul, ?_⟩
      obtain ⟨_, rw_⟩ := row_ok hT ul
      refine forD_inv (fun pre (st : List Int × List Int) => ∃ ord2 : List Nat, st.2 = ord2.map (fun v : Nat => (v : Int)) ∧ BI T s done st.1 ord2 ∧ ord2[done]? = some u ∧ (∀ v ∈ ord2, st.1.getD v 0 ≤ st.1.getD u 0 + 1) ∧ ∀ v : Nat, (v : Int) ∈ pre → v ∈ ord2) ⟨ord, rfl, hB, hu, top u hu, fun v hv => by cases hv⟩ (fun pre x post st nx2 ex hi hnx2 => ?_) fun st hi => ?_
      · obtain ⟨far2, o2⟩ := st
        obtain ⟨ord2, e2, hB2, hu2, top2, got⟩ := hi
        dsimp only at e2 hB2 top2 ⊢
        subst e2
        obtain ⟨v, rfl, hv, hS⟩ := rw_ x (by rw [ex]; simp)
        refine ⟨_, atI_getD (by rw [hB2.ln]; exact hv), ?_⟩
        by_cases q : far2.getD v 0 < 0
        · refine ifD_t (decide_eq_true q) ⟨_, atI_getD (by rw [hB2.ln]; exact ul), v, ixNn (by rw [hB2.ln]; exact hv), ?_, ?_⟩
          · rw [List.length_map]
            have := hB2.len
            omega
          obtain ⟨a1, a2, a3⟩ := hB2.add hu2 top2 hv q hS
          have uo2 : u ∈ ord2 := List.mem_of_getElem? hu2
          refine hnx2 _ ⟨ord2 ++ [v], by rw [List.map_append]; rfl, a1, ?_, fun w hw => ?_, fun w hw => ?_⟩
          · have : done < ord2.length := (List.getElem?_eq_some_iff.mp hu2).1
            rw [List.getElem?_append_left this]
            exact hu2
          · show (far2.set v (far2.getD u 0 + 1)).getD w 0 ≤ (far2.set v (far2.getD u 0 + 1)).getD u 0 + 1
            rw [a2 u uo2]
            rcases List.mem_append.mp hw with z | z
            · rw [a2 w z]
              exact top2 w z
            · rw [List.mem_singleton.mp z, a3]
              omega
          · rcases List.mem_append.mp hw with z | z
            · exact List.mem_append_left _ (got w z)
            · have := List.mem_singleton.mp z
              have : w = v := by omega
              rw [this]
              simp
        · refine ifD_f (decide_eq_false q) (hnx2 _ ⟨ord2, rfl, hB2, hu2, top2, fun w hw => ?_⟩)
          rcases List.mem_append.mp hw with z | z
          · exact got w z
          · have := List.mem_singleton.mp z
            have : w = v := by omega
            rw [this]
            exact (hB2.mem v hv).mpr (by omega)
      · obtain ⟨far2, o2⟩ := st
        obtain ⟨ord2, e2, hB2, hu2, top2, got⟩ := hi
        dsimp only at e2 hB2 top2 ⊢
        subst e2
        have hd2 : done < ord2.length := (List.getElem?_eq_some_iff.mp hu2).1
        refine hnx _ ⟨done + 1, ord2, rfl, rfl, ⟨hB2.ln, hB2.nd, hB2.lt, hB2.mem, hB2.neg, hB2.srt, hB2.rk, hB2.st, hB2.s0, hd2, fun i hi y hy v hv => ?_⟩, fun y hy v hv => ?_⟩ ?_
        · by_cases q : i = done
          · subst q
            rw [hu2] at hy
            cases hy
            have := got v hv
            exact ⟨this, top2 v this⟩
          · exact hB2.pr i (by omega) y hy v hv
        · show far2.getD v 0 ≤ far2.getD y 0 + 1
          have hy1 : done + 1 < ord2.length := (List.getElem?_eq_some_iff.mp hy).1
          have := (List.pairwise_iff_getElem.mp hB2.srt) done (done + 1) hd2 hy1 (by omega)
          rw [List.getElem?_eq_getElem hd2] at hu2
          rw [List.getElem?_eq_getElem hy1] at hy
          cases hu2
          cases hy
          have := top2 v hv
          omega
        · show T.length - ((done : Int) + 1).toNat < T.length - (done : Int).toNat
          have := hB2.len
          omega
    · refine ifD_f (decide_eq_false (by rw [List.length_map]; omega)) ?_
      exact h _ (hB.fin (by omega) hT hs)
end
section
theorem mem_reach {ps : List Str} {srs : List SRow} {g : List Str} (hg : ∀ n ∈ g, ∃ r ∈ srs, r.1 = n ∧ getR (gvR srs) n = some r.2.2 ∧ getR (gvR (srs.map (ordRow ps))) n = some (inOrd ps r.2.2)) {y : Str} (hy : y ∈ ps) :
    (y ∈ g.flatMap fun n => (getR (gvR (srs.map (ordRow ps))) n).getD []) ↔ y ∈ reachR srs g := by
  unfold reachR
  rw [List.mem_flatMap, List.mem_flatMap]
  constructor
  · rintro ⟨n, hn, h⟩
    obtain ⟨r, hr, e, h1, h2⟩ := hg n hn
    refine ⟨n, hn, ?_⟩
    rw [h2] at h
    rw [h1]
    exact (inOrd_sub h).2
  · rintro ⟨n, hn, h⟩
    obtain ⟨r, hr, e, h1, h2⟩ := hg n hn
    refine ⟨n, hn, ?_⟩
    rw [h1] at h
    rw [h2]
    exact mem_inOrd.mpr ⟨hy, h⟩
theorem arrows_eq {prs : List (Str × Int)} {srs : List SRow} (good : GoodRows prs srs) : arrowsD (planOf prs srs) = arrowsR srs := by
  have hst : (planOf prs srs).steps = srs.map (ordRow (prs.map (·.1))) := rfl
  generalize hps : prs.map (·.1) = ps at hst
  have hsub : ∀ r ∈ srs, r.2.1.Nodup ∧ ∀ y ∈ r.2.1, y ∈ ps := fun r hr => by
    obtain ⟨a0, a1, a2, a3, a4, a5⟩ := good.sw r hr
    rw [hps] at a3
    exact ⟨a2, a3⟩
  obtain ⟨hgc, hko⟩ := groups_choices (ps := ps) (srs := srs) hsub
  have hgv : (planOf prs srs).gv = gvR (srs.map (ordRow ps)) := by unfold PlanD.gv gvR; rw [hst]
  have hnd := good.sn
  have hnd2 : ((gvR (srs.map (ordRow ps))).map (·.1)).Nodup := by
    rw [gvR_names, List.map_map]
    exact hnd
  unfold arrowsD arrowsR
  rw [hgv, hst, hgc, List.map_map, List.length_map]
  refine List.map_congr_left fun x hx => ?_
  have hxg : ∀ n ∈ x.2, ∃ r ∈ srs, r.1 = n ∧ getR (gvR srs) n = some r.2.2 ∧ getR (gvR (srs.map (ordRow ps))) n = some (inOrd ps r.2.2) := fun n hn => by
    obtain ⟨r, hr, e⟩ := groupsR_mem srs x hx n hn
    refine ⟨r, hr, e, ?_, ?_⟩
    · rw [← e]
      exact getR_nodup (by rw [gvR_names]; exact hnd) (List.mem_map.mpr ⟨r, hr, rfl⟩)
    · rw [← e]
      exact getR_nodup hnd2 (List.mem_map.mpr ⟨ordRow ps r, List.mem_map.mpr ⟨r, hr, rfl⟩, rfl⟩)
  refine List.filter_congr fun k hk => ?_
  obtain ⟨j, hj, rfl⟩ := mem_intsF hk
  rw [Int.toNat_natCast, List.getElem?_map, List.getElem?_eq_getElem hj]
  show ((inOrd ps (groupsR srs)[j].1).any fun y => decide (y ∈ x.2.flatMap fun n => (getR (gvR (srs.map (ordRow ps))) n).getD [])) = !decide (((groupsR srs)[j].1.filter fun y => decide (y ∈ reachR srs x.2)) = [])
  obtain ⟨r, hr, er⟩ := groupsR_set srs _ (List.getElem_mem hj)
  have hse : ∀ y ∈ (groupsR srs)[j].1, y ∈ ps := fun y hy => (hsub r hr).2 y (by rw [er]; exact hy)
  rw [Bool.eq_iff_iff, List.any_eq_true, Bool.not_eq_true', decide_eq_false_iff_not, List.filter_eq_nil_iff]
  constructor
  · rintro ⟨y, hy, h⟩ q
    obtain ⟨h1, h2⟩ := inOrd_sub hy
    exact q y h2 (decide_eq_true ((mem_reach hxg h1).mp (of_decide_eq_true h)))
  · intro q
    refine Decidable.byContradiction fun hn => q fun y hy h => hn ⟨y, mem_inOrd.mpr ⟨hse y hy, hy⟩, decide_eq_true ((mem_reach hxg (hse y hy)).mpr (of_decide_eq_true h))⟩
end
section
variable {T : List (List Int)} {s : Nat}
open Classical in
noncomputable def reachB (T : List (List Int)) (s v : Nat) : Bool := decide (∃ k, RK T s k v)
theorem reachB_iff {v : Nat} : reachB T s v = true ↔ ∃ k, RK T s k v := by unfold reachB; exact @decide_eq_true_iff _ (Classical.propDecidable _)
noncomputable def allR (T : List (List Int)) (s : Nat) : Bool := (List.range T.length).all (reachB T s)
noncomputable def joinB (T : List (List Int)) : Bool := (List.range T.length).all (allR T)
theorem allR_iff : allR T s = true ↔ ∀ v, v < T.length → ∃ k, RK T s k v := by
  unfold allR
  rw [List.all_eq_true]
  exact ⟨fun h v hv => reachB_iff.mp (h v (List.mem_range.mpr hv)), fun h v hv => reachB_iff.mpr (h v (List.mem_range.mp hv))⟩
theorem joinB_iff : joinB T = true ↔ ∀ s, s < T.length → allR T s = true := by
  unfold joinB
  rw [List.all_eq_true]
  exact ⟨fun h v hv => h v (List.mem_range.mpr hv), fun h v hv => h v (List.mem_range.mp hv)⟩
/-- the list reaches what can be reached -/
structure SI (T : List (List Int)) (s done : Nat) (l : List Nat) : Prop where
  nd : l.Nodup
  st : s ∈ l
  rk : ∀ v ∈ l, v < T.length ∧ ∃ k, RK T s k v
  pr : ∀ i, i < done → ∀ u, l[i]? = some u → ∀ v, Sx T u v → v ∈ l
theorem SI.len {done : Nat} {l : List Nat} (h : SI T s done l) : l.length ≤ T.length := by
  have := List.Nodup.length_le_of_subset h.nd (l₂ := List.range T.length) fun v hv => List.mem_range.mpr (h.rk v hv).1
  rw [List.length_range] at this
  exact this
theorem SI.fin {done : Nat} {l : List Nat} (h : SI T s done l) (hd : l.length ≤ done) (v : Nat) : v ∈ l ↔ ∃ k, RK T s k v := by
  have key : ∀ k v, RK T s k v → v ∈ l := fun k => by
    induction k with
    | zero =>
      intro v hk
      have q : v = s := hk
      rw [q]
      exact h.st
    | succ k ih =>
      intro v hk
      rcases hk with q | ⟨u, q1, q2⟩
      · exact ih v q
      · obtain ⟨i, hi, e⟩ := List.getElem_of_mem (ih u q1)
        exact h.pr i (by omega) u (by rw [List.getElem?_eq_getElem hi, e]) v q2
  exact ⟨fun q => (h.rk v q).2, fun ⟨k, hk⟩ => key k v hk⟩
theorem nd_map {α β : Type} {f : α → β} {l : List α} (h : l.Nodup) (hi : ∀ a ∈ l, ∀ b ∈ l, f a = f b → a = b) : (l.map f).Nodup := List.pairwise_map.mpr (List.Pairwise.imp_of_mem (fun {a b} ha hb ne e => ne (hi a ha b hb e)) h)
theorem all_len {l : List Nat} (nd : l.Nodup) (lt : ∀ v ∈ l, v < T.length) (hm : ∀ v, v ∈ l ↔ ∃ k, RK T s k v) : decide (l.length < T.length) = !allR T s := by
  by_cases h : allR T s = true
  · rw [h]
    have := List.Nodup.length_le_of_subset (List.nodup_range (n := T.length)) (l₂ := l) fun v hv => (hm v).mpr (allR_iff.mp h v (List.mem_range.mp hv))
    rw [List.length_range] at this
    exact decide_eq_false (by omega)
  · have hn : ∃ v, v < T.length ∧ v ∉ l := Decidable.byContradiction fun q => h (allR_iff.mpr fun v hv => (hm v).mp (Decidable.byContradiction fun z => q ⟨v, hv, z⟩))
    obtain ⟨v, hv, hn⟩ := hn
    have := List.Nodup.length_le_of_subset (nodup_snoc nd hn) (l₂ := List.range T.length) fun w hw => by
      rcases List.mem_append.mp hw with z | z
      · exact List.mem_range.mpr (lt w z)
      · rw [List.mem_singleton.mp z]
        exact List.mem_range.mpr hv
    rw [List.length_append, List.length_range] at this
    have h1 : [v].length = 1 := rfl
    rw [Bool.not_eq_true] at h
    rw [h]
    exact decide_eq_true (by omega)
theorem natm {l : List Nat} {v : Nat} : (v : Int) ∈ l.map (fun v : Nat => (v : Int)) ↔ v ∈ l := by
  rw [List.mem_map]
  exact ⟨fun ⟨w, hw, e⟩ => by rw [← show w = v by omega]; exact hw, fun h => ⟨v, h, rfl⟩⟩
/-- new ones of a row -/
theorem row_new (hT : TbOk T) {u : Nat} (hu : u < T.length) (l m : List Nat) : ∃ t : List Nat, ((T.getD u []).filter fun x => !decide (x ∈ l.map (fun v : Nat => (v : Int))) && !decide (x ∈ m.map (fun v : Nat => (v : Int)))) = t.map (fun v : Nat => (v : Int)) ∧ t.Nodup ∧ (∀ v ∈ t, v ∉ l ∧ v ∉ m ∧ v < T.length ∧ Sx T u v) ∧ ∀ v, Sx T u v → v ∈ l ∨ v ∈ m ∨ v ∈ t := by
  obtain ⟨nd, hr⟩ := row_ok hT hu
  refine ⟨((T.getD u []).filter fun x => !decide (x ∈ l.map (fun v : Nat => (v : Int))) && !decide (x ∈ m.map (fun v : Nat => (v : Int)))).map Int.toNat, ?_, ?_, fun v hv => ?_, fun v hv => ?_⟩
  · rw [List.map_map]
    symm
    refine (List.map_congr_left fun x hx => ?_).trans (List.map_id _)
    obtain ⟨j, rfl, _⟩ := hr x (List.mem_filter.mp hx).1
    rfl
  · refine nd_map (nd.filter _) (fun x hx y hy e => ?_)
    obtain ⟨j, rfl, _⟩ := hr x (List.mem_filter.mp hx).1
    obtain ⟨i, rfl, _⟩ := hr y (List.mem_filter.mp hy).1
    have e : j = i := e
    rw [e]
  · obtain ⟨x, hx, e⟩ := List.mem_map.mp hv
    obtain ⟨hx1, hx2⟩ := List.mem_filter.mp hx
    obtain ⟨j, rfl, hj, hS⟩ := hr x hx1
    have e : j = v := e
    subst e
    rw [Bool.and_eq_true, Bool.not_eq_true', Bool.not_eq_true', decide_eq_false_iff_not, decide_eq_false_iff_not, natm, natm] at hx2
    exact ⟨hx2.1, hx2.2, hj, hS⟩
  · by_cases h1 : v ∈ l
    · exact .inl h1
    by_cases h2 : v ∈ m
    · exact .inr (.inl h2)
    refine .inr (.inr (List.mem_map.mpr ⟨(v : Int), List.mem_filter.mpr ⟨hv, ?_⟩, rfl⟩))
    rw [Bool.and_eq_true, Bool.not_eq_true', Bool.not_eq_true', decide_eq_false_iff_not, decide_eq_false_iff_not, natm, natm]
    exact ⟨h1, h2⟩
theorem spread_ok (hT : TbOk T) (hl : T.length ≤ 1000) (hs : s < T.length) {Q : List Int → Prop} {X : HE → Prop} (h : ∀ l : List Nat, l.Nodup → (∀ v ∈ l, v < T.length) → (∀ v, v ∈ l ↔ ∃ k, RK T s k v) → Q (l.map fun v : Nat => (v : Int))) : m__law_spread T (s : Int) Q X := by
  unfold m__law_spread
  intro r0 e0
  subst e0
  have hb : big = 100000 := rfl
  rw [Int.toNat_natCast]
  refine forD_inv (fun pre st => ∃ l : List Nat, st = l.map (fun v : Nat => (v : Int)) ∧ SI T s pre.length l) ⟨[s], rfl, by simp, by simp, fun v hv => by rw [List.mem_singleton.mp hv]; exact ⟨hs, 0, rfl⟩, fun i hi => by cases hi⟩ (fun pre x post st nx ex hi hnx => ?_) fun st hi => ?_
  · obtain ⟨e1, e2⟩ := intsF_sp ex
    subst e1
    obtain ⟨l, rfl, hS⟩ := hi
    have ll := hS.len
    by_cases hd : pre.length < l.length
    · refine ifD_t (decide_eq_true (by rw [List.length_map]; omega)) ?_
      have hu : l[pre.length]? = some l[pre.length] := List.getElem?_eq_getElem hd
      generalize l[pre.length] = u at hu
      have uo : u ∈ l := List.mem_of_getElem? hu
      obtain ⟨ul, k, hk⟩ := hS.rk u uo
      obtain ⟨t, et, tn, t1, t2⟩ := row_new hT ul l []
      have et2 : ((T.getD u []).filter fun x => !decide (x ∈ l.map (fun v : Nat => (v : Int)))) = t.map (fun v : Nat => (v : Int)) := by
        rw [← et]
        refine List.filter_congr fun x _ => ?_
        rw [show decide (x ∈ ([] : List Nat).map (fun v : Nat => (v : Int))) = false from decide_eq_false fun q => by cases q]
        simp
      have hS2 : SI T s (pre.length + 1) (l ++ t) := by
        refine ⟨List.nodup_append.mpr ⟨hS.nd, tn, fun a ha b hb e => (t1 b hb).1 (by rw [← e]; exact ha)⟩, List.mem_append_left _ hS.st, fun v hv => ?_, fun i hi y hy v hv => ?_⟩
        · rcases List.mem_append.mp hv with z | z
          · exact hS.rk v z
          · obtain ⟨_, _, z1, z2⟩ := t1 v z
            exact ⟨z1, k + 1, .inr ⟨u, hk, z2⟩⟩
        · rw [List.getElem?_append_left (by omega)] at hy
          by_cases q : i = pre.length
          · subst q
            rw [hu] at hy
            cases hy
            rcases t2 v hv with z | z | z
            · exact List.mem_append_left _ z
            · cases z
            · exact List.mem_append_right _ z
          · exact List.mem_append_left _ (hS.pr i (by omega) y hy v hv)
      refine ⟨(u : Int), atI_nat (by rw [List.getElem?_map, hu]; rfl), _, atI_row ul, ?_, fun r er => ?_⟩
      · rw [List.map_id', et2, ← List.length_append, ← List.map_append, List.length_map]
        have := hS2.len
        omega
      · rw [List.map_id', et2] at er
        refine hnx _ ⟨l ++ t, by rw [er, List.map_append], ?_⟩
        rw [List.length_append]
        exact hS2
    · refine ifD_f (decide_eq_false (by rw [List.length_map]; omega)) (hnx _ ⟨l, rfl, hS.nd, hS.st, hS.rk, fun i hi y hy v hv => ?_⟩)
      rw [List.length_append] at hi
      have hi : i < pre.length + 1 := hi
      by_cases q : i = pre.length
      · subst q
        rw [List.getElem?_eq_none (by omega)] at hy
        cases hy
      · exact hS.pr i (by omega) y hy v hv
  · obtain ⟨l, rfl, hS⟩ := hi
    rw [intsF_len] at hS
    exact h l hS.nd (fun v hv => (hS.rk v hv).1) (hS.fin hS.len)
end
section
variable {prs : List (Str × Int)} {srs : List SRow}
theorem sets_sub (good : GoodRows prs srs) : ∀ r ∈ srs, r.2.1.Nodup ∧ ∀ y ∈ r.2.1, y ∈ prs.map (·.1) := fun r hr => by
  obtain ⟨a0, a1, a2, a3, a4, a5⟩ := good.sw r hr
  exact ⟨a2, a3⟩
theorem choiceT_eq (good : GoodRows prs srs) : choiceT (planOf prs srs).steps = (groupsR srs).map (ordG (prs.map (·.1))) := (groups_choices (sets_sub good)).1
theorem choices_eq (good : GoodRows prs srs) : choicesD (planOf prs srs) = (groupsR srs).map (·.2) := by
  unfold choicesD
  rw [choiceT_eq good, List.map_map]
  rfl
theorem groups_le (good : GoodRows prs srs) : (groupsR srs).length ≤ 13 := Nat.le_trans (groupsR_len srs) good.s13
theorem arr_len : (arrowsR srs).length = (groupsR srs).length := by unfold arrowsR; rw [List.length_map]
theorem ints_nd (n : Nat) : (intsF 0 n).Nodup := by
  unfold intsF
  exact nd_map List.nodup_range (fun a _ b _ e => by omega)
theorem tb_ok : TbOk (arrowsR srs) := fun r hr => by
  rw [arr_len]
  unfold arrowsR at hr
  obtain ⟨g, hg, rfl⟩ := List.mem_map.mp hr
  refine ⟨(ints_nd _).filter _, fun x hx => ?_⟩
  obtain ⟨j, hj, e⟩ := mem_intsF (List.mem_filter.mp hx).1
  exact ⟨j, e, hj⟩
theorem larrows_ok (good : GoodRows prs srs) {Q : List (List Int) → Prop} {X : HE → Prop} (h : Q (arrowsR srs)) : m_larrows (prs, srs) Q X := by
  refine ⟨⟨Nat.le_trans good.s13 (by decide), fun r hr => ?_, good.sn⟩, h⟩
  obtain ⟨a0, a1, a2, a3, a4, a5⟩ := good.sw r hr
  have p7 := good.p7
  have l1 := List.Nodup.length_le_of_subset a2 a3
  have l2 := List.Nodup.length_le_of_subset a4 a5
  rw [List.length_map] at l1 l2
  exact ⟨by omega, by omega⟩
theorem lgroups_ok (good : GoodRows prs srs) {Q : List (List Str) × List (List Str) → Prop} {X : HE → Prop} (h : Q ((groupsR srs).map (·.1), (groupsR srs).map (·.2))) : m_lgroups (prs, srs) Q X := by
  refine ⟨⟨Nat.le_trans good.s13 (by decide), fun r hr => ?_⟩, h⟩
  obtain ⟨a0, a1, a2, a3, a4, a5⟩ := good.sw r hr
  have p7 := good.p7
  have l1 := List.Nodup.length_le_of_subset a2 a3
  rw [List.length_map] at l1
  refine ⟨Nat.le_trans a0.len (by decide), by omega, fun y hy => ?_⟩
  obtain ⟨p, hp, rfl⟩ := List.mem_map.mp (a3 y hy)
  exact Nat.le_trans (good.pw p hp).1.len (by decide)
/-- the steps of the choices that s leads to -/
noncomputable def insideF (srs : List SRow) (s : Nat) : List Str := ((List.range (groupsR srs).length).filter (reachB (arrowsR srs) s)).flatMap fun j => (gAt (groupsR srs) j).2
noncomputable def apartF (srs : List SRow) : Option PyData := ((List.range (groupsR srs).length).find? fun s => !allR (arrowsR srs) s).map fun s => XDat.enc (r := (z2 yS (yL yS))) (("APART" : Str), (srs.map (·.1)).filter fun x => decide (x ∈ insideF srs s))
theorem gnames_at {i : Nat} (h : i < (groupsR srs).length) : atI ((groupsR srs).map (·.2)) (i : Int) = some (gAt (groupsR srs) i).2 := atI_nat (by rw [List.getElem?_map, List.getElem?_eq_getElem h, gAt_get h]; rfl)
theorem innD_all {α : Type} {k : List α → Prop} : ∀ {ys acc : List α}, acc.length + ys.length ≤ big → k (acc ++ ys) → innD ys acc (fun y (ko : Option α → Prop) => ko (some y)) k
  | [], acc, _, h => by rw [List.append_nil] at h; exact h
  | y :: ys, acc, hl, h => by
    rw [List.length_cons] at hl
    have e : (acc ++ (some y).toList).length = acc.length + 1 := by rw [List.length_append]; rfl
    exact ⟨by omega, innD_all (by omega) (by rw [show acc ++ (some y).toList ++ ys = acc ++ y :: ys by simp]; exact h)⟩
theorem catD_ok {α β : Type} {f : α → List β → (List β → Prop) → Prop} {k : List β → Prop} (g : α → List β) {N : Nat} : ∀ {xs : List α} {acc : List β}, (∀ x ∈ xs, ∀ acc k, acc.length + (g x).length ≤ N → k (acc ++ g x) → f x acc k) → acc.length + (xs.flatMap g).length ≤ N → k (acc ++ xs.flatMap g) → catD xs acc f k
  | [], acc, _, _, h => by simpa [catD] using h
  | x :: xs, acc, hf, hl, h => by
    rw [List.flatMap_cons, List.length_append] at hl
    refine hf x (List.mem_cons_self ..) acc _ (by omega) (catD_ok g (fun y hy => hf y (List.mem_cons_of_mem _ hy)) (by rw [List.length_append]; omega) ?_)
    rw [List.append_assoc]
    rw [List.flatMap_cons] at h
    exact h
theorem apart_ok (good : GoodRows prs srs) {Q : Option PyData → Prop} {X : HE → Prop} (h : Q (apartF srs)) : m_apart_paper (planOf prs srs) Q X := by
  unfold m_apart_paper
  have gl := groups_le good
  have al := arr_len (srs := srs)
  have hb : big = 100000 := rfl
  unfold m_choices m_arrows
  dsimp only
  rw [choices_eq good, arrows_eq good, List.length_map, Int.toNat_natCast]
  have hp : (intsF 0 (groupsR srs).length) = (List.range (groupsR srs).length).map fun i : Nat => (i : Int) := by
    unfold intsF
    exact List.map_congr_left fun i _ => by omega
  rw [hp, forD_map]
  unfold apartF at h
  refine forD_find (p := fun s => !allR (arrowsR srs) s) (E := fun s => Q (some (XDat.enc (r := (z2 yS (yL yS))) (("APART" : Str), (srs.map (·.1)).filter fun x => decide (x ∈ insideF srs s))))) (fun s hs nx h1 h2 => ?_) (fun s hs => by rw [hs] at h; exact h) (fun hs => by rw [hs] at h; exact h)
  have hs := List.mem_range.mp hs
  refine dist_ok tb_ok (by omega) (by omega) fun far hD => ?_
  have hall : decide ((-(1 : Int)) ∈ far) = !allR (arrowsR srs) s := by
    rw [Bool.eq_iff_iff, decide_eq_true_iff, Bool.not_eq_true']
    constructor
    · intro q
      obtain ⟨v, hv, e⟩ := List.getElem_of_mem q
      have hv' : v < (arrowsR srs).length := by rw [← hD.1]; exact hv
      have e2 : far.getD v 0 = -1 := by rw [List.getD_eq_getElem?_getD, List.getElem?_eq_getElem hv]; exact e
      rw [← Bool.not_eq_true, allR_iff]
      intro z
      obtain ⟨k, hk⟩ := z v hv'
      have := ((hD.2 v hv').2 k).mp hk
      omega
    · intro q
      rw [← Bool.not_eq_true, allR_iff] at q
      have : ∃ v, v < (arrowsR srs).length ∧ ¬ ∃ k, RK (arrowsR srs) s k v := Classical.byContradiction fun z => q fun v hv => Classical.byContradiction fun y => z ⟨v, hv, y⟩
      obtain ⟨v, hv, hn⟩ := this
      obtain ⟨n1, n2⟩ := hD.2 v hv
      have e : far.getD v 0 = -1 := by
        by_cases p : 0 ≤ far.getD v 0
        · exact absurd ⟨_, (n2 (far.getD v 0).toNat).mpr ⟨p, by omega⟩⟩ hn
        · omega
      rw [← e, List.getD_eq_getElem?_getD, List.getElem?_eq_getElem (by rw [hD.1]; exact hv)]
      exact List.getElem_mem _
  have hge : ∀ v, v < (groupsR srs).length → decide (far.getD v 0 ≥ 0) = reachB (arrowsR srs) s v := fun v hv => by
    obtain ⟨n1, n2⟩ := hD.2 v (by omega)
    rw [Bool.eq_iff_iff, decide_eq_true_iff, reachB_iff]
    exact ⟨fun p => ⟨_, (n2 (far.getD v 0).toNat).mpr ⟨p, by omega⟩⟩, fun ⟨k, hk⟩ => ((n2 k).mp hk).1⟩
  rw [hall]
  refine ⟨fun q => ?_, h2⟩
  have hgl : ∀ v, v < (groupsR srs).length → (gAt (groupsR srs) v).2.length ≤ 13 := fun v hv => by
    rw [gAt_get hv]
    exact Nat.le_trans (groupsR_glen srs _ (List.getElem_mem hv)) good.s13
  have hfl : ∀ l : List Nat, (∀ v ∈ l, v < (groupsR srs).length) → l.length ≤ 13 → (l.flatMap fun v => if reachB (arrowsR srs) s v = true then (gAt (groupsR srs) v).2 else []).length ≤ 13 * 13 := fun l h1 h2 => by
    refine Nat.le_trans (flat_le (m := 13) fun v hv => ?_) (Nat.mul_le_mul_right 13 h2)
    split
    · exact hgl v (h1 v hv)
    · exact Nat.zero_le _
  have := hfl (List.range (groupsR srs).length) (fun v hv => List.mem_range.mp hv) (by rw [List.length_range]; exact gl)
  have fm : ((List.range (groupsR srs).length).map fun i : Nat => (i : Int)).flatMap (fun x : Int => if reachB (arrowsR srs) s x.toNat = true then (gAt (groupsR srs) x.toNat).2 else []) = (List.range (groupsR srs).length).flatMap (fun v => if reachB (arrowsR srs) s v = true then (gAt (groupsR srs) v).2 else []) := by
    rw [List.flatMap_map]
    rfl
  refine catD_ok (N := big) (fun x : Int => if reachB (arrowsR srs) s x.toNat = true then (gAt (groupsR srs) x.toNat).2 else []) (fun x hx acc k hl hk => ?_) ?_ ?_
  · obtain ⟨v, hv, rfl⟩ := List.mem_map.mp hx
    have hv := List.mem_range.mp hv
    rw [Int.toNat_natCast] at hl hk
    refine ⟨_, atI_getD (by rw [hD.1]; omega), ?_⟩
    rw [hge v hv]
    cases q2 : reachB (arrowsR srs) s v with
    | true =>
      rw [q2] at hl hk
      exact ifD_t rfl ⟨_, gnames_at hv, innD_all hl hk⟩
    | false =>
      rw [q2] at hk
      refine ifD_f rfl ?_
      have hk : k (acc ++ []) := hk
      rw [List.append_nil] at hk
      exact hk
  · rw [fm]
    show 0 + _ ≤ big
    omega
  · rw [fm, List.nil_append, List.map_id']
    have := h1 q
    have e : (List.range (groupsR srs).length).flatMap (fun v => if reachB (arrowsR srs) s v = true then (gAt (groupsR srs) v).2 else []) = insideF srs s := by
      unfold insideF
      generalize List.range (groupsR srs).length = l
      induction l with
      | nil => rfl
      | cons a l ih =>
        rw [List.flatMap_cons, List.filter_cons, ih]
        split
        · rw [List.flatMap_cons]
        · rfl
    rw [e, names_of]
    exact this
theorem apart_none : apartF srs = none ↔ joinB (arrowsR srs) = true := by
  unfold apartF
  rw [Option.map_eq_none_iff, List.find?_eq_none, joinB_iff, arr_len]
  exact ⟨fun h s hs => by simpa using h s (List.mem_range.mpr hs), fun h s hs => by rw [h s (List.mem_range.mp hs)]; exact Bool.false_ne_true⟩
end
section
variable {prs : List (Str × Int)} {srs : List SRow}
theorem ord_mem {r : SRow} (hr : r ∈ srs) : ordRow (prs.map (·.1)) r ∈ (planOf prs srs).steps := step_of hr
theorem grp_head (good : GoodRows prs srs) {k : Nat} (hk : k < (groupsR srs).length) : ∃ n0 l, (gAt (groupsR srs) k).2 = n0 :: l ∧ ∀ {Q : List Str → Prop} {X : HE → Prop}, Q (inOrd (prs.map (·.1)) (gAt (groupsR srs) k).1) → m_Plan_takes (planOf prs srs) n0 Q X := by
  have hm : ordG (prs.map (·.1)) (gAt (groupsR srs) k) ∈ choiceT (planOf prs srs).steps := by
    rw [choiceT_eq good, gAt_get hk]
    exact List.mem_map.mpr ⟨_, List.getElem_mem hk, rfl⟩
  have hne := choiceT_ne _ hm
  cases e : (gAt (groupsR srs) k).2 with
  | nil => exact absurd e hne
  | cons n0 l =>
    refine ⟨n0, l, rfl, fun {Q X} h => ?_⟩
    obtain ⟨r, hr, e1, e2⟩ := choiceT_mem _ hm n0 (by show n0 ∈ (gAt (groupsR srs) k).2; rw [e]; exact List.mem_cons_self ..)
    rw [← e1]
    refine takes_ok (good_plan good) hr ?_
    rw [e2]
    exact h
theorem grp_set (good : GoodRows prs srs) {k : Nat} (hk : k < (groupsR srs).length) : (gAt (groupsR srs) k).1.Nodup ∧ ∀ y ∈ (gAt (groupsR srs) k).1, y ∈ prs.map (·.1) := by
  rw [gAt_get hk]
  obtain ⟨r, hr, e⟩ := groupsR_set srs _ (List.getElem_mem hk)
  rw [← e]
  exact sets_sub good r hr
theorem grp_names {k : Nat} (hk : k < (groupsR srs).length) : ∀ n ∈ (gAt (groupsR srs) k).2, ∃ r ∈ srs, r.1 = n := by
  rw [gAt_get hk]
  exact groupsR_mem srs _ (List.getElem_mem hk)
theorem grp_len (good : GoodRows prs srs) {k : Nat} (hk : k < (groupsR srs).length) : (gAt (groupsR srs) k).2.length ≤ 13 := by
  rw [gAt_get hk]
  exact Nat.le_trans (groupsR_glen srs _ (List.getElem_mem hk)) good.s13
theorem gv_at (good : GoodRows prs srs) {r : SRow} (hr : r ∈ srs) : getR (gvR srs) r.1 = some r.2.2 := getR_nodup (by rw [gvR_names]; exact good.sn) (List.mem_map.mpr ⟨r, hr, rfl⟩)
theorem reach_iff (good : GoodRows prs srs) {g : List Str} (hg : ∀ n ∈ g, ∃ r ∈ srs, r.1 = n) {y : Str} : y ∈ reachR srs g ↔ ∃ r ∈ srs, r.1 ∈ g ∧ y ∈ r.2.2 := by
  unfold reachR
  rw [List.mem_flatMap]
  constructor
  · rintro ⟨n, hn, h⟩
    obtain ⟨r, hr, e⟩ := hg n hn
    rw [← e, gv_at good hr] at h
    exact ⟨r, hr, by rw [e]; exact hn, h⟩
  · rintro ⟨r, hr, hn, h⟩
    exact ⟨r.1, hn, by rw [gv_at good hr]; exact h⟩
theorem sx_iff {u v : Nat} (hu : u < (groupsR srs).length) : Sx (arrowsR srs) u v ↔ v < (groupsR srs).length ∧ ∃ y ∈ (gAt (groupsR srs) v).1, y ∈ reachR srs (gAt (groupsR srs) u).2 := by
  have e : (arrowsR srs).getD u [] = (intsF 0 (groupsR srs).length).filter fun k => !decide ((((groupsR srs)[k.toNat]?.getD ([], [])).1.filter fun y => decide (y ∈ reachR srs (gAt (groupsR srs) u).2)) = []) := by
    unfold arrowsR
    rw [List.getD_eq_getElem?_getD, List.getElem?_map, List.getElem?_eq_getElem hu, gAt_get hu]
    rfl
  unfold Sx
  rw [e, List.mem_filter]
  have hm : (v : Int) ∈ intsF 0 (groupsR srs).length ↔ v < (groupsR srs).length := by
    constructor
    · intro q
      obtain ⟨j, hj, e⟩ := mem_intsF q
      omega
    · intro q
      unfold intsF
      exact List.mem_map.mpr ⟨v, List.mem_range.mpr q, by omega⟩
  rw [hm]
  refine and_congr_right fun hv => ?_
  rw [Int.toNat_natCast, Bool.not_eq_true', decide_eq_false_iff_not, List.filter_eq_nil_iff, List.getElem?_eq_getElem hv, gAt_get hv]
  show (¬ ∀ a ∈ (groupsR srs)[v].1, ¬ decide (a ∈ _) = true) ↔ _
  constructor
  · intro q
    exact Decidable.byContradiction fun z => q fun a ha hb => z ⟨a, ha, of_decide_eq_true hb⟩
  · rintro ⟨y, hy, hr⟩ q
    exact q y hy (decide_eq_true hr)
end
section
variable {prs : List (Str × Int)} {srs : List SRow}
def ledF (r q : SRow) : Bool := sameB q.2.1 r.2.1 || (r.2.2.any fun y => decide (y ∈ q.2.1))
def apClosed (srs : List SRow) (ss : List Str) : Bool := ss.all fun z => srs.all fun r => !decide (r.1 = z) || srs.all fun q => !(ledF r q && !decide (q.1 ∈ ss))
def apRight (srs : List SRow) (ss : List Str) : Bool := (ss.all fun z => decide (z ∈ srs.map (·.1))) && (decide ss.Nodup && (!decide (ss.length = 0) && (!decide (ss.length = srs.length) && apClosed srs ss)))
theorem app_loop {p : Str → Bool} {after : List Str → Prop} {R : Prop} {body : Str → List Str → (List Str → Prop) → (List Str → Prop) → Prop} {N : Nat} : ∀ {xs s : List Str}, s.Nodup → s.length + xs.length ≤ N →
    (∀ x ∈ xs, ∀ s nx, s.length < N → (p x = false ∨ x ∈ s → R) → (p x = true → x ∉ s → nx (s ++ [x])) → body x s nx after) → ((∃ x ∈ xs, p x = false) ∨ ¬ (s ++ xs).Nodup → R) → ((∀ x ∈ xs, p x = true) → (s ++ xs).Nodup → after (s ++ xs)) → forD xs s body after
  | [], s, nd, _, _, _, h => by
    rw [List.append_nil] at h
    exact h (fun x hx => nomatch hx) nd
  | x :: xs, s, nd, hl, hb, hR, ha => by
    rw [List.length_cons] at hl
    refine hb x (List.mem_cons_self ..) s _ (by omega) (fun q => hR ?_) (fun q1 q2 => ?_)
    · rcases q with q | q
      · exact .inl ⟨x, List.mem_cons_self .., q⟩
      · exact .inr fun z => (List.nodup_append.mp z).2.2 x q x (List.mem_cons_self ..) rfl
    · have e : s ++ [x] ++ xs = s ++ x :: xs := by rw [List.append_assoc]; rfl
      refine app_loop (p := p) (R := R) (nodup_snoc nd q2) (by rw [List.length_append]; show s.length + 1 + _ ≤ _; omega) (fun y hy => hb y (List.mem_cons_of_mem _ hy)) (fun q => hR ?_) (fun k1 k2 => ?_)
      · rw [e] at q
        rcases q with ⟨y, hy, q⟩ | q
        · exact .inl ⟨y, List.mem_cons_of_mem _ hy, q⟩
        · exact .inr q
      · rw [e] at k2 ⊢
        exact ha (fun y hy => by
          rcases List.mem_cons.mp hy with rfl | hy
          · exact q1
          · exact k1 y hy) k2
theorem hasP (good : GoodRows prs srs) {n : Str} {Q : Bool → Prop} {X : HE → Prop} (h : Q (decide (n ∈ srs.map (·.1)))) : m_Plan___contains__ (planOf prs srs) n Q X := by
  have e : (getR (planOf prs srs).tk n).isSome = decide (n ∈ srs.map (·.1)) := by
    rw [Bool.eq_iff_iff, decide_eq_true_iff]
    have := getR_none (rows := (planOf prs srs).tk) (n := n)
    rw [PlanOk.tkn, names_of] at this
    constructor
    · intro h1
      refine Decidable.byContradiction fun h2 => ?_
      rw [this.mpr h2] at h1
      cases h1
    · intro h1
      cases e : getR (planOf prs srs).tk n with
      | none => exact absurd h1 (this.mp e)
      | some x => rfl
  show Q _
  rw [e]
  exact h
theorem nd_injF {α β : Type} {f : α → β} : ∀ {l : List α}, (l.map f).Nodup → ∀ {a b : α}, a ∈ l → b ∈ l → f a = f b → a = b
  | [], _, _, _, ha, _, _ => nomatch ha
  | c :: l, nd, a, b, ha, hb, e => by
    rw [List.map_cons, List.nodup_cons] at nd
    rcases List.mem_cons.mp ha with ea | ha'
    · rcases List.mem_cons.mp hb with eb | hb'
      · rw [ea, eb]
      · exact absurd (List.mem_map.mpr ⟨b, hb', by rw [← e, ea]⟩) nd.1
    · rcases List.mem_cons.mp hb with eb | hb'
      · exact absurd (List.mem_map.mpr ⟨a, ha', by rw [e, eb]⟩) nd.1
      · exact nd_injF nd.2 ha' hb' e
theorem row_uniq (good : GoodRows prs srs) {r q : SRow} (hr : r ∈ srs) (hq : q ∈ srs) (e : r.1 = q.1) : r = q := nd_injF good.sn hr hq e
theorem led_any (good : GoodRows prs srs) {r q : SRow} (hr : r ∈ srs) (hq : q ∈ srs) : ((inOrd (prs.map (·.1)) r.2.2).map fun y => decide (y ∈ inOrd (prs.map (·.1)) q.2.1)).any id = (r.2.2.any fun y => decide (y ∈ q.2.1)) := by
  obtain ⟨_, _, b2, b3, _, _⟩ := good.sw q hq
  rw [Bool.eq_iff_iff, List.any_eq_true, List.any_eq_true]
  constructor
  · rintro ⟨x, hx, e⟩
    obtain ⟨y, hy, rfl⟩ := List.mem_map.mp hx
    exact ⟨y, (mem_inOrd'.mp hy).2, decide_eq_true (mem_inOrd'.mp (of_decide_eq_true e)).2⟩
  · rintro ⟨y, hy, e⟩
    have e := of_decide_eq_true e
    exact ⟨_, List.mem_map.mpr ⟨y, mem_inOrd'.mpr ⟨b3 y e, hy⟩, rfl⟩, decide_eq_true (mem_inOrd'.mpr ⟨b3 y e, e⟩)⟩
theorem at1J {α : Type} {a b : α} {l : List α} : atI (a :: b :: l) 1 = some b := atI_nat (j := 1) rfl
theorem japart_ok (good : GoodRows prs srs) {p k v : PyData} {ss : List Str} (hp : pit p = [k, v]) (h1 : v = .list (ss.map (XDat.enc (r := yS))) ∨ v = .tuple (ss.map (XDat.enc (r := yS)))) (hl : ss.length ≤ 10000) {Q : Bool → Prop} {X : HE → Prop} (h : Q (apRight srs ss)) : m_judge_apart (planOf prs srs) p Q X := by
  have pk := good_plan good
  have hb : big = 100000 := rfl
  unfold m_judge_apart
  rw [hp]
  refine ifD_f rfl ⟨_, at1J, ss, h1, ?_⟩
  have s13 := good.s13
  have nl : (planOf prs srs).names.length = srs.length := by rw [names_of, List.length_map]
  refine app_loop (p := fun z => decide (z ∈ srs.map (·.1))) (R := Q false) (N := 20000) List.nodup_nil (by show 0 + _ ≤ _; omega) (fun x hx s nx hs h1 h2 => hasP good ?_) (fun q => ?_) (fun k1 k2 => ?_)
  · cases e : decide (x ∈ srs.map (·.1)) with
    | false => exact ifD_t rfl (h1 (.inl e))
    | true =>
      by_cases q : x ∈ s
      · exact ifD_t (by rw [decide_eq_true q]; rfl) (h1 (.inr q))
      · exact ifD_f (by rw [decide_eq_false q]; rfl) ⟨by omega, h2 e q⟩
  · rw [List.nil_append] at q
    rw [show apRight srs ss = false from ?_] at h
    · exact h
    · unfold apRight
      rcases q with ⟨x, hx, e⟩ | q
      · rw [show (ss.all fun z => decide (z ∈ srs.map (·.1))) = false from List.all_eq_false.mpr ⟨x, hx, by rw [e]; exact Bool.false_ne_true⟩]
        rfl
      · rw [show decide ss.Nodup = false from decide_eq_false q, Bool.false_and, Bool.and_false]
  · rw [List.nil_append] at k2 ⊢
    have k0 : (ss.all fun z => decide (z ∈ srs.map (·.1))) = true := List.all_eq_true.mpr k1
    have hw : apRight srs ss = (!decide (ss.length = 0) && (!decide (ss.length = srs.length) && apClosed srs ss)) := by
      unfold apRight
      rw [k0, show decide ss.Nodup = true from decide_eq_true k2, Bool.true_and, Bool.true_and]
    rw [hw] at h
    rw [nl]
    by_cases q1 : ss.length = 0
    · rw [decide_eq_true q1] at h
      exact ifD_t (by rw [decide_eq_true (show ((ss.length : Nat) : Int) = 0 by omega)]; rfl) h
    by_cases q2 : ss.length = srs.length
    · rw [decide_eq_true q2, Bool.not_true, Bool.false_and, Bool.and_false] at h
      exact ifD_t (by rw [decide_eq_true (show ((ss.length : Nat) : Int) = (srs.length : Nat) by omega), Bool.or_true]) h
    rw [decide_eq_false q1, decide_eq_false q2, Bool.not_false, Bool.true_and, Bool.true_and] at h
    refine ifD_f (by rw [decide_eq_false (show ¬ ((ss.length : Nat) : Int) = 0 by omega), decide_eq_false (show ¬ ((ss.length : Nat) : Int) = (srs.length : Nat) by omega)]; rfl) ?_
    refine forD_allB (R := Q false) (fun z => srs.all fun r => !decide (r.1 = z) || srs.all fun q => !(ledF r q && !decide (q.1 ∈ ss))) (fun z hz nx g1 g2 => ?_) (fun q => ?_) (fun q => ?_)
    · obtain ⟨r, hr, rfl⟩ := List.mem_map.mp (of_decide_eq_true (k1 z hz))
      have ez : (srs.all fun r' => !decide (r'.1 = r.1) || srs.all fun q => !(ledF r' q && !decide (q.1 ∈ ss))) = srs.all fun q => !(ledF r q && !decide (q.1 ∈ ss)) := by
        rw [Bool.eq_iff_iff]
        constructor
        · intro w
          have := List.all_eq_true.mp w r hr
          rwa [decide_eq_true rfl, Bool.not_true, Bool.false_or] at this
        · intro w
          refine List.all_eq_true.mpr fun r' hr' => ?_
          by_cases e : r'.1 = r.1
          · rw [row_uniq good hr' hr e, w, Bool.or_true]
          · rw [decide_eq_false e]; rfl
      rw [ez] at g1 g2
      rw [names_of, forD_map]
      refine forD_allB (R := Q false) (fun q : SRow => !(ledF r q && !decide (q.1 ∈ ss))) (fun q hq nx2 f1 f2 => ?_) g1 g2
      obtain ⟨_, _, a2, a3, _, _⟩ := good.sw r hr
      obtain ⟨_, _, b2, b3, _, _⟩ := good.sw q hq
      refine takes_ok pk (step_of (prs := prs) hq) (takes_ok pk (step_of (prs := prs) hr) fun led el => ?_)
      have e2 : decide (inOrd (prs.map (·.1)) q.2.1 = inOrd (prs.map (·.1)) r.2.1) = sameB q.2.1 r.2.1 := by
        rw [Bool.eq_iff_iff, decide_eq_true_iff, same_iff b2 a2 b3 a3]
      have el : led = decide (inOrd (prs.map (·.1)) q.2.1 = inOrd (prs.map (·.1)) r.2.1) := el
      rw [e2] at el
      subst el
      refine orD_ok (c := r.2.2.any fun y => decide (y ∈ q.2.1)) (fun _ k hk => gives_ok pk (step_of (prs := prs) hr) ?_) ?_
      · refine mapD_ok (fun y => decide (y ∈ inOrd (prs.map (·.1)) q.2.1)) (fun y hy k hk => takes_ok pk (step_of (prs := prs) hq) (show k (decide (y ∈ inOrd (prs.map (·.1)) q.2.1)) from hk)) ?_
        rw [List.nil_append]
        have := led_any good hr hq
        show k (((inOrd (prs.map (·.1)) r.2.2).map fun y => decide (y ∈ inOrd (prs.map (·.1)) q.2.1)).any id)
        rw [this]
        exact hk
      · show ifD (ledF r q && !decide (q.1 ∈ ss)) _ _
        cases e : (ledF r q && !decide (q.1 ∈ ss)) with
        | true => exact ifD_t rfl (f2 (by rw [e]; rfl))
        | false => exact ifD_f rfl (f1 (by rw [e]; rfl))
    · rw [show apClosed srs ss = true from q] at h; exact h
    · rw [show apClosed srs ss = false from q] at h; exact h
end
section
variable {prs : List (Str × Int)} {srs : List SRow}
/-- the set of a group, in the order of the places -/
abbrev gSet (prs : List (Str × Int)) (srs : List SRow) (k : Nat) : List Str := inOrd (prs.map (·.1)) (gAt (groupsR srs) k).1
abbrev gNm (srs : List SRow) (k : Nat) : List Str := (gAt (groupsR srs) k).2
abbrev rSet (prs : List (Str × Int)) (r : SRow) : List Str := inOrd (prs.map (·.1)) r.2.1
theorem grp_names_eq (good : GoodRows prs srs) {k : Nat} (hk : k < (groupsR srs).length) : gNm srs k = (srs.filter fun r => decide (rSet prs r = gSet prs srs k)).map (·.1) := by
  have hm : ordG (prs.map (·.1)) (gAt (groupsR srs) k) ∈ choiceT (planOf prs srs).steps := by
    rw [choiceT_eq good, gAt_get hk]
    exact List.mem_map.mpr ⟨_, List.getElem_mem hk, rfl⟩
  have h := (choice_ginv (planOf prs srs).steps).1 _ hm
  have h : (gAt (groupsR srs) k).2 = _ := h
  refine h.trans ?_
  show ((srs.map (ordRow (prs.map (·.1)))).filter _).map _ = _
  rw [List.filter_map, List.map_map]
  rfl
theorem grp_iff (good : GoodRows prs srs) {k : Nat} (hk : k < (groupsR srs).length) {n : Str} : n ∈ gNm srs k ↔ ∃ r ∈ srs, r.1 = n ∧ rSet prs r = gSet prs srs k := by
  rw [grp_names_eq good hk, List.mem_map]
  constructor
  · rintro ⟨r, hr, e⟩
    obtain ⟨h1, h2⟩ := List.mem_filter.mp hr
    exact ⟨r, h1, e, of_decide_eq_true h2⟩
  · rintro ⟨r, hr, e, h⟩
    exact ⟨r, List.mem_filter.mpr ⟨hr, decide_eq_true h⟩, e⟩
theorem grp_ex (good : GoodRows prs srs) {r : SRow} (hr : r ∈ srs) : ∃ k, k < (groupsR srs).length ∧ rSet prs r = gSet prs srs k := by
  have h := (choice_ginv (planOf prs srs).steps).2 _ (ord_mem (prs := prs) hr)
  rw [choiceT_eq good, List.map_map] at h
  obtain ⟨x, hx, e⟩ := List.mem_map.mp h
  obtain ⟨k, hk, rfl⟩ := List.getElem_of_mem hx
  refine ⟨k, hk, ?_⟩
  have e : inOrd (prs.map (·.1)) (groupsR srs)[k].1 = inOrd (prs.map (·.1)) r.2.1 := e
  show _ = inOrd (prs.map (·.1)) (gAt (groupsR srs) k).1
  rw [gAt_get hk]
  exact e.symm
theorem grp_mem (good : GoodRows prs srs) {r : SRow} (hr : r ∈ srs) {k : Nat} (hk : k < (groupsR srs).length) : r.1 ∈ gNm srs k ↔ rSet prs r = gSet prs srs k := by
  rw [grp_iff good hk]
  constructor
  · rintro ⟨q, hq, e, h⟩
    rw [row_uniq good hr hq e.symm]
    exact h
  · exact fun h => ⟨r, hr, rfl, h⟩
theorem grp_inj (good : GoodRows prs srs) {j k : Nat} (hj : j < (groupsR srs).length) (hk : k < (groupsR srs).length) (e : gSet prs srs j = gSet prs srs k) : j = k := by
  have nd := (groups_choices (sets_sub good)).2.nd
  have e : ((groupsR srs).map fun x => inOrd (prs.map (·.1)) x.1)[j]'(by rw [List.length_map]; exact hj) = ((groupsR srs).map fun x => inOrd (prs.map (·.1)) x.1)[k]'(by rw [List.length_map]; exact hk) := by
    rw [List.getElem_map, List.getElem_map, ← gAt_get hj, ← gAt_get hk]
    exact e
  rcases Nat.lt_trichotomy j k with h | h | h
  · exact absurd e (List.pairwise_iff_getElem.mp nd j k _ _ h)
  · exact h
  · exact absurd e.symm (List.pairwise_iff_getElem.mp nd k j _ _ h)
theorem grp_ne (good : GoodRows prs srs) {k : Nat} (hk : k < (groupsR srs).length) : ∃ r ∈ srs, r.1 ∈ gNm srs k ∧ rSet prs r = gSet prs srs k := by
  obtain ⟨n0, l, e, _⟩ := grp_head good hk
  obtain ⟨r, hr, e1, e2⟩ := (grp_iff good hk).mp (show n0 ∈ gNm srs k by unfold gNm; rw [e]; exact List.mem_cons_self ..)
  exact ⟨r, hr, (grp_mem good hr hk).mpr e2, e2⟩
theorem grp_nd (good : GoodRows prs srs) {k : Nat} (hk : k < (groupsR srs).length) : (gNm srs k).Nodup := by
  rw [grp_names_eq good hk]
  exact List.Sublist.nodup (List.Sublist.map _ List.filter_sublist) good.sn
theorem rset_mem (good : GoodRows prs srs) {r : SRow} (hr : r ∈ srs) {y : Str} : y ∈ rSet prs r ↔ y ∈ r.2.1 := by
  obtain ⟨_, _, a2, a3, _, _⟩ := good.sw r hr
  exact ⟨fun h => (mem_inOrd'.mp h).2, fun h => mem_inOrd'.mpr ⟨a3 y h, h⟩⟩
theorem gset_mem (good : GoodRows prs srs) {k : Nat} (hk : k < (groupsR srs).length) {y : Str} : y ∈ gSet prs srs k ↔ y ∈ (gAt (groupsR srs) k).1 := by
  exact ⟨fun h => (mem_inOrd'.mp h).2, fun h => mem_inOrd'.mpr ⟨(grp_set good hk).2 y h, h⟩⟩
/-- an arrow, by rows -/
theorem sx_rows (good : GoodRows prs srs) {u v : Nat} (hu : u < (groupsR srs).length) (hv : v < (groupsR srs).length) : Sx (arrowsR srs) u v ↔ ∃ r ∈ srs, rSet prs r = gSet prs srs u ∧ ∃ y ∈ gSet prs srs v, y ∈ r.2.2 := by
  rw [sx_iff hu, and_iff_right hv]
  constructor
  · rintro ⟨y, hy, h⟩
    obtain ⟨r, hr, h1, h2⟩ := (reach_iff good (grp_names hu)).mp h
    exact ⟨r, hr, (grp_mem good hr hu).mp h1, y, (gset_mem good hv).mpr hy, h2⟩
  · rintro ⟨r, hr, e, y, hy, h⟩
    exact ⟨y, (gset_mem good hv).mp hy, (reach_iff good (grp_names hu)).mpr ⟨r, hr, (grp_mem good hr hu).mpr e, h⟩⟩
theorem led_iff (good : GoodRows prs srs) {r q : SRow} (hr : r ∈ srs) (hq : q ∈ srs) {u v : Nat} (hu : u < (groupsR srs).length) (hv : v < (groupsR srs).length) (eu : rSet prs r = gSet prs srs u) (ev : rSet prs q = gSet prs srs v) :
    ledF r q = true ↔ u = v ∨ ∃ y ∈ gSet prs srs v, y ∈ r.2.2 := by
  obtain ⟨_, _, a2, a3, _, _⟩ := good.sw r hr
  obtain ⟨_, _, b2, b3, _, _⟩ := good.sw q hq
  unfold ledF
  rw [Bool.or_eq_true, same_iff b2 a2 b3 a3, List.any_eq_true]
  have h1 : inOrd (prs.map (·.1)) q.2.1 = inOrd (prs.map (·.1)) r.2.1 ↔ u = v := by
    constructor
    · intro e
      refine grp_inj good hu hv ?_
      rw [← eu, ← ev]
      exact e.symm
    · intro e
      subst e
      exact ev.trans eu.symm
  have h2 : (∃ x ∈ r.2.2, decide (x ∈ q.2.1) = true) ↔ ∃ y ∈ gSet prs srs v, y ∈ r.2.2 := by
    constructor
    · rintro ⟨x, hx, e⟩
      exact ⟨x, by rw [← ev]; exact (rset_mem good hq).mpr (of_decide_eq_true e), hx⟩
    · rintro ⟨x, hx, e⟩
      exact ⟨x, e, decide_eq_true ((rset_mem good hq).mp (by rw [ev]; exact hx))⟩
  rw [h1, h2]
end
section
variable {prs : List (Str × Int)} {srs : List SRow}
/-- the steps of some groups, as a paper APART -/
theorem apRight_groups (good : GoodRows prs srs) {ss : List Str} {U : List Nat} (nd : ss.Nodup) (un : U.Nodup) (ul : ∀ u ∈ U, u < (groupsR srs).length) (hm : ∀ n, n ∈ ss ↔ ∃ k ∈ U, n ∈ gNm srs k) :
    apRight srs ss = true ↔ U ≠ [] ∧ U.length ≠ (groupsR srs).length ∧ ∀ u ∈ U, ∀ v, v < (groupsR srs).length → Sx (arrowsR srs) u v → v ∈ U := by
  have hin : ∀ {r : SRow} {k : Nat}, r ∈ srs → k < (groupsR srs).length → rSet prs r = gSet prs srs k → (r.1 ∈ ss ↔ k ∈ U) := fun {r k} hr hk e => by
    rw [hm]
    constructor
    · rintro ⟨j, hj, h⟩
      have := (grp_mem good hr (ul j hj)).mp h
      rw [← grp_inj good (ul j hj) hk (this.symm.trans e)]
      exact hj
    · exact fun h => ⟨k, h, (grp_mem good hr hk).mpr e⟩
  have ssub : ∀ z ∈ ss, ∃ r ∈ srs, r.1 = z := fun z hz => by
    obtain ⟨k, hk, h⟩ := (hm z).mp hz
    exact grp_names (ul k hk) z h
  have h1 : ss.length = 0 ↔ U = [] := by
    rw [List.length_eq_zero_iff]
    constructor
    · intro e
      refine List.eq_nil_iff_forall_not_mem.mpr fun u hu => ?_
      obtain ⟨r, hr, h, _⟩ := grp_ne good (ul u hu)
      have := (hm r.1).mpr ⟨u, hu, h⟩
      rw [e] at this
      cases this
    · intro e
      subst e
      refine List.eq_nil_iff_forall_not_mem.mpr fun z hz => ?_
      obtain ⟨k, hk, _⟩ := (hm z).mp hz
      cases hk
  have h2 : ss.length = srs.length ↔ U.length = (groupsR srs).length := by
    have a1 : ss.length = srs.length ↔ ∀ r ∈ srs, r.1 ∈ ss := by
      have l0 : (srs.map (·.1)).length = srs.length := List.length_map ..
      constructor
      · intro e r hr
        refine Classical.byContradiction fun q => ?_
        have := List.Nodup.length_le_of_subset (nodup_snoc nd q) (l₂ := srs.map (·.1)) (fun z hz => by
          rcases List.mem_append.mp hz with hz | hz
          · obtain ⟨r, hr, e⟩ := ssub z hz
            exact List.mem_map.mpr ⟨r, hr, e⟩
          · rw [List.mem_singleton.mp hz]
            exact List.mem_map.mpr ⟨r, hr, rfl⟩)
        rw [List.length_append, l0] at this
        have this : ss.length + 1 ≤ srs.length := this
        omega
      · intro h
        have b1 := List.Nodup.length_le_of_subset nd (l₂ := srs.map (·.1)) (fun z hz => by
          obtain ⟨r, hr, e⟩ := ssub z hz
          exact List.mem_map.mpr ⟨r, hr, e⟩)
        have b2 := List.Nodup.length_le_of_subset good.sn (l₂ := ss) (fun z hz => by
          obtain ⟨r, hr, e⟩ := List.mem_map.mp hz
          rw [← e]
          exact h r hr)
        rw [l0] at b1 b2
        omega
    have a2 : U.length = (groupsR srs).length ↔ ∀ k, k < (groupsR srs).length → k ∈ U := by
      have l0 : (List.range (groupsR srs).length).length = (groupsR srs).length := List.length_range
      constructor
      · intro e k hk
        refine Classical.byContradiction fun q => ?_
        have := List.Nodup.length_le_of_subset (nodup_snoc un q) (l₂ := List.range (groupsR srs).length) (fun z hz => by
          rcases List.mem_append.mp hz with hz | hz
          · exact List.mem_range.mpr (ul z hz)
          · rw [List.mem_singleton.mp hz]
            exact List.mem_range.mpr hk)
        rw [List.length_append, l0] at this
        have this : U.length + 1 ≤ (groupsR srs).length := this
        omega
      · intro h
        have b1 := List.Nodup.length_le_of_subset un (l₂ := List.range (groupsR srs).length) (fun z hz => List.mem_range.mpr (ul z hz))
        have b2 := List.Nodup.length_le_of_subset (List.nodup_range (n := (groupsR srs).length)) (l₂ := U) (fun z hz => h z (List.mem_range.mp hz))
        rw [l0] at b1 b2
        omega
    rw [a1, a2]
    constructor
    · intro h k hk
      obtain ⟨r, hr, _, e⟩ := grp_ne good hk
      exact (hin hr hk e).mp (h r hr)
    · intro h r hr
      obtain ⟨k, hk, e⟩ := grp_ex good hr
      exact (hin hr hk e).mpr (h k hk)
  have h3 : apClosed srs ss = true ↔ ∀ u ∈ U, ∀ v, v < (groupsR srs).length → Sx (arrowsR srs) u v → v ∈ U := by
    unfold apClosed
    rw [List.all_eq_true]
    constructor
    · intro h u hu v hv hs
      obtain ⟨r, hr, eu, y, hy, hy2⟩ := (sx_rows good (ul u hu) hv).mp hs
      obtain ⟨q, hq, _, ev⟩ := grp_ne good hv
      have hrs := (hin hr (ul u hu) eu).mpr hu
      have := List.all_eq_true.mp (h r.1 hrs) r hr
      rw [decide_eq_true rfl, Bool.not_true, Bool.false_or, List.all_eq_true] at this
      have := this q hq
      rw [(led_iff good hr hq (ul u hu) hv eu ev).mpr (.inr ⟨y, hy, hy2⟩), Bool.true_and, Bool.not_not] at this
      exact (hin hq hv ev).mp (of_decide_eq_true this)
    · intro h z hz
      refine List.all_eq_true.mpr fun r hr => ?_
      by_cases e : r.1 = z
      · subst e
        rw [decide_eq_true rfl, Bool.not_true, Bool.false_or, List.all_eq_true]
        intro q hq
        obtain ⟨u, hu, eu⟩ := grp_ex good hr
        obtain ⟨v, hv, ev⟩ := grp_ex good hq
        have hu2 := (hin hr hu eu).mp hz
        cases l : ledF r q with
        | false => rfl
        | true =>
          have : v ∈ U := by
            rcases (led_iff good hr hq hu hv eu ev).mp l with e | ⟨y, hy, hy2⟩
            · rw [← e]; exact hu2
            · exact h u hu2 v hv ((sx_rows good hu hv).mpr ⟨r, hr, eu, y, hy, hy2⟩)
          rw [decide_eq_true ((hin hq hv ev).mpr this)]
          rfl
      · rw [decide_eq_false e]; rfl
  unfold apRight
  rw [Bool.and_eq_true, Bool.and_eq_true, Bool.and_eq_true, Bool.and_eq_true, Bool.not_eq_true', Bool.not_eq_true', decide_eq_false_iff_not, decide_eq_false_iff_not, decide_eq_true_iff, h1, h2, h3, List.all_eq_true]
  exact ⟨fun ⟨_, _, h⟩ => h, fun h => ⟨fun z hz => decide_eq_true (by
    obtain ⟨r, hr, e⟩ := ssub z hz
    exact List.mem_map.mpr ⟨r, hr, e⟩), nd, h⟩⟩
end
section
theorem join_len : ∀ ys : List Str, (Str.join "" ys).length = (ys.map (·.length)).sum
  | [] => rfl
  | [x] => by simp [Str.join]
  | x :: y :: r => by
    have ih := join_len (y :: r)
    show (x ++ "" ++ Str.join "" (y :: r)).length = _
    rw [Str.length_append, Str.length_append, ih, List.map_cons, List.sum_cons]
    rfl
theorem le_sum {l : List Nat} {n : Nat} (h : n ∈ l) : n ≤ l.sum := by
  induction l with
  | nil => cases h
  | cons a l ih =>
    rw [List.sum_cons]
    rcases List.mem_cons.mp h with h | h
    · omega
    · have := ih h
      omega
theorem tjoin_eq (ys : List Str) : Txt.join "" ys = Str.join "" ys := PySem.StrLaws.glued_eq_join _ _
theorem strange_new {ys : List Str} : (("z" : Str) ++ Txt.join "" ys) ∉ ys := fun h => by
  have h1 := le_sum (List.mem_map.mpr ⟨_, h, rfl⟩ : (("z" : Str) ++ Txt.join "" ys).length ∈ ys.map (·.length))
  rw [Str.length_append, tjoin_eq, join_len] at h1
  have : (("z" : Str)).length = 1 := rfl
  omega
theorem sum_le {l : List Nat} {m : Nat} (h : ∀ n ∈ l, n ≤ m) : l.sum ≤ l.length * m := by
  induction l with
  | nil => simp
  | cons a l ih =>
    rw [List.sum_cons, List.length_cons, Nat.succ_mul]
    have h1 := h a (List.mem_cons_self ..)
    have h2 := ih fun n hn => h n (List.mem_cons_of_mem _ hn)
    omega
end
section
variable {prs : List (Str × Int)} {srs : List SRow}
theorem same_set (good : GoodRows prs srs) {r q : SRow} (h : SameR r q) : rSet prs r = rSet prs q := by
  unfold rSet inOrd
  refine List.filter_congr fun y _ => ?_
  simp only [h y]
theorem joinRw_B (good : GoodRows prs srs) (h : JoinRw srs) : joinB (arrowsR srs) = true := by
  rw [joinB_iff]
  intro s hs
  refine allR_iff.mpr fun v hv => Classical.byContradiction fun hn => ?_
  have al := arr_len (srs := srs)
  rw [al] at hs hv
  obtain ⟨r0, hr0, _, e0⟩ := grp_ne good hs
  obtain ⟨q0, hq0, _, f0⟩ := grp_ne good hv
  obtain ⟨r, hr, ⟨u, hu, eu, k, hk⟩, q, hq, nq, y, y1, y2⟩ := h (fun r => ∃ u, u < (groupsR srs).length ∧ rSet prs r = gSet prs srs u ∧ ∃ k, RK (arrowsR srs) s k u)
    (fun r hr q hq sm ⟨u, hu, eu, hk⟩ => ⟨u, hu, (same_set good sm).symm.trans eu, hk⟩) ⟨r0, hr0, s, hs, e0, 0, rfl⟩ ⟨q0, hq0, fun ⟨u, hu, eu, hk⟩ => hn (by rw [← grp_inj good hu hv (eu.symm.trans f0)]; exact hk)⟩
  obtain ⟨v', hv', ev⟩ := grp_ex good hq
  refine nq ⟨v', hv', ev, k + 1, .inr ⟨u, hk, (sx_rows good hu hv').mpr ⟨r, hr, eu, y, ?_, y1⟩⟩⟩
  rw [← ev]
  exact (rset_mem good hq).mpr y2
theorem few_groups (good : GoodRows prs srs) {gs : List (List Str)} (hl : gs.length ≤ 6) (h : ∀ r ∈ srs, r.2.1 ∈ gs) : (groupsR srs).length ≤ 6 := by
  have nd : ((List.range (groupsR srs).length).map (gSet prs srs)).Nodup := nd_map List.nodup_range fun a ha b hb e => grp_inj good (List.mem_range.mp ha) (List.mem_range.mp hb) e
  have := List.Nodup.length_le_of_subset nd (l₂ := gs.map (inOrd (prs.map (·.1)))) fun x hx => by
    obtain ⟨k, hk, rfl⟩ := List.mem_map.mp hx
    obtain ⟨r, hr, _, e⟩ := grp_ne good (List.mem_range.mp hk)
    rw [← e]
    exact List.mem_map.mpr ⟨_, h r hr, rfl⟩
  rw [List.length_map, List.length_map, List.length_range] at this
  omega
abbrev zn (cs : List Nat) : List Int := cs.map fun v : Nat => (v : Int)
def stepsF (srs : List SRow) (cs : List Nat) : List Str := cs.flatMap (gNm srs)
theorem stepsF_mem {cs : List Nat} {x : Str} : x ∈ stepsF srs cs ↔ ∃ k ∈ cs, x ∈ gNm srs k := List.mem_flatMap
theorem lsteps_ok (good : GoodRows prs srs) {cs : List Nat} (cl : cs.length ≤ 13) (hc : ∀ v ∈ cs, v < (groupsR srs).length) {Q : List Str → Prop} {X : HE → Prop} (h : Q (stepsF srs cs)) : m__law_steps ((groupsR srs).map (·.2)) (zn cs) Q X := by
  unfold m__law_steps
  have hb : big = 100000 := rfl
  intro s0 e0
  subst e0
  unfold zn
  rw [forD_map]
  refine forD_inv (fun pre st => st = stepsF srs pre) rfl (fun pre x post st nx ex hi hnx => ?_) fun st hi => by rw [hi]; exact h
  subst hi
  have hx := hc x (by rw [ex]; simp)
  have lx := grp_len good hx
  have lp : pre.length ≤ 13 := by
    have := congrArg List.length ex
    rw [List.length_append, List.length_cons] at this
    omega
  have ls : (stepsF srs pre).length ≤ 13 * 13 := flat_len_le (fun v hv => grp_len good (hc v (by rw [ex]; exact List.mem_append_left _ hv))) lp
  refine ⟨_, gnames_at hx, by omega, fun s1 e1 => hnx _ ?_⟩
  rw [e1]
  unfold stepsF
  rw [List.flatMap_append, List.flatMap_cons, List.flatMap_nil, List.append_nil]
theorem stepsF_nd (good : GoodRows prs srs) {cs : List Nat} (nd : cs.Nodup) (hc : ∀ v ∈ cs, v < (groupsR srs).length) : (stepsF srs cs).Nodup := by
  unfold stepsF List.Nodup
  rw [List.pairwise_flatMap]
  refine ⟨fun v hv => grp_nd good (hc v hv), List.Pairwise.imp_of_mem (fun {a b} ha hb ne x hx y hy e => ne ?_) nd⟩
  subst e
  obtain ⟨r, hr, er, sr⟩ := (grp_iff good (hc a ha)).mp hx
  obtain ⟨q, hq, eq, sq⟩ := (grp_iff good (hc b hb)).mp hy
  have := row_uniq good hr hq (er.trans eq.symm)
  subst this
  exact grp_inj good (hc a ha) (hc b hb) (sr.symm.trans sq)
theorem stepsF_len (good : GoodRows prs srs) {cs : List Nat} (nd : cs.Nodup) (hc : ∀ v ∈ cs, v < (groupsR srs).length) : (stepsF srs cs).length ≤ 13 := by
  have := List.Nodup.length_le_of_subset (stepsF_nd good nd hc) (l₂ := srs.map (·.1)) fun x hx => by
    obtain ⟨k, hk, hx⟩ := stepsF_mem.mp hx
    obtain ⟨r, hr, e⟩ := grp_names (hc k hk) x hx
    exact List.mem_map.mpr ⟨r, hr, e⟩
  rw [List.length_map] at this
  have := good.s13
  omega
/-- right by the law's own reading -/
def rightF (T : List (List Int)) (n : Nat) (cs : List Nat) : Bool := !(decide (zn cs = []) || decide (((zn cs).length : Int) = (n : Int))) && (zn cs).all fun x => (T.getD x.toNat []).all fun y => decide (y ∈ zn cs)
theorem zn_mem {cs : List Nat} {v : Nat} : (v : Int) ∈ zn cs ↔ v ∈ cs := natm
theorem right_iff {T : List (List Int)} (hT : TbOk T) {cs : List Nat} (hc : ∀ v ∈ cs, v < T.length) : rightF T T.length cs = true ↔ cs ≠ [] ∧ cs.length ≠ T.length ∧ ∀ u ∈ cs, ∀ v, v < T.length → Sx T u v → v ∈ cs := by
  unfold rightF
  rw [Bool.and_eq_true, Bool.not_eq_true', Bool.or_eq_false_iff, decide_eq_false_iff_not, decide_eq_false_iff_not, List.all_eq_true]
  have e1 : zn cs = [] ↔ cs = [] := List.map_eq_nil_iff
  have e2 : ((zn cs).length : Int) = (T.length : Int) ↔ cs.length = T.length := by
    unfold zn
    rw [List.length_map]
    omega
  rw [e1, e2, and_assoc]
  refine and_congr_right fun _ => and_congr_right fun _ => ⟨fun h u hu v hv hs => ?_, fun h x hx => ?_⟩
  · have := List.all_eq_true.mp (h (u : Int) (zn_mem.mpr hu)) (v : Int) hs
    exact zn_mem.mp (of_decide_eq_true this)
  · obtain ⟨u, hu, rfl⟩ := List.mem_map.mp hx
    refine List.all_eq_true.mpr fun y hy => decide_eq_true ?_
    obtain ⟨_, h2⟩ := row_ok hT (hc u hu)
    obtain ⟨j, rfl, hj, hs⟩ := h2 y hy
    exact zn_mem.mpr (h u hu j hj hs)
theorem lright_ok {T : List (List Int)} {groups : List (List Str)} (hl : groups.length = T.length) {cs : List Nat} (hc : ∀ v ∈ cs, v < T.length) {Q : Bool → Prop} {X : HE → Prop} (h : Q (rightF T T.length cs)) : m__law_right T groups (zn cs) Q X := by
  unfold m__law_right
  unfold rightF at h
  rw [hl]
  refine ⟨fun e => by rw [e] at h; exact h, fun e => ?_⟩
  rw [e, Bool.not_false, Bool.true_and] at h
  refine forD_allB (R := Q false) (fun x : Int => (T.getD x.toNat []).all fun y => decide (y ∈ zn cs)) (fun x hx nx g1 g2 => ?_) (fun q => by rw [q] at h; exact h) (fun q => by rw [q] at h; exact h)
  obtain ⟨u, hu, rfl⟩ := List.mem_map.mp hx
  refine ⟨_, atI_row (hc u hu), ?_⟩
  rw [List.map_id']
  have e3 : decide (((T.getD u []).filter fun x6 => !decide (x6 ∈ zn cs)) = []) = (T.getD u []).all fun y => decide (y ∈ zn cs) := by
    rw [Bool.eq_iff_iff, decide_eq_true_iff, List.filter_eq_nil_iff, List.all_eq_true]
    exact forall_congr' fun x => imp_congr_right fun _ => by simp
  rw [e3]
  have g1 : ((T.getD u []).all fun y => decide (y ∈ zn cs)) = true → nx () := g1
  have g2 : ((T.getD u []).all fun y => decide (y ∈ zn cs)) = false → Q false := g2
  cases q : ((T.getD u []).all fun y => decide (y ∈ zn cs)) with
  | true => exact ifD_f rfl (g1 q)
  | false => exact ifD_t rfl (g2 q)
/-- the sets that the law draws -/
structure SetsOk (n : Nat) (sets : List (List Int)) : Prop where
  el : ∀ x ∈ sets, ∃ cs : List Nat, x = zn cs ∧ cs.Nodup ∧ ∀ v ∈ cs, v < n
  len : 1 ≤ sets.length ∧ sets.length ≤ 200 + n
  full : n ≤ 6 → sets.length = 2 ^ n ∧ ∀ p : Nat → Bool, zn ((List.range n).filter p) ∈ sets
theorem nd_len {cs : List Nat} {n : Nat} (nd : cs.Nodup) (h : ∀ v ∈ cs, v < n) : cs.length ≤ n := by
  have := List.Nodup.length_le_of_subset nd (l₂ := List.range n) fun v hv => List.mem_range.mpr (h v hv)
  rwa [List.length_range] at this
theorem more_set {cs : List Nat} {i : Nat} (nd : cs.Nodup) (h : ∀ v ∈ cs, v < i) : (cs ++ [i]).Nodup ∧ ∀ v ∈ cs ++ [i], v < i + 1 := ⟨nodup_snoc nd fun q => absurd (h i q) (by omega), fun v hv => by
  rcases List.mem_append.mp hv with q | q
  · have := h v q; omega
  · rw [List.mem_singleton.mp q]; omega⟩
theorem lsets_ok {groups : List (List Str)} (hn : groups.length ≤ 13) {Q : List (List Int) → Prop} {X : HE → Prop} (h : ∀ sets, SetsOk groups.length sets → Q sets) : m__law_sets groups Q X := by
  unfold m__law_sets
  have hb : big = 100000 := rfl
  intro s0 e0
  subst e0
  rw [Int.toNat_natCast]
  refine forD_inv (fun pre st => SetsOk pre.length st) ?_ (fun pre x post st nx ex hi hnx => ?_) fun st hi => ?_
  · refine ⟨fun x hx => ⟨[], List.mem_singleton.mp hx, List.nodup_nil, fun v hv => by cases hv⟩, by simp, fun _ => ⟨rfl, fun p => ?_⟩⟩
    exact List.mem_singleton.mpr rfl
  · obtain ⟨e1, e2⟩ := intsF_sp ex
    subst e1
    have pl : (pre ++ [(pre.length : Int)]).length = pre.length + 1 := by rw [List.length_append]; rfl
    have up : ∀ {cs : List Nat}, zn cs ++ [(pre.length : Int)] = zn (cs ++ [pre.length]) := fun {cs} => by unfold zn; rw [List.map_append]; rfl
    have el' : ∀ x ∈ st, ∃ cs : List Nat, x = zn cs ∧ cs.Nodup ∧ ∀ v ∈ cs, v < pre.length + 1 := fun x hx => by
      obtain ⟨cs, e, nd, hc⟩ := hi.el x hx
      exact ⟨cs, e, nd, fun v hv => Nat.lt_succ_of_lt (hc v hv)⟩
    have xl : ∀ x ∈ st, x.length ≤ 13 := fun x hx => by
      obtain ⟨cs, e, nd, hc⟩ := hi.el x hx
      have := nd_len nd hc
      rw [e]
      unfold zn
      rw [List.length_map]
      omega
    have l1 := hi.len
    by_cases q : st.length < 64
    · refine ifD_t (decide_eq_true (by omega)) ?_
      refine mapD_ok (fun x6 => x6 ++ [(pre.length : Int)]) (fun x hx k hk => ⟨?_, hk⟩) ?_
      · have := xl x hx
        show x.length + 1 ≤ big
        omega
      rw [List.nil_append, List.length_map]
      refine ⟨by omega, fun s1 e1 => hnx _ ?_⟩
      subst e1
      rw [pl]
      refine ⟨fun x hx => ?_, ?_, fun h6 => ⟨?_, fun p => ?_⟩⟩
      · rcases List.mem_append.mp hx with hx | hx
        · exact el' x hx
        · obtain ⟨y, hy, rfl⟩ := List.mem_map.mp hx
          obtain ⟨cs, e, nd, hc⟩ := hi.el y hy
          obtain ⟨m1, m2⟩ := more_set nd hc
          exact ⟨cs ++ [pre.length], by rw [e]; exact up, m1, m2⟩
      · rw [List.length_append, List.length_map]
        omega
      · rw [List.length_append, List.length_map, (hi.full (by omega)).1, Nat.pow_succ]
        omega
      · have f := (hi.full (by omega)).2 p
        rw [List.range_succ, List.filter_append, List.filter_cons, List.filter_nil]
        cases e : p pre.length with
        | true =>
          rw [if_pos rfl, ← up]
          exact List.mem_append_right _ (List.mem_map.mpr ⟨_, f, rfl⟩)
        | false =>
          rw [if_neg Bool.false_ne_true, List.append_nil]
          exact List.mem_append_left _ f
    · refine ifD_f (decide_eq_false (by omega)) ⟨by omega, ?_, fun n h0 h1 => ?_⟩
      · have : (13 : Int) ^ 3 ≤ 10 ^ 40 := by decide
        have : ((st.length : Nat) : Int) ≤ 13 ^ 3 := by have : (13 : Int) ^ 3 = 2197 := rfl; omega
        omega
      obtain ⟨j, rfl⟩ := Int.eq_ofNat_of_zero_le h0
      have hj : j < st.length := by omega
      have hm : st[j] ∈ st := List.getElem_mem hj
      refine ⟨st[j], atI_nat (List.getElem?_eq_getElem hj), ?_, ?_, fun s1 e1 => hnx _ ?_⟩
      · have := xl _ hm
        show st[j].length + 1 ≤ big
        omega
      · show st.length + 1 ≤ big
        omega
      subst e1
      rw [pl]
      obtain ⟨cs, e, nd, hc⟩ := hi.el _ hm
      refine ⟨fun x hx => ?_, ?_, fun h6 => ?_⟩
      · rcases List.mem_append.mp hx with hx | hx
        · exact el' x hx
        · obtain ⟨m1, m2⟩ := more_set nd hc
          exact ⟨cs ++ [pre.length], by rw [List.mem_singleton.mp hx, e]; exact up, m1, m2⟩
      · rw [List.length_append]
        show 1 ≤ st.length + 1 ∧ st.length + 1 ≤ _
        omega
      · exfalso
        have h5 : pre.length ≤ 5 := by omega
        have := (hi.full (by omega)).1
        have : (2 : Nat) ^ pre.length ≤ 2 ^ 5 := Nat.pow_le_pow_right (by decide) h5
        have : (2 : Nat) ^ 5 = 32 := rfl
        omega
  · rw [intsF_len] at hi
    exact h _ hi
end
section
variable {prs : List (Str × Int)} {srs : List SRow}
abbrev J16 := JL [("APART", m_judge_apart)] []
theorem jp16 {d : PlanD} {p : PyData} {r : List PyData} (hp : pit p = .str "APART" :: r) {Q : Bool → Prop} {X : HE → Prop} (h : m_judge_apart d p Q noX) : m_judge_plan J16 d p Q X := by
  refine ⟨fun e => (by rw [hp] at e; cases e), fun y ys e => ?_⟩
  rw [hp] at e
  cases e
  exact ⟨_, rfl, .inr ⟨_, rfl, h⟩⟩
theorem jaL (good : GoodRows prs srs) {ss : List Str} (hl : ss.length ≤ 10000) {Q : Bool → Prop} {X : HE → Prop} (h : Q (apRight srs ss)) : m_judge_plan J16 (planOf prs srs) (XDat.enc (r := (z2 yS (yL yS))) (("APART" : Str), ss)) Q X := jp16 rfl (japart_ok good rfl (.inl rfl) hl h)
theorem jaT (good : GoodRows prs srs) {ss : List Str} (hl : ss.length ≤ 10000) {Q : Bool → Prop} {X : HE → Prop} (h : Q (apRight srs ss)) : m_judge_plan J16 (planOf prs srs) (XDat.enc (r := (z2 yS (yT yS))) (("APART" : Str), ss)) Q X := jp16 rfl (japart_ok good rfl (.inr rfl) hl h)
theorem ap_nd {ss : List Str} (h : ¬ ss.Nodup) : apRight srs ss = false := by
  unfold apRight
  rw [decide_eq_false h, Bool.false_and, Bool.and_false]
theorem ap_out {ss : List Str} {z : Str} (h : z ∈ ss) (hz : z ∉ srs.map (·.1)) : apRight srs ss = false := by
  unfold apRight
  rw [show (ss.all fun z => decide (z ∈ srs.map (·.1))) = false from List.all_eq_false.mpr ⟨z, h, by rw [decide_eq_false hz]; exact Bool.false_ne_true⟩]
  rfl
theorem ap_part (good : GoodRows prs srs) {z0 : Str} {tl : List Str} {u : Nat} (hu : u < (groupsR srs).length) (h0 : z0 ∈ gNm srs u) (nd : (z0 :: tl).Nodup) (h1 : 1 < (gNm srs u).length) (hs : ∀ z ∈ gNm srs u, z ∈ z0 :: tl) : apRight srs tl = false := by
  obtain ⟨n0, n1⟩ := List.nodup_cons.mp nd
  have hz1 : ∃ z1 ∈ gNm srs u, z1 ≠ z0 := Classical.byContradiction fun c => by
    have := List.Nodup.length_le_of_subset (grp_nd good hu) (l₂ := [z0]) fun z hz => List.mem_singleton.mpr (Classical.byContradiction fun q => c ⟨z, hz, q⟩)
    have e : [z0].length = 1 := rfl
    omega
  obtain ⟨z1, hz1, ne⟩ := hz1
  have m1 : z1 ∈ tl := (List.mem_cons.mp (hs z1 hz1)).resolve_left ne
  obtain ⟨r, hr, er, sr⟩ := (grp_iff good hu).mp hz1
  obtain ⟨q, hq, eq, sq⟩ := (grp_iff good hu).mp h0
  cases e : apRight srs tl with
  | false => rfl
  | true =>
    exfalso
    unfold apRight at e
    rw [Bool.and_eq_true, Bool.and_eq_true, Bool.and_eq_true, Bool.and_eq_true] at e
    have cl := e.2.2.2.2
    unfold apClosed at cl
    have := List.all_eq_true.mp (List.all_eq_true.mp cl z1 m1) r hr
    rw [decide_eq_true er, Bool.not_true, Bool.false_or, List.all_eq_true] at this
    have := this q hq
    rw [(led_iff good hr hq hu hu sr sq).mpr (.inl rfl), Bool.true_and, Bool.not_not, eq] at this
    exact n0 (of_decide_eq_true this)
theorem due_row {T : List (List Int)} {l : List Nat} {s : Nat} (hm : ∀ v, v ∈ l ↔ ∃ k, RK (arrowsR srs) s k v) (lt : ∀ v ∈ l, v < (groupsR srs).length) :
    ((srs.filter fun x13 => decide (x13.1 ∈ stepsF srs l)).map fun x13 => x13.1) = (srs.map (·.1)).filter fun x => decide (x ∈ insideF srs s) := by
  rw [List.filter_map]
  congr 1
  refine List.filter_congr fun x _ => ?_
  show decide (x.1 ∈ stepsF srs l) = decide (x.1 ∈ insideF srs s)
  rw [decide_eq_decide, stepsF_mem]
  unfold insideF
  rw [List.mem_flatMap]
  constructor
  · rintro ⟨k, hk, hx⟩
    exact ⟨k, List.mem_filter.mpr ⟨List.mem_range.mpr (lt k hk), reachB_iff.mpr ((hm k).mp hk)⟩, hx⟩
  · rintro ⟨k, hk, hx⟩
    exact ⟨k, (hm k).mpr (reachB_iff.mp (List.mem_filter.mp hk).2), hx⟩
theorem find_snoc {α : Type} {p : α → Bool} {l : List α} {a : α} : (l ++ [a]).find? p = (l.find? p).or (if p a = true then some a else none) := by
  rw [List.find?_append]
  congr 1
  rw [List.find?_cons]
  cases p a <;> rfl
theorem xe_ne {x y : PyData} (h : x = y) : (!xeq x y) = false := by rw [xeq_t.mpr h]; rfl
theorem cut_one {α : Type} {xs : List α} : cutX xs (some (1 : Int)) none = xs.drop 1 := cutX_drop xs 1
theorem andD_no {c : Bool} {f : (Bool → Prop) → Prop} {k : Bool → Prop} (h1 : c = true → ∀ kk : Bool → Prop, kk false → f kk) (h : k false) : andD c f k := ⟨fun e => h1 e k h, fun _ => h⟩
theorem law_pure : m_law (· = true) noX := by
  unfold m_law
  refine fun prs srs good gq => mk_Plan_good good (lgroups_ok good (larrows_ok good fun due0 e0 => ?_))
  subst e0
  have hb : big = 100000 := rfl
  have al := arr_len (srs := srs)
  have gl := groups_le good
  have lg : ((groupsR srs).map (·.2)).length = (arrowsR srs).length := by rw [List.length_map, al]
  have hT : TbOk (arrowsR srs) := tb_ok
  dsimp only
  rw [Int.toNat_natCast, lg]
  refine forD_inv (fun pre st => st = ((List.range pre.length).find? fun s => !allR (arrowsR srs) s).map fun s => XDat.enc (r := (z2 yS (yL yS))) (("APART" : Str), (srs.map (·.1)).filter fun x => decide (x ∈ insideF srs s))) rfl (fun pre x post st nx ex hi hnx => ?_) fun st hi => ?_
  · obtain ⟨e1, e2⟩ := intsF_sp ex
    subst e1
    have pl : (pre ++ [(pre.length : Int)]).length = pre.length + 1 := by rw [List.length_append]; rfl
    refine spread_ok hT (by omega) e2 fun l nd lt hm => ?_
    have ld := all_len nd lt hm
    rw [show decide (((l.map fun v : Nat => (v : Int)).length : Int) < ((arrowsR srs).length : Int)) = !allR (arrowsR srs) pre.length by rw [← ld, List.length_map, decide_eq_decide]; omega]
    have st' : ∀ s, (((List.range (pre.length + 1)).find? fun s => !allR (arrowsR srs) s).map fun s => XDat.enc (r := (z2 yS (yL yS))) (("APART" : Str), (srs.map (·.1)).filter fun x => decide (x ∈ insideF srs s))) = s → s = (((List.range (pre ++ [(pre.length : Int)]).length).find? fun s => !allR (arrowsR srs) s).map fun s => XDat.enc (r := (z2 yS (yL yS))) (("APART" : Str), (srs.map (·.1)).filter fun x => decide (x ∈ insideF srs s))) := fun s e => by rw [pl]; exact e.symm
    cases ef : ((List.range pre.length).find? fun s => !allR (arrowsR srs) s) with
    | some s0 =>
      rw [ef] at hi
      subst hi
      refine ifD_f rfl (hnx _ (st' _ ?_))
      rw [List.range_succ, find_snoc, ef]
      rfl
    | none =>
      rw [ef] at hi
      subst hi
      cases ea : allR (arrowsR srs) pre.length with
      | true =>
        refine ifD_f rfl (hnx _ (st' _ ?_))
        rw [List.range_succ, find_snoc, ef, ea]
        rfl
      | false =>
        refine ifD_t rfl (lsteps_ok good (by have := nd_len nd lt; omega) (fun v hv => by rw [← al]; exact lt v hv) fun due1 e1 => hnx _ (st' _ ?_))
        rw [List.range_succ, find_snoc, ef, ea, e1, due_row (T := []) hm fun v hv => by rw [← al]; exact lt v hv]
        rfl
  rw [intsF_len] at hi
  have hi : st = apartF srs := by rw [hi, al]; rfl
  subst hi
  refine apart_ok good (ifD_f (xe_ne rfl) (lsets_ok (by rw [lg, al]; exact gl) fun sets so => ?_))
  rw [lg] at so
  refine forD_inv (fun pre st => st = pre.any fun x => rightF (arrowsR srs) (arrowsR srs).length (x.map Int.toNat)) rfl (fun pre x post st nx ex hi hnx => ?_) fun st hi => ?_
  · subst hi
    obtain ⟨cs, rfl, nd, lt⟩ := so.el x (by rw [ex]; simp)
    have lt' : ∀ v ∈ cs, v < (groupsR srs).length := fun v hv => by rw [← al]; exact lt v hv
    have tn : (zn cs).map Int.toNat = cs := by
      unfold zn
      rw [List.map_map]
      exact (List.map_congr_left fun x _ => rfl).trans (List.map_id _)
    have c13 : cs.length ≤ 13 := by have := nd_len nd lt'; omega
    have snd := stepsF_nd good nd lt'
    have sl := stepsF_len good nd lt'
    refine lsteps_ok good c13 lt' (lright_ok lg lt fun fd ef => ⟨by omega, ?_, fun n h0 h1 => ?_⟩)
    · have : (13 : Int) ^ 3 ≤ 10 ^ 40 := by decide
      have : (((stepsF srs cs).length : Nat) : Int) + 1 ≤ 13 ^ 3 := by have : (13 : Int) ^ 3 = 2197 := rfl; omega
      omega
    obtain ⟨j, rfl⟩ := Int.eq_ofNat_of_zero_le h0
    rw [show cutX (stepsF srs cs) (some ((j : Nat) : Int)) none = (stepsF srs cs).drop j from cutX_drop _ _, show cutX (stepsF srs cs) none (some ((j : Nat) : Int)) = (stepsF srs cs).take j from cutX_take _ _]
    refine ⟨by rw [List.length_drop, List.length_take]; omega, fun rot er => ?_⟩
    have pm : rot.Perm (stepsF srs cs) := by rw [er]; exact perm_rot _ _
    clear er h0 h1
    have rnd : rot.Nodup := pm.nodup_iff.mpr snd
    have rl : rot.length ≤ 13 := by rw [pm.length_eq]; exact sl
    have rm : ∀ n, n ∈ rot ↔ ∃ k ∈ cs, n ∈ gNm srs k := fun n => by rw [pm.mem_iff, stepsF_mem]
    have rr : apRight srs rot = rightF (arrowsR srs) (arrowsR srs).length cs := by
      rw [Bool.eq_iff_iff, apRight_groups good rnd nd lt' rm, right_iff hT lt, al]
    have go : nx fd := hnx _ (by
      rw [ef, List.any_append, List.any_cons, List.any_nil, Bool.or_false, tn])
    refine jaL good (by omega) ?_
    rw [rr]
    refine ⟨fun q => (by rw [decide_eq_true rfl] at q; cases q), fun _ => jaT good (by omega) ?_⟩
    rw [rr]
    refine ifD_f (by rw [decide_eq_true rfl]; rfl) ?_
    refine compD_ok (fun x : Int => decide (rot.headD "" ∈ gNm srs x.toNat) && decide (((gNm srs x.toNat).length : Int) > (1 : Int))) id (fun x hx k hk => ?_) ?_
    · obtain ⟨u, hu, rfl⟩ := List.mem_map.mp hx
      have hu' := lt' u hu
      obtain ⟨r0, hr0, g0, _⟩ := grp_ne good hu'
      have hm := (rm r0.1).mpr ⟨u, hu, g0⟩
      cases er : rot with
      | nil => rw [er] at hm; cases hm
      | cons z0 tl =>
        rw [er] at hk
        refine ⟨z0, atI_0, _, gnames_at hu', ?_⟩
        have hk : k (if (decide (z0 ∈ gNm srs u) && decide (((gNm srs u).length : Int) > (1 : Int))) = true then some (u : Int) else none) := hk
        constructor
        · intro e
          refine ⟨_, gnames_at hu', ?_⟩
          rw [show decide (z0 ∈ gNm srs u) = true from e, Bool.true_and] at hk
          exact ⟨fun q => by rw [if_pos q] at hk; exact hk, fun q => by rw [if_neg (by rw [q]; exact Bool.false_ne_true)] at hk; exact hk⟩
        · intro e
          rw [show decide (z0 ∈ gNm srs u) = false from e, Bool.false_and, if_neg Bool.false_ne_true] at hk
          exact ⟨(fun q => by cases q), fun _ => hk⟩
    rw [List.nil_append, List.map_id]
    intro whole ew
    have part : whole = false → apRight srs (rot.drop 1) = false := fun e => by
      rw [e] at ew
      have ne := of_decide_eq_false ew.symm
      obtain ⟨x, hx⟩ := List.exists_mem_of_ne_nil _ ne
      obtain ⟨hx1, hx2⟩ := List.mem_filter.mp hx
      obtain ⟨u, hu, rfl⟩ := List.mem_map.mp hx1
      rw [Bool.and_eq_true, decide_eq_true_iff, decide_eq_true_iff] at hx2
      obtain ⟨a1, a2⟩ := hx2
      have a1 : rot.headD "" ∈ gNm srs u := a1
      have a2 : ((gNm srs u).length : Int) > 1 := a2
      obtain ⟨r0, hr0, g0, _⟩ := grp_ne good (lt' u hu)
      have hm := (rm r0.1).mpr ⟨u, hu, g0⟩
      have hs : ∀ z ∈ gNm srs u, z ∈ rot := fun z hz => (rm z).mpr ⟨u, hu, hz⟩
      cases er : rot with
      | nil => rw [er] at hm; cases hm
      | cons z0 tl =>
        rw [er] at a1 rnd hs
        exact ap_part good (lt' u hu) a1 rnd (by omega) hs
    refine andD_no (fun e kk hk => ?_) (ifD_f rfl ?_)
    · rw [cut_one]
      refine jaL good (by rw [List.length_drop]; omega) ?_
      rw [part (by simpa using e)]
      exact hk
    · refine ⟨fun er => ?_, fun _ => go⟩
      have hne : cs ≠ [] := ((right_iff hT lt).mp er).1
      obtain ⟨u, hu⟩ := List.exists_mem_of_ne_nil _ hne
      obtain ⟨r0, hr0, g0, _⟩ := grp_ne good (lt' u hu)
      have hm := (rm r0.1).mpr ⟨u, hu, g0⟩
      have wl : ∀ n ∈ (srs.map fun x47 => x47.1).map (·.length), n ≤ 12 := fun n hn => by
        obtain ⟨y, hy, rfl⟩ := List.mem_map.mp hn
        obtain ⟨r, hr, rfl⟩ := List.mem_map.mp hy
        exact (good.sw r hr).1.len
      have sm := sum_le wl
      rw [List.length_map, List.length_map] at sm
      have s13 := good.s13
      have jl : (Txt.join ("" : Str) (srs.map fun x47 => x47.1)).length ≤ 12 * 13 := by
        rw [tjoin_eq, join_len]
        omega
      have z1 : (("z" : Str)).length = 1 := rfl
      have z0l : (("" : Str)).length = 0 := rfl
      refine ⟨by rw [z0l, Nat.mul_zero]; omega, by omega, fun sg es => ?_⟩
      have sn : sg ∉ srs.map (·.1) := by rw [es]; exact strange_new
      cases er2 : rot with
      | nil => rw [er2] at hm; cases hm
      | cons z0 tl =>
        rw [er2] at rl rnd
        rw [cut_one]
        have rl : tl.length + 1 ≤ 13 := rl
        refine ⟨z0, atI_0, ?_, ?_, ?_, ?_⟩
        · show tl.length + 1 + 1 ≤ big; omega
        · show tl.length + 1 + 1 ≤ big; omega
        · show 1 + tl.length ≤ big; omega
        refine forD_all (fun x hx nx2 hnx2 => ?_) go
        have key : apRight srs x = false ∧ x.length ≤ 10000 := by
          rcases List.mem_cons.mp hx with rfl | hx
          · refine ⟨ap_nd fun c => ?_, ?_⟩
            · exact (List.nodup_append.mp c).2.2 z0 (List.mem_cons_self ..) z0 (List.mem_singleton.mpr rfl) rfl
            · rw [List.length_append]
              show tl.length + 1 + 1 ≤ _
              omega
          rcases List.mem_cons.mp hx with rfl | hx
          · refine ⟨ap_out (z := sg) (List.mem_append_right _ (List.mem_singleton.mpr rfl)) sn, ?_⟩
            rw [List.length_append]
            show tl.length + 1 + 1 ≤ _
            omega
          · rw [List.mem_singleton.mp hx]
            refine ⟨ap_out (z := sg) (List.mem_append_left _ (List.mem_singleton.mpr rfl)) sn, ?_⟩
            show tl.length + 1 ≤ _
            omega
        refine jaL good key.2 ?_
        rw [key.1]
        exact ifD_f (by rw [decide_eq_true rfl]; rfl) hnx2
  · subst hi
    show (_ || (apartF srs).isNone) = true
    cases ea : apartF srs with
    | none => exact Bool.or_true _
    | some y =>
      rw [show (some y).isNone = false from rfl, Bool.or_false]
      have nj : ¬ joinB (arrowsR srs) = true := fun c => by
        rw [apart_none.mpr c] at ea
        cases ea
      have g6 : (arrowsR srs).length ≤ 6 := by
        rw [al]
        rcases gq with ⟨gs, g1, g2⟩ | g
        · exact few_groups good g1 g2
        · exact absurd (joinRw_B good g) nj
      unfold apartF at ea
      obtain ⟨s, hs, _⟩ := Option.map_eq_some_iff.mp ea
      have hs1 := List.mem_range.mp (List.mem_of_find?_eq_some hs)
      have hs2 := List.find?_some hs
      have hs2 : allR (arrowsR srs) s = false := by simpa using hs2
      rw [← al] at hs1
      have hU : ∀ v, v ∈ (List.range (arrowsR srs).length).filter (reachB (arrowsR srs) s) ↔ v < (arrowsR srs).length ∧ ∃ k, RK (arrowsR srs) s k v := fun v => by
        rw [List.mem_filter, List.mem_range, reachB_iff]
      refine List.any_eq_true.mpr ⟨_, (so.full g6).2 (reachB (arrowsR srs) s), ?_⟩
      rw [show (zn ((List.range (arrowsR srs).length).filter (reachB (arrowsR srs) s))).map Int.toNat = (List.range (arrowsR srs).length).filter (reachB (arrowsR srs) s) from by
        unfold zn
        rw [List.map_map]
        exact (List.map_congr_left fun x _ => rfl).trans (List.map_id _)]
      refine (right_iff hT fun v hv => ((hU v).mp hv).1).mpr ⟨?_, fun e => ?_, fun u hu v hv hsx => ?_⟩
      · exact List.ne_nil_of_mem (a := s) ((hU s).mpr ⟨hs1, 0, rfl⟩)
      · have : allR (arrowsR srs) s = true := allR_iff.mpr fun v hv => by
          refine Classical.byContradiction fun q => ?_
          have := List.Nodup.length_le_of_subset (nodup_snoc (List.Sublist.nodup (List.filter_sublist (p := reachB (arrowsR srs) s)) (List.nodup_range (n := (arrowsR srs).length))) (a := v) (fun z => q ((hU v).mp z).2)) (l₂ := List.range (arrowsR srs).length) (fun z hz => by
            rcases List.mem_append.mp hz with hz | hz
            · exact (List.mem_filter.mp hz).1
            · rw [List.mem_singleton.mp hz]; exact List.mem_range.mpr hv)
          rw [List.length_append, List.length_range, e] at this
          have this : (arrowsR srs).length + 1 ≤ (arrowsR srs).length := this
          omega
        rw [this] at hs2
        cases hs2
      · obtain ⟨_, k, hk⟩ := (hU u).mp hu
        exact (hU v).mpr ⟨hv, k + 1, .inr ⟨u, hk, hsx⟩⟩
end
theorem all_mk {P : Program} {w : World} {K : PySem.W.Frag} {h : Heap} {mg : Str → Option Value} {fa : Addr} (X : K.In h) (G : h.Ns mainGlobals mg) (hfa : mg "law" = some (.ref fa)) (top : (P.main.scope.names.lookup ("super" : Str)).isSome = false)
    {a_PLAN_JUDGES : Addr} {es_PLAN_JUDGES : Array DictEntry} {n_PLAN_JUDGES : Nat}
    {t_LETTERS : Tok}
    {t_DIGITS : Tok}
    {t_MOST_SIGNS : Tok}
    {t_MOST_PLACES : Tok}
    {t_MOST_STEPS : Tok}
    {t_MOST_BEGIN : Tok}
    {f__law_next : Addr} {od__law_next an__law_next : Option Addr} {sl__law_next : Array (Option Value)} {oc__law_next kV__law_next dc__law_next pm__law_next cd__law_next ct__law_next : Value}
    {f__law_box : Addr} {od__law_box an__law_box : Option Addr} {sl__law_box : Array (Option Value)} {oc__law_box kV__law_box dc__law_box pm__law_box cd__law_box ct__law_box : Value}
    {f__law_word : Addr} {od__law_word an__law_word : Option Addr} {sl__law_word : Array (Option Value)} {oc__law_word kV__law_word dc__law_word pm__law_word cd__law_word ct__law_word : Value}
    {f__law_words : Addr} {od__law_words an__law_words : Option Addr} {sl__law_words : Array (Option Value)} {oc__law_words kV__law_words dc__law_words pm__law_words cd__law_words ct__law_words : Value}
    {f__law_pick : Addr} {od__law_pick an__law_pick : Option Addr} {sl__law_pick : Array (Option Value)} {oc__law_pick kV__law_pick dc__law_pick pm__law_pick cd__law_pick ct__law_pick : Value}
    {f__law_any : Addr} {od__law_any an__law_any : Option Addr} {sl__law_any : Array (Option Value)} {oc__law_any kV__law_any dc__law_any pm__law_any cd__law_any ct__law_any : Value}
    {f__law_free : Addr} {od__law_free an__law_free : Option Addr} {sl__law_free : Array (Option Value)} {oc__law_free kV__law_free dc__law_free pm__law_free cd__law_free ct__law_free : Value}
    {f__law_stretched : Addr} {od__law_stretched an__law_stretched : Option Addr} {sl__law_stretched : Array (Option Value)} {oc__law_stretched kV__law_stretched dc__law_stretched pm__law_stretched cd__law_stretched ct__law_stretched : Value}
    {f__law_twinned : Addr} {od__law_twinned an__law_twinned : Option Addr} {sl__law_twinned : Array (Option Value)} {oc__law_twinned kV__law_twinned dc__law_twinned pm__law_twinned cd__law_twinned ct__law_twinned : Value}
    {f__law_detoured : Addr} {od__law_detoured an__law_detoured : Option Addr} {sl__law_detoured : Array (Option Value)} {oc__law_detoured kV__law_detoured dc__law_detoured pm__law_detoured cd__law_detoured ct__law_detoured : Value}
    {f__law_ring : Addr} {od__law_ring an__law_ring : Option Addr} {sl__law_ring : Array (Option Value)} {oc__law_ring kV__law_ring dc__law_ring pm__law_ring cd__law_ring ct__law_ring : Value}
    {f__law_grown : Addr} {od__law_grown an__law_grown : Option Addr} {sl__law_grown : Array (Option Value)} {oc__law_grown kV__law_grown dc__law_grown pm__law_grown cd__law_grown ct__law_grown : Value}
    {f__law_rows : Addr} {od__law_rows an__law_rows : Option Addr} {sl__law_rows : Array (Option Value)} {oc__law_rows kV__law_rows dc__law_rows pm__law_rows cd__law_rows ct__law_rows : Value}
    {f_is_word : Addr} {od_is_word an_is_word : Option Addr} {sl_is_word : Array (Option Value)} {oc_is_word kV_is_word dc_is_word pm_is_word cd_is_word ct_is_word : Value}
    {f_check_word : Addr} {od_check_word an_check_word : Option Addr} {sl_check_word : Array (Option Value)} {oc_check_word kV_check_word dc_check_word pm_check_word cd_check_word ct_check_word : Value}
    {f_check_number : Addr} {od_check_number an_check_number : Option Addr} {sl_check_number : Array (Option Value)} {oc_check_number kV_check_number dc_check_number pm_check_number cd_check_number ct_check_number : Value}
    {f_check_names : Addr} {od_check_names an_check_names : Option Addr} {sl_check_names : Array (Option Value)} {oc_check_names kV_check_names dc_check_names pm_check_names cd_check_names ct_check_names : Value}
    {f_in_order : Addr} {od_in_order an_in_order : Option Addr} {sl_in_order : Array (Option Value)} {oc_in_order kV_in_order dc_in_order pm_in_order cd_in_order ct_in_order : Value}
    {f_choices : Addr} {od_choices an_choices : Option Addr} {sl_choices : Array (Option Value)} {oc_choices kV_choices dc_choices pm_choices cd_choices ct_choices : Value}
    {f_arrows : Addr} {od_arrows an_arrows : Option Addr} {sl_arrows : Array (Option Value)} {oc_arrows kV_arrows dc_arrows pm_arrows cd_arrows ct_arrows : Value}
    {f_meets : Addr} {od_meets an_meets : Option Addr} {sl_meets : Array (Option Value)} {oc_meets kV_meets dc_meets pm_meets cd_meets ct_meets : Value}
    {f__law_groups : Addr} {od__law_groups an__law_groups : Option Addr} {sl__law_groups : Array (Option Value)} {oc__law_groups kV__law_groups dc__law_groups pm__law_groups cd__law_groups ct__law_groups : Value}
    {f__law_arrows : Addr} {od__law_arrows an__law_arrows : Option Addr} {sl__law_arrows : Array (Option Value)} {oc__law_arrows kV__law_arrows dc__law_arrows pm__law_arrows cd__law_arrows ct__law_arrows : Value}
    {f_judge_apart : Addr} {od_judge_apart an_judge_apart : Option Addr} {sl_judge_apart : Array (Option Value)} {oc_judge_apart kV_judge_apart dc_judge_apart pm_judge_apart cd_judge_apart ct_judge_apart : Value}
    {f_distances : Addr} {od_distances an_distances : Option Addr} {sl_distances : Array (Option Value)} {oc_distances kV_distances dc_distances pm_distances cd_distances ct_distances : Value}
    {f_apart_paper : Addr} {od_apart_paper an_apart_paper : Option Addr} {sl_apart_paper : Array (Option Value)} {oc_apart_paper kV_apart_paper dc_apart_paper pm_apart_paper cd_apart_paper ct_apart_paper : Value}
    {f__law_spread : Addr} {od__law_spread an__law_spread : Option Addr} {sl__law_spread : Array (Option Value)} {oc__law_spread kV__law_spread dc__law_spread pm__law_spread cd__law_spread ct__law_spread : Value}
    {f__law_sets : Addr} {od__law_sets an__law_sets : Option Addr} {sl__law_sets : Array (Option Value)} {oc__law_sets kV__law_sets dc__law_sets pm__law_sets cd__law_sets ct__law_sets : Value}
    {f__law_steps : Addr} {od__law_steps an__law_steps : Option Addr} {sl__law_steps : Array (Option Value)} {oc__law_steps kV__law_steps dc__law_steps pm__law_steps cd__law_steps ct__law_steps : Value}
    {f__law_right : Addr} {od__law_right an__law_right : Option Addr} {sl__law_right : Array (Option Value)} {oc__law_right kV__law_right dc__law_right pm__law_right cd__law_right ct__law_right : Value}
    {f_judge_plan : Addr} {od_judge_plan an_judge_plan : Option Addr} {sl_judge_plan : Array (Option Value)} {oc_judge_plan kV_judge_plan dc_judge_plan pm_judge_plan cd_judge_plan ct_judge_plan : Value}
    {f_law : Addr} {od_law an_law : Option Addr} {sl_law : Array (Option Value)} {oc_law kV_law dc_law pm_law cd_law ct_law : Value}
    {C_TooMany fI_TooMany N_TooMany cda_TooMany cc_TooMany : Addr} {nm_TooMany q_TooMany file_TooMany : Str} {bs_TooMany bm_TooMany sub_TooMany : List Value} {sn_TooMany : List Str} {ab_TooMany : Bool} {col_TooMany : Option Bool} {dd_TooMany od_TooMany an_TooMany cdd_TooMany cld_TooMany : Option Addr} {m0_TooMany m1_TooMany m2_TooMany m3_TooMany m5_TooMany : Option Value} {oc_TooMany kV_TooMany dc_TooMany pm_TooMany ct_TooMany ccl_TooMany cl_TooMany : Value} {sl_TooMany ccs_TooMany csl_TooMany : Array (Option Value)} {vs_TooMany : Array Value} {tf_TooMany : Tok}
    {C_BadWord fI_BadWord N_BadWord cda_BadWord cc_BadWord : Addr} {nm_BadWord q_BadWord file_BadWord : Str} {bs_BadWord bm_BadWord sub_BadWord : List Value} {sn_BadWord : List Str} {ab_BadWord : Bool} {col_BadWord : Option Bool} {dd_BadWord od_BadWord an_BadWord cdd_BadWord cld_BadWord : Option Addr} {m0_BadWord m1_BadWord m2_BadWord m3_BadWord m5_BadWord : Option Value} {oc_BadWord kV_BadWord dc_BadWord pm_BadWord ct_BadWord ccl_BadWord cl_BadWord : Value} {sl_BadWord ccs_BadWord csl_BadWord : Array (Option Value)} {vs_BadWord : Array Value} {tf_BadWord : Tok}
    {C_DoubleName fI_DoubleName N_DoubleName cda_DoubleName cc_DoubleName : Addr} {nm_DoubleName q_DoubleName file_DoubleName : Str} {bs_DoubleName bm_DoubleName sub_DoubleName : List Value} {sn_DoubleName : List Str} {ab_DoubleName : Bool} {col_DoubleName : Option Bool} {dd_DoubleName od_DoubleName an_DoubleName cdd_DoubleName cld_DoubleName : Option Addr} {m0_DoubleName m1_DoubleName m2_DoubleName m3_DoubleName m5_DoubleName : Option Value} {oc_DoubleName kV_DoubleName dc_DoubleName pm_DoubleName ct_DoubleName ccl_DoubleName cl_DoubleName : Value} {sl_DoubleName ccs_DoubleName csl_DoubleName : Array (Option Value)} {vs_DoubleName : Array Value} {tf_DoubleName : Tok}
    {C_BadNumber fI_BadNumber N_BadNumber cda_BadNumber cc_BadNumber : Addr} {nm_BadNumber q_BadNumber file_BadNumber : Str} {bs_BadNumber bm_BadNumber sub_BadNumber : List Value} {sn_BadNumber : List Str} {ab_BadNumber : Bool} {col_BadNumber : Option Bool} {dd_BadNumber od_BadNumber an_BadNumber cdd_BadNumber cld_BadNumber : Option Addr} {m0_BadNumber m1_BadNumber m2_BadNumber m3_BadNumber m5_BadNumber : Option Value} {oc_BadNumber kV_BadNumber dc_BadNumber pm_BadNumber ct_BadNumber ccl_BadNumber cl_BadNumber : Value} {sl_BadNumber ccs_BadNumber csl_BadNumber : Array (Option Value)} {vs_BadNumber : Array Value} {tf_BadNumber : Tok}
    {C_EmptyStep fI_EmptyStep N_EmptyStep cda_EmptyStep cc_EmptyStep : Addr} {nm_EmptyStep q_EmptyStep file_EmptyStep : Str} {bs_EmptyStep bm_EmptyStep sub_EmptyStep : List Value} {sn_EmptyStep : List Str} {ab_EmptyStep : Bool} {col_EmptyStep : Option Bool} {dd_EmptyStep od_EmptyStep an_EmptyStep cdd_EmptyStep cld_EmptyStep : Option Addr} {m0_EmptyStep m1_EmptyStep m2_EmptyStep m3_EmptyStep m5_EmptyStep : Option Value} {oc_EmptyStep kV_EmptyStep dc_EmptyStep pm_EmptyStep ct_EmptyStep ccl_EmptyStep cl_EmptyStep : Value} {sl_EmptyStep ccs_EmptyStep csl_EmptyStep : Array (Option Value)} {vs_EmptyStep : Array Value} {tf_EmptyStep : Tok}
    {C_UnknownName fI_UnknownName N_UnknownName cda_UnknownName cc_UnknownName : Addr} {nm_UnknownName q_UnknownName file_UnknownName : Str} {bs_UnknownName bm_UnknownName sub_UnknownName : List Value} {sn_UnknownName : List Str} {ab_UnknownName : Bool} {col_UnknownName : Option Bool} {dd_UnknownName od_UnknownName an_UnknownName cdd_UnknownName cld_UnknownName : Option Addr} {m0_UnknownName m1_UnknownName m2_UnknownName m3_UnknownName m5_UnknownName : Option Value} {oc_UnknownName kV_UnknownName dc_UnknownName pm_UnknownName ct_UnknownName ccl_UnknownName cl_UnknownName : Value} {sl_UnknownName ccs_UnknownName csl_UnknownName : Array (Option Value)} {vs_UnknownName : Array Value} {tf_UnknownName : Tok}
    {C_Plan : Addr}
    {f_Plan___init__ : Addr} {od_Plan___init__ an_Plan___init__ : Option Addr} {sl_Plan___init__ : Array (Option Value)} {oc_Plan___init__ kV_Plan___init__ dc_Plan___init__ pm_Plan___init__ cd_Plan___init__ ct_Plan___init__ : Value}
    {f_Plan_put_step : Addr} {od_Plan_put_step an_Plan_put_step : Option Addr} {sl_Plan_put_step : Array (Option Value)} {oc_Plan_put_step kV_Plan_put_step dc_Plan_put_step pm_Plan_put_step cd_Plan_put_step ct_Plan_put_step : Value}
    {f_Plan_takes : Addr} {od_Plan_takes an_Plan_takes : Option Addr} {sl_Plan_takes : Array (Option Value)} {oc_Plan_takes kV_Plan_takes dc_Plan_takes pm_Plan_takes cd_Plan_takes ct_Plan_takes : Value}
    {f_Plan_gives : Addr} {od_Plan_gives an_Plan_gives : Option Addr} {sl_Plan_gives : Array (Option Value)} {oc_Plan_gives kV_Plan_gives dc_Plan_gives pm_Plan_gives cd_Plan_gives ct_Plan_gives : Value}
    {f_Plan___contains__ : Addr} {od_Plan___contains__ an_Plan___contains__ : Option Addr} {sl_Plan___contains__ : Array (Option Value)} {oc_Plan___contains__ kV_Plan___contains__ dc_Plan___contains__ pm_Plan___contains__ cd_Plan___contains__ ct_Plan___contains__ : Value}
    (z_len : PySem.W.nsIn K mainGlobals "len" = some none)
    (z_range : PySem.W.nsIn K mainGlobals "range" = some none)
    (z_abs : PySem.W.nsIn K mainGlobals "abs" = some none)
    (z_sum : PySem.W.nsIn K mainGlobals "sum" = some none)
    (z_sorted : PySem.W.nsIn K mainGlobals "sorted" = some none)
    (z_isinstance : PySem.W.nsIn K mainGlobals "isinstance" = some none)
    (z_zip : PySem.W.nsIn K mainGlobals "zip" = some none)
    (z_enumerate : PySem.W.nsIn K mainGlobals "enumerate" = some none)
    (z_reversed : PySem.W.nsIn K mainGlobals "reversed" = some none)
    (z_int : PySem.W.nsIn K mainGlobals "int" = some none)
    (z_str : PySem.W.nsIn K mainGlobals "str" = some none)
    (z_list : PySem.W.nsIn K mainGlobals "list" = some none)
    (z_tuple : PySem.W.nsIn K mainGlobals "tuple" = some none)
    (z_bool : PySem.W.nsIn K mainGlobals "bool" = some none)
    (z_all : PySem.W.nsIn K mainGlobals "all" = some none)
    (z_any : PySem.W.nsIn K mainGlobals "any" = some none)
    (z_ValueError : PySem.W.nsIn K mainGlobals "ValueError" = some none)
    (z_super : PySem.W.nsIn K mainGlobals "super" = some none)
    (g0_PLAN_JUDGES : PySem.W.nsIn K mainGlobals "PLAN_JUDGES" = some (some (.ref a_PLAN_JUDGES)))
    (g1_PLAN_JUDGES : K.lookup a_PLAN_JUDGES = some ⟨.type "dict", none, .dict es_PLAN_JUDGES n_PLAN_JUDGES, #[]⟩)
    (a_LETTERS : PySem.W.nsIn K mainGlobals "LETTERS" = some (some (.str LETTERS t_LETTERS)))
    (a_DIGITS : PySem.W.nsIn K mainGlobals "DIGITS" = some (some (.str DIGITS t_DIGITS)))
    (a_MOST_SIGNS : PySem.W.nsIn K mainGlobals "MOST_SIGNS" = some (some (.int 12 t_MOST_SIGNS)))
    (a_MOST_PLACES : PySem.W.nsIn K mainGlobals "MOST_PLACES" = some (some (.int 12 t_MOST_PLACES)))
    (a_MOST_STEPS : PySem.W.nsIn K mainGlobals "MOST_STEPS" = some (some (.int 16 t_MOST_STEPS)))
    (a_MOST_BEGIN : PySem.W.nsIn K mainGlobals "MOST_BEGIN" = some (some (.int 99 t_MOST_BEGIN)))
    (a__law_next : PySem.W.nsIn K mainGlobals "_law_next" = some (some (.ref f__law_next)))
    (l__law_next : K.lookup f__law_next = some ⟨oc__law_next, od__law_next, .func (PySem.W.fnOf "_law_next" "_law_next" (defArgs s__law_next) (defBody s__law_next) (defScope s__law_next) .none kV__law_next dc__law_next pm__law_next an__law_next cd__law_next ct__law_next), sl__law_next⟩)
    (c__law_next : PySem.W.codeIn K cd__law_next "_law_next" = true)
    (k__law_next : PySem.W.keepIn K (.ref f__law_next) = true)
    (a__law_box : PySem.W.nsIn K mainGlobals "_law_box" = some (some (.ref f__law_box)))
    (l__law_box : K.lookup f__law_box = some ⟨oc__law_box, od__law_box, .func (PySem.W.fnOf "_law_box" "_law_box" (defArgs s__law_box) (defBody s__law_box) (defScope s__law_box) .none kV__law_box dc__law_box pm__law_box an__law_box cd__law_box ct__law_box), sl__law_box⟩)
    (c__law_box : PySem.W.codeIn K cd__law_box "_law_box" = true)
    (k__law_box : PySem.W.keepIn K (.ref f__law_box) = true)
    (a__law_word : PySem.W.nsIn K mainGlobals "_law_word" = some (some (.ref f__law_word)))
    (l__law_word : K.lookup f__law_word = some ⟨oc__law_word, od__law_word, .func (PySem.W.fnOf "_law_word" "_law_word" (defArgs s__law_word) (defBody s__law_word) (defScope s__law_word) .none kV__law_word dc__law_word pm__law_word an__law_word cd__law_word ct__law_word), sl__law_word⟩)
    (c__law_word : PySem.W.codeIn K cd__law_word "_law_word" = true)
    (k__law_word : PySem.W.keepIn K (.ref f__law_word) = true)
    (a__law_words : PySem.W.nsIn K mainGlobals "_law_words" = some (some (.ref f__law_words)))
    (l__law_words : K.lookup f__law_words = some ⟨oc__law_words, od__law_words, .func (PySem.W.fnOf "_law_words" "_law_words" (defArgs s__law_words) (defBody s__law_words) (defScope s__law_words) .none kV__law_words dc__law_words pm__law_words an__law_words cd__law_words ct__law_words), sl__law_words⟩)
    (c__law_words : PySem.W.codeIn K cd__law_words "_law_words" = true)
    (k__law_words : PySem.W.keepIn K (.ref f__law_words) = true)
    (a__law_pick : PySem.W.nsIn K mainGlobals "_law_pick" = some (some (.ref f__law_pick)))
    (l__law_pick : K.lookup f__law_pick = some ⟨oc__law_pick, od__law_pick, .func (PySem.W.fnOf "_law_pick" "_law_pick" (defArgs s__law_pick) (defBody s__law_pick) (defScope s__law_pick) .none kV__law_pick dc__law_pick pm__law_pick an__law_pick cd__law_pick ct__law_pick), sl__law_pick⟩)
    (c__law_pick : PySem.W.codeIn K cd__law_pick "_law_pick" = true)
    (k__law_pick : PySem.W.keepIn K (.ref f__law_pick) = true)
    (a__law_any : PySem.W.nsIn K mainGlobals "_law_any" = some (some (.ref f__law_any)))
    (l__law_any : K.lookup f__law_any = some ⟨oc__law_any, od__law_any, .func (PySem.W.fnOf "_law_any" "_law_any" (defArgs s__law_any) (defBody s__law_any) (defScope s__law_any) .none kV__law_any dc__law_any pm__law_any an__law_any cd__law_any ct__law_any), sl__law_any⟩)
    (c__law_any : PySem.W.codeIn K cd__law_any "_law_any" = true)
    (k__law_any : PySem.W.keepIn K (.ref f__law_any) = true)
    (a__law_free : PySem.W.nsIn K mainGlobals "_law_free" = some (some (.ref f__law_free)))
    (l__law_free : K.lookup f__law_free = some ⟨oc__law_free, od__law_free, .func (PySem.W.fnOf "_law_free" "_law_free" (defArgs s__law_free) (defBody s__law_free) (defScope s__law_free) .none kV__law_free dc__law_free pm__law_free an__law_free cd__law_free ct__law_free), sl__law_free⟩)
    (c__law_free : PySem.W.codeIn K cd__law_free "_law_free" = true)
    (k__law_free : PySem.W.keepIn K (.ref f__law_free) = true)
    (a__law_stretched : PySem.W.nsIn K mainGlobals "_law_stretched" = some (some (.ref f__law_stretched)))
    (l__law_stretched : K.lookup f__law_stretched = some ⟨oc__law_stretched, od__law_stretched, .func (PySem.W.fnOf "_law_stretched" "_law_stretched" (defArgs s__law_stretched) (defBody s__law_stretched) (defScope s__law_stretched) .none kV__law_stretched dc__law_stretched pm__law_stretched an__law_stretched cd__law_stretched ct__law_stretched), sl__law_stretched⟩)
    (c__law_stretched : PySem.W.codeIn K cd__law_stretched "_law_stretched" = true)
    (k__law_stretched : PySem.W.keepIn K (.ref f__law_stretched) = true)
    (a__law_twinned : PySem.W.nsIn K mainGlobals "_law_twinned" = some (some (.ref f__law_twinned)))
    (l__law_twinned : K.lookup f__law_twinned = some ⟨oc__law_twinned, od__law_twinned, .func (PySem.W.fnOf "_law_twinned" "_law_twinned" (defArgs s__law_twinned) (defBody s__law_twinned) (defScope s__law_twinned) .none kV__law_twinned dc__law_twinned pm__law_twinned an__law_twinned cd__law_twinned ct__law_twinned), sl__law_twinned⟩)
    (c__law_twinned : PySem.W.codeIn K cd__law_twinned "_law_twinned" = true)
    (k__law_twinned : PySem.W.keepIn K (.ref f__law_twinned) = true)
    (a__law_detoured : PySem.W.nsIn K mainGlobals "_law_detoured" = some (some (.ref f__law_detoured)))
    (l__law_detoured : K.lookup f__law_detoured = some ⟨oc__law_detoured, od__law_detoured, .func (PySem.W.fnOf "_law_detoured" "_law_detoured" (defArgs s__law_detoured) (defBody s__law_detoured) (defScope s__law_detoured) .none kV__law_detoured dc__law_detoured pm__law_detoured an__law_detoured cd__law_detoured ct__law_detoured), sl__law_detoured⟩)
    (c__law_detoured : PySem.W.codeIn K cd__law_detoured "_law_detoured" = true)
    (k__law_detoured : PySem.W.keepIn K (.ref f__law_detoured) = true)
    (a__law_ring : PySem.W.nsIn K mainGlobals "_law_ring" = some (some (.ref f__law_ring)))
    (l__law_ring : K.lookup f__law_ring = some ⟨oc__law_ring, od__law_ring, .func (PySem.W.fnOf "_law_ring" "_law_ring" (defArgs s__law_ring) (defBody s__law_ring) (defScope s__law_ring) .none kV__law_ring dc__law_ring pm__law_ring an__law_ring cd__law_ring ct__law_ring), sl__law_ring⟩)
    (c__law_ring : PySem.W.codeIn K cd__law_ring "_law_ring" = true)
    (k__law_ring : PySem.W.keepIn K (.ref f__law_ring) = true)
    (a__law_grown : PySem.W.nsIn K mainGlobals "_law_grown" = some (some (.ref f__law_grown)))
    (l__law_grown : K.lookup f__law_grown = some ⟨oc__law_grown, od__law_grown, .func (PySem.W.fnOf "_law_grown" "_law_grown" (defArgs s__law_grown) (defBody s__law_grown) (defScope s__law_grown) .none kV__law_grown dc__law_grown pm__law_grown an__law_grown cd__law_grown ct__law_grown), sl__law_grown⟩)
    (c__law_grown : PySem.W.codeIn K cd__law_grown "_law_grown" = true)
    (k__law_grown : PySem.W.keepIn K (.ref f__law_grown) = true)
    (a__law_rows : PySem.W.nsIn K mainGlobals "_law_rows" = some (some (.ref f__law_rows)))
    (l__law_rows : K.lookup f__law_rows = some ⟨oc__law_rows, od__law_rows, .func (PySem.W.fnOf "_law_rows" "_law_rows" (defArgs s__law_rows) (defBody s__law_rows) (defScope s__law_rows) .none kV__law_rows dc__law_rows pm__law_rows an__law_rows cd__law_rows ct__law_rows), sl__law_rows⟩)
    (c__law_rows : PySem.W.codeIn K cd__law_rows "_law_rows" = true)
    (k__law_rows : PySem.W.keepIn K (.ref f__law_rows) = true)
    (a_is_word : PySem.W.nsIn K mainGlobals "is_word" = some (some (.ref f_is_word)))
    (l_is_word : K.lookup f_is_word = some ⟨oc_is_word, od_is_word, .func (PySem.W.fnOf "is_word" "is_word" (defArgs s_is_word) (defBody s_is_word) (defScope s_is_word) .none kV_is_word dc_is_word pm_is_word an_is_word cd_is_word ct_is_word), sl_is_word⟩)
    (c_is_word : PySem.W.codeIn K cd_is_word "is_word" = true)
    (k_is_word : PySem.W.keepIn K (.ref f_is_word) = true)
    (a_check_word : PySem.W.nsIn K mainGlobals "check_word" = some (some (.ref f_check_word)))
    (l_check_word : K.lookup f_check_word = some ⟨oc_check_word, od_check_word, .func (PySem.W.fnOf "check_word" "check_word" (defArgs s_check_word) (defBody s_check_word) (defScope s_check_word) .none kV_check_word dc_check_word pm_check_word an_check_word cd_check_word ct_check_word), sl_check_word⟩)
    (c_check_word : PySem.W.codeIn K cd_check_word "check_word" = true)
    (k_check_word : PySem.W.keepIn K (.ref f_check_word) = true)
    (a_check_number : PySem.W.nsIn K mainGlobals "check_number" = some (some (.ref f_check_number)))
    (l_check_number : K.lookup f_check_number = some ⟨oc_check_number, od_check_number, .func (PySem.W.fnOf "check_number" "check_number" (defArgs s_check_number) (defBody s_check_number) (defScope s_check_number) .none kV_check_number dc_check_number pm_check_number an_check_number cd_check_number ct_check_number), sl_check_number⟩)
    (c_check_number : PySem.W.codeIn K cd_check_number "check_number" = true)
    (k_check_number : PySem.W.keepIn K (.ref f_check_number) = true)
    (a_check_names : PySem.W.nsIn K mainGlobals "check_names" = some (some (.ref f_check_names)))
    (l_check_names : K.lookup f_check_names = some ⟨oc_check_names, od_check_names, .func (PySem.W.fnOf "check_names" "check_names" (defArgs s_check_names) (defBody s_check_names) (defScope s_check_names) .none kV_check_names dc_check_names pm_check_names an_check_names cd_check_names ct_check_names), sl_check_names⟩)
    (c_check_names : PySem.W.codeIn K cd_check_names "check_names" = true)
    (k_check_names : PySem.W.keepIn K (.ref f_check_names) = true)
    (a_in_order : PySem.W.nsIn K mainGlobals "in_order" = some (some (.ref f_in_order)))
    (l_in_order : K.lookup f_in_order = some ⟨oc_in_order, od_in_order, .func (PySem.W.fnOf "in_order" "in_order" (defArgs s_in_order) (defBody s_in_order) (defScope s_in_order) .none kV_in_order dc_in_order pm_in_order an_in_order cd_in_order ct_in_order), sl_in_order⟩)
    (c_in_order : PySem.W.codeIn K cd_in_order "in_order" = true)
    (k_in_order : PySem.W.keepIn K (.ref f_in_order) = true)
    (a_choices : PySem.W.nsIn K mainGlobals "choices" = some (some (.ref f_choices)))
    (l_choices : K.lookup f_choices = some ⟨oc_choices, od_choices, .func (PySem.W.fnOf "choices" "choices" (defArgs s_choices) (defBody s_choices) (defScope s_choices) .none kV_choices dc_choices pm_choices an_choices cd_choices ct_choices), sl_choices⟩)
    (c_choices : PySem.W.codeIn K cd_choices "choices" = true)
    (k_choices : PySem.W.keepIn K (.ref f_choices) = true)
    (a_arrows : PySem.W.nsIn K mainGlobals "arrows" = some (some (.ref f_arrows)))
    (l_arrows : K.lookup f_arrows = some ⟨oc_arrows, od_arrows, .func (PySem.W.fnOf "arrows" "arrows" (defArgs s_arrows) (defBody s_arrows) (defScope s_arrows) .none kV_arrows dc_arrows pm_arrows an_arrows cd_arrows ct_arrows), sl_arrows⟩)
    (c_arrows : PySem.W.codeIn K cd_arrows "arrows" = true)
    (k_arrows : PySem.W.keepIn K (.ref f_arrows) = true)
    (a_meets : PySem.W.nsIn K mainGlobals "meets" = some (some (.ref f_meets)))
    (l_meets : K.lookup f_meets = some ⟨oc_meets, od_meets, .func (PySem.W.fnOf "meets" "meets" (defArgs s_meets) (defBody s_meets) (defScope s_meets) .none kV_meets dc_meets pm_meets an_meets cd_meets ct_meets), sl_meets⟩)
    (c_meets : PySem.W.codeIn K cd_meets "meets" = true)
    (k_meets : PySem.W.keepIn K (.ref f_meets) = true)
    (a__law_groups : PySem.W.nsIn K mainGlobals "_law_groups" = some (some (.ref f__law_groups)))
    (l__law_groups : K.lookup f__law_groups = some ⟨oc__law_groups, od__law_groups, .func (PySem.W.fnOf "_law_groups" "_law_groups" (defArgs s__law_groups) (defBody s__law_groups) (defScope s__law_groups) .none kV__law_groups dc__law_groups pm__law_groups an__law_groups cd__law_groups ct__law_groups), sl__law_groups⟩)
    (c__law_groups : PySem.W.codeIn K cd__law_groups "_law_groups" = true)
    (k__law_groups : PySem.W.keepIn K (.ref f__law_groups) = true)
    (a__law_arrows : PySem.W.nsIn K mainGlobals "_law_arrows" = some (some (.ref f__law_arrows)))
    (l__law_arrows : K.lookup f__law_arrows = some ⟨oc__law_arrows, od__law_arrows, .func (PySem.W.fnOf "_law_arrows" "_law_arrows" (defArgs s__law_arrows) (defBody s__law_arrows) (defScope s__law_arrows) .none kV__law_arrows dc__law_arrows pm__law_arrows an__law_arrows cd__law_arrows ct__law_arrows), sl__law_arrows⟩)
    (c__law_arrows : PySem.W.codeIn K cd__law_arrows "_law_arrows" = true)
    (k__law_arrows : PySem.W.keepIn K (.ref f__law_arrows) = true)
    (a_judge_apart : PySem.W.nsIn K mainGlobals "judge_apart" = some (some (.ref f_judge_apart)))
    (l_judge_apart : K.lookup f_judge_apart = some ⟨oc_judge_apart, od_judge_apart, .func (PySem.W.fnOf "judge_apart" "judge_apart" (defArgs s_judge_apart) (defBody s_judge_apart) (defScope s_judge_apart) .none kV_judge_apart dc_judge_apart pm_judge_apart an_judge_apart cd_judge_apart ct_judge_apart), sl_judge_apart⟩)
    (c_judge_apart : PySem.W.codeIn K cd_judge_apart "judge_apart" = true)
    (k_judge_apart : PySem.W.keepIn K (.ref f_judge_apart) = true)
    (a_distances : PySem.W.nsIn K mainGlobals "distances" = some (some (.ref f_distances)))
    (l_distances : K.lookup f_distances = some ⟨oc_distances, od_distances, .func (PySem.W.fnOf "distances" "distances" (defArgs s_distances) (defBody s_distances) (defScope s_distances) .none kV_distances dc_distances pm_distances an_distances cd_distances ct_distances), sl_distances⟩)
    (c_distances : PySem.W.codeIn K cd_distances "distances" = true)
    (k_distances : PySem.W.keepIn K (.ref f_distances) = true)
    (a_apart_paper : PySem.W.nsIn K mainGlobals "apart_paper" = some (some (.ref f_apart_paper)))
    (l_apart_paper : K.lookup f_apart_paper = some ⟨oc_apart_paper, od_apart_paper, .func (PySem.W.fnOf "apart_paper" "apart_paper" (defArgs s_apart_paper) (defBody s_apart_paper) (defScope s_apart_paper) .none kV_apart_paper dc_apart_paper pm_apart_paper an_apart_paper cd_apart_paper ct_apart_paper), sl_apart_paper⟩)
    (c_apart_paper : PySem.W.codeIn K cd_apart_paper "apart_paper" = true)
    (k_apart_paper : PySem.W.keepIn K (.ref f_apart_paper) = true)
    (a__law_spread : PySem.W.nsIn K mainGlobals "_law_spread" = some (some (.ref f__law_spread)))
    (l__law_spread : K.lookup f__law_spread = some ⟨oc__law_spread, od__law_spread, .func (PySem.W.fnOf "_law_spread" "_law_spread" (defArgs s__law_spread) (defBody s__law_spread) (defScope s__law_spread) .none kV__law_spread dc__law_spread pm__law_spread an__law_spread cd__law_spread ct__law_spread), sl__law_spread⟩)
    (c__law_spread : PySem.W.codeIn K cd__law_spread "_law_spread" = true)
    (k__law_spread : PySem.W.keepIn K (.ref f__law_spread) = true)
    (a__law_sets : PySem.W.nsIn K mainGlobals "_law_sets" = some (some (.ref f__law_sets)))
    (l__law_sets : K.lookup f__law_sets = some ⟨oc__law_sets, od__law_sets, .func (PySem.W.fnOf "_law_sets" "_law_sets" (defArgs s__law_sets) (defBody s__law_sets) (defScope s__law_sets) .none kV__law_sets dc__law_sets pm__law_sets an__law_sets cd__law_sets ct__law_sets), sl__law_sets⟩)
    (c__law_sets : PySem.W.codeIn K cd__law_sets "_law_sets" = true)
    (k__law_sets : PySem.W.keepIn K (.ref f__law_sets) = true)
    (a__law_steps : PySem.W.nsIn K mainGlobals "_law_steps" = some (some (.ref f__law_steps)))
    (l__law_steps : K.lookup f__law_steps = some ⟨oc__law_steps, od__law_steps, .func (PySem.W.fnOf "_law_steps" "_law_steps" (defArgs s__law_steps) (defBody s__law_steps) (defScope s__law_steps) .none kV__law_steps dc__law_steps pm__law_steps an__law_steps cd__law_steps ct__law_steps), sl__law_steps⟩)
    (c__law_steps : PySem.W.codeIn K cd__law_steps "_law_steps" = true)
    (k__law_steps : PySem.W.keepIn K (.ref f__law_steps) = true)
    (a__law_right : PySem.W.nsIn K mainGlobals "_law_right" = some (some (.ref f__law_right)))
    (l__law_right : K.lookup f__law_right = some ⟨oc__law_right, od__law_right, .func (PySem.W.fnOf "_law_right" "_law_right" (defArgs s__law_right) (defBody s__law_right) (defScope s__law_right) .none kV__law_right dc__law_right pm__law_right an__law_right cd__law_right ct__law_right), sl__law_right⟩)
    (c__law_right : PySem.W.codeIn K cd__law_right "_law_right" = true)
    (k__law_right : PySem.W.keepIn K (.ref f__law_right) = true)
    (a_judge_plan : PySem.W.nsIn K mainGlobals "judge_plan" = some (some (.ref f_judge_plan)))
    (l_judge_plan : K.lookup f_judge_plan = some ⟨oc_judge_plan, od_judge_plan, .func (PySem.W.fnOf "judge_plan" "judge_plan" (defArgs s_judge_plan) (defBody s_judge_plan) (defScope s_judge_plan) .none kV_judge_plan dc_judge_plan pm_judge_plan an_judge_plan cd_judge_plan ct_judge_plan), sl_judge_plan⟩)
    (c_judge_plan : PySem.W.codeIn K cd_judge_plan "judge_plan" = true)
    (k_judge_plan : PySem.W.keepIn K (.ref f_judge_plan) = true)
    (a_law : PySem.W.nsIn K mainGlobals "law" = some (some (.ref f_law)))
    (l_law : K.lookup f_law = some ⟨oc_law, od_law, .func (PySem.W.fnOf "law" "law" (defArgs s_law) (defBody s_law) (defScope s_law) .none kV_law dc_law pm_law an_law cd_law ct_law), sl_law⟩)
    (c_law : PySem.W.codeIn K cd_law "law" = true)
    (k_law : PySem.W.keepIn K (.ref f_law) = true)
    (g2_PLAN_JUDGES : PySem.W.KeysLit w.params es_PLAN_JUDGES.toList)
    (g3_PLAN_JUDGES : (a_PLAN_JUDGES == sysModules) = false)
    (g4_PLAN_JUDGES_judge_apart : PySem.W.nsIn K a_PLAN_JUDGES "APART" = some (some (.ref f_judge_apart)))
    (e_opq : PySem.W.nsIn K cStatics "thirdparty.any" = some none)
    (e_cg : PySem.W.specialIn K (.builtin "object.__class__") "__get__" = some (some (.builtin "getset_descriptor.__get__")))
    (e_ct : PySem.W.takesIn K (.builtin "object.__class__") = some true)
    (aC_TooMany : PySem.W.nsIn K mainGlobals "TooMany" = some (some (.ref C_TooMany)))
    (xL_TooMany : K.lookup C_TooMany = some (excClassObj nm_TooMany q_TooMany C_TooMany N_TooMany bs_TooMany bm_TooMany true sn_TooMany sub_TooMany ab_TooMany col_TooMany dd_TooMany m0_TooMany m1_TooMany m2_TooMany m3_TooMany m5_TooMany "ValueError.__new__"))
    (bm_TooMany : PySem.HandSPX.refsVE bm_TooMany = true)
    (sa_TooMany : PySem.W.findIn K (.ref C_TooMany) "__setattr__" = some (some (.builtin "object.__setattr__")))
    (ga_TooMany : PySem.W.findIn K (.ref C_TooMany) "__getattribute__" = some (some (.builtin "BaseException.__getattribute__")))
    (gg_TooMany : PySem.W.findIn K (.ref C_TooMany) "__getattr__" = some none)
    (no_kind_TooMany : PySem.W.findIn K (.ref C_TooMany) "kind" = some none)
    (no_limit_TooMany : PySem.W.findIn K (.ref C_TooMany) "limit" = some none)
    (iC_TooMany : PySem.W.findIn K (.ref C_TooMany) "__init__" = some (some (.ref fI_TooMany)))
    (tI_TooMany : PySem.W.typeIn K (.ref fI_TooMany) = some (.type "function"))
    (kC_TooMany : PySem.W.keepIn K (.ref C_TooMany) = true)
    (ex_TooMany : PySem.W.subIn K (.ref C_TooMany) (.type "BaseException") = some true)
    (ve_TooMany : PySem.W.subIn K (.ref C_TooMany) (.type "ValueError") = some true)
    (ty_TooMany : PySem.W.typeIn K (.ref C_TooMany) = some (.type "type"))
    (hd_TooMany : PySem.W.hasDictIn K C_TooMany = true)
    (sup_TooMany : PySem.W.ks_superIn K C_TooMany C_TooMany "__init__" = some (some (.builtin "ValueError.__init__")))
    (mro_TooMany : PySem.W.mroIn K C_TooMany (.ref C_TooMany) = some true)
    (su_TooMany : PySem.W.subIn K (.ref C_TooMany) (.ref C_TooMany) = some true)
    (ca_TooMany : PySem.W.findIn K (.ref C_TooMany) "__class__" = some (some (.builtin "object.__class__")))
    (mo_TooMany : PySem.W.mroIn K C_TooMany (.type "object") = some true)
    (l_TooMany : K.lookup fI_TooMany = some ⟨oc_TooMany, od_TooMany, .func (PySem.W.ksFn "__init__" "TooMany.__init__" (defArgs (inClass (topS 16) 0)) (defBody (inClass (topS 16) 0)) (defScope (inClass (topS 16) 0)) .none kV_TooMany dc_TooMany pm_TooMany an_TooMany (.ref cda_TooMany) ct_TooMany cc_TooMany), sl_TooMany⟩)
    (c_TooMany : PySem.W.codeIn K (.ref cda_TooMany) "TooMany.__init__" = true)
    (lc_TooMany : K.lookup cda_TooMany = some ⟨ccl_TooMany, cdd_TooMany, .fields vs_TooMany, ccs_TooMany⟩)
    (v2_TooMany : vs_TooMany[2]? = some (.str file_TooMany tf_TooMany))
    (fl_TooMany : ((P.main.file : Str) == file_TooMany) = true)
    (cc_TooMany : K.lookup cc_TooMany = some ⟨cl_TooMany, cld_TooMany, .cell (some (.ref C_TooMany)), csl_TooMany⟩)
    (aC_BadWord : PySem.W.nsIn K mainGlobals "BadWord" = some (some (.ref C_BadWord)))
    (xL_BadWord : K.lookup C_BadWord = some (excClassObj nm_BadWord q_BadWord C_BadWord N_BadWord bs_BadWord bm_BadWord true sn_BadWord sub_BadWord ab_BadWord col_BadWord dd_BadWord m0_BadWord m1_BadWord m2_BadWord m3_BadWord m5_BadWord "ValueError.__new__"))
    (bm_BadWord : PySem.HandSPX.refsVE bm_BadWord = true)
    (sa_BadWord : PySem.W.findIn K (.ref C_BadWord) "__setattr__" = some (some (.builtin "object.__setattr__")))
    (ga_BadWord : PySem.W.findIn K (.ref C_BadWord) "__getattribute__" = some (some (.builtin "BaseException.__getattribute__")))
    (gg_BadWord : PySem.W.findIn K (.ref C_BadWord) "__getattr__" = some none)
    (no_word_BadWord : PySem.W.findIn K (.ref C_BadWord) "word" = some none)
    (iC_BadWord : PySem.W.findIn K (.ref C_BadWord) "__init__" = some (some (.ref fI_BadWord)))
    (tI_BadWord : PySem.W.typeIn K (.ref fI_BadWord) = some (.type "function"))
    (kC_BadWord : PySem.W.keepIn K (.ref C_BadWord) = true)
    (ex_BadWord : PySem.W.subIn K (.ref C_BadWord) (.type "BaseException") = some true)
    (ve_BadWord : PySem.W.subIn K (.ref C_BadWord) (.type "ValueError") = some true)
    (ty_BadWord : PySem.W.typeIn K (.ref C_BadWord) = some (.type "type"))
    (hd_BadWord : PySem.W.hasDictIn K C_BadWord = true)
    (sup_BadWord : PySem.W.ks_superIn K C_BadWord C_BadWord "__init__" = some (some (.builtin "ValueError.__init__")))
    (mro_BadWord : PySem.W.mroIn K C_BadWord (.ref C_BadWord) = some true)
    (su_BadWord : PySem.W.subIn K (.ref C_BadWord) (.ref C_BadWord) = some true)
    (ca_BadWord : PySem.W.findIn K (.ref C_BadWord) "__class__" = some (some (.builtin "object.__class__")))
    (mo_BadWord : PySem.W.mroIn K C_BadWord (.type "object") = some true)
    (l_BadWord : K.lookup fI_BadWord = some ⟨oc_BadWord, od_BadWord, .func (PySem.W.ksFn "__init__" "BadWord.__init__" (defArgs (inClass (topS 11) 0)) (defBody (inClass (topS 11) 0)) (defScope (inClass (topS 11) 0)) .none kV_BadWord dc_BadWord pm_BadWord an_BadWord (.ref cda_BadWord) ct_BadWord cc_BadWord), sl_BadWord⟩)
    (c_BadWord : PySem.W.codeIn K (.ref cda_BadWord) "BadWord.__init__" = true)
    (lc_BadWord : K.lookup cda_BadWord = some ⟨ccl_BadWord, cdd_BadWord, .fields vs_BadWord, ccs_BadWord⟩)
    (v2_BadWord : vs_BadWord[2]? = some (.str file_BadWord tf_BadWord))
    (fl_BadWord : ((P.main.file : Str) == file_BadWord) = true)
    (cc_BadWord : K.lookup cc_BadWord = some ⟨cl_BadWord, cld_BadWord, .cell (some (.ref C_BadWord)), csl_BadWord⟩)
    (aC_DoubleName : PySem.W.nsIn K mainGlobals "DoubleName" = some (some (.ref C_DoubleName)))
    (xL_DoubleName : K.lookup C_DoubleName = some (excClassObj nm_DoubleName q_DoubleName C_DoubleName N_DoubleName bs_DoubleName bm_DoubleName true sn_DoubleName sub_DoubleName ab_DoubleName col_DoubleName dd_DoubleName m0_DoubleName m1_DoubleName m2_DoubleName m3_DoubleName m5_DoubleName "ValueError.__new__"))
    (bm_DoubleName : PySem.HandSPX.refsVE bm_DoubleName = true)
    (sa_DoubleName : PySem.W.findIn K (.ref C_DoubleName) "__setattr__" = some (some (.builtin "object.__setattr__")))
    (ga_DoubleName : PySem.W.findIn K (.ref C_DoubleName) "__getattribute__" = some (some (.builtin "BaseException.__getattribute__")))
    (gg_DoubleName : PySem.W.findIn K (.ref C_DoubleName) "__getattr__" = some none)
    (no_name_DoubleName : PySem.W.findIn K (.ref C_DoubleName) "name" = some none)
    (iC_DoubleName : PySem.W.findIn K (.ref C_DoubleName) "__init__" = some (some (.ref fI_DoubleName)))
    (tI_DoubleName : PySem.W.typeIn K (.ref fI_DoubleName) = some (.type "function"))
    (kC_DoubleName : PySem.W.keepIn K (.ref C_DoubleName) = true)
    (ex_DoubleName : PySem.W.subIn K (.ref C_DoubleName) (.type "BaseException") = some true)
    (ve_DoubleName : PySem.W.subIn K (.ref C_DoubleName) (.type "ValueError") = some true)
    (ty_DoubleName : PySem.W.typeIn K (.ref C_DoubleName) = some (.type "type"))
    (hd_DoubleName : PySem.W.hasDictIn K C_DoubleName = true)
    (sup_DoubleName : PySem.W.ks_superIn K C_DoubleName C_DoubleName "__init__" = some (some (.builtin "ValueError.__init__")))
    (mro_DoubleName : PySem.W.mroIn K C_DoubleName (.ref C_DoubleName) = some true)
    (su_DoubleName : PySem.W.subIn K (.ref C_DoubleName) (.ref C_DoubleName) = some true)
    (ca_DoubleName : PySem.W.findIn K (.ref C_DoubleName) "__class__" = some (some (.builtin "object.__class__")))
    (mo_DoubleName : PySem.W.mroIn K C_DoubleName (.type "object") = some true)
    (l_DoubleName : K.lookup fI_DoubleName = some ⟨oc_DoubleName, od_DoubleName, .func (PySem.W.ksFn "__init__" "DoubleName.__init__" (defArgs (inClass (topS 14) 0)) (defBody (inClass (topS 14) 0)) (defScope (inClass (topS 14) 0)) .none kV_DoubleName dc_DoubleName pm_DoubleName an_DoubleName (.ref cda_DoubleName) ct_DoubleName cc_DoubleName), sl_DoubleName⟩)
    (c_DoubleName : PySem.W.codeIn K (.ref cda_DoubleName) "DoubleName.__init__" = true)
    (lc_DoubleName : K.lookup cda_DoubleName = some ⟨ccl_DoubleName, cdd_DoubleName, .fields vs_DoubleName, ccs_DoubleName⟩)
    (v2_DoubleName : vs_DoubleName[2]? = some (.str file_DoubleName tf_DoubleName))
    (fl_DoubleName : ((P.main.file : Str) == file_DoubleName) = true)
    (cc_DoubleName : K.lookup cc_DoubleName = some ⟨cl_DoubleName, cld_DoubleName, .cell (some (.ref C_DoubleName)), csl_DoubleName⟩)
    (aC_BadNumber : PySem.W.nsIn K mainGlobals "BadNumber" = some (some (.ref C_BadNumber)))
    (xL_BadNumber : K.lookup C_BadNumber = some (excClassObj nm_BadNumber q_BadNumber C_BadNumber N_BadNumber bs_BadNumber bm_BadNumber true sn_BadNumber sub_BadNumber ab_BadNumber col_BadNumber dd_BadNumber m0_BadNumber m1_BadNumber m2_BadNumber m3_BadNumber m5_BadNumber "ValueError.__new__"))
    (bm_BadNumber : PySem.HandSPX.refsVE bm_BadNumber = true)
    (sa_BadNumber : PySem.W.findIn K (.ref C_BadNumber) "__setattr__" = some (some (.builtin "object.__setattr__")))
    (ga_BadNumber : PySem.W.findIn K (.ref C_BadNumber) "__getattribute__" = some (some (.builtin "BaseException.__getattribute__")))
    (gg_BadNumber : PySem.W.findIn K (.ref C_BadNumber) "__getattr__" = some none)
    (no_number_BadNumber : PySem.W.findIn K (.ref C_BadNumber) "number" = some none)
    (iC_BadNumber : PySem.W.findIn K (.ref C_BadNumber) "__init__" = some (some (.ref fI_BadNumber)))
    (tI_BadNumber : PySem.W.typeIn K (.ref fI_BadNumber) = some (.type "function"))
    (kC_BadNumber : PySem.W.keepIn K (.ref C_BadNumber) = true)
    (ex_BadNumber : PySem.W.subIn K (.ref C_BadNumber) (.type "BaseException") = some true)
    (ve_BadNumber : PySem.W.subIn K (.ref C_BadNumber) (.type "ValueError") = some true)
    (ty_BadNumber : PySem.W.typeIn K (.ref C_BadNumber) = some (.type "type"))
    (hd_BadNumber : PySem.W.hasDictIn K C_BadNumber = true)
    (sup_BadNumber : PySem.W.ks_superIn K C_BadNumber C_BadNumber "__init__" = some (some (.builtin "ValueError.__init__")))
    (mro_BadNumber : PySem.W.mroIn K C_BadNumber (.ref C_BadNumber) = some true)
    (su_BadNumber : PySem.W.subIn K (.ref C_BadNumber) (.ref C_BadNumber) = some true)
    (ca_BadNumber : PySem.W.findIn K (.ref C_BadNumber) "__class__" = some (some (.builtin "object.__class__")))
    (mo_BadNumber : PySem.W.mroIn K C_BadNumber (.type "object") = some true)
    (l_BadNumber : K.lookup fI_BadNumber = some ⟨oc_BadNumber, od_BadNumber, .func (PySem.W.ksFn "__init__" "BadNumber.__init__" (defArgs (inClass (topS 12) 0)) (defBody (inClass (topS 12) 0)) (defScope (inClass (topS 12) 0)) .none kV_BadNumber dc_BadNumber pm_BadNumber an_BadNumber (.ref cda_BadNumber) ct_BadNumber cc_BadNumber), sl_BadNumber⟩)
    (c_BadNumber : PySem.W.codeIn K (.ref cda_BadNumber) "BadNumber.__init__" = true)
    (lc_BadNumber : K.lookup cda_BadNumber = some ⟨ccl_BadNumber, cdd_BadNumber, .fields vs_BadNumber, ccs_BadNumber⟩)
    (v2_BadNumber : vs_BadNumber[2]? = some (.str file_BadNumber tf_BadNumber))
    (fl_BadNumber : ((P.main.file : Str) == file_BadNumber) = true)
    (cc_BadNumber : K.lookup cc_BadNumber = some ⟨cl_BadNumber, cld_BadNumber, .cell (some (.ref C_BadNumber)), csl_BadNumber⟩)
    (aC_EmptyStep : PySem.W.nsIn K mainGlobals "EmptyStep" = some (some (.ref C_EmptyStep)))
    (xL_EmptyStep : K.lookup C_EmptyStep = some (excClassObj nm_EmptyStep q_EmptyStep C_EmptyStep N_EmptyStep bs_EmptyStep bm_EmptyStep true sn_EmptyStep sub_EmptyStep ab_EmptyStep col_EmptyStep dd_EmptyStep m0_EmptyStep m1_EmptyStep m2_EmptyStep m3_EmptyStep m5_EmptyStep "ValueError.__new__"))
    (bm_EmptyStep : PySem.HandSPX.refsVE bm_EmptyStep = true)
    (sa_EmptyStep : PySem.W.findIn K (.ref C_EmptyStep) "__setattr__" = some (some (.builtin "object.__setattr__")))
    (ga_EmptyStep : PySem.W.findIn K (.ref C_EmptyStep) "__getattribute__" = some (some (.builtin "BaseException.__getattribute__")))
    (gg_EmptyStep : PySem.W.findIn K (.ref C_EmptyStep) "__getattr__" = some none)
    (no_name_EmptyStep : PySem.W.findIn K (.ref C_EmptyStep) "name" = some none)
    (iC_EmptyStep : PySem.W.findIn K (.ref C_EmptyStep) "__init__" = some (some (.ref fI_EmptyStep)))
    (tI_EmptyStep : PySem.W.typeIn K (.ref fI_EmptyStep) = some (.type "function"))
    (kC_EmptyStep : PySem.W.keepIn K (.ref C_EmptyStep) = true)
    (ex_EmptyStep : PySem.W.subIn K (.ref C_EmptyStep) (.type "BaseException") = some true)
    (ve_EmptyStep : PySem.W.subIn K (.ref C_EmptyStep) (.type "ValueError") = some true)
    (ty_EmptyStep : PySem.W.typeIn K (.ref C_EmptyStep) = some (.type "type"))
    (hd_EmptyStep : PySem.W.hasDictIn K C_EmptyStep = true)
    (sup_EmptyStep : PySem.W.ks_superIn K C_EmptyStep C_EmptyStep "__init__" = some (some (.builtin "ValueError.__init__")))
    (mro_EmptyStep : PySem.W.mroIn K C_EmptyStep (.ref C_EmptyStep) = some true)
    (su_EmptyStep : PySem.W.subIn K (.ref C_EmptyStep) (.ref C_EmptyStep) = some true)
    (ca_EmptyStep : PySem.W.findIn K (.ref C_EmptyStep) "__class__" = some (some (.builtin "object.__class__")))
    (mo_EmptyStep : PySem.W.mroIn K C_EmptyStep (.type "object") = some true)
    (l_EmptyStep : K.lookup fI_EmptyStep = some ⟨oc_EmptyStep, od_EmptyStep, .func (PySem.W.ksFn "__init__" "EmptyStep.__init__" (defArgs (inClass (topS 15) 0)) (defBody (inClass (topS 15) 0)) (defScope (inClass (topS 15) 0)) .none kV_EmptyStep dc_EmptyStep pm_EmptyStep an_EmptyStep (.ref cda_EmptyStep) ct_EmptyStep cc_EmptyStep), sl_EmptyStep⟩)
    (c_EmptyStep : PySem.W.codeIn K (.ref cda_EmptyStep) "EmptyStep.__init__" = true)
    (lc_EmptyStep : K.lookup cda_EmptyStep = some ⟨ccl_EmptyStep, cdd_EmptyStep, .fields vs_EmptyStep, ccs_EmptyStep⟩)
    (v2_EmptyStep : vs_EmptyStep[2]? = some (.str file_EmptyStep tf_EmptyStep))
    (fl_EmptyStep : ((P.main.file : Str) == file_EmptyStep) = true)
    (cc_EmptyStep : K.lookup cc_EmptyStep = some ⟨cl_EmptyStep, cld_EmptyStep, .cell (some (.ref C_EmptyStep)), csl_EmptyStep⟩)
    (aC_UnknownName : PySem.W.nsIn K mainGlobals "UnknownName" = some (some (.ref C_UnknownName)))
    (xL_UnknownName : K.lookup C_UnknownName = some (excClassObj nm_UnknownName q_UnknownName C_UnknownName N_UnknownName bs_UnknownName bm_UnknownName true sn_UnknownName sub_UnknownName ab_UnknownName col_UnknownName dd_UnknownName m0_UnknownName m1_UnknownName m2_UnknownName m3_UnknownName m5_UnknownName "ValueError.__new__"))
    (bm_UnknownName : PySem.HandSPX.refsVE bm_UnknownName = true)
    (sa_UnknownName : PySem.W.findIn K (.ref C_UnknownName) "__setattr__" = some (some (.builtin "object.__setattr__")))
    (ga_UnknownName : PySem.W.findIn K (.ref C_UnknownName) "__getattribute__" = some (some (.builtin "BaseException.__getattribute__")))
    (gg_UnknownName : PySem.W.findIn K (.ref C_UnknownName) "__getattr__" = some none)
    (no_name_UnknownName : PySem.W.findIn K (.ref C_UnknownName) "name" = some none)
    (iC_UnknownName : PySem.W.findIn K (.ref C_UnknownName) "__init__" = some (some (.ref fI_UnknownName)))
    (tI_UnknownName : PySem.W.typeIn K (.ref fI_UnknownName) = some (.type "function"))
    (kC_UnknownName : PySem.W.keepIn K (.ref C_UnknownName) = true)
    (ex_UnknownName : PySem.W.subIn K (.ref C_UnknownName) (.type "BaseException") = some true)
    (ve_UnknownName : PySem.W.subIn K (.ref C_UnknownName) (.type "ValueError") = some true)
    (ty_UnknownName : PySem.W.typeIn K (.ref C_UnknownName) = some (.type "type"))
    (hd_UnknownName : PySem.W.hasDictIn K C_UnknownName = true)
    (sup_UnknownName : PySem.W.ks_superIn K C_UnknownName C_UnknownName "__init__" = some (some (.builtin "ValueError.__init__")))
    (mro_UnknownName : PySem.W.mroIn K C_UnknownName (.ref C_UnknownName) = some true)
    (su_UnknownName : PySem.W.subIn K (.ref C_UnknownName) (.ref C_UnknownName) = some true)
    (ca_UnknownName : PySem.W.findIn K (.ref C_UnknownName) "__class__" = some (some (.builtin "object.__class__")))
    (mo_UnknownName : PySem.W.mroIn K C_UnknownName (.type "object") = some true)
    (l_UnknownName : K.lookup fI_UnknownName = some ⟨oc_UnknownName, od_UnknownName, .func (PySem.W.ksFn "__init__" "UnknownName.__init__" (defArgs (inClass (topS 13) 0)) (defBody (inClass (topS 13) 0)) (defScope (inClass (topS 13) 0)) .none kV_UnknownName dc_UnknownName pm_UnknownName an_UnknownName (.ref cda_UnknownName) ct_UnknownName cc_UnknownName), sl_UnknownName⟩)
    (c_UnknownName : PySem.W.codeIn K (.ref cda_UnknownName) "UnknownName.__init__" = true)
    (lc_UnknownName : K.lookup cda_UnknownName = some ⟨ccl_UnknownName, cdd_UnknownName, .fields vs_UnknownName, ccs_UnknownName⟩)
    (v2_UnknownName : vs_UnknownName[2]? = some (.str file_UnknownName tf_UnknownName))
    (fl_UnknownName : ((P.main.file : Str) == file_UnknownName) = true)
    (cc_UnknownName : K.lookup cc_UnknownName = some ⟨cl_UnknownName, cld_UnknownName, .cell (some (.ref C_UnknownName)), csl_UnknownName⟩)
    (aC_Plan : PySem.W.nsIn K mainGlobals "Plan" = some (some (.ref C_Plan)))
    (pg_Plan : PySem.W.plainGet K C_Plan Str.empty = true)
    (hd_Plan : PySem.W.hasDictIn K C_Plan = true)
    (po_Plan : PySem.W.plainOver K C_Plan = true)
    (sa_Plan : PySem.W.findIn K (.ref C_Plan) "__setattr__" = some (some (.builtin "object.__setattr__")))
    (no_places_Plan : PySem.W.findIn K (.ref C_Plan) "places" = some none)
    (no_begin_Plan : PySem.W.findIn K (.ref C_Plan) "begin" = some none)
    (no_taken_Plan : PySem.W.findIn K (.ref C_Plan) "taken" = some none)
    (no_given_Plan : PySem.W.findIn K (.ref C_Plan) "given" = some none)
    (no_steps_Plan : PySem.W.findIn K (.ref C_Plan) "steps" = some none)
    (mk_Plan : PySem.W.makesIn K C_Plan = true)
    (kC_Plan : PySem.W.keepIn K (.ref C_Plan) = true)
    (a_Plan___init__ : PySem.W.findIn K (.ref C_Plan) "__init__" = some (some (.ref f_Plan___init__)))
    (i_Plan___init__ : PySem.W.isFn K (.ref f_Plan___init__) = true)
    (l_Plan___init__ : K.lookup f_Plan___init__ = some ⟨oc_Plan___init__, od_Plan___init__, .func (PySem.W.fnOf "__init__" "Plan.__init__" (defArgs s_Plan___init__) (defBody s_Plan___init__) (defScope s_Plan___init__) .none kV_Plan___init__ dc_Plan___init__ pm_Plan___init__ an_Plan___init__ cd_Plan___init__ ct_Plan___init__), sl_Plan___init__⟩)
    (c_Plan___init__ : PySem.W.codeIn K cd_Plan___init__ "Plan.__init__" = true)
    (k_Plan___init__ : PySem.W.keepIn K (.ref f_Plan___init__) = true)
    (a_Plan_put_step : PySem.W.findIn K (.ref C_Plan) "put_step" = some (some (.ref f_Plan_put_step)))
    (i_Plan_put_step : PySem.W.isFn K (.ref f_Plan_put_step) = true)
    (l_Plan_put_step : K.lookup f_Plan_put_step = some ⟨oc_Plan_put_step, od_Plan_put_step, .func (PySem.W.fnOf "put_step" "Plan.put_step" (defArgs s_Plan_put_step) (defBody s_Plan_put_step) (defScope s_Plan_put_step) .none kV_Plan_put_step dc_Plan_put_step pm_Plan_put_step an_Plan_put_step cd_Plan_put_step ct_Plan_put_step), sl_Plan_put_step⟩)
    (c_Plan_put_step : PySem.W.codeIn K cd_Plan_put_step "Plan.put_step" = true)
    (k_Plan_put_step : PySem.W.keepIn K (.ref f_Plan_put_step) = true)
    (a_Plan_takes : PySem.W.findIn K (.ref C_Plan) "takes" = some (some (.ref f_Plan_takes)))
    (i_Plan_takes : PySem.W.isFn K (.ref f_Plan_takes) = true)
    (l_Plan_takes : K.lookup f_Plan_takes = some ⟨oc_Plan_takes, od_Plan_takes, .func (PySem.W.fnOf "takes" "Plan.takes" (defArgs s_Plan_takes) (defBody s_Plan_takes) (defScope s_Plan_takes) .none kV_Plan_takes dc_Plan_takes pm_Plan_takes an_Plan_takes cd_Plan_takes ct_Plan_takes), sl_Plan_takes⟩)
    (c_Plan_takes : PySem.W.codeIn K cd_Plan_takes "Plan.takes" = true)
    (k_Plan_takes : PySem.W.keepIn K (.ref f_Plan_takes) = true)
    (a_Plan_gives : PySem.W.findIn K (.ref C_Plan) "gives" = some (some (.ref f_Plan_gives)))
    (i_Plan_gives : PySem.W.isFn K (.ref f_Plan_gives) = true)
    (l_Plan_gives : K.lookup f_Plan_gives = some ⟨oc_Plan_gives, od_Plan_gives, .func (PySem.W.fnOf "gives" "Plan.gives" (defArgs s_Plan_gives) (defBody s_Plan_gives) (defScope s_Plan_gives) .none kV_Plan_gives dc_Plan_gives pm_Plan_gives an_Plan_gives cd_Plan_gives ct_Plan_gives), sl_Plan_gives⟩)
    (c_Plan_gives : PySem.W.codeIn K cd_Plan_gives "Plan.gives" = true)
    (k_Plan_gives : PySem.W.keepIn K (.ref f_Plan_gives) = true)
    (a_Plan___contains__ : PySem.W.findIn K (.ref C_Plan) "__contains__" = some (some (.ref f_Plan___contains__)))
    (i_Plan___contains__ : PySem.W.isFn K (.ref f_Plan___contains__) = true)
    (l_Plan___contains__ : K.lookup f_Plan___contains__ = some ⟨oc_Plan___contains__, od_Plan___contains__, .func (PySem.W.fnOf "__contains__" "Plan.__contains__" (defArgs s_Plan___contains__) (defBody s_Plan___contains__) (defScope s_Plan___contains__) .none kV_Plan___contains__ dc_Plan___contains__ pm_Plan___contains__ an_Plan___contains__ cd_Plan___contains__ ct_Plan___contains__), sl_Plan___contains__⟩)
    (c_Plan___contains__ : PySem.W.codeIn K cd_Plan___contains__ "Plan.__contains__" = true)
    (k_Plan___contains__ : PySem.W.keepIn K (.ref f_Plan___contains__) = true) :
    ∃ fd : FuncData, (∀ (s : Shared) (v : Value), BindsTo s fd ⟨[v], []⟩ [("_law_script", v)]) ∧ ∀ base : Heap, K.In base → base.Ns mainGlobals mg → FnOk P w K mg base CX0 6 fa fd ["_law_script"] (spLaw K) := by
  have e := hfa.symm.trans (PySem.W.mg_of X G a_law)
  cases e
  have B : Bl mg := ⟨PySem.W.mg_none_of X G z_len, PySem.W.mg_none_of X G z_range, PySem.W.mg_none_of X G z_abs, PySem.W.mg_none_of X G z_sum, PySem.W.mg_none_of X G z_sorted, PySem.W.mg_none_of X G z_isinstance, PySem.W.mg_none_of X G z_zip, PySem.W.mg_none_of X G z_enumerate, PySem.W.mg_none_of X G z_reversed, PySem.W.mg_none_of X G z_int, PySem.W.mg_none_of X G z_str, PySem.W.mg_none_of X G z_list, PySem.W.mg_none_of X G z_tuple, PySem.W.mg_none_of X G z_bool, PySem.W.mg_none_of X G z_all, PySem.W.mg_none_of X G z_any, PySem.W.mg_none_of X G z_ValueError⟩
  have g_PLAN_JUDGES := glo_ref X G g0_PLAN_JUDGES
  have g_LETTERS := glo_str X G a_LETTERS
  have g_DIGITS := glo_str X G a_DIGITS
  have g_MOST_SIGNS := glo_int X G a_MOST_SIGNS
  have g_MOST_PLACES := glo_int X G a_MOST_PLACES
  have g_MOST_STEPS := glo_int X G a_MOST_STEPS
  have g_MOST_BEGIN := glo_int X G a_MOST_BEGIN
  have F__law_next : Src K mg "_law_next" s__law_next ["_law_box_here", "_law_many"] := src_mk X G a__law_next l__law_next c__law_next k__law_next (fun _ _ _ _ _ _ us hl => match us, hl with | [_, _], _ => rfl)
  have F__law_box : Src K mg "_law_box" s__law_box ["_law_script"] := src_mk X G a__law_box l__law_box c__law_box k__law_box (fun _ _ _ _ _ _ us hl => match us, hl with | [_], _ => rfl)
  have F__law_word : Src K mg "_law_word" s__law_word ["_law_box_here"] := src_mk X G a__law_word l__law_word c__law_word k__law_word (fun _ _ _ _ _ _ us hl => match us, hl with | [_], _ => rfl)
  have F__law_words : Src K mg "_law_words" s__law_words ["_law_box_here", "_law_many"] := src_mk X G a__law_words l__law_words c__law_words k__law_words (fun _ _ _ _ _ _ us hl => match us, hl with | [_, _], _ => rfl)
  have F__law_pick : Src K mg "_law_pick" s__law_pick ["_law_box_here", "_law_words_here", "_law_least"] := src_mk X G a__law_pick l__law_pick c__law_pick k__law_pick (fun _ _ _ _ _ _ us hl => match us, hl with | [_, _, _], _ => rfl)
  have F__law_any : Src K mg "_law_any" s__law_any ["_law_box_here"] := src_mk X G a__law_any l__law_any c__law_any k__law_any (fun _ _ _ _ _ _ us hl => match us, hl with | [_], _ => rfl)
  have F__law_free : Src K mg "_law_free" s__law_free ["_law_box_here"] := src_mk X G a__law_free l__law_free c__law_free k__law_free (fun _ _ _ _ _ _ us hl => match us, hl with | [_], _ => rfl)
  have F__law_stretched : Src K mg "_law_stretched" s__law_stretched ["_law_places", "_law_steps_here", "_law_place", "_law_word_here", "_law_name"] := src_mk X G a__law_stretched l__law_stretched c__law_stretched k__law_stretched (fun _ _ _ _ _ _ us hl => match us, hl with | [_, _, _, _, _], _ => rfl)
  have F__law_twinned : Src K mg "_law_twinned" s__law_twinned ["_law_places", "_law_steps_here", "_law_place", "_law_word_here"] := src_mk X G a__law_twinned l__law_twinned c__law_twinned k__law_twinned (fun _ _ _ _ _ _ us hl => match us, hl with | [_, _, _, _], _ => rfl)
  have F__law_detoured : Src K mg "_law_detoured" s__law_detoured ["_law_places", "_law_steps_here", "_law_place", "_law_word_here", "_law_names"] := src_mk X G a__law_detoured l__law_detoured c__law_detoured k__law_detoured (fun _ _ _ _ _ _ us hl => match us, hl with | [_, _, _, _, _], _ => rfl)
  have F__law_ring : Src K mg "_law_ring" s__law_ring ["_law_box_here", "_law_words_here", "_law_names"] := src_mk X G a__law_ring l__law_ring c__law_ring k__law_ring (fun _ _ _ _ _ _ us hl => match us, hl with | [_, _, _], _ => rfl)
  have F__law_grown : Src K mg "_law_grown" s__law_grown ["_law_box_here"] := src_mk X G a__law_grown l__law_grown c__law_grown k__law_grown (fun _ _ _ _ _ _ us hl => match us, hl with | [_], _ => rfl)
  have F__law_rows : Src K mg "_law_rows" s__law_rows ["_law_box_here"] := src_mk X G a__law_rows l__law_rows c__law_rows k__law_rows (fun _ _ _ _ _ _ us hl => match us, hl with | [_], _ => rfl)
  have F_is_word : Src K mg "is_word" s_is_word ["word"] := src_mk X G a_is_word l_is_word c_is_word k_is_word (fun _ _ _ _ _ _ us hl => match us, hl with | [_], _ => rfl)
  have F_check_word : Src K mg "check_word" s_check_word ["word"] := src_mk X G a_check_word l_check_word c_check_word k_check_word (fun _ _ _ _ _ _ us hl => match us, hl with | [_], _ => rfl)
  have F_check_number : Src K mg "check_number" s_check_number ["number", "least", "most"] := src_mk X G a_check_number l_check_number c_check_number k_check_number (fun _ _ _ _ _ _ us hl => match us, hl with | [_, _, _], _ => rfl)
  have F_check_names : Src K mg "check_names" s_check_names ["names", "known"] := src_mk X G a_check_names l_check_names c_check_names k_check_names (fun _ _ _ _ _ _ us hl => match us, hl with | [_, _], _ => rfl)
  have F_in_order : Src K mg "in_order" s_in_order ["names", "places"] := src_mk X G a_in_order l_in_order c_in_order k_in_order (fun _ _ _ _ _ _ us hl => match us, hl with | [_, _], _ => rfl)
  have F_choices : Src K mg "choices" s_choices ["plan"] := src_mk X G a_choices l_choices c_choices k_choices (fun _ _ _ _ _ _ us hl => match us, hl with | [_], _ => rfl)
  have F_arrows : Src K mg "arrows" s_arrows ["plan"] := src_mk X G a_arrows l_arrows c_arrows k_arrows (fun _ _ _ _ _ _ us hl => match us, hl with | [_], _ => rfl)
  have F_meets : Src K mg "meets" s_meets ["places", "others"] := src_mk X G a_meets l_meets c_meets k_meets (fun _ _ _ _ _ _ us hl => match us, hl with | [_, _], _ => rfl)
  have F__law_groups : Src K mg "_law_groups" s__law_groups ["_law_rows_here"] := src_mk X G a__law_groups l__law_groups c__law_groups k__law_groups (fun _ _ _ _ _ _ us hl => match us, hl with | [_], _ => rfl)
  have F__law_arrows : Src K mg "_law_arrows" s__law_arrows ["_law_rows_here"] := src_mk X G a__law_arrows l__law_arrows c__law_arrows k__law_arrows (fun _ _ _ _ _ _ us hl => match us, hl with | [_], _ => rfl)
  have F_judge_apart : Src K mg "judge_apart" s_judge_apart ["plan", "paper"] := src_mk X G a_judge_apart l_judge_apart c_judge_apart k_judge_apart (fun _ _ _ _ _ _ us hl => match us, hl with | [_, _], _ => rfl)
  have F_distances : Src K mg "distances" s_distances ["rows", "start"] := src_mk X G a_distances l_distances c_distances k_distances (fun _ _ _ _ _ _ us hl => match us, hl with | [_, _], _ => rfl)
  have F_apart_paper : Src K mg "apart_paper" s_apart_paper ["plan"] := src_mk X G a_apart_paper l_apart_paper c_apart_paper k_apart_paper (fun _ _ _ _ _ _ us hl => match us, hl with | [_], _ => rfl)
  have F__law_spread : Src K mg "_law_spread" s__law_spread ["_law_table", "_law_start"] := src_mk X G a__law_spread l__law_spread c__law_spread k__law_spread (fun _ _ _ _ _ _ us hl => match us, hl with | [_, _], _ => rfl)
  have F__law_sets : Src K mg "_law_sets" s__law_sets ["_law_box_here", "_law_groups_here"] := src_mk X G a__law_sets l__law_sets c__law_sets k__law_sets (fun _ _ _ _ _ _ us hl => match us, hl with | [_, _], _ => rfl)
  have F__law_steps : Src K mg "_law_steps" s__law_steps ["_law_groups_here", "_law_chosen"] := src_mk X G a__law_steps l__law_steps c__law_steps k__law_steps (fun _ _ _ _ _ _ us hl => match us, hl with | [_, _], _ => rfl)
  have F__law_right : Src K mg "_law_right" s__law_right ["_law_table", "_law_groups_here", "_law_chosen"] := src_mk X G a__law_right l__law_right c__law_right k__law_right (fun _ _ _ _ _ _ us hl => match us, hl with | [_, _, _], _ => rfl)
  have F_judge_plan : Src K mg "judge_plan" s_judge_plan ["plan", "paper"] := src_mk X G a_judge_plan l_judge_plan c_judge_plan k_judge_plan (fun _ _ _ _ _ _ us hl => match us, hl with | [_, _], _ => rfl)
  have nn_TooMany : ∀ f ∈ (["kind", "limit"] : List Str), PySem.W.findIn K (.ref C_TooMany) f = some none := fun f hf => by
      simp only [List.mem_cons, List.not_mem_nil, or_false] at hf
      rcases hf with rfl | rfl
      · exact no_kind_TooMany
      · exact no_limit_TooMany
  have X_TooMany : ErrTxt P K mg true "TooMany" C_TooMany fI_TooMany ["kind", "limit"] := err_mk (st := inClass (topS 16) 0) (fp := [("kind", _, _, _, _), ("limit", _, _, _, _)]) X G aC_TooMany z_super xL_TooMany bm_TooMany sa_TooMany ga_TooMany gg_TooMany nn_TooMany
    iC_TooMany tI_TooMany kC_TooMany ex_TooMany ve_TooMany ty_TooMany hd_TooMany sup_TooMany mro_TooMany su_TooMany ca_TooMany e_cg e_ct mo_TooMany e_opq top l_TooMany c_TooMany lc_TooMany v2_TooMany fl_TooMany cc_TooMany rfl rfl rfl rfl (by decide +kernel) (by decide +kernel) (by decide +kernel) (by decide +kernel) (by decide +kernel) (by decide +kernel) (by decide +kernel) rfl rfl rfl
    (fun _ _ _ _ _ _ _ s x us hl => match us, hl with | [_, _], _ => .of_eq rfl) (fun x us hl => match us, hl with | [_, _], _ => ⟨by rfl, .cons (by rfl) (.cons (by rfl) (.nil))⟩) (.inr ⟨rfl, _, _, _, _, _, _, rfl, by decide, rfl⟩)
  have nn_BadWord : ∀ f ∈ (["word"] : List Str), PySem.W.findIn K (.ref C_BadWord) f = some none := fun f hf => by
      simp only [List.mem_cons, List.not_mem_nil, or_false] at hf
      rcases hf with rfl
      · exact no_word_BadWord
  have X_BadWord : ErrTxt P K mg false "BadWord" C_BadWord fI_BadWord ["word"] := err_mk (st := inClass (topS 11) 0) (fp := [("word", _, _, _, _)]) X G aC_BadWord z_super xL_BadWord bm_BadWord sa_BadWord ga_BadWord gg_BadWord nn_BadWord
    iC_BadWord tI_BadWord kC_BadWord ex_BadWord ve_BadWord ty_BadWord hd_BadWord sup_BadWord mro_BadWord su_BadWord ca_BadWord e_cg e_ct mo_BadWord e_opq top l_BadWord c_BadWord lc_BadWord v2_BadWord fl_BadWord cc_BadWord rfl rfl rfl rfl (by decide +kernel) (by decide +kernel) (by decide +kernel) (by decide +kernel) (by decide +kernel) (by decide +kernel) (by decide +kernel) rfl rfl rfl
    (fun _ _ _ _ _ _ _ s x us hl => match us, hl with | [_], _ => .of_eq rfl) (fun x us hl => match us, hl with | [_], _ => ⟨by rfl, .cons (by rfl) (.nil)⟩) (.inl ⟨rfl, _, _, _, rfl⟩)
  have nn_DoubleName : ∀ f ∈ (["name"] : List Str), PySem.W.findIn K (.ref C_DoubleName) f = some none := fun f hf => by
      simp only [List.mem_cons, List.not_mem_nil, or_false] at hf
      rcases hf with rfl
      · exact no_name_DoubleName
  have X_DoubleName : ErrTxt P K mg false "DoubleName" C_DoubleName fI_DoubleName ["name"] := err_mk (st := inClass (topS 14) 0) (fp := [("name", _, _, _, _)]) X G aC_DoubleName z_super xL_DoubleName bm_DoubleName sa_DoubleName ga_DoubleName gg_DoubleName nn_DoubleName
    iC_DoubleName tI_DoubleName kC_DoubleName ex_DoubleName ve_DoubleName ty_DoubleName hd_DoubleName sup_DoubleName mro_DoubleName su_DoubleName ca_DoubleName e_cg e_ct mo_DoubleName e_opq top l_DoubleName c_DoubleName lc_DoubleName v2_DoubleName fl_DoubleName cc_DoubleName rfl rfl rfl rfl (by decide +kernel) (by decide +kernel) (by decide +kernel) (by decide +kernel) (by decide +kernel) (by decide +kernel) (by decide +kernel) rfl rfl rfl
    (fun _ _ _ _ _ _ _ s x us hl => match us, hl with | [_], _ => .of_eq rfl) (fun x us hl => match us, hl with | [_], _ => ⟨by rfl, .cons (by rfl) (.nil)⟩) (.inl ⟨rfl, _, _, _, rfl⟩)
  have nn_BadNumber : ∀ f ∈ (["number"] : List Str), PySem.W.findIn K (.ref C_BadNumber) f = some none := fun f hf => by
      simp only [List.mem_cons, List.not_mem_nil, or_false] at hf
      rcases hf with rfl
      · exact no_number_BadNumber
  have X_BadNumber : ErrTxt P K mg false "BadNumber" C_BadNumber fI_BadNumber ["number"] := err_mk (st := inClass (topS 12) 0) (fp := [("number", _, _, _, _)]) X G aC_BadNumber z_super xL_BadNumber bm_BadNumber sa_BadNumber ga_BadNumber gg_BadNumber nn_BadNumber
    iC_BadNumber tI_BadNumber kC_BadNumber ex_BadNumber ve_BadNumber ty_BadNumber hd_BadNumber sup_BadNumber mro_BadNumber su_BadNumber ca_BadNumber e_cg e_ct mo_BadNumber e_opq top l_BadNumber c_BadNumber lc_BadNumber v2_BadNumber fl_BadNumber cc_BadNumber rfl rfl rfl rfl (by decide +kernel) (by decide +kernel) (by decide +kernel) (by decide +kernel) (by decide +kernel) (by decide +kernel) (by decide +kernel) rfl rfl rfl
    (fun _ _ _ _ _ _ _ s x us hl => match us, hl with | [_], _ => .of_eq rfl) (fun x us hl => match us, hl with | [_], _ => ⟨by rfl, .cons (by rfl) (.nil)⟩) (.inl ⟨rfl, _, _, _, rfl⟩)
  have nn_EmptyStep : ∀ f ∈ (["name"] : List Str), PySem.W.findIn K (.ref C_EmptyStep) f = some none := fun f hf => by
      simp only [List.mem_cons, List.not_mem_nil, or_false] at hf
      rcases hf with rfl
      · exact no_name_EmptyStep
  have X_EmptyStep : ErrTxt P K mg false "EmptyStep" C_EmptyStep fI_EmptyStep ["name"] := err_mk (st := inClass (topS 15) 0) (fp := [("name", _, _, _, _)]) X G aC_EmptyStep z_super xL_EmptyStep bm_EmptyStep sa_EmptyStep ga_EmptyStep gg_EmptyStep nn_EmptyStep
    iC_EmptyStep tI_EmptyStep kC_EmptyStep ex_EmptyStep ve_EmptyStep ty_EmptyStep hd_EmptyStep sup_EmptyStep mro_EmptyStep su_EmptyStep ca_EmptyStep e_cg e_ct mo_EmptyStep e_opq top l_EmptyStep c_EmptyStep lc_EmptyStep v2_EmptyStep fl_EmptyStep cc_EmptyStep rfl rfl rfl rfl (by decide +kernel) (by decide +kernel) (by decide +kernel) (by decide +kernel) (by decide +kernel) (by decide +kernel) (by decide +kernel) rfl rfl rfl
    (fun _ _ _ _ _ _ _ s x us hl => match us, hl with | [_], _ => .of_eq rfl) (fun x us hl => match us, hl with | [_], _ => ⟨by rfl, .cons (by rfl) (.nil)⟩) (.inl ⟨rfl, _, _, _, rfl⟩)
  have nn_UnknownName : ∀ f ∈ (["name"] : List Str), PySem.W.findIn K (.ref C_UnknownName) f = some none := fun f hf => by
      simp only [List.mem_cons, List.not_mem_nil, or_false] at hf
      rcases hf with rfl
      · exact no_name_UnknownName
  have X_UnknownName : ErrTxt P K mg false "UnknownName" C_UnknownName fI_UnknownName ["name"] := err_mk (st := inClass (topS 13) 0) (fp := [("name", _, _, _, _)]) X G aC_UnknownName z_super xL_UnknownName bm_UnknownName sa_UnknownName ga_UnknownName gg_UnknownName nn_UnknownName
    iC_UnknownName tI_UnknownName kC_UnknownName ex_UnknownName ve_UnknownName ty_UnknownName hd_UnknownName sup_UnknownName mro_UnknownName su_UnknownName ca_UnknownName e_cg e_ct mo_UnknownName e_opq top l_UnknownName c_UnknownName lc_UnknownName v2_UnknownName fl_UnknownName cc_UnknownName rfl rfl rfl rfl (by decide +kernel) (by decide +kernel) (by decide +kernel) (by decide +kernel) (by decide +kernel) (by decide +kernel) (by decide +kernel) rfl rfl rfl
    (fun _ _ _ _ _ _ _ s x us hl => match us, hl with | [_], _ => .of_eq rfl) (fun x us hl => match us, hl with | [_], _ => ⟨by rfl, .cons (by rfl) (.nil)⟩) (.inl ⟨rfl, _, _, _, rfl⟩)
  have FI_Plan : SrcI K C_Plan "Plan.__init__" s_Plan___init__ ["self", "places", "steps"] := srcI_mk mk_Plan kC_Plan a_Plan___init__ i_Plan___init__ l_Plan___init__ c_Plan___init__ k_Plan___init__ (fun _ _ _ _ _ _ us hl => match us, hl with | [_, _, _], _ => rfl)
  have FM_Plan_put_step : SrcM K C_Plan "put_step" "Plan.put_step" s_Plan_put_step ["self", "word", "takes", "gives"] := srcM_mk a_Plan_put_step i_Plan_put_step l_Plan_put_step c_Plan_put_step k_Plan_put_step (fun _ _ _ _ _ _ us hl => match us, hl with | [_, _, _, _], _ => rfl)
  have FM_Plan_takes : SrcM K C_Plan "takes" "Plan.takes" s_Plan_takes ["self", "step"] := srcM_mk a_Plan_takes i_Plan_takes l_Plan_takes c_Plan_takes k_Plan_takes (fun _ _ _ _ _ _ us hl => match us, hl with | [_, _], _ => rfl)
  have FM_Plan_gives : SrcM K C_Plan "gives" "Plan.gives" s_Plan_gives ["self", "step"] := srcM_mk a_Plan_gives i_Plan_gives l_Plan_gives c_Plan_gives k_Plan_gives (fun _ _ _ _ _ _ us hl => match us, hl with | [_, _], _ => rfl)
  have FM_Plan___contains__ : SrcM K C_Plan "__contains__" "Plan.__contains__" s_Plan___contains__ ["self", "step"] := srcM_mk a_Plan___contains__ i_Plan___contains__ l_Plan___contains__ c_Plan___contains__ k_Plan___contains__ (fun _ _ _ _ _ _ us hl => match us, hl with | [_, _], _ => rfl)
  have m_Plan := PySem.W.mg_of X G aC_Plan
  have CL_Plan : Cls K C_Plan := ⟨pg_Plan, hd_Plan, po_Plan, sa_Plan⟩
  refine ⟨PySem.W.fnOf "law" "law" (defArgs s_law) (defBody s_law) (defScope s_law) .none kV_law dc_law pm_law an_law cd_law ct_law, fun s v => .of_eq rfl, fun base hK hN => ?_⟩
  obtain ⟨cs, hcs⟩ : ∃ cs : EK → Addr, cs = fun k => match k with | .tooMany => C_TooMany | .badWord => C_BadWord | .double => C_DoubleName | .badNumber => C_BadNumber | .empty => C_EmptyStep | .unknown => C_UnknownName | .inUse => C_TooMany | .badState => C_TooMany | .notReady => C_TooMany | .notSound => C_TooMany | .badPair => C_TooMany | .badText => C_TooMany | .noUndo => C_TooMany := ⟨_, rfl⟩
  have X_TooMany : ErrTxt P K mg true "TooMany" (cs .tooMany) fI_TooMany ["kind", "limit"] := by rw [hcs]; exact X_TooMany
  have X_BadWord : ErrTxt P K mg false "BadWord" (cs .badWord) fI_BadWord ["word"] := by rw [hcs]; exact X_BadWord
  have X_DoubleName : ErrTxt P K mg false "DoubleName" (cs .double) fI_DoubleName ["name"] := by rw [hcs]; exact X_DoubleName
  have X_BadNumber : ErrTxt P K mg false "BadNumber" (cs .badNumber) fI_BadNumber ["number"] := by rw [hcs]; exact X_BadNumber
  have X_EmptyStep : ErrTxt P K mg false "EmptyStep" (cs .empty) fI_EmptyStep ["name"] := by rw [hcs]; exact X_EmptyStep
  have X_UnknownName : ErrTxt P K mg false "UnknownName" (cs .unknown) fI_UnknownName ["name"] := by rw [hcs]; exact X_UnknownName
  have T_Plan : PlanC K mg C_Plan := ⟨CL_Plan, m_Plan, no_places_Plan, no_begin_Plan, no_taken_Plan, no_given_Plan, no_steps_Plan⟩
  have P1 : Def P w K mg base CX0 1 "is_word" _ spIsWord := ok_is_word B g_LETTERS g_DIGITS g_MOST_SIGNS F_is_word
  have P2 : Def P w K mg base (L2.CX P w) 2 "check_word" _ (spA (preCheckWord (ecs cs))) := checkWordG (ok_check_word X_BadWord P1 F_check_word)
  have P3 : Def P w K mg base (L2.CX P w) 1 "check_number" _ (spA (preCheckNumber (ecs cs))) := checkNumberG (ok_check_number X_BadNumber F_check_number)
  have P4 : Def P w K mg base (L2.CX P w) 1 "check_names" _ (spA (preCheckNames (ecs cs))) := checkNamesG (ok_check_names B X_UnknownName X_DoubleName F_check_names)
  have P5 : Def P w K mg base (L2.CX P w) 2 "in_order" _ (spA (preInOrder (ecs cs))) := ok_in_orderG B P4 F_in_order
  have P6 : DefM P w K mg base (L2.CX P w) 3 C_Plan "put_step" _ (spC (prePut (ecs cs) C_Plan)) := ok_put_stepG B T_Plan X_DoubleName X_EmptyStep P2 P5 FM_Plan_put_step
  have DI_Plan := planW (cs := cs) (ok_plan_initG (cs := ecs cs) B T_Plan g_MOST_PLACES g_MOST_STEPS g_MOST_BEGIN X_TooMany X_DoubleName (P2.mono (by decide)) (P3.mono (by decide)) P6 FI_Plan)
  have D__law_next : Def P w K mg base CX0 1 "_law_next" _ spNext := ok_next B F__law_next
  have D__law_box : Def P w K mg base CX0 1 "_law_box" _ (spBox K) := ok_box B F__law_box
  have E3 : Def P w K mg base CX0 2 "_law_word" _ spWord := ok_word B D__law_next F__law_word
  have E4 : Def P w K mg base CX0 3 "_law_words" _ (spC (preB preWords)) := wordsG (ok_words B E3 F__law_words)
  have E5 : Def P w K mg base CX0 2 "_law_pick" _ (spC (preB prePick)) := ok_pickG B D__law_next F__law_pick
  have E6 : Def P w K mg base CX0 4 "_law_any" _ (spC (preB preGR)) := ok_anyG B (D__law_next.mono (by decide)) E4 (E5.mono (by decide)) F__law_any
  have E7 : Def P w K mg base CX0 4 "_law_free" _ (spC (preB preGR)) := ok_freeG B (D__law_next.mono (by decide)) E4 (E5.mono (by decide)) F__law_free
  have E8 : Def P w K mg base CX0 1 "_law_stretched" _ (spA preStretched) := ok_stretchedG B F__law_stretched
  have E9 : Def P w K mg base CX0 1 "_law_twinned" _ (spA preTwinned) := ok_twinnedG B F__law_twinned
  have E10 : Def P w K mg base CX0 2 "_law_detoured" _ (spA preDetoured) := ok_detouredG B E9 F__law_detoured
  have E11 : Def P w K mg base CX0 2 "_law_ring" _ (spC (preB preRing)) := ok_ringG B D__law_next F__law_ring
  have E12 : Def P w K mg base CX0 4 "_law_grown" _ (spC (preB preGR)) := ok_grownG B (D__law_next.mono (by decide)) E4 (E11.mono (by decide)) (E8.mono (by decide)) (E9.mono (by decide)) (E10.mono (by decide)) F__law_grown
  have D__law_rows := rowsW (ok_lrowsG B (D__law_next.mono (by decide)) E6 E7 E12 F__law_rows)
  have DM_Plan_takes := ok_Plan_takes (P := P) (w := w) (base := base) (cs := cs) (k := 0) B T_Plan X_UnknownName FM_Plan_takes
  have DM_Plan_gives := ok_Plan_gives (P := P) (w := w) (base := base) (cs := cs) (k := 0) B T_Plan X_UnknownName FM_Plan_gives
  have D_choices0 := choicesG (ok_choices B T_Plan (ok_takes (P := P) (w := w) (base := base) (k := 0) (cs := ecs cs) (f_UnknownName := fI_UnknownName) B T_Plan X_UnknownName FM_Plan_takes) F_choices)
  have D_choices := choicesW (cs := cs) D_choices0
  have D_arrows0 := ok_arrows (P := P) (w := w) (base := base) (k := 2) (cs := ecs cs) B T_Plan ((ok_takesG (P := P) (w := w) (base := base) (k := 0) (cs := ecs cs) (f_UnknownName := fI_UnknownName) B T_Plan X_UnknownName FM_Plan_takes).mono (by decide)) ((ok_givesG (P := P) (w := w) (base := base) (k := 0) (cs := ecs cs) (f_UnknownName := fI_UnknownName) B T_Plan X_UnknownName FM_Plan_gives).mono (by decide)) (D_choices0.mono (by decide)) ((ok_meets (P := P) (w := w) (base := base) (k := 0) B F_meets).mono (by decide)) F_arrows
  have D_arrows := arrowsW (cs := cs) (arrowsF D_arrows0)
  have D__law_groups0 := ok_groupsG (P := P) (w := w) (base := base) (k := 0) B F__law_groups
  have D__law_groups := lgroupsW (cs := cs) D__law_groups0
  have D__law_arrows := larrowsW (cs := cs) (ok_larrows (P := P) (w := w) (base := base) (k := 1) B D__law_groups0 F__law_arrows)
  have DM_Plan___contains__ := ok_Plan___contains__ (P := P) (w := w) (base := base) (cs := cs) (k := 0) B T_Plan FM_Plan___contains__
  have D_judge_apart := ok_judge_apart (P := P) (w := w) (base := base) (cs := cs) (k := 1) B T_Plan (DM_Plan___contains__.mono (by decide)) (DM_Plan_takes.mono (by decide)) (DM_Plan_gives.mono (by decide)) F_judge_apart
  have D_distances := ok_distances (P := P) (w := w) (base := base) (cs := cs) (k := 0) B  F_distances
  have D_apart_paper := ok_apart_paper (P := P) (w := w) (base := base) (cs := cs) (k := 3) B T_Plan (D_choices.mono (by decide)) (D_arrows.mono (by decide)) (D_distances.mono (by decide)) F_apart_paper
  have D__law_spread := ok__law_spread (P := P) (w := w) (base := base) (cs := cs) (k := 0) B  F__law_spread
  have D__law_sets := ok__law_sets (P := P) (w := w) (base := base) (cs := cs) (k := 1) B (D__law_next.mono (by decide)) F__law_sets
  have D__law_steps := ok__law_steps (P := P) (w := w) (base := base) (cs := cs) (k := 0) B  F__law_steps
  have D__law_right := ok__law_right (P := P) (w := w) (base := base) (cs := cs) (k := 0) B  F__law_right
  have D_judge_plan := ok_judge_plan (P := P) (base := base) (cs := cs) (k := 2) B g_PLAN_JUDGES (jtabL (js := [("APART", m_judge_apart)]) (nos := []) (fs := [f_judge_apart]) g1_PLAN_JUDGES g2_PLAN_JUDGES g3_PLAN_JUDGES (by simp) (.cons ⟨g4_PLAN_JUDGES_judge_apart, held_of (D_judge_apart.mono (by decide)) (PySem.W.mg_of X G a_judge_apart)⟩ (.nil)) (fun z hz => nomatch hz)) F_judge_plan
  exact ok_law (P := P) (w := w) (base := base) (cs := cs) (k := 4) B (D__law_rows.mono (by decide)) (D__law_groups.mono (by decide)) (D__law_arrows.mono (by decide)) (D__law_spread.mono (by decide)) (D__law_steps.mono (by decide)) (D_apart_paper.mono (by decide)) (D__law_sets.mono (by decide)) (D__law_right.mono (by decide)) (D__law_next.mono (by decide)) (D_judge_plan.mono (by decide)) m_Plan (DI_Plan.mono (by decide)) (D__law_box.mono (by decide)) (fun_mk l_law c_law k_law) law_pure
theorem walk {l : PySem.W.OpenLaw} {q : Program} {loose : List Str} {XP : (Str → Option Value) → Heap → Prop} {YP : World → Heap → Prop} {d : DefRec} {K : Params → PySem.W.Frag} (hn : l.most = some 63) (hdf : d.params.defaults = [])
    (hY : ∀ (w : World) (h : Heap), YP w h → (K w.params).In h)
    (F : ∀ (w : World) (mg : Str → Option Value) (fa : Addr) (h : Heap), (K w.params).In h → h.Ns mainGlobals mg → mg d.name = some (.ref fa) →
      ∃ fd : FuncData, (∀ (s : Shared) (u : Value), BindsTo s fd ⟨[u], []⟩ [("_law_script", u)]) ∧ ∀ base : Heap, (K w.params).In base → base.Ns mainGlobals mg → FnOk l.prog w (K w.params) mg base CX0 6 fa fd ["_law_script"] (spLaw (K w.params))) :
    PySem.W.WalkO q loose XP YP l.row.toRowW d [] (fun f vs => PySem.call f vs) :=
  L2.walk_of (n := 63) (k := 6) (x := "_law_script") (CX := fun _ => CX0) (sp := fun w => spLaw (K w.params)) hn (by decide) hdf ⟨rfl, by decide, by decide⟩ hY F (fun _ _ a ns hl _ hS => ⟨a, ns, rfl, hS, hl, fun _ => rfl⟩) fun _ _ _ _ _ z => z
end Held
open PySem PySem.W PyProof.Rows in
set_option maxRecDepth 100000 in
set_option maxHeartbeats 0 in
theorem PySem.Challenge.cw_heldsteps_k16_whole_joined_or_why_not_holds : PySem.Challenge.rw_heldsteps_k16_whole_joined_or_why_not.Holds := by
  w_on; o_law; k_head; (case hw => w_witness2)
  k_fill
  refine Held.walk (l := PySem.Challenge.rw_heldsteps_k16_whole_joined_or_why_not) rfl rfl (fun w h Y => PySem.W.kIn_of Y) ?F
  case F =>
    intro w mg fa h KX G hmg
    refine' Held.all_mk KX G hmg (by decide +kernel) ?z_len ?z_range ?z_abs ?z_sum ?z_sorted ?z_isinstance ?z_zip ?z_enumerate ?z_reversed ?z_int ?z_str ?z_list ?z_tuple ?z_bool ?z_all ?z_any ?z_ValueError ?z_super ?g0_PLAN_JUDGES ?g1_PLAN_JUDGES ?a_LETTERS ?a_DIGITS ?a_MOST_SIGNS ?a_MOST_PLACES ?a_MOST_STEPS ?a_MOST_BEGIN ?a__law_next ?l__law_next ?c__law_next ?k__law_next ?a__law_box ?l__law_box ?c__law_box ?k__law_box ?a__law_word ?l__law_word ?c__law_word ?k__law_word ?a__law_words ?l__law_words ?c__law_words ?k__law_words ?a__law_pick ?l__law_pick ?c__law_pick ?k__law_pick ?a__law_any ?l__law_any ?c__law_any ?k__law_any ?a__law_free ?l__law_free ?c__law_free ?k__law_free ?a__law_stretched ?l__law_stretched ?c__law_stretched ?k__law_stretched ?a__law_twinned ?l__law_twinned ?c__law_twinned ?k__law_twinned ?a__law_detoured ?l__law_detoured ?c__law_detoured ?k__law_detoured ?a__law_ring ?l__law_ring ?c__law_ring ?k__law_ring ?a__law_grown ?l__law_grown ?c__law_grown ?k__law_grown ?a__law_rows ?l__law_rows ?c__law_rows ?k__law_rows ?a_is_word ?l_is_word ?c_is_word ?k_is_word ?a_check_word ?l_check_word ?c_check_word ?k_check_word ?a_check_number ?l_check_number ?c_check_number ?k_check_number ?a_check_names ?l_check_names ?c_check_names ?k_check_names ?a_in_order ?l_in_order ?c_in_order ?k_in_order ?a_choices ?l_choices ?c_choices ?k_choices ?a_arrows ?l_arrows ?c_arrows ?k_arrows ?a_meets ?l_meets ?c_meets ?k_meets ?a__law_groups ?l__law_groups ?c__law_groups ?k__law_groups ?a__law_arrows ?l__law_arrows ?c__law_arrows ?k__law_arrows ?a_judge_apart ?l_judge_apart ?c_judge_apart ?k_judge_apart ?a_distances ?l_distances ?c_distances ?k_distances ?a_apart_paper ?l_apart_paper ?c_apart_paper ?k_apart_paper ?a__law_spread ?l__law_spread ?c__law_spread ?k__law_spread ?a__law_sets ?l__law_sets ?c__law_sets ?k__law_sets ?a__law_steps ?l__law_steps ?c__law_steps ?k__law_steps ?a__law_right ?l__law_right ?c__law_right ?k__law_right ?a_judge_plan ?l_judge_plan ?c_judge_plan ?k_judge_plan ?a_law ?l_law ?c_law ?k_law ?g2_PLAN_JUDGES ?g3_PLAN_JUDGES ?g4_PLAN_JUDGES_judge_apart ?e_opq ?e_cg ?e_ct ?aC_TooMany ?xL_TooMany ?bm_TooMany ?sa_TooMany ?ga_TooMany ?gg_TooMany ?no_kind_TooMany ?no_limit_TooMany ?iC_TooMany ?tI_TooMany ?kC_TooMany ?ex_TooMany ?ve_TooMany ?ty_TooMany ?hd_TooMany ?sup_TooMany ?mro_TooMany ?su_TooMany ?ca_TooMany ?mo_TooMany ?l_TooMany ?c_TooMany ?lc_TooMany ?v2_TooMany ?fl_TooMany ?cc_TooMany ?aC_BadWord ?xL_BadWord ?bm_BadWord ?sa_BadWord ?ga_BadWord ?gg_BadWord ?no_word_BadWord ?iC_BadWord ?tI_BadWord ?kC_BadWord ?ex_BadWord ?ve_BadWord ?ty_BadWord ?hd_BadWord ?sup_BadWord ?mro_BadWord ?su_BadWord ?ca_BadWord ?mo_BadWord ?l_BadWord ?c_BadWord ?lc_BadWord ?v2_BadWord ?fl_BadWord ?cc_BadWord ?aC_DoubleName ?xL_DoubleName ?bm_DoubleName ?sa_DoubleName ?ga_DoubleName ?gg_DoubleName ?no_name_DoubleName ?iC_DoubleName ?tI_DoubleName ?kC_DoubleName ?ex_DoubleName ?ve_DoubleName ?ty_DoubleName ?hd_DoubleName ?sup_DoubleName ?mro_DoubleName ?su_DoubleName ?ca_DoubleName ?mo_DoubleName ?l_DoubleName ?c_DoubleName ?lc_DoubleName ?v2_DoubleName ?fl_DoubleName ?cc_DoubleName ?aC_BadNumber ?xL_BadNumber ?bm_BadNumber ?sa_BadNumber ?ga_BadNumber ?gg_BadNumber ?no_number_BadNumber ?iC_BadNumber ?tI_BadNumber ?kC_BadNumber ?ex_BadNumber ?ve_BadNumber ?ty_BadNumber ?hd_BadNumber ?sup_BadNumber ?mro_BadNumber ?su_BadNumber ?ca_BadNumber ?mo_BadNumber ?l_BadNumber ?c_BadNumber ?lc_BadNumber ?v2_BadNumber ?fl_BadNumber ?cc_BadNumber ?aC_EmptyStep ?xL_EmptyStep ?bm_EmptyStep ?sa_EmptyStep ?ga_EmptyStep ?gg_EmptyStep ?no_name_EmptyStep ?iC_EmptyStep ?tI_EmptyStep ?kC_EmptyStep ?ex_EmptyStep ?ve_EmptyStep ?ty_EmptyStep ?hd_EmptyStep ?sup_EmptyStep ?mro_EmptyStep ?su_EmptyStep ?ca_EmptyStep ?mo_EmptyStep ?l_EmptyStep ?c_EmptyStep ?lc_EmptyStep ?v2_EmptyStep ?fl_EmptyStep ?cc_EmptyStep ?aC_UnknownName ?xL_UnknownName ?bm_UnknownName ?sa_UnknownName ?ga_UnknownName ?gg_UnknownName ?no_name_UnknownName ?iC_UnknownName ?tI_UnknownName ?kC_UnknownName ?ex_UnknownName ?ve_UnknownName ?ty_UnknownName ?hd_UnknownName ?sup_UnknownName ?mro_UnknownName ?su_UnknownName ?ca_UnknownName ?mo_UnknownName ?l_UnknownName ?c_UnknownName ?lc_UnknownName ?v2_UnknownName ?fl_UnknownName ?cc_UnknownName ?aC_Plan ?pg_Plan ?hd_Plan ?po_Plan ?sa_Plan ?no_places_Plan ?no_begin_Plan ?no_taken_Plan ?no_given_Plan ?no_steps_Plan ?mk_Plan ?kC_Plan ?a_Plan___init__ ?i_Plan___init__ ?l_Plan___init__ ?c_Plan___init__ ?k_Plan___init__ ?a_Plan_put_step ?i_Plan_put_step ?l_Plan_put_step ?c_Plan_put_step ?k_Plan_put_step ?a_Plan_takes ?i_Plan_takes ?l_Plan_takes ?c_Plan_takes ?k_Plan_takes ?a_Plan_gives ?i_Plan_gives ?l_Plan_gives ?c_Plan_gives ?k_Plan_gives ?a_Plan___contains__ ?i_Plan___contains__ ?l_Plan___contains__ ?c_Plan___contains__ ?k_Plan___contains__
    (case z_len => k_is)
    (case z_range => k_is)
    (case z_abs => k_is)
    (case z_sum => k_is)
    (case z_sorted => k_is)
    (case z_isinstance => k_is)
    (case z_zip => k_is)
    (case z_enumerate => k_is)
    (case z_reversed => k_is)
    (case z_int => k_is)
    (case z_str => k_is)
    (case z_list => k_is)
    (case z_tuple => k_is)
    (case z_bool => k_is)
    (case z_all => k_is)
    (case z_any => k_is)
    (case z_ValueError => k_is)
    (case z_super => k_is)
    (case g0_PLAN_JUDGES => k_is)
    (case g1_PLAN_JUDGES => k_is)
    (case a_LETTERS => k_is)
    (case a_DIGITS => k_is)
    (case a_MOST_SIGNS => k_is)
    (case a_MOST_PLACES => k_is)
    (case a_MOST_STEPS => k_is)
    (case a_MOST_BEGIN => k_is)
    (case a__law_next => k_is)
    (case l__law_next => k_is)
    (case c__law_next => k_is)
    (case k__law_next => k_is)
    (case a__law_box => k_is)
    (case l__law_box => k_is)
    (case c__law_box => k_is)
    (case k__law_box => k_is)
    (case a__law_word => k_is)
    (case l__law_word => k_is)
    (case c__law_word => k_is)
    (case k__law_word => k_is)
    (case a__law_words => k_is)
    (case l__law_words => k_is)
    (case c__law_words => k_is)
    (case k__law_words => k_is)
    (case a__law_pick => k_is)
    (case l__law_pick => k_is)
    (case c__law_pick => k_is)
    (case k__law_pick => k_is)
    (case a__law_any => k_is)
    (case l__law_any => k_is)
    (case c__law_any => k_is)
    (case k__law_any => k_is)
    (case a__law_free => k_is)
    (case l__law_free => k_is)
    (case c__law_free => k_is)
    (case k__law_free => k_is)
    (case a__law_stretched => k_is)
    (case l__law_stretched => k_is)
    (case c__law_stretched => k_is)
    (case k__law_stretched => k_is)
    (case a__law_twinned => k_is)
    (case l__law_twinned => k_is)
    (case c__law_twinned => k_is)
    (case k__law_twinned => k_is)
    (case a__law_detoured => k_is)
    (case l__law_detoured => k_is)
    (case c__law_detoured => k_is)
    (case k__law_detoured => k_is)
    (case a__law_ring => k_is)
    (case l__law_ring => k_is)
    (case c__law_ring => k_is)
    (case k__law_ring => k_is)
    (case a__law_grown => k_is)
    (case l__law_grown => k_is)
    (case c__law_grown => k_is)
    (case k__law_grown => k_is)
    (case a__law_rows => k_is)
    (case l__law_rows => k_is)
    (case c__law_rows => k_is)
    (case k__law_rows => k_is)
    (case a_is_word => k_is)
    (case l_is_word => k_is)
    (case c_is_word => k_is)
    (case k_is_word => k_is)
    (case a_check_word => k_is)
    (case l_check_word => k_is)
    (case c_check_word => k_is)
    (case k_check_word => k_is)
    (case a_check_number => k_is)
    (case l_check_number => k_is)
    (case c_check_number => k_is)
    (case k_check_number => k_is)
    (case a_check_names => k_is)
    (case l_check_names => k_is)
    (case c_check_names => k_is)
    (case k_check_names => k_is)
    (case a_in_order => k_is)
    (case l_in_order => k_is)
    (case c_in_order => k_is)
    (case k_in_order => k_is)
    (case a_choices => k_is)
    (case l_choices => k_is)
    (case c_choices => k_is)
    (case k_choices => k_is)
    (case a_arrows => k_is)
    (case l_arrows => k_is)
    (case c_arrows => k_is)
    (case k_arrows => k_is)
    (case a_meets => k_is)
    (case l_meets => k_is)
    (case c_meets => k_is)
    (case k_meets => k_is)
    (case a__law_groups => k_is)
    (case l__law_groups => k_is)
    (case c__law_groups => k_is)
    (case k__law_groups => k_is)
    (case a__law_arrows => k_is)
    (case l__law_arrows => k_is)
    (case c__law_arrows => k_is)
    (case k__law_arrows => k_is)
    (case a_judge_apart => k_is)
    (case l_judge_apart => k_is)
    (case c_judge_apart => k_is)
    (case k_judge_apart => k_is)
    (case a_distances => k_is)
    (case l_distances => k_is)
    (case c_distances => k_is)
    (case k_distances => k_is)
    (case a_apart_paper => k_is)
    (case l_apart_paper => k_is)
    (case c_apart_paper => k_is)
    (case k_apart_paper => k_is)
    (case a__law_spread => k_is)
    (case l__law_spread => k_is)
    (case c__law_spread => k_is)
    (case k__law_spread => k_is)
    (case a__law_sets => k_is)
    (case l__law_sets => k_is)
    (case c__law_sets => k_is)
    (case k__law_sets => k_is)
    (case a__law_steps => k_is)
    (case l__law_steps => k_is)
    (case c__law_steps => k_is)
    (case k__law_steps => k_is)
    (case a__law_right => k_is)
    (case l__law_right => k_is)
    (case c__law_right => k_is)
    (case k__law_right => k_is)
    (case a_judge_plan => k_is)
    (case l_judge_plan => k_is)
    (case c_judge_plan => k_is)
    (case k_judge_plan => k_is)
    (case a_law => k_is)
    (case l_law => k_is)
    (case c_law => k_is)
    (case k_law => k_is)
    (case g2_PLAN_JUDGES => exact ⟨⟨_, _, rfl, rfl⟩, ⟨⟨_, _, rfl, rfl⟩, ⟨⟨_, _, rfl, rfl⟩, ⟨⟨_, _, rfl, rfl⟩, ⟨⟨_, _, rfl, rfl⟩, ⟨⟨_, _, rfl, rfl⟩, trivial⟩⟩⟩⟩⟩⟩)
    (case g3_PLAN_JUDGES => first | rfl | decide)
    (case g4_PLAN_JUDGES_judge_apart => k_is)
    (case e_opq => k_is)
    (case e_cg => k_is)
    (case e_ct => k_is)
    (case aC_TooMany => k_is)
    (case xL_TooMany => k_is)
    (case bm_TooMany => rfl)
    (case sa_TooMany => k_is)
    (case ga_TooMany => k_is)
    (case gg_TooMany => k_is)
    (case no_kind_TooMany => k_is)
    (case no_limit_TooMany => k_is)
    (case iC_TooMany => k_is)
    (case tI_TooMany => k_is)
    (case kC_TooMany => k_is)
    (case ex_TooMany => k_is)
    (case ve_TooMany => k_is)
    (case ty_TooMany => k_is)
    (case hd_TooMany => k_is)
    (case sup_TooMany => ks_is)
    (case mro_TooMany => k_is)
    (case su_TooMany => first | rfl | k_is)
    (case ca_TooMany => k_is)
    (case mo_TooMany => k_is)
    (case l_TooMany => k_is)
    (case c_TooMany => k_is)
    (case lc_TooMany => k_is)
    (case v2_TooMany => rfl)
    (case fl_TooMany => first | rfl | decide +kernel)
    (case cc_TooMany => k_is)
    (case aC_BadWord => k_is)
    (case xL_BadWord => k_is)
    (case bm_BadWord => rfl)
    (case sa_BadWord => k_is)
    (case ga_BadWord => k_is)
    (case gg_BadWord => k_is)
    (case no_word_BadWord => k_is)
    (case iC_BadWord => k_is)
    (case tI_BadWord => k_is)
    (case kC_BadWord => k_is)
    (case ex_BadWord => k_is)
    (case ve_BadWord => k_is)
    (case ty_BadWord => k_is)
    (case hd_BadWord => k_is)
    (case sup_BadWord => ks_is)
    (case mro_BadWord => k_is)
    (case su_BadWord => first | rfl | k_is)
    (case ca_BadWord => k_is)
    (case mo_BadWord => k_is)
    (case l_BadWord => k_is)
    (case c_BadWord => k_is)
    (case lc_BadWord => k_is)
    (case v2_BadWord => rfl)
    (case fl_BadWord => first | rfl | decide +kernel)
    (case cc_BadWord => k_is)
    (case aC_DoubleName => k_is)
    (case xL_DoubleName => k_is)
    (case bm_DoubleName => rfl)
    (case sa_DoubleName => k_is)
    (case ga_DoubleName => k_is)
    (case gg_DoubleName => k_is)
    (case no_name_DoubleName => k_is)
    (case iC_DoubleName => k_is)
    (case tI_DoubleName => k_is)
    (case kC_DoubleName => k_is)
    (case ex_DoubleName => k_is)
    (case ve_DoubleName => k_is)
    (case ty_DoubleName => k_is)
    (case hd_DoubleName => k_is)
    (case sup_DoubleName => ks_is)
    (case mro_DoubleName => k_is)
    (case su_DoubleName => first | rfl | k_is)
    (case ca_DoubleName => k_is)
    (case mo_DoubleName => k_is)
    (case l_DoubleName => k_is)
    (case c_DoubleName => k_is)
    (case lc_DoubleName => k_is)
    (case v2_DoubleName => rfl)
    (case fl_DoubleName => first | rfl | decide +kernel)
    (case cc_DoubleName => k_is)
    (case aC_BadNumber => k_is)
    (case xL_BadNumber => k_is)
    (case bm_BadNumber => rfl)
    (case sa_BadNumber => k_is)
    (case ga_BadNumber => k_is)
    (case gg_BadNumber => k_is)
    (case no_number_BadNumber => k_is)
    (case iC_BadNumber => k_is)
    (case tI_BadNumber => k_is)
    (case kC_BadNumber => k_is)
    (case ex_BadNumber => k_is)
    (case ve_BadNumber => k_is)
    (case ty_BadNumber => k_is)
    (case hd_BadNumber => k_is)
    (case sup_BadNumber => ks_is)
    (case mro_BadNumber => k_is)
    (case su_BadNumber => first | rfl | k_is)
    (case ca_BadNumber => k_is)
    (case mo_BadNumber => k_is)
    (case l_BadNumber => k_is)
    (case c_BadNumber => k_is)
    (case lc_BadNumber => k_is)
    (case v2_BadNumber => rfl)
    (case fl_BadNumber => first | rfl | decide +kernel)
    (case cc_BadNumber => k_is)
    (case aC_EmptyStep => k_is)
    (case xL_EmptyStep => k_is)
    (case bm_EmptyStep => rfl)
    (case sa_EmptyStep => k_is)
    (case ga_EmptyStep => k_is)
    (case gg_EmptyStep => k_is)
    (case no_name_EmptyStep => k_is)
    (case iC_EmptyStep => k_is)
    (case tI_EmptyStep => k_is)
    (case kC_EmptyStep => k_is)
    (case ex_EmptyStep => k_is)
    (case ve_EmptyStep => k_is)
    (case ty_EmptyStep => k_is)
    (case hd_EmptyStep => k_is)
    (case sup_EmptyStep => ks_is)
    (case mro_EmptyStep => k_is)
    (case su_EmptyStep => first | rfl | k_is)
    (case ca_EmptyStep => k_is)
    (case mo_EmptyStep => k_is)
    (case l_EmptyStep => k_is)
    (case c_EmptyStep => k_is)
    (case lc_EmptyStep => k_is)
    (case v2_EmptyStep => rfl)
    (case fl_EmptyStep => first | rfl | decide +kernel)
    (case cc_EmptyStep => k_is)
    (case aC_UnknownName => k_is)
    (case xL_UnknownName => k_is)
    (case bm_UnknownName => rfl)
    (case sa_UnknownName => k_is)
    (case ga_UnknownName => k_is)
    (case gg_UnknownName => k_is)
    (case no_name_UnknownName => k_is)
    (case iC_UnknownName => k_is)
    (case tI_UnknownName => k_is)
    (case kC_UnknownName => k_is)
    (case ex_UnknownName => k_is)
    (case ve_UnknownName => k_is)
    (case ty_UnknownName => k_is)
    (case hd_UnknownName => k_is)
    (case sup_UnknownName => ks_is)
    (case mro_UnknownName => k_is)
    (case su_UnknownName => first | rfl | k_is)
    (case ca_UnknownName => k_is)
    (case mo_UnknownName => k_is)
    (case l_UnknownName => k_is)
    (case c_UnknownName => k_is)
    (case lc_UnknownName => k_is)
    (case v2_UnknownName => rfl)
    (case fl_UnknownName => first | rfl | decide +kernel)
    (case cc_UnknownName => k_is)
    (case aC_Plan => k_is)
    (case pg_Plan => k_is)
    (case hd_Plan => k_is)
    (case po_Plan => k_is)
    (case sa_Plan => k_is)
    (case no_places_Plan => k_is)
    (case no_begin_Plan => k_is)
    (case no_taken_Plan => k_is)
    (case no_given_Plan => k_is)
    (case no_steps_Plan => k_is)
    (case mk_Plan => k_is)
    (case kC_Plan => k_is)
    (case a_Plan___init__ => k_is)
    (case i_Plan___init__ => k_is)
    (case l_Plan___init__ => k_is)
    (case c_Plan___init__ => k_is)
    (case k_Plan___init__ => k_is)
    (case a_Plan_put_step => k_is)
    (case i_Plan_put_step => k_is)
    (case l_Plan_put_step => k_is)
    (case c_Plan_put_step => k_is)
    (case k_Plan_put_step => k_is)
    (case a_Plan_takes => k_is)
    (case i_Plan_takes => k_is)
    (case l_Plan_takes => k_is)
    (case c_Plan_takes => k_is)
    (case k_Plan_takes => k_is)
    (case a_Plan_gives => k_is)
    (case i_Plan_gives => k_is)
    (case l_Plan_gives => k_is)
    (case c_Plan_gives => k_is)
    (case k_Plan_gives => k_is)
    (case a_Plan___contains__ => k_is)
    (case i_Plan___contains__ => k_is)
    (case l_Plan___contains__ => k_is)
    (case c_Plan___contains__ => k_is)
    (case k_Plan___contains__ => k_is)
#print axioms PySem.Challenge.cw_heldsteps_k16_whole_joined_or_why_not_holds
