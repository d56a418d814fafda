import PyProof.Rows.All
import Wide.All
import OpenK.AllK
import Wide.FinOn
import KE.KExcSuper
import KE.KExcIs
import PyProof.FString
import HandS.Base
import HandS.Call
import HandS.Exc
import HandS.TryOnly
import HandS.ExcSuper
import HandS.ExcInit
import HandS.IsInst
import HandS.ForMost
import HandS.ForExc
import HandS.TupAny
import HandS.FStr
import HandS.ExcField
import HandS.Deep
import HandS.ExcIs
import HandS.Ends
import PySem.Challenge.RW_holdorslip_k63_mended_lines
import PyProof.StrLawsChain
import PyProof.StrLawsTight
import PyProof.Rows.StrItems
import HandS.Walk
set_option Elab.async false
set_option linter.all false
set_option maxRecDepth 100000
set_option maxHeartbeats 4000000
/-! An own exception class, below own classes over ValueError, whose __init__ says super().__init__(f"..") and stores its arguments: made, raised. -/
namespace PySem
namespace XS
open PySem.W PySem.Calls PyProof.Rows PySem.HandSPX

section
variable {prog : Program} {w : World} {A : Around} {E : Value → Shared → Prop} {h : Heap} {g : Array GenState} {d : Drawn} {t : Nat} {os : OsState}
variable {nm q : Str} {C N : Addr} {bs bm : List Value} {hdct : Bool} {sn : List Str} {sub : List Value} {ab : Bool} {col : Option Bool} {dd : Option Addr} {k0 k1 k2 k3 k5 : Option Value}
/-- the bound built-in __init__ is called -/
theorem call_bwV {u e t0 : Addr} {rest : List Value} {Q : Value → Shared → Prop}
    (hC : h.get? C = some (excClassObj nm q C N bs bm hdct sn sub ab col dd k0 k1 k2 k3 k5 "ValueError.__new__")) (he : h.get? e = some (excO C t0)) (hu : h.get? u = some (kxs_mw "ValueError.__init__" e)) (hrest : rest.length ≤ sizeLine)
    (hq : ∀ h' t1, (∀ b o, b ≠ e → h.get? b = some o → h'.get? b = some o) → h'.get? e = some (excO C t1) → Q .none ⟨h', g, d, t, os⟩) :
    wpAny (model prog w) A (call (.ref u) rest) Q E ⟨h, g, d, t, os⟩ := by
  refine wpAny_call (codeAny_of_tree ?_)
  show wpAny _ A.in1 (callAny (.ref u) ⟨rest, []⟩) _ _ _
  simp only [callAny]
  refine wpAny_bind (wpAny_load hu ?_)
  simp only [kxs_mw, show (Value.type "method-wrapper" == Value.type "method" || Value.type "method-wrapper" == Value.type "builtin_function_or_method" || Value.type "method-wrapper" == Value.type "method-wrapper") = true by decide, if_true]
  refine W.KFB.if_so (by decide) ?_
  refine wpAny_bind (ESX.check_bound F.excBase_ValueError hC he rfl ?_)
  refine wpAny_bind (wpAny_pure (wpAny_pure ?_))
  refine ⟨plainId_quiet F.excBase_ValueError.init.plain _, codeAny_builtin F.excBase_ValueError.initEntry ?_⟩
  exact exc_init_tree (cls := .ref C) (t0 := t0) (dv := none) (c2 := .none) (c3 := .none) (b4 := .bool false) he hrest fun h' k hx _ => hq h' _ k hx
end

/-! ### the text of an __init__ -/
def supS (je : Expr) (p0 p1 p2 p3 p4 : Pos) : Stmt := .Expr (.Call (.Attribute (.Call (.Name "super" p0) [] [] p1) "__init__" p2) [je] [] p3) p4
def stoS (f : Str) (q1 q2 q3 q4 : Pos) : Stmt := .Assign [.Attribute (.Name "self" q1) f q2] (.Name f q3) q4
/-- what the written part says of the class at C, whose __init__ stands at fI and closes over the cell cc -/
structure Sup (prog : Program) (K : Frag) (C fI cc : Addr) : Prop where
  cls : ∃ nm q N bs bm sn sub ab col dd k0 k1 k2 k3 k5, K.lookup C = some (excClassObj nm q C N bs bm true sn sub ab col dd k0 k1 k2 k3 k5 "ValueError.__new__") ∧ refsVE bm = true
  sa : findIn K (.ref C) "__setattr__" = some (some (.builtin "object.__setattr__"))
  sup : ks_superIn K C C "__init__" = some (some (.builtin "ValueError.__init__"))
  mroC : mroIn K C (.ref C) = some true
  subV : subIn K (.ref C) (.type "ValueError") = some true
  cell : ∃ cl cld csl, K.lookup cc = some ⟨cl, cld, .cell (some (.ref C)), csl⟩
  noSup : nsIn K mainGlobals "super" = some none
  op : nsIn K cStatics "thirdparty.any" = some none
  top : (prog.main.scope.names.lookup ("super" : Str)).isSome = false
  iC : findIn K (.ref C) "__init__" = some (some (.ref fI))
  tI : typeIn K (.ref fI) = some (.type "function")
/-- the def at fI is this text -/
structure SupFn (prog : Program) (K : Frag) (fI cc : Addr) (ps : Arguments) (body : List Stmt) (sc : Scope) (qual : Str) (cda : Addr) : Prop where
  fn : ∃ (oc : Value) (od : Option Addr) (kV doc pm : Value) (an : Option Addr) (ct : Value) (osl : Array (Option Value)),
    K.lookup fI = some ⟨oc, od, .func (ksFn "__init__" qual ps body sc .none kV doc pm an (.ref cda) ct cc), osl⟩ ∧ codeIn K (.ref cda) qual = true
  code : ∃ (ccl : Value) (cdd : Option Addr) (vs : Array Value) (ccs : Array (Option Value)) (file : Str) (tf : Tok), K.lookup cda = some ⟨ccl, cdd, .fields vs, ccs⟩ ∧ vs[2]? = some (.str file tf) ∧ ((prog.main.file : Str) == file) = true

/-- what __init__ leaves of a fresh exception at x: fs its fields -/
structure InitEnd (h h' : Heap) (x C dx : Addr) (m : Str → Option Value) : Prop where
  keep : ∀ b o, b ≠ x → h.get? b = some o → h'.get? b = some o
  obj : ∃ t1 : Addr, h'.get? x = some { cls := .ref C, dict := some dx, data := .fields #[.ref t1, .none, .none, .none, .bool false, .none] }
  dbig : h.objs.size ≤ dx
  dne : dx ≠ x
  ns : h'.Ns1 dx m
/-- an f-string that reads its names -/
def JeOk (prog : Program) (w : World) (je : Expr) (env : Env) (m : Str → Option Value) : Prop :=
  ∀ (A : Around) (E : Value → Shared → Prop) (s : Shared) (Q : Value → Shared → Prop), s.heap.Ns env.locals m → (∀ y t k, Q (.str y t) { s with toks := k }) → wpAny (model prog w) A (eval je env) Q E s

section
variable {prog : Program} {w : World} {A : Around} {E : Value → Shared → Prop} {R : Result → Shared → Prop} {s : Shared} {K : Frag} {mg : Str → Option Value} {base : Heap} {C fI cc cda : Addr} {ps : Arguments} {sc : Scope} {qual : Str}
theorem ldX {M : Model} {name : Str} {scope : Scope} {L a : Addr} {cd : Value} {cells : List (Str × Addr)} {m : Str → Option Value} {x : Str} {pos : Pos} {v : Value} {Q : Value → Shared → Prop} (hn : s.heap.Ns L m) (hv : m x = some v) (h : Q v s)
    (hk : scope.kind = .function) (hl : (envX name scope L a cd cells).kindOf x = some .local) (hd : (x == ("__debug__" : Str)) = false) :
    wpAny M A (eval (.Name x pos) (envX name scope L a cd cells)) Q E s := wpAny_Name (wpAny_loadName_local hk hl hn hv h) hd

/-- super().__init__(je), walked: behind it the exception at x still has no dict -/
theorem sup_stmt (T : Sup prog K C fI cc) {body : List Stmt} {rest : List Stmt} {je : Expr} {p0 p1 p2 p3 p4 : Pos} {L x t0 : Addr} {m : Str → Option Value} {Q : Flow → Shared → Prop}
    (SF : SupFn prog K fI cc ps body sc qual cda)
    (MO : L2.Mod K mg base) (bk : ∀ b o, base.get? b = some o → s.heap.get? b = some o) (hx : s.heap.get? x = some (excO C t0)) (hns : s.heap.Ns L m) (hself : m "self" = some (.ref x))
    (hje : JeOk prog w je (ksEnv qual sc L fI (.ref cda) cc) m)
    (hks : sc.names.lookup ("super" : Str) = some .globalImplicit) (hkc : sc.names.lookup ("__class__" : Str) = some .free) (hka : sc.names.lookup ("self" : Str) = some .local) (hk : sc.kind = .function)
    {ar : Arg} (hp : (ps.posonlyargs ++ ps.args).head? = some ar) (har : ar.arg = ("self" : Str))
    (hi : interactive (ksEnv qual sc L fI (.ref cda) cc) = false)
    (hsw : swapsWith (.Call (.Attribute (.Call (.Name "super" p0) [] [] p1) "__init__" p2) [je] [] p3) none p4.line (ksEnv qual sc L fI (.ref cda) cc) = pure false)
    {pl : Sem Bool} (hcall : eval (.Call (.Attribute (.Call (.Name "super" p0) [] [] p1) "__init__" p2) [je] [] p3) (ksEnv qual sc L fI (.ref cda) cc) = (do
      let ov ← attributeBase (.Call (.Name "super" p0) [] [] p1) "__init__" (ksEnv qual sc L fI (.ref cda) cc) (eval (.Call (.Name "super" p0) [] [] p1) (ksEnv qual sc L fI (.ref cda) cc))
      standAt p2.atName
      let (f, first) ← holding [ov] (getMethod ov "__init__" pl)
      callWith p3 f first (backTo p3 (starEach [je] (ksEnv qual sc L fI (.ref cda) cc))) []))
    (hst : starEach [je] (ksEnv qual sc L fI (.ref cda) cc) = [(false, eval je (ksEnv qual sc L fI (.ref cda) cc))])
    (hq : ∀ h' t1 k, (∀ b o, b ≠ x → s.heap.get? b = some o → h'.get? b = some o) → h'.get? x = some (excO C t1) →
      wpAt (model prog w) A (.func body (ksEnv qual sc L fI (.ref cda) cc)) (execs rest (ksEnv qual sc L fI (.ref cda) cc)) Q E { s with heap := h', toks := k }) :
    wpAt (model prog w) A (.func body (ksEnv qual sc L fI (.ref cda) cc)) (execs (supS je p0 p1 p2 p3 p4 :: rest) (ksEnv qual sc L fI (.ref cda) cc)) Q E s := by
  obtain ⟨oc, od, kV, doc, pm, an, ct, osl, hf, hcode⟩ := SF.fn
  obtain ⟨ccl, cdd, vs, ccs, file, tf, hcda, hvs, hfile⟩ := SF.code
  obtain ⟨cl, cld, csl, hcell⟩ := T.cell
  obtain ⟨nm, q, N, bs, bm, sn, sub, ab, col, dd, k0, k1, k2, k3, k5, hC, hbm⟩ := T.cls
  have X : K.In s.heap := MO.kin.keeps bk
  obtain ⟨mb, hB, hB2⟩ := MO.blt
  have hcl : clsIn K C = some { name := nm, bases := bs, mro := .ref C :: bm, ns := N, qualname := q, hasDict := true, slotNames := sn, subclasses := sub, abstract := ab, collection := col, hasDel := false } := by unfold clsIn; rw [hC] <;> rfl
  have hself' : m ar.arg = some (.ref x) := by rw [har]; exact hself
  have hka' : sc.names.lookup ar.arg = some .local := by rw [har]; exact hka
  obtain ⟨h, g, d, t, os⟩ := s
  refine ks_wpAt_execs_cons (ks_wpAt_Expr_any (ks_wpAt_MethodCall ?_ hcall) hi hsw)
  refine ks_wpAt_super_base (env := ksEnv qual sc L fI (.ref cda) cc) hks hkc (by decide) rfl (X _ _ hf) rfl hp rfl (X _ _ hcda) rfl hvs hfile T.top ?_
  refine ks_loadName_global hk hks (loadGlobal_builtin (env := ksEnv qual sc L fI (.ref cda) cc) (MO.glob.keeps bk) (mg_none_of X (MO.glob.keeps bk) T.noSup) (hB.keeps bk) ((hB2 _ (by decide +kernel)).trans (by first | boot_by_name | rfl | kernel_rfl)) ⟨rfl, ?_⟩)
  refine wpAny_loadName_free hk hkc rfl ⟨_, X _ _ hcell, rfl⟩ ?_
  refine wpAny_loadName_local hk hka' hns hself' ?_
  have hCg := X _ _ hC
  refine ks_wpAny_isType_cls hCg rfl ⟨rfl, ?_⟩
  refine ks_wpAny_call_super hCg rfl hx rfl (fun c e => nomatch e) (looks_mroIn X T.mroC) (fun h1 e k => ?_)
  -- the method
  have X1 : K.In h1 := X.keeps k
  have hxC : x ≠ C := fun z => by
    subst z
    rw [hCg] at hx
    exact nomatch hx
  have hx1 := k _ _ hx
  have I1 : InstAt h1 x (excO C t0) C none := ⟨hx1, rfl, rfl, trivial⟩
  have hm := T.sup
  unfold ks_superIn at hm
  rw [hcl] at hm
  refine kxs_getMethod kxs_ValueError e (looks_opaque X1 T.op) (l₀ := .ref C :: bm) (fun A Q E s k q => wpAny_bind ((looks_clsIn X1 hcl) A _ E s k (wpAny_pure q))) rfl X1 hm (I1.type.andThen (looks_subIn X1 T.subV)) hxC (by decide) ?_
  -- the call
  have k2 : ∀ b o, h1.get? b = some o → (h1.push (kxs_mw "ValueError.__init__" x)).get? b = some o := fun b o z => Heap.get?_push_of_some _ z
  rw [hst]
  refine kxs_callWith (i := "ValueError.__init__") (x := x) rfl (evalArgs_plain ?_)
  refine Calls.spliced_cons (hje _ _ _ _ ?_ fun y t2 tk2 => Calls.spliced_nil ⟨Heap.get?_push_at rfl rfl, ?_⟩)
  · exact (hns.keeps k).keeps k2
  · refine call_bwV (k2 _ _ (k _ _ hCg)) (k2 _ _ hx1) (Heap.get?_push_at rfl rfl) (by rw [sizeLine_eq]; exact (by decide : 1 ≤ 16777216)) fun h' t1 kk hx' => ?_
    exact hq h' t1 _ (fun b o hb z => kk b o hb (k2 _ _ (k _ _ z))) hx'

/-- self.f = f, the first: the own dict is made -/
theorem sto_new (T : Sup prog K C fI cc) {f : Str} {q1 q2 q3 q4 : Pos} {rest : List Stmt} {L x t0 : Addr} {m : Str → Option Value} {v : Value} {Q : Flow → Shared → Prop}
    (X : K.In s.heap) (hx : s.heap.get? x = some (excO C t0)) (hns : s.heap.Ns L m) (hself : m "self" = some (.ref x)) (hv : m f = some v) (hno : findIn K (.ref C) f = some none)
    (hk : sc.kind = .function) (hks : sc.names.lookup ("self" : Str) = some .local) (hkf : sc.names.lookup f = some .local) (hfd : (f == ("__debug__" : Str)) = false)
    (hsw : swapsWith (.Name f q3) (some (.Attribute (.Name "self" q1) f q2)) q4.line (ksEnv qual sc L fI (.ref cda) cc) = pure false)
    (hq : ∀ h' dx k, (∀ b o, b ≠ x → s.heap.get? b = some o → h'.get? b = some o) → h'.get? x = some { cls := .ref C, dict := some dx, data := .fields #[.ref t0, .none, .none, .none, .bool false, .none] } → s.heap.objs.size ≤ dx → dx ≠ x →
      h'.Ns1 dx (fun y => if y = f then some v else none) →
      wpAny (model prog w) A (execs rest (ksEnv qual sc L fI (.ref cda) cc)) Q E { s with heap := h', toks := k }) :
    wpAny (model prog w) A (execs (stoS f q1 q2 q3 q4 :: rest) (ksEnv qual sc L fI (.ref cda) cc)) Q E s := by
  obtain ⟨nm, q, N, bs, bm, sn, sub, ab, col, dd, k0, k1, k2, k3, k5, hC, hbm⟩ := T.cls
  have hcl : clsIn K C = some { name := nm, bases := bs, mro := .ref C :: bm, ns := N, qualname := q, hasDict := true, slotNames := sn, subclasses := sub, abstract := ab, collection := col, hasDel := false } := by unfold clsIn; rw [hC] <;> rfl
  obtain ⟨hp, g, d, t, os⟩ := s
  refine wpAny_execs_cons (plainObj_wpAny_Assign_Attribute ?_ hsw)
  refine ldX (v := v) hns hv (ldX (v := .ref x) hns hself ?_ hk hks (by decide)) hk hkf hfd
  refine set_plain X (ox := excO C t0) (od := none) ⟨hx, rfl, rfl, trivial⟩ T.sa ?_
  refine exc_osa X hx hcl (show refsVE (.ref C :: bm) = true from hbm) rfl hno (fun h₃ tk₃ dx k₃ dn dne hx₃ hn₃ => ?_)
  exact hq h₃ dx tk₃ k₃ hx₃ dn dne hn₃
/-- self.f = f, a further one -/
theorem sto_old (T : Sup prog K C fI cc) {f : Str} {q1 q2 q3 q4 : Pos} {rest : List Stmt} {L x t0 dx : Addr} {m m0 : Str → Option Value} {nl : List Str} {v : Value} {Q : Flow → Shared → Prop}
    (X : K.In s.heap) (hx : s.heap.get? x = some { cls := .ref C, dict := some dx, data := .fields #[.ref t0, .none, .none, .none, .bool false, .none] }) (hd : s.heap.Ns1 dx m0) (hw : Within m0 nl) (hz : nl.length ≤ 1000)
    (hns : s.heap.Ns L m) (hself : m "self" = some (.ref x)) (hv : m f = some v) (hno : findIn K (.ref C) f = some none)
    (hk : sc.kind = .function) (hks : sc.names.lookup ("self" : Str) = some .local) (hkf : sc.names.lookup f = some .local) (hfd : (f == ("__debug__" : Str)) = false)
    (hsw : swapsWith (.Name f q3) (some (.Attribute (.Name "self" q1) f q2)) q4.line (ksEnv qual sc L fI (.ref cda) cc) = pure false)
    (hq : ∀ h' k, (∀ b o, b ≠ dx → s.heap.get? b = some o → h'.get? b = some o) → h'.Ns1 dx (fun y => if y = f then some v else m0 y) →
      wpAny (model prog w) A (execs rest (ksEnv qual sc L fI (.ref cda) cc)) Q E { s with heap := h', toks := k }) :
    wpAny (model prog w) A (execs (stoS f q1 q2 q3 q4 :: rest) (ksEnv qual sc L fI (.ref cda) cc)) Q E s := by
  obtain ⟨nm, q, N, bs, bm, sn, sub, ab, col, dd, k0, k1, k2, k3, k5, hC, hbm⟩ := T.cls
  have hcl : clsIn K C = some { name := nm, bases := bs, mro := .ref C :: bm, ns := N, qualname := q, hasDict := true, slotNames := sn, subclasses := sub, abstract := ab, collection := col, hasDel := false } := by unfold clsIn; rw [hC] <;> rfl
  obtain ⟨hp, g, d, t, os⟩ := s
  obtain ⟨oD, esD, epD, hoD, hdD, _⟩ := hd.count hw
  refine wpAny_execs_cons (plainObj_wpAny_Assign_Attribute ?_ hsw)
  refine ldX (v := v) hns hv (ldX (v := .ref x) hns hself ?_ hk hks (by decide)) hk hkf hfd
  refine set_plain X (ox := _) (od := some oD) ⟨hx, rfl, rfl, hoD⟩ T.sa ?_
  refine OEX.osa_old X hx hd hw hz hcl (show refsVE (.ref C :: bm) = true from hbm) rfl hno (fun h₃ tk₃ k₃ hn₃ => ?_)
  exact hq h₃ tk₃ k₃ hn₃

/-! ### f-strings -/
theorem je_str {v₁ v₂ : Expr} {rest : List Expr} {pos : Pos} {env : Env} {m : Str → Option Value}
    (h : ∀ (A : Around) (E : Value → Shared → Prop) (s : Shared) (Q : Str → Shared → Prop), s.heap.Ns env.locals m → (∀ y k, y.length ≤ sizeLine → Q y { s with toks := k }) → Joins (model prog w) A E (evalEach (v₁ :: v₂ :: rest) env) Str.empty Q s) :
    JeOk prog w (.JoinedStr (v₁ :: v₂ :: rest) pos) env m := fun A E s Q hn q =>
  wpAny_JoinedStr (h A E s _ hn fun y k hy => ⟨hy, q y _ _⟩)
end

/-- behind __init__ with one field -/
theorem init1 {prog : Program} {w : World} {A : Around} {R : Result → Shared → Prop} {s : Shared} {K : Frag} {mg : Str → Option Value} {base : Heap} {C fI cc cda : Addr} {ps : Arguments} {sc : Scope} {qual : Str}
    (T : Sup prog K C fI cc) {je : Expr} {p0 p1 p2 p3 p4 q1 q2 q3 q4 : Pos} {f : Str} (SF : SupFn prog K fI cc ps [supS je p0 p1 p2 p3 p4, stoS f q1 q2 q3 q4] sc qual cda)
    (MO : L2.Mod K mg base) (bk : ∀ b o, base.get? b = some o → s.heap.get? b = some o) (hlim : s.heap.NoLimit) (hroom : A.depth < recursionLimit)
    {x t0 : Addr} {v : Value} (hx : s.heap.get? x = some (excO C t0)) (hbx : base.get? x = none)
    (hbind : ∀ kV doc pm an ct, BindsTo s (ksFn "__init__" qual ps [supS je p0 p1 p2 p3 p4, stoS f q1 q2 q3 q4] sc .none kV doc pm an (.ref cda) ct cc) ⟨[.ref x, v], []⟩ [(("self" : Str), Value.ref x), (f, v)])
    (hje : ∀ L, JeOk prog w je (ksEnv qual sc L fI (.ref cda) cc) (fun y => [(("self" : Str), Value.ref x), (f, v)].reverse.lookup y))
    (hno : findIn K (.ref C) f = some none) (hfs : (("self" : Str) == f) = false)
    (hks : sc.names.lookup ("super" : Str) = some .globalImplicit) (hkc : sc.names.lookup ("__class__" : Str) = some .free) (hka : sc.names.lookup ("self" : Str) = some .local) (hkf : sc.names.lookup f = some .local) (hk : sc.kind = .function)
    (hcell : ∀ x ∈ sc.names, x.2 ≠ .cell) (hco : sc.isCoroutine = false) (hgen : sc.isGenerator = false)
    {ar : Arg} (hp : (ps.posonlyargs ++ ps.args).head? = some ar) (har : ar.arg = ("self" : Str)) (hfd : (f == ("__debug__" : Str)) = false)
    (hi : ∀ L, interactive (ksEnv qual sc L fI (.ref cda) cc) = false)
    (hsw : ∀ L, swapsWith (.Call (.Attribute (.Call (.Name "super" p0) [] [] p1) "__init__" p2) [je] [] p3) none p4.line (ksEnv qual sc L fI (.ref cda) cc) = pure false)
    {pl : Addr → Sem Bool} (hcall : ∀ L, eval (.Call (.Attribute (.Call (.Name "super" p0) [] [] p1) "__init__" p2) [je] [] p3) (ksEnv qual sc L fI (.ref cda) cc) = (do
      let ov ← attributeBase (.Call (.Name "super" p0) [] [] p1) "__init__" (ksEnv qual sc L fI (.ref cda) cc) (eval (.Call (.Name "super" p0) [] [] p1) (ksEnv qual sc L fI (.ref cda) cc))
      standAt p2.atName
      let (f, first) ← holding [ov] (getMethod ov "__init__" (pl L))
      callWith p3 f first (backTo p3 (starEach [je] (ksEnv qual sc L fI (.ref cda) cc))) []))
    (hst : ∀ L, starEach [je] (ksEnv qual sc L fI (.ref cda) cc) = [(false, eval je (ksEnv qual sc L fI (.ref cda) cc))])
    (hsw2 : ∀ L, swapsWith (.Name f q3) (some (.Attribute (.Name "self" q1) f q2)) q4.line (ksEnv qual sc L fI (.ref cda) cc) = pure false)
    (hq : ∀ h' tk dx, InitEnd s.heap h' x C dx (fun y => if y = f then some v else none) → R (.ok (.ret .none)) { s with heap := h', toks := tk }) :
    codeAny (model prog w) A (.call (.ref fI) ⟨[.ref x, v], []⟩) R s := by
  have X : K.In s.heap := MO.kin.keeps bk
  obtain ⟨oc, od, kV, doc, pm, an, ct, osl, hf, hcode⟩ := SF.fn
  have hff : (f == ("self" : Str)) = false := by
    refine beq_eq_false_iff_ne.mpr fun z => ?_
    subst z
    simp at hfs
  refine ks_codeAny_call_defAt (fd := ksFn "__init__" qual ps [supS je p0 p1 p2 p3 p4, stoS f q1 q2 q3 q4] sc .none kV doc pm an (.ref cda) ct cc) hroom (X _ _ hf) rfl hlim (codeRec_of X hcode) rfl (hbind kV doc pm an ct) hcell (fun y hy => ?_) (fun h₁ hns hk₁ => ?_) hco hgen hk
  · rcases List.mem_cons.mp hy with rfl | hy
    · exact hka
    · rcases List.mem_cons.mp hy with rfl | hy
      · exact hkf
      · cases hy
  have m1 : [(("self" : Str), Value.ref x), (f, v)].reverse.lookup ("self" : Str) = some (.ref x) := by
    show [(f, v), (("self" : Str), Value.ref x)].lookup ("self" : Str) = _
    rw [List.lookup_cons, hfs]
    simp [List.lookup]
  have m2 : [(("self" : Str), Value.ref x), (f, v)].reverse.lookup f = some v := by
    show [(f, v), (("self" : Str), Value.ref x)].lookup f = _
    simp [List.lookup]
  have bk1 : ∀ b o, base.get? b = some o → h₁.get? b = some o := fun b o z => hk₁ b o (bk b o z)
  refine sup_stmt T SF MO (s := ⟨h₁, _, _, _, _⟩) bk1 (hk₁ _ _ hx) hns m1 (hje _) hks hkc hka hk hp har (hi _) (hsw _) (hcall _) (hst _) fun h₂ t1 k kp hx2 => ?_
  have X2 : K.In h₂ := MO.kin.keeps fun b o z => kp b o (fun e => by rw [e, hbx] at z; cases z) (bk1 b o z)
  have hxL : s.heap.objs.size ≠ x := Nat.ne_of_gt (Heap.lt_size hx)
  have hns2 : h₂.Ns s.heap.objs.size (fun y => [(("self" : Str), Value.ref x), (f, v)].reverse.lookup y) := hns.at fun o z => kp _ o hxL z
  refine wpAt_of_wpAny (sto_new T (s := ⟨h₂, _, _, _, _⟩) X2 hx2 hns2 m1 m2 hno hk hka hkf hfd (hsw2 _) fun h₃ dx k3 kp3 hx3 dn dne hn3 => ?_)
  refine wpAny_execs_nil (hq h₃ k3 dx ⟨fun b o hb z => kp3 b o hb (kp b o hb (hk₁ b o z)), ⟨t1, hx3⟩, ?_, dne, hn3⟩)
  have z1 : s.heap.objs.size < h₁.objs.size := hns.lt
  have z2 : s.heap.objs.size < h₂.objs.size := hns2.lt
  exact Nat.le_trans (Nat.le_of_lt z2) dn

/-- behind __init__ with two fields -/
theorem init2 {prog : Program} {w : World} {A : Around} {R : Result → Shared → Prop} {s : Shared} {K : Frag} {mg : Str → Option Value} {base : Heap} {C fI cc cda : Addr} {ps : Arguments} {sc : Scope} {qual : Str}
    (T : Sup prog K C fI cc) {je : Expr} {p0 p1 p2 p3 p4 q1 q2 q3 q4 r1 r2 r3 r4 : Pos} {f f2 : Str} (SF : SupFn prog K fI cc ps [supS je p0 p1 p2 p3 p4, stoS f q1 q2 q3 q4, stoS f2 r1 r2 r3 r4] sc qual cda)
    (MO : L2.Mod K mg base) (bk : ∀ b o, base.get? b = some o → s.heap.get? b = some o) (hlim : s.heap.NoLimit) (hroom : A.depth < recursionLimit)
    {x t0 : Addr} {v v2 : Value} (hx : s.heap.get? x = some (excO C t0)) (hbx : base.get? x = none)
    (hbind : ∀ kV doc pm an ct, BindsTo s (ksFn "__init__" qual ps [supS je p0 p1 p2 p3 p4, stoS f q1 q2 q3 q4, stoS f2 r1 r2 r3 r4] sc .none kV doc pm an (.ref cda) ct cc) ⟨[.ref x, v, v2], []⟩ [(("self" : Str), Value.ref x), (f, v), (f2, v2)])
    (hje : ∀ L, JeOk prog w je (ksEnv qual sc L fI (.ref cda) cc) (fun y => [(("self" : Str), Value.ref x), (f, v), (f2, v2)].reverse.lookup y))
    (hno : findIn K (.ref C) f = some none) (hno2 : findIn K (.ref C) f2 = some none) (hfs : (("self" : Str) == f) = false) (hfs2 : (("self" : Str) == f2) = false) (hff : (f == f2) = false)
    (hks : sc.names.lookup ("super" : Str) = some .globalImplicit) (hkc : sc.names.lookup ("__class__" : Str) = some .free) (hka : sc.names.lookup ("self" : Str) = some .local) (hkf : sc.names.lookup f = some .local) (hkf2 : sc.names.lookup f2 = some .local) (hk : sc.kind = .function)
    (hcell : ∀ x ∈ sc.names, x.2 ≠ .cell) (hco : sc.isCoroutine = false) (hgen : sc.isGenerator = false)
    {ar : Arg} (hp : (ps.posonlyargs ++ ps.args).head? = some ar) (har : ar.arg = ("self" : Str)) (hfd : (f == ("__debug__" : Str)) = false) (hfd2 : (f2 == ("__debug__" : Str)) = false)
    (hi : ∀ L, interactive (ksEnv qual sc L fI (.ref cda) cc) = false)
    (hsw : ∀ L, swapsWith (.Call (.Attribute (.Call (.Name "super" p0) [] [] p1) "__init__" p2) [je] [] p3) none p4.line (ksEnv qual sc L fI (.ref cda) cc) = pure false)
    {pl : Addr → Sem Bool} (hcall : ∀ L, eval (.Call (.Attribute (.Call (.Name "super" p0) [] [] p1) "__init__" p2) [je] [] p3) (ksEnv qual sc L fI (.ref cda) cc) = (do
      let ov ← attributeBase (.Call (.Name "super" p0) [] [] p1) "__init__" (ksEnv qual sc L fI (.ref cda) cc) (eval (.Call (.Name "super" p0) [] [] p1) (ksEnv qual sc L fI (.ref cda) cc))
      standAt p2.atName
      let (f, first) ← holding [ov] (getMethod ov "__init__" (pl L))
      callWith p3 f first (backTo p3 (starEach [je] (ksEnv qual sc L fI (.ref cda) cc))) []))
    (hst : ∀ L, starEach [je] (ksEnv qual sc L fI (.ref cda) cc) = [(false, eval je (ksEnv qual sc L fI (.ref cda) cc))])
    (hsw2 : ∀ L, swapsWith (.Name f q3) (some (.Attribute (.Name "self" q1) f q2)) q4.line (ksEnv qual sc L fI (.ref cda) cc) = pure false)
    (hsw3 : ∀ L, swapsWith (.Name f2 r3) (some (.Attribute (.Name "self" r1) f2 r2)) r4.line (ksEnv qual sc L fI (.ref cda) cc) = pure false)
    (hq : ∀ h' tk dx, InitEnd s.heap h' x C dx (fun y => if y = f2 then some v2 else if y = f then some v else none) → R (.ok (.ret .none)) { s with heap := h', toks := tk }) :
    codeAny (model prog w) A (.call (.ref fI) ⟨[.ref x, v, v2], []⟩) R s := by
  have X : K.In s.heap := MO.kin.keeps bk
  obtain ⟨oc, od, kV, doc, pm, an, ct, osl, hf, hcode⟩ := SF.fn
  refine ks_codeAny_call_defAt (fd := ksFn "__init__" qual ps [supS je p0 p1 p2 p3 p4, stoS f q1 q2 q3 q4, stoS f2 r1 r2 r3 r4] sc .none kV doc pm an (.ref cda) ct cc) hroom (X _ _ hf) rfl hlim (codeRec_of X hcode) rfl (hbind kV doc pm an ct) hcell (fun y hy => ?_) (fun h₁ hns hk₁ => ?_) hco hgen hk
  · rcases List.mem_cons.mp hy with rfl | hy
    · exact hka
    · rcases List.mem_cons.mp hy with rfl | hy
      · exact hkf
      · rcases List.mem_cons.mp hy with rfl | hy
        · exact hkf2
        · cases hy
  have m1 : [(("self" : Str), Value.ref x), (f, v), (f2, v2)].reverse.lookup ("self" : Str) = some (.ref x) := by
    show [(f2, v2), (f, v), (("self" : Str), Value.ref x)].lookup ("self" : Str) = _
    rw [List.lookup_cons, hfs2]
    show [(f, v), (("self" : Str), Value.ref x)].lookup ("self" : Str) = _
    rw [List.lookup_cons, hfs]
    simp [List.lookup]
  have m2 : [(("self" : Str), Value.ref x), (f, v), (f2, v2)].reverse.lookup f = some v := by
    show [(f2, v2), (f, v), (("self" : Str), Value.ref x)].lookup f = _
    rw [List.lookup_cons, hff]
    simp [List.lookup]
  have m3 : [(("self" : Str), Value.ref x), (f, v), (f2, v2)].reverse.lookup f2 = some v2 := by
    show [(f2, v2), (f, v), (("self" : Str), Value.ref x)].lookup f2 = _
    simp [List.lookup]
  have bk1 : ∀ b o, base.get? b = some o → h₁.get? b = some o := fun b o z => hk₁ b o (bk b o z)
  refine sup_stmt T SF MO (s := ⟨h₁, _, _, _, _⟩) bk1 (hk₁ _ _ hx) hns m1 (hje _) hks hkc hka hk hp har (hi _) (hsw _) (hcall _) (hst _) fun h₂ t1 k kp hx2 => ?_
  have bk2 : ∀ b o, base.get? b = some o → h₂.get? b = some o := fun b o z => kp b o (fun e => by rw [e, hbx] at z; cases z) (bk1 b o z)
  have X2 : K.In h₂ := MO.kin.keeps bk2
  have hxL : s.heap.objs.size ≠ x := Nat.ne_of_gt (Heap.lt_size hx)
  have hns2 : h₂.Ns s.heap.objs.size (fun y => [(("self" : Str), Value.ref x), (f, v), (f2, v2)].reverse.lookup y) := hns.at fun o z => kp _ o hxL z
  refine wpAt_of_wpAny (sto_new T (s := ⟨h₂, _, _, _, _⟩) X2 hx2 hns2 m1 m2 hno hk hka hkf hfd (hsw2 _) fun h₃ dx k3 kp3 hx3 dn dne hn3 => ?_)
  have z1 : s.heap.objs.size < h₁.objs.size := hns.lt
  have z2 : s.heap.objs.size < h₂.objs.size := hns2.lt
  have X3 : K.In h₃ := MO.kin.keeps fun b o z => kp3 b o (fun e => by rw [e, hbx] at z; cases z) (bk2 b o z)
  have hns3 : h₃.Ns s.heap.objs.size (fun y => [(("self" : Str), Value.ref x), (f, v), (f2, v2)].reverse.lookup y) := hns2.at fun o z => kp3 _ o hxL z
  have hw : Within (fun y => if y = f then some v else none) [f] := fun y hy => by
    by_cases e : y = f
    · rw [e]; exact List.mem_cons_self ..
    · exact absurd (if_neg e) hy
  refine sto_old T (s := ⟨h₃, _, _, _, _⟩) X3 hx3 hn3 hw (show 1 ≤ 1000 by decide) hns3 m1 m3 hno2 hk hka hkf2 hfd2 (hsw3 _) fun h₄ k4 kp4 hn4 => ?_
  have lb : ∀ b o, s.heap.get? b = some o → b ≠ dx := fun b o z => Nat.ne_of_lt (Nat.lt_of_lt_of_le (Heap.lt_size z) (Nat.le_trans (Nat.le_of_lt z2) dn))
  refine wpAny_execs_nil (hq h₄ k4 dx ⟨fun b o hb z => kp4 b o (lb b o z) (kp3 b o hb (kp b o hb (hk₁ b o z))), ⟨t1, kp4 _ _ dne.symm hx3⟩, ?_, dne, hn4⟩)
  exact Nat.le_trans (Nat.le_of_lt z2) dn

/-- a made exception of the class at C -/
structure Made (h h' : Heap) (e C d : Addr) (m : Str → Option Value) : Prop where
  keep : ∀ b o, h.get? b = some o → h'.get? b = some o
  new : h.objs.size ≤ e
  obj : ∃ oe vs, h'.get? e = some oe ∧ oe.cls = .ref C ∧ oe.dict = some d ∧ oe.data = .fields vs ∧ vs[1]? = some .none
  dbig : h.objs.size ≤ d
  dne : d ≠ e
  ns : h'.Ns1 d m
theorem one_size (v : List Value) (h : v.length ≤ 100) : v.length ≤ sizeLine := by
  rw [sizeLine_eq]
  omega
/-- the class called: __new__, then __init__ -/
theorem made_of {prog : Program} {w : World} {A : Around} {R : Result → Shared → Prop} {s : Shared} {K : Frag} {mg : Str → Option Value} {base : Heap} {C fI cc : Addr} {us : List Value} {m : Str → Option Value}
    (T : Sup prog K C fI cc) (MO : L2.Mod K mg base) (bk : ∀ b o, base.get? b = some o → s.heap.get? b = some o) (hlim : s.heap.NoLimit) (hroom : A.depth + 1 < recursionLimit) (hl : us.length ≤ 100)
    (hinit : ∀ (A' : Around) (R' : Result → Shared → Prop) (s' : Shared) (x t0 : Addr), (∀ b o, base.get? b = some o → s'.heap.get? b = some o) → s'.heap.NoLimit → A'.depth < recursionLimit → s'.heap.get? x = some (excO C t0) → base.get? x = none →
      (∀ h' tk dx, InitEnd s'.heap h' x C dx m → R' (.ok (.ret .none)) { s' with heap := h', toks := tk }) → codeAny (model prog w) A' (.call (.ref fI) ⟨.ref x :: us, []⟩) R' s')
    (hq : ∀ h' tk e d, Made s.heap h' e C d m → R (.ok (.ret (.ref e))) { s with heap := h', toks := tk }) :
    codeAny (model prog w) A (.call (.ref C) ⟨us, []⟩) R s := by
  obtain ⟨nm, q, N, bs, bm, sn, sub, ab, col, dd, k0, k1, k2, k3, k5, hC, hbm⟩ := T.cls
  have X : K.In s.heap := MO.kin.keeps bk
  obtain ⟨hp, g, dr, tk, os⟩ := s
  have k : ∀ b o, hp.get? b = some o → ((hp.push (kdv_tup us)).push (excO C hp.objs.size)).get? b = some o := fun b o e => Heap.get?_push_of_some _ (Heap.get?_push_of_some _ e)
  have hget : ((hp.push (kdv_tup us)).push (excO C hp.objs.size)).get? (hp.objs.size + 1) = some (excO C hp.objs.size) := by heap_get
  have hbx : base.get? (hp.objs.size + 1) = none := by
    cases e : base.get? (hp.objs.size + 1) with
    | none => rfl
    | some o =>
      have z : hp.get? (hp.objs.size + 1) = some o := bk _ _ e
      exact absurd (Nat.lt_of_succ_lt (Heap.lt_size z)) (Nat.lt_irrefl _)
  refine call_own F.excBase_ValueError (fun X => refsVE_contains X bm hbm) (X _ _ hC) (looks_findIn X T.iC) (fun self => bind_fn X self T.tI) (one_size us hl) ?_
  refine hinit _ _ ⟨(hp.push (kdv_tup us)).push (excO C hp.objs.size), g, dr, tk, os⟩ (hp.objs.size + 1) hp.objs.size (fun b o z => k b o (bk b o z)) (hlim.keeps k) ?_ hget hbx fun h' tk' dx ⟨k', ⟨t1, hx⟩, dn, dne, hns⟩ => ?_
  · show A.depth + 1 < recursionLimit
    exact hroom
  · have old : ∀ b o, hp.get? b = some o → h'.get? b = some o := fun b o e => k' b o (Nat.ne_of_lt (Nat.lt_succ_of_lt (Heap.lt_size e))) (k b o e)
    have z : hp.objs.size + 1 + 1 ≤ dx := by
      first
        | (simpa only [Heap.size_push] using dn)
        | exact dn
        | (have q := dn; rw [Heap.size_push, Heap.size_push] at q; exact q)
    exact ⟨rfl, hq h' tk' (hp.objs.size + 1) dx ⟨old, Nat.le_succ _, ⟨_, _, hx, rfl, rfl, rfl, rfl⟩, Nat.le_trans (Nat.le_trans (Nat.le_succ _) (Nat.le_succ _)) z, dne, hns⟩⟩
end XS
end PySem
namespace L2
open PySem PySem.Spec PyProof.Rows
/-- the class at C makes, of arguments that are ok, exceptions with the fields fs -/
structure MakesX (P : Program) (w : World) (K : PySem.W.Frag) (mg : Str → Option Value) (C : Addr) (fs : List Str) (ok : List V → Prop) : Prop where
  run : ∀ (base : Heap) (A : Around) (R : Result → Shared → Prop) (s : Shared) (vs : List V) (us : List Value), Vals vs us → ok vs → Mod K mg base → (∀ b o, base.get? b = some o → s.heap.get? b = some o) → s.heap.NoLimit → A.depth + 1 < recursionLimit →
    (∀ h' tk e d m, (∀ f, RelO ((fs.zip vs).lookup f) (m f)) → PySem.XS.Made s.heap h' e C d m → R (.ok (.ret (.ref e))) { s with heap := h', toks := tk }) → codeAny (model P w) A (.call (.ref C) ⟨us, []⟩) R s
  exC : PySem.W.subIn K (.ref C) (.type "BaseException") = some true
  tyC : PySem.W.typeIn K (.ref C) = some (.type "type")
  kC : PySem.W.keepIn K (.ref C) = true
section
variable {X : Cx} {C : Addr} {fs : List Str} {ok : List V → Prop}
/-- x(e, ..) -/
def tMkX (C : Addr) (fs : List Str) (ok : List V → Prop) (ta : TA) : St → Hp → XK → Prop := fun σ H Q => ta σ H fun vs H1 => ok vs ∧ ∀ d, H1 d = none → Q (.ref C) (some d) (upd H1 d (.xd (fs.zip vs)))
theorem pmk_x {x : Str} {a : Expr} {as : List Expr} {ta : TA} {p pos : Pos} {k : Nat} (T : MakesX X.prog X.w X.K X.mg C fs ok) (hm : X.mg x = some (.ref C)) (hr : Room k X.A) (ha : PA X (a :: as) ta) (hg : Gl X x := by rfl)
    (he : starEach (a :: as) X.env = (false, eval a X.env) :: starEach as X.env := by rfl) (hpl : (backTo pos (starEach as X.env)).any (·.1) = false := by rfl) (hxd : (x == ("__debug__" : Str)) = false := by decide) :
    PMk X (.Call (.Name x p) (a :: as) [] pos) (tMkX C fs ok ta) := by
  intro pins s σ H Q I h
  refine wpAny_Call_Name_kw (ld_glob I hg hm ?_ hxd)
  refine PySem.W.callWith_K (h₀ := X.base) I.ok.mod.kin T.kC (thn (ha.run pos pins s σ H _ I h) fun us s1 hh => ?_) he hpl
  obtain ⟨vs, H1, I1, r1, hok, q1⟩ := hh
  refine ⟨I1.kIn, ?_⟩
  have hlim := I1.nolimit
  have bk := I1.bk
  obtain ⟨hp, g, dr, tk, os⟩ := s1
  show wpAny _ _ (call (.ref C) us) _ _ _
  refine wpAny_call (T.run X.base _ _ ⟨hp, g, dr, tk, os⟩ vs us r1 hok I1.ok.mod bk hlim (by have := hr.dp; show X.A.depth + 1 < recursionLimit; omega) fun h' tk' e d m rm M => ?_)
  show MkP X pins σ Q (.ref e) ⟨h', g, dr, tk', os⟩
  obtain ⟨oe, fv, hoe, hc, hd, hdat, h1⟩ := M.obj
  have hns := M.ns
  obtain ⟨G', g1, g2⟩ := restrict h' fun b => decide (b ≠ e)
  have gk : ∀ b, b ≠ e → G'.get? b = h'.get? b := fun b hb => g1 b (decide_eq_true hb)
  have ge : G'.get? e = none := g2 e (by simp)
  have old : ∀ b o, hp.get? b = some o → G'.get? b = some o := fun b o q => (gk b (Nat.ne_of_lt (Nat.lt_of_lt_of_le (Heap.lt_size q) M.new))).trans (M.keep b o q)
  have ob : ObjOk X.prog X.w (upd H1 d (.xd (fs.zip vs))) G' d (.xd (fs.zip vs)) :=
    ⟨_, hns.at (fun o q => (gk d M.dne).trans q), fun f => rm f⟩
  have J : Inv X pins σ (upd H1 d (.xd (fs.zip vs))) ⟨G', g, dr, tk', os⟩ := I1.laid (t' := tk') old M.dbig ob
  refine ⟨e, oe, fv, ⟨G', g, dr, tk', os⟩, _, .ref C, some d, rfl, J, fun b o q => ?_, ge, hoe, ⟨hc, hd⟩, hdat, h1, ?_, rfl, I1.bare, raises_own T.exC T.tyC, q1 d (I1.hok.fresh M.dbig)⟩
  · by_cases hb : b = e
    · have q' : G'.get? b = some o := q
      rw [hb, ge] at q'; cases q'
    · exact (gk b hb).symm.trans q
  · rw [upd_ne (Ne.symm M.dne)]
    exact I1.hok.fresh M.new
/-- raise x(e, ..) -/
def tRaiseX (C : Addr) (fs : List Str) (ok : List V → Prop) (W : WX) (ta : TA) : TS := fun _ σ H => tMkX C fs ok ta σ H fun cls d H' => W cls d σ H'
theorem ps_raiseX {x : Str} {a : Expr} {as : List Expr} {ta : TA} {W : WX} {p pos pos2 : Pos} {k : Nat} (hc : X.calm = true) (T : MakesX X.prog X.w X.K X.mg C fs ok) (hm : X.mg x = some (.ref C)) (hr : Room k X.A) (tk : Takes X W) (ha : PA X (a :: as) ta) (hg : Gl X x := by rfl)
    (he : starEach (a :: as) X.env = (false, eval a X.env) :: starEach as X.env := by rfl) (hpl : (backTo pos (starEach as X.env)).any (·.1) = false := by rfl) (hxd : (x == ("__debug__" : Str)) = false := by decide) :
    PS X (.Raise (some (.Call (.Name x p) (a :: as) [] pos)) none pos2) (tRaiseX C fs ok W ta) := ps_raise hc tk (pmk_x T hm hr ha hg he hpl hxd)
end
end L2

set_option Elab.async false
set_option linter.all false
set_option maxRecDepth 100000
set_option maxHeartbeats 2000000
/-! Short words of my own over the layer: a def of the text with its promise as one fact. -/
namespace L2
open PySem PySem.Spec PyProof.Rows

/-- the built-ins that the texts use are not hidden by the module -/
structure Blt (mg : Str → Option Value) : Prop where
  n_len : mg "len" = none
  n_int : mg "int" = none
  n_str : mg "str" = none
  n_abs : mg "abs" = none
  n_tuple : mg "tuple" = none
  n_list : mg "list" = none
  n_bool : mg "bool" = none
  n_range : mg "range" = none
  n_isinstance : mg "isinstance" = none

/-- the def named x of the text stands behind the top -/
def DefTxt (K : PySem.W.Frag) (mg : Str → Option Value) (x : Str) (st : Stmt) (ps : List Str) : Prop := ∃ (f : Addr) (fd : FuncData), Fun K x x st f fd ∧ mg x = some (.ref f) ∧ Binds K fd ps []
/-- .. and keeps a promise, at most k calls deep -/
def DefAt (P : Program) (w : World) (K : PySem.W.Frag) (mg : Str → Option Value) (base : Heap) (k : Nat) (x : Str) (ps : List Str) (sp : Sp) : Prop :=
  ∃ (f : Addr) (fd : FuncData), FnOk P w K mg base (L2.CX P w) k f fd ps sp ∧ mg x = some (.ref f) ∧ PySem.W.keepIn K (.ref f) = true ∧ Binds K fd ps [] ∧ ∃ oc od osl, K.lookup f = some ⟨oc, od, .func fd, osl⟩
section
variable {P : Program} {w : World} {K : PySem.W.Frag} {mg : Str → Option Value} {base : Heap} {x : Str} {st : Stmt} {N ps : List Str} {k : Nat} {sp : Sp}
theorem DefTxt.ok (D : DefTxt K mg x st ps) (S : FnScope N ps (defScope st)) (len : ∀ vs H Q E, sp vs H Q E → vs.length = ps.length)
    (hbody : ∀ (f : Addr) (cdv : Value) (A : Around) (outer : List Env) (s : Shared) (H : Hp) (vs : List V) (Q : VK) (E : XK), Room k (A.deeper (envOfC x (defScope st) s.heap.objs.size f cdv)) → sp vs H Q E →
      ∃ t, PSs (cxOf (L2.CX P w) P w K mg base N x (defScope st) f cdv A outer s H E).nox (defBody st) t ∧ t { nx := fun _ H' => Q .non H', rt := Q } (start N vs) H) : DefAt P w K mg base (k + 1) x ps sp := by
  obtain ⟨f, fd, F, g, b⟩ := D
  have kp := F.kp
  obtain ⟨oc, od, kV, doc, pm, an, cdv, ct, osl, rfl, lk, hcd⟩ := F.ex
  refine ⟨f, _, fn_of lk hcd S len fun A outer s H vs Q E hr hsp => ?_, g, kp, b, _, _, _, lk⟩
  obtain ⟨t, h, q⟩ := hbody f cdv A outer s H vs Q E hr hsp
  exact ⟨t, h.nox, q⟩
theorem DefTxt.okX (D : DefTxt K mg x st ps) (S : FnScope N ps (defScope st)) (len : ∀ vs H Q E, sp vs H Q E → vs.length = ps.length)
    (hbody : ∀ (f : Addr) (cdv : Value) (A : Around) (outer : List Env) (s : Shared) (H : Hp) (vs : List V) (Q : VK) (E : XK), Room k (A.deeper (envOfC x (defScope st) s.heap.objs.size f cdv)) → sp vs H Q E →
      ∃ t, PSs (cxOf (L2.CX P w) P w K mg base N x (defScope st) f cdv A outer s H E) (defBody st) t ∧ t { nx := fun _ H' => Q .non H', rt := Q } (start N vs) H) : DefAt P w K mg base (k + 1) x ps sp := by
  obtain ⟨f, fd, F, g, b⟩ := D
  have lk : ∃ oc od osl, K.lookup f = some ⟨oc, od, .func fd, osl⟩ := by
    obtain ⟨oc, od, kV, doc, pm, an, cdv, ct, osl, rfl, lk, hcd⟩ := F.ex
    exact ⟨_, _, _, lk⟩
  exact ⟨f, fd, F.okX S len fun cdv A outer s H vs Q E hr h => hbody f cdv A outer s H vs Q E hr h, g, F.kp, b, lk⟩
/-- .. at the def's own address -/
theorem DefAt.at {f : Addr} {fd : FuncData} {oc : Value} {od : Option Addr} {osl : Array (Option Value)} (D : DefAt P w K mg base k x ps sp) (g : mg x = some (.ref f)) (lk : K.lookup f = some ⟨oc, od, .func fd, osl⟩) : FnOk P w K mg base (L2.CX P w) k f fd ps sp := by
  obtain ⟨f', fd', F, g', _, _, oc', od', osl', lk'⟩ := D
  rw [g] at g'
  cases g'
  rw [lk] at lk'
  cases lk'
  exact F
end
section
variable {X : Cx} {x : Str} {ps : List Str} {sp : Sp} {k : Nat} {p pos : Pos} {e : Expr} {es : List Expr} {t : TA} {W : WX}
/-- f(e, ..): nothing that is raised is let in -/
theorem pe_dc (D : DefAt X.prog X.w X.K X.mg X.base k x ps sp) (hr : Room k X.A) (ha : PA X (e :: es) t) (hg : Gl X x := by rfl) (hdb : (x == ("__debug__" : Str)) = false := by decide)
    (he : starEach (e :: es) X.env = (false, eval e X.env) :: starEach es X.env := by rfl) (hpl : (backTo pos (starEach es X.env)).any (·.1) = false := by rfl) : PE X (.Call (.Name x p) (e :: es) [] pos) (tCall sp [] E0 t) := by
  obtain ⟨f, fd, F, g, kp, b, _⟩ := D
  exact pe_call F hr hg g kp b .nil passL ha hdb he hpl
theorem pe_dc0 (D : DefAt X.prog X.w X.K X.mg X.base k x ps sp) (hr : Room k X.A) (hg : Gl X x := by rfl) (hdb : (x == ("__debug__" : Str)) = false := by decide) : PE X (.Call (.Name x p) [] [] pos) (tCall sp [] E0 tNil) := by
  obtain ⟨f, fd, F, g, kp, b, _⟩ := D
  exact pe_call0 F hr hg g kp b .nil passL hdb
/-- .. what it raises is wished for as W says -/
theorem pe_dcS (D : DefAt X.prog X.w X.K X.mg X.base k x ps sp) (hr : Room k X.A) (tk : Takes X W) (ha : PA X (e :: es) t) (hg : Gl X x := by rfl) (hdb : (x == ("__debug__" : Str)) = false := by decide)
    (he : starEach (e :: es) X.env = (false, eval e X.env) :: starEach es X.env := by rfl) (hpl : (backTo pos (starEach es X.env)).any (·.1) = false := by rfl) : PE X (.Call (.Name x p) (e :: es) [] pos) (tCallS sp (WE W) t) := by
  obtain ⟨f, fd, F, g, kp, b, _⟩ := D
  exact pe_callS F hr hg g kp b (fun σ => passAt tk σ) ha hdb he hpl
end

/-! ### heaps -/
/-- all that was tracked stands, but for j -/
def But (j : Addr) (H H' : Hp) : Prop := ∀ a o, a ≠ j → H a = some o → H' a = some o
theorem But.refl (j : Addr) (H : Hp) : But j H H := fun _ _ _ h => h
theorem But.trans {j : Addr} {H H1 H2 : Hp} (a : But j H H1) (b : But j H1 H2) : But j H H2 := fun c o n h => b c o n (a c o n h)
theorem Same.but {j : Addr} {H H' : Hp} (s : Same H H') : But j H H' := fun a o _ h => s a o h
theorem But.upd {j : Addr} {o : HO} {H H' : Hp} (b : But j H H') : But j H (upd H' j o) := fun a u n h => by rw [upd_ne n]; exact b a u n h
theorem But.new {j p : Addr} {o : HO} {H H' : Hp} (b : But j H H') (h : H' p = none) : But j H (L2.upd H' p o) := fun a u n e => by
  have q := b a u n e
  rw [upd_ne (ne_of_none q h)]
  exact q
/-- what was not tracked may come or change -/
theorem Same.new {p : Addr} {o : HO} {H H' : Hp} (s : Same H H') (h : H' p = none) : Same H (upd H' p o) := fun a u e => by
  have q := s a u e
  rw [upd_ne (ne_of_none q h)]
  exact q
theorem Same.mut {p : Addr} {o : HO} {H H' : Hp} (s : Same H H') (h : H p = none) : Same H (upd H' p o) := fun a u e => by
  rw [upd_ne (ne_of_none e h)]
  exact s a u e
theorem But.same {j : Addr} {H H' : Hp} (b : But j H H') (h : H j = none) : Same H H' := fun a o e => b a o (ne_of_none e h) e
theorem But.back {j p : Addr} {H H' : Hp} (b : But j H H') (n : p ≠ j) (h : H' p = none) : H p = none := by
  cases q : H p with
  | none => rfl
  | some o =>
    rw [b p o n q] at h
    cases h
theorem But.lst {j p : Addr} {xs : List V} {H H' : Hp} (b : But j H H') (n : p ≠ j) (h : H p = some (.lst xs)) : H' p = some (.lst xs) := b p _ n h
theorem But.tup {j p : Addr} {xs js : List V} {H H' : Hp} (b : But j H H') (hj : H j = some (.lst js)) (h : H p = some (.tup xs)) : H' p = some (.tup xs) := b p _ (ne_of h hj (by intro z; cases z)) h
/-! ### a jar of draws -/
def JarAt (H : Hp) (j : Addr) : Prop := ∃ a b c : Int, H j = some (.lst [.int a, .int b, .int c])
theorem ix0 {a b c : V} : atI [a, b, c] 0 = some a := atI_nat (j := 0) rfl
theorem ix1 {a b c : V} : atI [a, b, c] 1 = some b := atI_nat (j := 1) rfl
theorem ix2 {a b c : V} : atI [a, b, c] 2 = some c := atI_nat (j := 2) rfl
/-- the row stands whatever is drawn from the jar -/
def RowAt (K : PySem.W.Frag) (H : Hp) (j r : Addr) (xs : List V) : Prop := ∀ H', But j H H' → SqL K H' r xs ∨ SqT K H' r xs
theorem RowAt.lst {K : PySem.W.Frag} {H : Hp} {j r : Addr} {xs : List V} (n : r ≠ j) (h : H r = some (.lst xs)) : RowAt K H j r xs := fun _ b => .inl (SqL.of (b r _ n h))
theorem RowAt.tup {K : PySem.W.Frag} {H : Hp} {j r : Addr} {xs : List V} (n : r ≠ j) (h : H r = some (.tup xs)) : RowAt K H j r xs := fun _ b => .inr (SqT.of (b r _ n h))
/-! ### tuples cut and joined: whether the whole is handed on or a new one, plays no role -/
theorem Same.seqT {K : PySem.W.Frag} {H H' : Hp} {a : Addr} {xs : List V} (e : Same H H') (h : SqT K H a xs) : SqT K H' a xs := by
  rcases h with (h | ⟨o, h⟩) | h
  · exact .inl (.inl (e _ _ h))
  · exact .inl (.inr ⟨o, e _ _ h⟩)
  · exact .inr h
structure SlT (K : PySem.W.Frag) (x : V) (lo hi : Option Int) (H : Hp) (Q : VK) : Prop where
  ex : ∃ a xs, x = .ref a ∧ SqT K H a xs ∧ ∀ q H', Same H H' → SqT K H' q (cutV xs lo hi) → Q (.ref q) H'
theorem sl_tupS {X : Cx} (K : PySem.W.Frag) (hK : X.K = K := by rfl) : SlR X (SlT K) := by
  subst hK
  intro pins s σ H x v vl vu lo hi sl Q I r hs pl pu h
  obtain ⟨a, xs, rfl, hT, k⟩ := h.ex
  refine sl_tupA pins s σ H (.ref a) v vl vu lo hi sl Q I r hs pl pu ⟨a, xs, rfl, hT, fun e => k a H (Same.refl H) ?_, fun _ p np => k p _ ((Same.refl H).new np) (SqT.of upd_same)⟩
  have : cutV xs lo hi = xs := by
    unfold cutV
    rw [e.1, e.2]
    simp
  rw [this]
  exact hT
theorem cut_take (xs : List V) (k : Nat) : cutV xs none (some (k : Int)) = xs.take k := by
  unfold cutV
  rw [HT.sIx_nat, HT.sIx_none]
  rw [List.drop_zero, Nat.sub_zero]
  rcases Nat.le_total k xs.length with h | h
  · rw [Nat.min_eq_left h]
  · rw [Nat.min_eq_right h, List.take_length, List.take_of_length_le h]
theorem cut_drop (xs : List V) (k : Nat) : cutV xs (some (k : Int)) none = xs.drop k := by
  unfold cutV
  rw [HT.sIx_nat, HT.sIx_none]
  rcases Nat.le_total k xs.length with h | h
  · rw [Nat.min_eq_left h]
    exact List.take_of_length_le (by simp)
  · rw [Nat.min_eq_right h, Nat.sub_self, List.take_zero, List.drop_of_length_le h]
structure CatT (K : PySem.W.Frag) (x y : V) (H : Hp) (Q : VK) : Prop where
  ex : ∃ a b xs ys, x = .ref a ∧ y = .ref b ∧ SqT K H a xs ∧ SqT K H b ys ∧ xs.length + ys.length ≤ 10000 ∧ ∀ q H', Same H H' → SqT K H' q (xs ++ ys) → Q (.ref q) H'
theorem op_catS {X : Cx} (K : PySem.W.Frag) (hK : X.K = K := by rfl) : OpR X (binaryOp .Add) (CatT K) := by
  subst hK
  intro pins s σ H x y u v Q I r1 r2 h
  obtain ⟨a, b, xs, ys, rfl, rfl, hx, hy, hl, k⟩ := h.ex
  refine op_catA pins s σ H (.ref a) (.ref b) u v Q I r1 r2 ⟨a, b, xs, ys, rfl, rfl, hx, hy, Nat.le_trans hl (by decide), fun e => k b H (Same.refl H) ?_, fun _ e => k a H (Same.refl H) ?_, fun _ _ p np => k p _ ((Same.refl H).new np) (SqT.of upd_same)⟩
  · rw [e]; exact hy
  · rw [e, List.append_nil]; exact hx
/-! ### rules whose reading names the written part, for the blocks of comprehensions -/
section
variable {X : Cx} (K : PySem.W.Frag)
theorem ix_listK (h : X.K = K := by rfl) : IxR X (rIxL K) := h ▸ ix_list
theorem ix_tupK (h : X.K = K := by rfl) : IxR X (rIxT K) := h ▸ ix_tup
theorem sl_listK (h : X.K = K := by rfl) : SlR X (rSlL K) := h ▸ sl_list
theorem sl_tupAK (h : X.K = K := by rfl) : SlR X (rSlA K) := h ▸ sl_tupA
theorem op_in_seqK (h : X.K = K := by rfl) : OpR X (compareOp .In) (rIn K false) := h ▸ op_in_seq
theorem op_notIn_seqK (h : X.K = K := by rfl) : OpR X (compareOp .NotIn) (rIn K true) := h ▸ op_notIn_seq
theorem op_eqDK (hu : X.A.units + 64 < cLine) (h : X.K = K := by rfl) : OpR X (compareOp .Eq) (rEqD K) := h ▸ op_eqD hu
theorem op_neDK (hu : X.A.units + 64 < cLine) (h : X.K = K := by rfl) : OpR X (compareOp .NotEq) (rNeD K) := h ▸ op_neD hu
def rLenS (K : PySem.W.Frag) : List V → Hp → VK → Prop := fun xs H Q => ∃ p ys, xs = [.ref p] ∧ (SqL K H p ys ∨ SqT K H p ys) ∧ Q (.int ys.length) H
theorem call_len_seqK (h : X.K = K := by rfl) : CallR X (.builtin "len") (rLenS K) := by
  subst h
  exact call_len_seq
def rListOf (K : PySem.W.Frag) : List V → Hp → VK → Prop := fun xs H Q => ∃ p ys, xs = [.ref p] ∧ (SqL K H p ys ∨ SqT K H p ys) ∧ ∀ l, H l = none → Q (.ref l) (upd H l (.lst ys))
theorem call_list_ofK (h : X.K = K := by rfl) : CallR X (.type "list") (rListOf K) := by
  subst h
  exact call_list_of
def rTupleOf (K : PySem.W.Frag) : List V → Hp → VK → Prop := fun xs H Q => ∃ p ys, xs = [.ref p] ∧ ((SqL K H p ys ∧ ∀ l, H l = none → Q (.ref l) (upd H l (.tup ys))) ∨ (SqT K H p ys ∧ Q (.ref p) H))
theorem call_tuple_ofK (h : X.K = K := by rfl) : CallR X (.type "tuple") (rTupleOf K) := by
  subst h
  exact call_tuple_of
theorem pg_tupK {es : List Expr} {k : Nat} {pos : Pos} {t : TGs} (n : Nat) (hc : X.calm = true) (h : PGs X es t) (hK : X.K = K := by rfl)
    (hn : (assignEach es X.env).length = n := by rfl) (hst : (assignEach es X.env).findIdx? (·.1) = none := by rfl) : PG X (.Tuple es k pos) (gTup K n t) := hK ▸ pg_tup hc h hn hst
theorem call_isiK2 (h : X.K = K := by rfl) : CallR X (.builtin "isinstance") (rIsi K) := h ▸ call_isi
theorem call_isiTK (h : X.K = K := by rfl) : CallR X (.builtin "isinstance") (rIsiT K) := h ▸ call_isiT
end
end L2

set_option Elab.async false
set_option linter.all false
set_option maxRecDepth 100000
set_option maxHeartbeats 2000000
/-! isinstance of a caught error that has its own dict: one class, a tuple of classes. -/
namespace L2
open PySem PySem.Spec PyProof.Rows
/-- a class of the text as a value -/
theorem pe_cls {X : Cx} {x : Str} {pos : Pos} {C : Addr} (hm : X.mg x = some (.ref C)) (hg : Gl X x := by rfl) (hd : (x == ("__debug__" : Str)) = false := by decide) : PE X (.Name x pos) (tC (.ref C)) := pe_glob hg hm rfl hd
section
variable {X : Cx} {a C : Addr} {oe : Obj} {cls : Value} {d : Option Addr} {pn : List (Addr × Obj)}
theorem suite_inst {pins : List (Addr × Obj)} {σ : St} {H : Hp} {s : Shared} {dd : Addr} {fs : List (Str × V)} (I : Inv (X.suite a ((a, oe) :: pn)) pins σ H s) (hz : Zc (.ref C) (some dd) oe) (hf : ∃ vs, oe.data = .fields vs) (ea : H dd = some (.xd fs)) :
    ∃ od, PySem.W.InstAt s.heap a oe C (some od) := by
  obtain ⟨ha, _⟩ := I.pin (a, oe) (List.mem_append_left _ List.mem_cons_self)
  obtain ⟨vs, hd⟩ := hf
  have hx : ObjOk X.prog X.w H s.heap dd (.xd fs) := I.hok dd _ ea
  obtain ⟨mA, hns, hr⟩ := hx
  obtain ⟨od, ho, hl⟩ := lookIn_ns hns
  exact ⟨od, ha, hz.1, by unfold PySem.W.notCls; rw [hd] <;> rfl, by rw [hz.2]; exact ho⟩
/-- isinstance(e, c), e the exception that the suite holds, its class C -/
def rIsX (K : PySem.W.Frag) (C a : Addr) (cls : Value) (d : Option Addr) : List V → Hp → VK → Prop := fun xs H Q => ∃ (c : V) (cv : Value) (b : Bool) (dd : Addr) (fs : List (Str × V)), xs = [.ref a, c] ∧ cls = .ref C ∧ d = some dd ∧ H dd = some (.xd fs) ∧ ClsV c cv ∧ PySem.W.kitOne K (.ref C) cv = some b ∧ Q (.bl b) H
theorem call_isX (T : ExcC X.K C) (hz : Zc cls d oe) (hf : ∃ vs, oe.data = .fields vs) : CallR (X.suite a ((a, oe) :: pn)) (.builtin "isinstance") (rIsX X.K C a cls d) := by
  intro pins s σ H xs us Q I r h
  obtain ⟨c, cv, b, dd, fs, rfl, ec, ed, ea, hcv, e, q⟩ := h
  subst ec
  subst ed
  obtain ⟨u1, u2, rfl, r1, r2⟩ := vals2 r
  cases (show u1 = Value.ref a from r1)
  have e2 := hcv.eq r2
  subst e2
  obtain ⟨od, J⟩ := suite_inst I hz hf ea
  have hcl : (PySem.W.clsIn X.K C).isSome = true := by
    obtain ⟨cd, hc, _⟩ := PySem.W.any_some T.hd
    rw [hc]
    rfl
  exact PySem.W.kia_one (PySem.W.kitx_exc hcl T.hg T.hk T.hs T.ha T.hn T.ht T.hm) I.kIn J e (fun z => nomatch z) fun tk => ⟨.bl b, H, I.tok tk, rfl, q⟩
/-- isinstance(e, (c1, ..)) -/
def rIsXT (K : PySem.W.Frag) (C a : Addr) (cls : Value) (d : Option Addr) : List V → Hp → VK → Prop := fun xs H Q => ∃ (tp : Addr) (cs : List V) (us : List Value) (b : Bool) (dd : Addr) (fs : List (Str × V)), xs = [.ref a, .ref tp] ∧ cls = .ref C ∧ d = some dd ∧ H dd = some (.xd fs) ∧ H tp = some (.tup cs) ∧ Paired ClsV cs us ∧
  PySem.W.kitAny K (.ref C) us = some b ∧ Q (.bl b) H
theorem call_isXT (T : ExcC X.K C) (hz : Zc cls d oe) (hf : ∃ vs, oe.data = .fields vs) : CallR (X.suite a ((a, oe) :: pn)) (.builtin "isinstance") (rIsXT X.K C a cls d) := by
  intro pins s σ H xs us Q I r h
  obtain ⟨tp, cs, ws, b, dd, fs, rfl, ec, ed, ea, hT, k, e, q⟩ := h
  subst ec
  subst ed
  obtain ⟨u1, u2, rfl, r1, r2⟩ := vals2 r
  cases (show u1 = Value.ref a from r1)
  cases (show u2 = Value.ref tp from r2)
  obtain ⟨od, J⟩ := suite_inst I hz hf ea
  have hcl : (PySem.W.clsIn X.K C).isSome = true := by
    obtain ⟨cd, hc, _⟩ := PySem.W.any_some T.hd
    rw [hc]
    rfl
  obtain ⟨_, its, rv, o, h1, h2, n, h3⟩ := (show ObjOk X.prog X.w H s.heap tp (.tup cs) from I.hok tp _ hT)
  have e3 := ClsV.all k rv
  subst e3
  obtain ⟨oc, od', dt, sl⟩ := o
  simp only at h2 h3
  subst h2 h3
  exact PySem.W.kia_tup (PySem.W.kitx_exc hcl T.hg T.hk T.hs T.ha T.hn T.ht T.hm) I.kIn J h1 e (fun z => nomatch z) fun tk => ⟨.bl b, H, I.tok tk, rfl, q⟩
end
end L2

set_option Elab.async false
set_option linter.all false
set_option maxRecDepth 100000
set_option maxHeartbeats 2000000
/-! What the top has written, as facts of my own words. -/
namespace L2
open PySem PySem.Spec PyProof.Rows
section
variable {P : Program} {w : World} {K : PySem.W.Frag} {h : Heap} {mg : Str → Option Value} {st : Stmt}
theorem def_of {x : Str} {ps : List Str} {f : Addr} {oc : Value} {od an : Option Addr} {osl : Array (Option Value)} {kV doc pm cdv ct : Value} (X : K.In h) (G : h.Ns mainGlobals mg) (a : PySem.W.nsIn K mainGlobals x = some (some (.ref f)))
    (l : K.lookup f = some ⟨oc, od, .func (PySem.W.fnOf x x (defArgs st) (defBody st) (defScope st) .none kV doc pm an cdv ct), osl⟩) (c : PySem.W.codeIn K cdv x = true) (k : PySem.W.keepIn K (.ref f) = true)
    (b : ∀ (kV doc pm : Value) (an : Option Addr) (cdv ct : Value) (us : List Value), us.length = ps.length → bindArgs (PySem.W.fnOf x x (defArgs st) (defBody st) (defScope st) .none kV doc pm an cdv ct) ⟨us, []⟩ = pure (ps.zip us)) : DefTxt K mg x st ps :=
  ⟨f, _, fun_mk l c k, PySem.W.mg_of X G a, (fun_mk l c k).binds b⟩
theorem law_of {x p : Str} {fa : Addr} {k : Nat} {sp : Sp} (D : DefTxt K mg x st [p]) (hfa : mg x = some (.ref fa))
    (b : ∀ (kV doc pm : Value) (an : Option Addr) (cdv ct v : Value), bindArgs (PySem.W.fnOf x x (defArgs st) (defBody st) (defScope st) .none kV doc pm an cdv ct) ⟨[v], []⟩ = pure [(p, v)])
    (ok : ∀ base : Heap, DefAt P w K mg base k x [p] sp) :
    ∃ fd : FuncData, (∀ (s : Shared) (v : Value), BindsTo s fd ⟨[v], []⟩ [(p, v)]) ∧ ∀ base : Heap, K.In base → base.Ns mainGlobals mg → FnOk P w K mg base (L2.CX P w) k fa fd [p] sp := by
  obtain ⟨f, fd, F, g, _⟩ := D
  rw [hfa] at g
  cases g
  obtain ⟨oc, od, kV, doc, pm, an, cdv, ct, osl, rfl, lk, _⟩ := F.ex
  exact ⟨_, fun s v => .of_eq (b _ _ _ _ _ _ v), fun base _ _ => (ok base).at hfa lk⟩
theorem err_of {x : Str} {C fI cc cda : Addr} {nm q : Str} {N : Addr} {bs bm : List Value} {sn : List Str} {sub : List Value} {ab : Bool} {col : Option Bool} {dd : Option Addr} {k0 k1 k2 k3 k5 : Option Value} {cl : Value} {cld : Option Addr} {csl : Array (Option Value)}
    {qual : Str} {oc : Value} {od : Option Addr} {kV doc pm : Value} {an : Option Addr} {ct : Value} {osl : Array (Option Value)} {ccl : Value} {cdd : Option Addr} {vs : Array Value} {ccs : Array (Option Value)} {file : Str} {tf : Tok}
    (_ : K.In h) (aC : PySem.W.nsIn K mainGlobals x = some (some (.ref C))) (iC : PySem.W.findIn K (.ref C) "__init__" = some (some (.ref fI))) (tI : PySem.W.typeIn K (.ref fI) = some (.type "function"))
    (l : K.lookup fI = some ⟨oc, od, .func (PySem.W.ksFn "__init__" qual (defArgs st) (defBody st) (defScope st) .none kV doc pm an (.ref cda) ct cc), osl⟩) (c : PySem.W.codeIn K (.ref cda) qual = true)
    (lC : K.lookup C = some (excClassObj nm q C N bs bm true sn sub ab col dd k0 k1 k2 k3 k5 "ValueError.__new__")) (rv : PySem.HandSPX.refsVE bm = true) (sa : PySem.W.findIn K (.ref C) "__setattr__" = some (some (.builtin "object.__setattr__"))) (su : PySem.W.ks_superIn K C C "__init__" = some (some (.builtin "ValueError.__init__")))
    (mr : PySem.W.mroIn K C (.ref C) = some true) (sv : PySem.W.subIn K (.ref C) (.type "ValueError") = some true) (lc : K.lookup cc = some ⟨cl, cld, .cell (some (.ref C)), csl⟩) (ns : PySem.W.nsIn K mainGlobals "super" = some none) (op : PySem.W.nsIn K cStatics "thirdparty.any" = some none)
    (tp : (P.main.scope.names.lookup ("super" : Str)).isSome = false) (ld : K.lookup cda = some ⟨ccl, cdd, .fields vs, ccs⟩) (v2 : vs[2]? = some (.str file tf)) (fe : ((P.main.file : Str) == file) = true) :
    XS.Sup P K C fI cc ∧ XS.SupFn P K fI cc (defArgs st) (defBody st) (defScope st) qual cda :=
  ⟨⟨⟨_, _, _, _, _, _, _, _, _, _, _, _, _, _, _, lC, rv⟩, sa, su, mr, sv, ⟨_, _, _, lc⟩, ns, op, tp, iC, tI⟩, ⟨⟨_, _, _, _, _, _, _, _, l, c⟩, ⟨_, _, _, _, _, _, ld, v2, fe⟩⟩⟩
theorem exmOne_of {C : Addr} {cls : Value} {b : Bool} (h1 : PySem.W.subIn K (.ref C) (.type "BaseException") = some true) (hd : PySem.W.hasDictIn K C = true) (ht : PySem.W.typeIn K (.ref C) = some (.type "type")) (h4 : PySem.W.subIn K cls (.ref C) = some b) : PySem.W.exmOne K cls (.ref C) = some b := PySem.W.exm_ref h1 hd ht h4
theorem glob_of {x : Str} {v : Value} (X : K.In h) (G : h.Ns mainGlobals mg) (e : PySem.W.nsIn K mainGlobals x = some (some v)) : mg x = some v := PySem.W.mg_of X G e
theorem free_of {x : Str} (X : K.In h) (G : h.Ns mainGlobals mg) (e : PySem.W.nsIn K mainGlobals x = some none) : mg x = none := PySem.W.mg_none_of X G e
/-! the same handed on, for a proof that leaves holes in them -/
theorem use {A R : Prop} (a : A) (r : A → R) : R := r a
end
end L2

set_option Elab.async false
set_option linter.all false
set_option maxRecDepth 100000
set_option maxHeartbeats 4000000
namespace K63
open PySem PySem.Spec PyProof.Rows L2
def topS (i : Nat) : Stmt := PySem.Challenge.pw_holdorslip_k63_mended_lines.main.body.getD i (.Pass ⟨0, 0, 0, 0⟩)
section
variable {P : Program} {w : World} {K : PySem.W.Frag} {mg : Str → Option Value} {base : Heap}

/-! ### _law_mix -/
abbrev s_l_mix : Stmt := topS 17
abbrev N_l_mix : List Str := ["number", "turn", "first", "second"]
theorem sc_l_mix : FnScope N_l_mix ["number", "turn"] (defScope s_l_mix) := ⟨rfl, rfl, rfl, by decide +kernel, rfl, by decide +kernel, by decide +kernel⟩
def spMix : Sp := fun vs H Q _ => ∃ n t : Int, vs = [.int n, .int t] ∧ ∀ r : Int, 0 ≤ r → Q (.int r) H
theorem small_mod (x : Int) : -(2 ^ 64) < x % 18446744073709551557 ∧ x % 18446744073709551557 < 2 ^ 64 := by
  have h1 := Int.emod_nonneg x (show (18446744073709551557 : Int) ≠ 0 by decide)
  have h2 := Int.emod_lt_of_pos x (show (0 : Int) < 18446744073709551557 by decide)
  omega
theorem ok_mix (D : DefTxt K mg "_law_mix" s_l_mix ["number", "turn"]) (B : Blt mg) : DefAt P w K mg base 1 "_law_mix" ["number", "turn"] spMix := by
  refine D.ok sc_l_mix (fun vs H Q E h => ?_) (fun f cdv A outer s H vs Q E hr h => ?_)
  · obtain ⟨n, t, rfl, _⟩ := h
    rfl
  · obtain ⟨n, t, rfl, q⟩ := h
    refine ⟨_, (pss_cons (ps_set (i := 2) sc_l_mix.nd rfl (.inl rfl) (pe_op op_mod (pe_callTy call_int1 (by rfl) B.n_int (by decide +kernel) (pa_cons (pe_op op_add (pe_op op_mul (pe_op op_add (pv 0) pe_int) pe_int) (pe_op op_mul (pe_op op_add (pv 1) pe_int) pe_int)) pa_nil)) pe_int))
      (pss_cons (ps_set (i := 3) sc_l_mix.nd rfl (.inl rfl) (pe_op op_mod (pe_callTy call_int1 (by rfl) B.n_int (by decide +kernel) (pa_cons (pe_op op_add (pe_op op_mul (pv 2) (pe_op op_add (pe_op op_add (pv 2) (pe_op op_mul pe_int (pv 1))) pe_int)) pe_int) pa_nil)) pe_int))
      (pss_one (ps_ret (pe_op op_fdiv (pv 3) pe_int))))), ?_⟩
    refine ⟨_, rfl, _, _, rfl, rfl, _, _, rfl, rfl, .inr ⟨by decide, by decide⟩, _, rfl, _, _, rfl, rfl, _, _, rfl, rfl, .inr ⟨by decide, by decide⟩, _, _, rfl, rfl, .inl ⟨_, rfl, _, _, rfl, rfl, (by decide : (0 : Int) < 18446744073709551557), ?_⟩⟩
    refine ⟨_, rfl, _, rfl, _, rfl, _, _, rfl, rfl, .inl ⟨by decide, by decide⟩, _, _, rfl, rfl, _, _, rfl, rfl, _, _, rfl, rfl, .inl (small_mod _), _, _, rfl, rfl, .inl ⟨_, rfl, _, _, rfl, rfl, (by decide : (0 : Int) < 18446744073709551533), ?_⟩⟩
    refine ⟨_, rfl, _, _, rfl, rfl, ⟨by decide, by decide⟩, ?_⟩
    exact q _ (Int.ediv_nonneg (Int.emod_nonneg _ (by decide)) (by decide))

/-! ### _law_jar -/
abbrev s_l_jar : Stmt := topS 18
abbrev N_l_jar : List Str := ["script", "place", "cells", "total", "cell", "great", "number"]
theorem sc_l_jar : FnScope N_l_jar ["script", "place"] (defScope s_l_jar) := ⟨rfl, rfl, rfl, by decide +kernel, rfl, by decide +kernel, by decide +kernel⟩
def spJar (K : PySem.W.Frag) : Sp := fun vs H Q _ => ∃ (a : Addr) (ns : List Int) (p : Int), vs = [.ref a, .int p] ∧ SqL K H a (ns.map V.int) ∧ 0 ≤ p ∧ p ≤ 1000 ∧ ns.length ≤ 63 ∧ ∀ H' j, Same H H' → H j = none → JarAt H' j → Q (.ref j) H'
theorem cut_map (ns : List Int) (lo hi : Option Int) : ∃ cs : List Int, cutV (ns.map V.int) lo hi = cs.map V.int ∧ cs.length ≤ ns.length := by
  refine ⟨(ns.drop (HT.sIx (ns.map V.int).length 0 lo)).take (HT.sIx (ns.map V.int).length (ns.map V.int).length hi - HT.sIx (ns.map V.int).length 0 lo), ?_, ?_⟩
  · unfold cutV
    rw [List.map_take, List.map_drop]
  · rw [List.length_take, List.length_drop]
    omega
theorem map_get {α : Type} {f : α → V} {l : List α} {i : Nat} {x : V} (h : (l.map f)[i]? = some x) : ∃ z, l[i]? = some z ∧ x = f z := by
  rw [List.getElem?_map] at h
  cases e : l[i]? with
  | none => rw [e] at h; cases h
  | some z => rw [e] at h; exact ⟨z, rfl, (Option.some.inj h).symm⟩
theorem take_more {α : Type} {l : List α} {i : Nat} {z : α} (h : l[i]? = some z) : l.take (i + 1) = l.take i ++ [z] := by
  rw [List.take_add_one, h]
  rfl
theorem ok_jar (D : DefTxt K mg "_law_jar" s_l_jar ["script", "place"]) (B : Blt mg) : DefAt P w K mg base 1 "_law_jar" ["script", "place"] (spJar K) := by
  refine D.ok sc_l_jar (fun vs H Q E h => ?_) (fun f cdv A outer s H vs Q E hr h => ?_)
  · obtain ⟨a, ns, p, rfl, _⟩ := h
    rfl
  · obtain ⟨a, ns, p, rfl, hS, hp0, hp1, hn, q⟩ := h
    refine ⟨_, (pss_cons (ps_setLc (own := [("cell", 4)]) (i := 2) rfl sc_l_jar.nd rfl rfl (sw_true rfl rfl rfl (by decide +kernel)) (pi_list (pe_slice sl_list (pv 0) po_none (po_some pe_int))) (blkOk_by (N := N_l_jar) (sc := defScope s_l_jar) (by decide +kernel)) (fun _ _ _ _ _ => pg_name (i := 4) sc_l_jar.nd rfl (.inl rfl)) (fun _ _ _ _ _ => pts_nil) (fun _ _ _ _ _ => (pe_callTy call_int1 (by rfl) B.n_int (by decide +kernel) (pa_cons (pv 4) pa_nil))))
      (pss_cons (ps_set (i := 3) sc_l_jar.nd rfl (.inl rfl) (pe_op op_add pe_int (pe_op op_mul pe_int (pv 1))))
      (pss_cons (ps_for PassesOwn.never rfl (pi_list (pv 2)) (pg_name (i := 4) sc_l_jar.nd rfl (.inl rfl))
        (pss_one (ps_set (i := 3) sc_l_jar.nd rfl (.inl rfl) (pe_op op_mod (pe_callTy call_int1 (by rfl) B.n_int (by decide +kernel) (pa_cons (pe_op op_add (pe_op op_mul (pv 3) pe_int) (pe_callB call_abs (by rfl) B.n_abs (by decide +kernel) (pa_cons (pv 4) pa_nil))) pa_nil)) pe_int))))
      (pss_cons (ps_if (pt_cmpR op_ge (pv 1) (pe_callB call_len_seq (by rfl) B.n_len (by decide +kernel) (pa_cons (pv 2) pa_nil)) (nomark _))
        (pss_one (ps_ret (pe_lst (pa_cons pe_int (pa_cons pe_int (pa_cons (pv 3) pa_nil))))))
        pss_nil)
      (pss_cons (ps_set (i := 5) sc_l_jar.nd rfl (.inl rfl) (pe_callB call_abs (by rfl) B.n_abs (by decide +kernel) (pa_cons (pe_ix ix_list (pv 2) (pv 1) (fun _ _ => rfl)) pa_nil)))
      (pss_cons (ps_set (i := 6) sc_l_jar.nd rfl (.inl rfl) (pe_op op_add (pe_op op_mul pe_int (pv 5)) (pe_ifExp (pt_cmpR op_lt (pe_ix ix_list (pv 2) (pv 1) (fun _ _ => rfl)) pe_int (nomark _)) pe_int pe_int)))
      (pss_cons (ps_if (pt_cmpR op_ge (pv 5) (pe_op op_pow pe_int pe_int) (nomark _))
        (pss_one (ps_ret (pe_lst (pa_cons (pv 5) (pa_cons pe_int (pa_cons (pv 6) pa_nil))))))
        pss_nil)
      (pss_one (ps_ret (pe_lst (pa_cons pe_int (pa_cons pe_int (pa_cons (pe_op op_add (pv 6) (pe_op op_mul pe_int (pv 1))) pa_nil))))))))))))), ?_⟩
    obtain ⟨cs, ec, lc⟩ := cut_map ns none (some 63)
    -- cells = [int(cell) for cell in script[:63]]
    refine ⟨.ref a, rfl, 63, rfl, a, ns.map V.int, rfl, hS, fun c nc => ?_⟩
    rw [ec]
    have s1 : Same H (upd H c (.lst (cs.map V.int))) := (Same.refl H).new nc
    refine ⟨c, rfl, ⟨_, SqL.of upd_same⟩, fun d nd => ?_⟩
    have ncd : c ≠ d := fun e => by rw [← e, upd_same] at nd; cases nd
    have nd0 : H d = none := by rw [← nd, upd_ne ncd.symm]
    refine lc_list (K := K) (a := c) (xs := cs.map V.int) (fun i H' => Same H H' ∧ H' c = some (.lst (cs.map V.int)) ∧ H' d = some (.lst ((cs.take i).map V.int))) ⟨s1.new nd, by rw [upd_ne ncd, upd_same], upd_same⟩ (fun i H' _ h => SqL.of h.2.1) (fun i x H' hx h => ?_) (fun H2 h => ?_)
    · obtain ⟨z, hz, rfl⟩ := map_get hx
      obtain ⟨sm, h1, h2⟩ := h
      refine ⟨rfl, _, rfl, .inl ⟨z, rfl, _, h2, ?_, sm.mut nd0, by rw [upd_ne ncd, h1], ?_⟩⟩
      · rw [List.length_map, List.length_take]
        exact Nat.lt_of_le_of_lt (Nat.min_le_right _ _) (small1000 (by omega))
      · rw [upd_same, take_more hz, List.map_append]
        rfl
    · obtain ⟨sm, h1, h2⟩ := h
      rw [List.length_map, List.take_length] at h2
      -- total = 17 + 7919 * place
      refine ⟨_, rfl, _, _, rfl, rfl, .inl ⟨by decide, by decide⟩, _, _, rfl, rfl, ?_⟩
      -- for cell in cells
      refine ⟨_, rfl, d, rfl, ⟨_, SqL.of h2⟩, for_list (K := K) (a := d) (xs := cs.map V.int) (fun i σ H' => ∃ (t : Int) (y : Option V), σ = [some (.ref a), some (.int p), some (.ref d), some (.int t), y, none, none] ∧ H' = H2)
        ⟨_, _, rfl, rfl⟩ (fun i σ H' _ h => by obtain ⟨_, _, _, rfl⟩ := h; exact SqL.of h2) (fun i x σ H' hx h => ?_) (fun σ H' h => ?_)⟩
      · obtain ⟨z, hz, rfl⟩ := map_get hx
        obtain ⟨t, y, rfl, rfl⟩ := h
        refine ⟨_, rfl, _, _, rfl, rfl, .inr ⟨by decide, by decide⟩, _, rfl, z, rfl, _, _, rfl, rfl, .inl ⟨_, rfl, _, _, rfl, rfl, (by decide : (0 : Int) < 1000003), ?_⟩⟩
        exact ⟨_, _, rfl, rfl⟩
      · obtain ⟨t, y, rfl, rfl⟩ := h
        -- if place >= len(cells)
        refine ⟨_, rfl, _, rfl, d, cs.map V.int, rfl, .inl (SqL.of h2), _, _, rfl, rfl, _, rfl, ite2 (fun e => ?_) (fun e => ?_)⟩
        · refine ⟨_, rfl, (by show 3 ≤ sizeLine; decide), fun j nj => q _ j (sm.new nj) ?_ ⟨_, _, _, upd_same⟩⟩
          exact sm.free nj
        · have hp : p < ((cs.map V.int).length : Int) := Int.not_le.mp fun z => e (decide_eq_true z)
          obtain ⟨u, rfl⟩ : ∃ u : Nat, p = u := ⟨p.toNat, by omega⟩
          have hu : u < cs.length := by
            rw [List.length_map] at hp
            omega
          have g : atI (cs.map V.int) (u : Int) = some (.int cs[u]) := atI_nat (by rw [List.getElem?_map, List.getElem?_eq_getElem hu]; rfl)
          -- great, number
          refine ⟨_, rfl, _, rfl, d, _, _, _, rfl, rfl, SqL.of h2, g, cs[u], rfl, ?_⟩
          refine ⟨_, rfl, _, _, rfl, rfl, .inl ⟨by decide, by decide⟩, ?_⟩
          refine ⟨_, rfl, _, rfl, d, _, _, _, rfl, rfl, SqL.of h2, g, _, _, rfl, rfl, _, rfl, ?_⟩
          refine ite2 (fun _ => ?_) (fun _ => ?_)
          all_goals
            refine ⟨_, _, rfl, rfl, ?_⟩
            refine ⟨_, rfl, _, _, rfl, rfl, ⟨by decide, by decide, by decide⟩, _, _, rfl, rfl, _, rfl, ite2 (fun _ => ?_) (fun _ => ?_)⟩
            · exact ⟨_, rfl, _, rfl, (by show 3 ≤ sizeLine; decide), fun j nj => q _ j (sm.new nj) (sm.free nj) ⟨_, _, _, upd_same⟩⟩
            · exact ⟨_, rfl, _, rfl, _, _, rfl, rfl, .inl ⟨by decide, by decide⟩, _, _, rfl, rfl, (by show 3 ≤ sizeLine; decide), fun j nj => q _ j (sm.new nj) (sm.free nj) ⟨_, _, _, upd_same⟩⟩

/-! ### _law_draw -/
abbrev s_l_draw : Stmt := topS 19
abbrev N_l_draw : List Str := ["jar", "many", "digit"]
theorem sc_l_draw : FnScope N_l_draw ["jar", "many"] (defScope s_l_draw) := ⟨rfl, rfl, rfl, by decide +kernel, rfl, by decide +kernel, by decide +kernel⟩
def spDraw : Sp := fun vs H Q _ => ∃ (j : Addr) (m : Int), vs = [.ref j, .int m] ∧ JarAt H j ∧ 0 < m ∧ m < 1073741824 ∧ ∀ (k : Int) H', 0 ≤ k → k < m → But j H H' → JarAt H' j → Q (.int k) H'
theorem ok_draw (D : DefTxt K mg "_law_draw" s_l_draw ["jar", "many"]) (B : Blt mg) (D_l_mix : DefAt P w K mg base 1 "_law_mix" ["number", "turn"] spMix) : DefAt P w K mg base 2 "_law_draw" ["jar", "many"] spDraw := by
  refine D.ok sc_l_draw (fun vs H Q E h => ?_) (fun f cdv A outer s H vs Q E hr h => ?_)
  · obtain ⟨j, m, rfl, _⟩ := h
    rfl
  · obtain ⟨j, m, rfl, ⟨a, b, c, hj⟩, m0, m1, q⟩ := h
    refine ⟨_, (pss_cons (ps_asg (pe_op op_add (pe_ix ix_list (pv 0) pe_int (fun _ _ => rfl)) pe_int) (pg_sub (pv 0) pe_int set_list))
      (pss_cons (ps_if (pt_cmpR op_gt (pe_ix ix_list (pv 0) pe_int (fun _ _ => rfl)) pe_int (nomark _))
        (pss_cons (ps_set (i := 2) sc_l_draw.nd rfl (.inl rfl) (pe_op op_mod (pe_callTy call_int1 (by rfl) B.n_int (by decide +kernel) (pa_cons (pe_ix ix_list (pv 0) pe_int (fun _ _ => rfl)) pa_nil)) (pv 1)))
        (pss_cons (ps_asg (pe_op op_fdiv (pe_ix ix_list (pv 0) pe_int (fun _ _ => rfl)) (pv 1)) (pg_sub (pv 0) pe_int set_list))
        (pss_one (ps_ret (pv 2)))))
        pss_nil)
      (pss_one (ps_ret (pe_op op_mod (pe_callTy call_int1 (by rfl) B.n_int (by decide +kernel) (pa_cons (pe_dc D_l_mix (hr.mono (by decide)) (pa_cons (pe_ix ix_list (pv 0) pe_int (fun _ _ => rfl)) (pa_cons (pe_ix ix_list (pv 0) pe_int (fun _ _ => rfl)) pa_nil))) pa_nil)) (pv 1)))))), ?_⟩
    have md : ∀ x : Int, 0 ≤ x % m ∧ x % m < m := fun x => ⟨Int.emod_nonneg _ (by omega), Int.emod_lt_of_pos _ m0⟩
    have b1 : But j H (upd H j (.lst [.int a, .int (b + 1), .int c])) := (But.refl j H).upd
    -- jar[1] = jar[1] + 1
    refine ⟨_, rfl, j, _, _, _, rfl, rfl, SqL.of hj, ix1, _, _, rfl, rfl, _, rfl, j, _, _, 1, rfl, rfl, hj, rfl, ?_⟩
    have h1 : upd H j (.lst [.int a, .int (b + 1), .int c]) j = some (.lst [.int a, .int (b + 1), .int c]) := upd_same
    -- if jar[0] > 0
    refine ⟨_, rfl, j, _, _, _, rfl, rfl, SqL.of h1, ix0, _, _, rfl, rfl, _, rfl, ite2 (fun _ => ?_) (fun _ => ?_)⟩
    · refine ⟨_, rfl, j, _, _, _, rfl, rfl, SqL.of h1, ix0, .inl ⟨_, rfl, _, rfl, _, _, rfl, rfl, m0, ?_⟩⟩
      refine ⟨_, rfl, j, _, _, _, rfl, rfl, SqL.of h1, ix0, _, rfl, _, _, rfl, rfl, ⟨m0, m1⟩, _, rfl, j, _, _, 0, rfl, rfl, h1, rfl, ?_⟩
      exact ⟨_, rfl, q _ _ (md a).1 (md a).2 b1.upd ⟨_, _, _, upd_same⟩⟩
    · refine ⟨_, rfl, j, _, _, _, rfl, rfl, SqL.of h1, ix2, _, rfl, j, _, _, _, rfl, rfl, SqL.of h1, ix1, _, _, rfl, fun r _ => .inl ⟨_, rfl, _, rfl, _, _, rfl, rfl, m0, ?_⟩⟩
      exact q _ _ (md r).1 (md r).2 b1 ⟨_, _, _, h1⟩

/-! ### _law_pick -/
abbrev s_l_pick : Stmt := topS 20
abbrev N_l_pick : List Str := ["jar", "row"]
theorem sc_l_pick : FnScope N_l_pick ["jar", "row"] (defScope s_l_pick) := ⟨rfl, rfl, rfl, by decide +kernel, rfl, by decide +kernel, by decide +kernel⟩
def spPick (K : PySem.W.Frag) : Sp := fun vs H Q _ => ∃ (j r : Addr) (xs : List V), vs = [.ref j, .ref r] ∧ JarAt H j ∧ RowAt K H j r xs ∧ xs ≠ [] ∧ xs.length ≤ 100000 ∧ ∀ v H', v ∈ xs → But j H H' → JarAt H' j → Q v H'
theorem ok_pick (D : DefTxt K mg "_law_pick" s_l_pick ["jar", "row"]) (B : Blt mg) (D_l_draw : DefAt P w K mg base 2 "_law_draw" ["jar", "many"] spDraw) : DefAt P w K mg base 3 "_law_pick" ["jar", "row"] (spPick K) := by
  refine D.ok sc_l_pick (fun vs H Q E h => ?_) (fun f cdv A outer s H vs Q E hr h => ?_)
  · obtain ⟨j, r, xs, rfl, _⟩ := h
    rfl
  · obtain ⟨j, r, xs, rfl, hj, hR, hne, hl, q⟩ := h
    refine ⟨_, (pss_one (ps_ret (pe_ix ix_seq (pv 1) (pe_dc D_l_draw (hr.mono (by decide)) (pa_cons (pv 0) (pa_cons (pe_callB call_len_seq (by rfl) B.n_len (by decide +kernel) (pa_cons (pv 1) pa_nil)) pa_nil))) (fun _ _ => rfl)))), ?_⟩
    have hpos : 0 < xs.length := List.length_pos_iff.mpr hne
    refine ⟨_, rfl, _, rfl, _, rfl, r, xs, rfl, hR H (But.refl j H), j, _, rfl, hj, by omega, by omega, fun k H' k0 k1 b jr => ?_⟩
    obtain ⟨u, rfl⟩ : ∃ u : Nat, k = u := ⟨k.toNat, by omega⟩
    have hu : u < xs.length := by omega
    have g : atI xs (u : Int) = some xs[u] := atI_nat (List.getElem?_eq_getElem hu)
    have fin := q xs[u] H' (List.getElem_mem hu) b jr
    rcases hR H' b with hL | hT
    · exact .inl ⟨r, xs, _, _, rfl, rfl, hL, g, fin⟩
    · exact .inr (.inl ⟨r, xs, _, _, rfl, rfl, hT, g, fin⟩)
end
end K63

set_option Elab.async false
set_option linter.all false
/-! The plain law of k63: texts parted and joined, lines mended. -/
namespace K63
open PySem L2
abbrev cs (z : Str) : List Nat := z.cps.toList
abbrev nl : Str := ⟨#[10]⟩
def S (l : List Nat) : Str := ⟨l.toArray⟩
theorem cs_S (l : List Nat) : cs (S l) = l := by simp [cs, S]
theorem S_cs (z : Str) : S (cs z) = z := by simp [cs, S]
theorem str_ext {a b : Str} (h : cs a = cs b) : a = b := by rw [← S_cs a, ← S_cs b, h]
def Free (z : Str) : Prop := 10 ∉ cs z
instance (z : Str) : Decidable (Free z) := inferInstanceAs (Decidable (10 ∉ cs z))
/-! ### joined, parted -/
def jn : List (List Nat) → List Nat
  | [] => []
  | [x] => x
  | x :: y :: r => x ++ 10 :: jn (y :: r)
theorem cs_append (a b : Str) : cs (a ++ b) = cs a ++ cs b := by
  show (a.cps ++ b.cps).toList = _
  simp [cs]
theorem cs_join : ∀ ls : List Str, cs (Str.join nl ls) = jn (ls.map cs)
  | [] => rfl
  | [x] => rfl
  | x :: y :: r => by
    show cs (x ++ nl ++ Str.join nl (y :: r)) = cs x ++ 10 :: jn ((y :: r).map cs)
    rw [cs_append, cs_append, cs_join (y :: r), List.append_assoc]
    rfl
/-- one sign more -/
def stp (acc : List (List Nat)) (c : Nat) : List (List Nat) := if c = 10 then acc ++ [[]] else acc.set (acc.length - 1) (acc.getD (acc.length - 1) [] ++ [c])
def pt (l : List Nat) : List (List Nat) := l.foldl stp [[]]
theorem set_last {α : Type} : ∀ (a : List α) (x y : α), (a ++ [x]).set a.length y = a ++ [y]
  | [], _, _ => rfl
  | z :: a, x, y => by
    show z :: (a ++ [x]).set a.length y = z :: (a ++ [y])
    rw [set_last a x y]
theorem stp_on (acc : List (List Nat)) (cur : List Nat) {c : Nat} (h : c ≠ 10) : stp (acc ++ [cur]) c = acc ++ [cur ++ [c]] := by
  unfold stp
  rw [if_neg h]
  have e : (acc ++ [cur]).length - 1 = acc.length := by simp
  rw [e]
  have g : (acc ++ [cur]).getD acc.length [] = cur := by simp [List.getD]
  rw [g, set_last]
theorem fold_free (acc : List (List Nat)) : ∀ (l cur : List Nat), 10 ∉ l → l.foldl stp (acc ++ [cur]) = acc ++ [cur ++ l]
  | [], cur, _ => by simp
  | c :: l, cur, h => by
    have h1 : c ≠ 10 := fun e => h (by simp [e])
    have h2 : 10 ∉ l := fun e => h (List.mem_cons_of_mem _ e)
    rw [List.foldl_cons, stp_on acc cur h1, fold_free acc l _ h2]
    simp
theorem fold_jn : ∀ (ls : List (List Nat)) (acc : List (List Nat)) (cur x : List Nat), (∀ y ∈ x :: ls, 10 ∉ y) → (jn (x :: ls)).foldl stp (acc ++ [cur]) = acc ++ (cur ++ x) :: ls
  | [], acc, cur, x, h => fold_free acc x cur (h x (by simp))
  | y :: r, acc, cur, x, h => by
    show (x ++ 10 :: jn (y :: r)).foldl stp (acc ++ [cur]) = _
    rw [List.foldl_append, fold_free acc x cur (h x (by simp)), List.foldl_cons]
    have e : stp (acc ++ [cur ++ x]) 10 = (acc ++ [cur ++ x]) ++ [[]] := by
      unfold stp
      rw [if_pos rfl]
    rw [e, fold_jn r (acc ++ [cur ++ x]) [] y fun z hz => h z (List.mem_cons_of_mem _ hz)]
    simp
theorem pt_jn {ls : List (List Nat)} (hne : ls ≠ []) (h : ∀ y ∈ ls, 10 ∉ y) : pt (jn ls) = ls := by
  cases ls with
  | nil => exact absurd rfl hne
  | cons x r =>
    have := fold_jn r [] [] x h
    simpa [pt] using this
theorem pt_join {ls : List Str} (hne : ls ≠ []) (h : ∀ z ∈ ls, Free z) : (pt (cs (Str.join nl ls))).map S = ls := by
  rw [cs_join, pt_jn (by simpa using hne) (by
    intro y hy
    obtain ⟨z, hz, rfl⟩ := List.mem_map.mp hy
    exact h z hz), List.map_map]
  have : ls.map (S ∘ cs) = ls.map id := List.map_congr_left fun z _ => S_cs z
  rw [this, List.map_id]
theorem join_inj {ls ms : List Str} (h1 : ls ≠ []) (h2 : ms ≠ []) (f1 : ∀ z ∈ ls, Free z) (f2 : ∀ z ∈ ms, Free z) (e : Str.join nl ls = Str.join nl ms) : ls = ms := by
  rw [← pt_join h1 f1, ← pt_join h2 f2, e]
theorem split_join {ls : List Str} (h1 : ls ≠ []) (f1 : ∀ z ∈ ls, Free z) : Txt.split (Str.join nl ls) nl = ls := by
  refine join_inj (fun e => ?_) h1 (fun p hp => StrLaws.split_free _ 10 p hp) f1 (StrLaws.join_split _ _)
  have := PyProof.Rows.split_pos (Str.join nl ls) nl
  rw [e] at this
  exact absurd this (by decide)

/-! ### lines mended -/
abbrev Rep := Int × Str
def mend : List Str → List Int → List Rep → Option (List Str)
  | ls, _, [] => some ls
  | ls, dn, r :: rs => if ((1 ≤ r.1 ∧ r.1 ≤ ls.length) ∧ Free r.2) ∧ r.1 ∉ dn then mend (ls.set (r.1 - 1).toNat r.2) (dn ++ [r.1]) rs else none
def put (ls : List Str) (rs : List Rep) : List Str := rs.foldl (fun f r => f.set (r.1 - 1).toNat r.2) ls
/-- right repairs of n lines -/
structure Good (n : Nat) (rs : List Rep) : Prop where
  ok : ∀ r ∈ rs, (1 ≤ r.1 ∧ r.1 ≤ n) ∧ Free r.2
  nd : (rs.map (·.1)).Nodup
theorem put_len (rs : List Rep) : ∀ ls : List Str, (put ls rs).length = ls.length := by
  induction rs with
  | nil => intro ls; rfl
  | cons r rs ih =>
    intro ls
    show (put (ls.set _ _) rs).length = _
    rw [ih, List.length_set]
theorem put_app (a b : List Rep) (ls : List Str) : put ls (a ++ b) = put (put ls a) b := by
  unfold put
  rw [List.foldl_append]
theorem mend_good : ∀ (rs : List Rep) (ls : List Str) (dn : List Int), Good ls.length rs → (∀ r ∈ rs, r.1 ∉ dn) → mend ls dn rs = some (put ls rs)
  | [], ls, dn, _, _ => rfl
  | r :: rs, ls, dn, g, hd => by
    unfold mend
    have nd := g.nd
    rw [List.map_cons, List.nodup_cons] at nd
    rw [if_pos ⟨g.ok r (by simp), hd r (by simp)⟩, mend_good rs _ _ ⟨fun q hq => by rw [List.length_set]; exact g.ok q (List.mem_cons_of_mem _ hq), nd.2⟩ (fun q hq e => ?_)]
    · rfl
    · rcases List.mem_append.mp e with e | e
      · exact hd q (List.mem_cons_of_mem _ hq) e
      · rw [List.mem_singleton] at e
        exact nd.1 (List.mem_map.mpr ⟨q, hq, e⟩)
/-- one that is wrong -/
theorem mend_bad : ∀ (a : List Rep) (x : Rep) (b : List Rep) (ls : List Str) (dn : List Int), ¬ ((1 ≤ x.1 ∧ x.1 ≤ ls.length) ∧ Free x.2) ∨ x.1 ∈ a.map (·.1) ∨ x.1 ∈ dn → mend ls dn (a ++ x :: b) = none
  | [], x, b, ls, dn, h => by
    show mend ls dn (x :: b) = none
    unfold mend
    rw [if_neg]
    rintro ⟨h1, h2⟩
    rcases h with h | h | h
    · exact h h1
    · cases h
    · exact h2 h
  | y :: a, x, b, ls, dn, h => by
    show mend ls dn (y :: (a ++ x :: b)) = none
    unfold mend
    split
    · refine mend_bad a x b _ _ ?_
      rw [List.length_set]
      rcases h with h | h | h
      · exact .inl h
      · rw [List.map_cons] at h
        rcases List.mem_cons.mp h with h | h
        · exact .inr (.inr (by rw [h]; simp))
        · exact .inr (.inl h)
      · exact .inr (.inr (List.mem_append_left _ h))
    · rfl
theorem set_put (rs : List Rep) : ∀ (ls : List Str) (i : Nat) (t : Str), (∀ r ∈ rs, (r.1 - 1).toNat ≠ i) → put (ls.set i t) rs = (put ls rs).set i t := by
  induction rs with
  | nil => intro ls i t _; rfl
  | cons r rs ih =>
    intro ls i t h
    show put ((ls.set i t).set _ _) rs = (put (ls.set _ _) rs).set i t
    rw [← ih _ i t fun q hq => h q (List.mem_cons_of_mem _ hq), List.set_comm _ _ (Ne.symm (h r (by simp)))]
theorem place_ne {n : Nat} {r q : Rep} (h1 : 1 ≤ r.1 ∧ r.1 ≤ n) (h2 : 1 ≤ q.1 ∧ q.1 ≤ n) (h : q.1 ≠ r.1) : (q.1 - 1).toNat ≠ (r.1 - 1).toNat := by omega
theorem put_rev {n : Nat} : ∀ (rs : List Rep) (ls : List Str), Good n rs → put ls rs.reverse = put ls rs
  | [], ls, _ => rfl
  | r :: rs, ls, g => by
    have nd := g.nd
    rw [List.map_cons, List.nodup_cons] at nd
    have g' : Good n rs := ⟨fun q hq => g.ok q (List.mem_cons_of_mem _ hq), nd.2⟩
    rw [List.reverse_cons, put_app, put_rev rs ls g']
    show (put ls rs).set _ _ = put (ls.set _ _) rs
    rw [set_put]
    intro q hq
    exact place_ne (g.ok r (by simp)).1 (g'.ok q hq).1 fun e => nd.1 (List.mem_map.mpr ⟨q, hq, e⟩)
theorem Good.rev {n : Nat} {rs : List Rep} (g : Good n rs) : Good n rs.reverse := ⟨fun r hr => g.ok r (List.mem_reverse.mp hr), by rw [List.map_reverse]; exact (List.reverse_perm _).nodup_iff.mpr g.nd⟩
theorem Good.take {n : Nat} {rs : List Rep} (g : Good n rs) (k : Nat) : Good n (rs.take k) := ⟨fun r hr => g.ok r (List.mem_of_mem_take hr), by rw [List.map_take]; exact g.nd.sublist (List.take_sublist _ _)⟩
theorem Good.drop {n : Nat} {rs : List Rep} (g : Good n rs) (k : Nat) : Good n (rs.drop k) := ⟨fun r hr => g.ok r (List.mem_of_mem_drop hr), by rw [List.map_drop]; exact g.nd.sublist (List.drop_sublist _ _)⟩
theorem put_free {n : Nat} : ∀ (rs : List Rep) (ls : List Str), Good n rs → (∀ z ∈ ls, Free z) → ∀ z ∈ put ls rs, Free z
  | [], ls, _, h => h
  | r :: rs, ls, g, h => by
    have nd := g.nd
    rw [List.map_cons, List.nodup_cons] at nd
    refine put_free rs _ ⟨fun q hq => g.ok q (List.mem_cons_of_mem _ hq), nd.2⟩ fun z hz => ?_
    rcases List.mem_or_eq_of_mem_set hz with hz | hz
    · exact h z hz
    · rw [hz]
      exact (g.ok r (by simp)).2
theorem put_le {n m : Nat} : ∀ (rs : List Rep) (ls : List Str), (∀ r ∈ rs, r.2.length ≤ m) → (∀ z ∈ ls, z.length ≤ m) → ∀ z ∈ put ls rs, z.length ≤ m
  | [], ls, _, h => h
  | r :: rs, ls, g, h => by
    refine put_le (n := n) rs _ (fun q hq => g q (List.mem_cons_of_mem _ hq)) fun z hz => ?_
    rcases List.mem_or_eq_of_mem_set hz with hz | hz
    · exact h z hz
    · rw [hz]
      exact g r (by simp)
/-- repairs by what stands there -/
def own (ls : List Str) (rs : List Rep) : List Rep := rs.map fun r => (r.1, ls.getD (r.1 - 1).toNat nl)
theorem own_same (n : Nat) : ∀ (rs : List Rep) (ls : List Str), ls.length = n → (∀ r ∈ rs, 1 ≤ r.1 ∧ r.1 ≤ n) → put ls (own ls rs) = ls := by
  intro rs ls hn h
  induction rs with
  | nil => rfl
  | cons r rs ih =>
    have h1 := h r (by simp)
    have e : ls.set (r.1 - 1).toNat (ls.getD (r.1 - 1).toNat nl) = ls := by
      have hl : (r.1 - 1).toNat < ls.length := by omega
      rw [List.getD_eq_getElem?_getD, List.getElem?_eq_getElem hl]
      exact List.set_getElem_self hl
    show put (ls.set _ _) (own ls rs) = ls
    rw [e]
    exact ih fun q hq => h q (List.mem_cons_of_mem _ hq)
theorem own_good {n : Nat} {rs : List Rep} {ls : List Str} (hn : ls.length = n) (g : Good n rs) (f : ∀ z ∈ ls, Free z) : Good n (own ls rs) := by
  refine ⟨fun r hr => ?_, ?_⟩
  · obtain ⟨q, hq, rfl⟩ := List.mem_map.mp hr
    have h1 := (g.ok q hq).1
    refine ⟨h1, f _ ?_⟩
    show ls.getD (q.1 - 1).toNat nl ∈ ls
    have hl : (q.1 - 1).toNat < ls.length := by omega
    rw [List.getD_eq_getElem?_getD, List.getElem?_eq_getElem hl]
    exact List.getElem_mem hl
  · have e : (own ls rs).map (·.1) = rs.map (·.1) := by simp [own]
    rw [e]
    exact g.nd
/-- a repair that makes the list a wrong one -/
def Wrong (n : Nat) (rs : List Rep) (x : Rep) : Prop := ¬ ((1 ≤ x.1 ∧ x.1 ≤ n) ∧ Free x.2) ∨ x.1 ∈ rs.map (·.1)
theorem mend_wrong {ls : List Str} {a b : List Rep} {x : Rep} (h : Wrong ls.length (a ++ b) x) : mend ls [] (a ++ x :: b) = none := by
  rcases h with h | h
  · exact mend_bad a x b ls [] (.inl h)
  · rw [List.map_append] at h
    rcases List.mem_append.mp h with h | h
    · exact mend_bad a x b ls [] (.inr (.inl h))
    · obtain ⟨y, hy, e⟩ := List.mem_map.mp h
      obtain ⟨c, d, rfl⟩ := List.append_of_mem hy
      have : a ++ x :: (c ++ y :: d) = (a ++ x :: c) ++ y :: d := by simp
      rw [this]
      exact mend_bad _ y d ls [] (.inr (.inl (by simp [e])))
theorem mend_twice (ls : List Str) (x : Rep) : mend ls [] [x, x] = none := mend_bad [x] x [] ls [] (.inr (.inl (by simp)))
end K63

set_option Elab.async false
set_option linter.all false
set_option maxRecDepth 100000
set_option maxHeartbeats 4000000
namespace K63
open PySem PySem.Spec PyProof.Rows L2
section
variable {P : Program} {w : World} {K : PySem.W.Frag} {mg : Str → Option Value} {base : Heap}
def SOk (z : Str) : Prop := ∀ c ∈ cs z, c < 0x110000
def Line (z : Str) : Prop := z.length ≤ 9 ∧ Free z ∧ SOk z
theorem signs_ok : SOk (PySem.Str.ofString " !\"#$&'()*+,-./0123456789:;<=>?@ABCDEFGHIJKLMNOPQRSTUVWXYZ[\\]^_`abcdefghijklmnopqrstuvwxyz{|}~") := by
  unfold SOk
  decide +kernel
theorem sok_one {z : Str} {c : Nat} (h : SOk z) (hc : c < 0x110000) : SOk (z ++ ⟨#[c]⟩) := by
  intro x hx
  rw [cs_append] at hx
  rcases List.mem_append.mp hx with hx | hx
  · exact h x hx
  · have : x = c := by simpa [cs] using hx
    rw [this]
    exact hc
abbrev signs : Str := PySem.Str.ofString " !\"#$&'()*+,-./0123456789:;<=>?@ABCDEFGHIJKLMNOPQRSTUVWXYZ[\\]^_`abcdefghijklmnopqrstuvwxyz{|}~"
theorem signs_free : Free signs := by decide +kernel
theorem signs_len : signs.length = 94 := by decide +kernel
theorem free_one {z : Str} {c : Nat} (h : Free z) (hc : c ≠ 10) : Free (z ++ ⟨#[c]⟩) := by
  unfold Free
  rw [cs_append]
  intro e
  rcases List.mem_append.mp e with e | e
  · exact h e
  · have : 10 = c := by simpa [cs] using e
    exact hc this.symm
theorem len_app (a b : Str) : (a ++ b).length = a.length + b.length := by
  show (a.cps ++ b.cps).size = _
  rw [Array.size_append]
  rfl
/-! ### _law_sign_line -/
abbrev s_l_sign_line : Stmt := topS 21
abbrev N_l_sign_line : List Str := ["jar", "signs", "text", "step"]
theorem sc_l_sign_line : FnScope N_l_sign_line ["jar"] (defScope s_l_sign_line) := ⟨rfl, rfl, rfl, by decide +kernel, rfl, by decide +kernel, by decide +kernel⟩
def spSign : Sp := fun vs H Q _ => ∃ j : Addr, vs = [.ref j] ∧ JarAt H j ∧ ∀ z H', Line z → But j H H' → JarAt H' j → Q (.str z) H'
theorem jar_new {H : Hp} {j p : Addr} {o : HO} (h : JarAt H j) (n : H p = none) : JarAt (upd H p o) j := by
  obtain ⟨a, b, c, h⟩ := h
  exact ⟨a, b, c, by rw [upd_ne (ne_of_none h n)]; exact h⟩
theorem jar_ne {H : Hp} {j p : Addr} (h : JarAt H j) (n : H p = none) : p ≠ j := by
  obtain ⟨a, b, c, h⟩ := h
  exact (ne_of_none h n).symm
theorem ok_sign (D : DefTxt K mg "_law_sign_line" s_l_sign_line ["jar"]) (B : Blt mg) (D_l_draw : DefAt P w K mg base 2 "_law_draw" ["jar", "many"] spDraw) (D_l_pick : DefAt P w K mg base 3 "_law_pick" ["jar", "row"] (spPick K)) : DefAt P w K mg base 4 "_law_sign_line" ["jar"] spSign := by
  refine D.ok sc_l_sign_line (fun vs H Q E h => ?_) (fun f cdv A outer s H vs Q E hr h => ?_)
  · obtain ⟨j, rfl, _⟩ := h
    rfl
  · obtain ⟨j, rfl, hj, q⟩ := h
    refine ⟨_, (pss_cons (ps_set (i := 1) sc_l_sign_line.nd rfl (.inl rfl) pe_str)
      (pss_cons (ps_set (i := 2) sc_l_sign_line.nd rfl (.inl rfl) pe_str)
      (pss_cons (ps_for PassesOwn.never rfl (pi_range1 (by rfl) B.n_range (pa_cons (pe_dc D_l_pick (hr.mono (by decide)) (pa_cons (pv 0) (pa_cons (pe_lst (pa_cons pe_int (pa_cons pe_int (pa_cons pe_int (pa_cons pe_int (pa_cons pe_int (pa_cons pe_int pa_nil))))))) pa_nil))) pa_nil)) (pg_name (i := 3) sc_l_sign_line.nd rfl (.inl rfl))
        (pss_one (ps_set (i := 2) sc_l_sign_line.nd rfl (.inl rfl) (pe_op op_add_str (pv 2) (pe_ix ix_str (pv 1) (pe_dc D_l_draw (hr.mono (by decide)) (pa_cons (pv 0) (pa_cons (pe_callB call_len_str (by rfl) B.n_len (by decide +kernel) (pa_cons (pv 1) pa_nil)) pa_nil))) (fun _ _ => rfl))))))
      (pss_one (ps_ret (pv 2)))))), ?_⟩
    refine ⟨_, rfl, (by show 6 ≤ sizeLine; decide), fun l nl => ⟨j, l, _, rfl, jar_new hj nl, RowAt.lst (jar_ne hj nl) upd_same, by simp, by simp, fun v H1 hv b1 j1 => ?_⟩⟩
    have b1' : But j H H1 := ((But.refl j H).new nl).trans b1
    obtain ⟨m, rfl, hm⟩ : ∃ m : Nat, v = .int m ∧ m ≤ 9 := by
      simp only [List.mem_cons, List.not_mem_nil, or_false] at hv
      rcases hv with rfl | rfl | rfl | rfl | rfl | rfl
      · exact ⟨0, rfl, by decide⟩
      · exact ⟨1, rfl, by decide⟩
      · exact ⟨2, rfl, by decide⟩
      · exact ⟨3, rfl, by decide⟩
      · exact ⟨5, rfl, by decide⟩
      · exact ⟨9, rfl, by decide⟩
    refine ⟨m, rfl, by omega, by omega, for_range (lo := 0) (n := (m : Int).toNat) (fun i σ H' => ∃ (z : Str) (y : Option V), σ = [some (.ref j), some (.str signs), some (.str z), y] ∧ Free z ∧ SOk z ∧ z.length ≤ i ∧ i ≤ 9 ∧ But j H H' ∧ JarAt H' j)
      ⟨_, _, rfl, by decide +kernel, by unfold SOk; decide +kernel, by decide +kernel, by decide, b1', j1⟩ (fun i σ H' hi h => ?_) (fun σ H' h => ?_)⟩
    · obtain ⟨z, y, rfl, hf, ho, hz, hi9, b, jr⟩ := h
      refine ⟨_, rfl, _, rfl, _, rfl, _, rfl, signs, rfl, (by rw [signs_len]; decide), j, _, rfl, jr, (by rw [signs_len]; decide), (by rw [signs_len]; decide), fun k H2 k0 k1 b2 j2 => ?_⟩
      obtain ⟨u, rfl⟩ : ∃ u : Nat, k = u := ⟨k.toNat, by omega⟩
      have hu : u < signs.cps.toList.length := by
        rw [Array.length_toList]
        have : signs.cps.size = signs.length := rfl
        omega
      have hmem := List.getElem_mem hu
      refine ⟨signs, _, _, rfl, rfl, (by rw [signs_len]; decide), atI_nat (List.getElem?_eq_getElem hu), _, _, rfl, rfl, ?_, ?_⟩
      · have : (⟨#[signs.cps.toList[u]]⟩ : Str).length = 1 := rfl
        rw [this, sizeLine_eq]
        omega
      · refine ⟨_, _, rfl, free_one hf fun e => signs_free (by rw [← e]; exact hmem), sok_one ho (signs_ok _ hmem), ?_, by omega, b.trans b2, j2⟩
        rw [len_app]
        show z.length + 1 ≤ i + 1
        omega
    · obtain ⟨z, y, rfl, hf, ho, hz, hi9, b, jr⟩ := h
      exact ⟨_, rfl, q z H' ⟨by omega, hf, ho⟩ b jr⟩

/-! ### _law_some_line -/
abbrev s_l_some_line : Stmt := topS 22
abbrev N_l_some_line : List Str := ["jar", "pool"]
theorem sc_l_some_line : FnScope N_l_some_line ["jar", "pool"] (defScope s_l_some_line) := ⟨rfl, rfl, rfl, by decide +kernel, rfl, by decide +kernel, by decide +kernel⟩
def spSome (K : PySem.W.Frag) : Sp := fun vs H Q _ => ∃ (j p : Addr) (zs : List Str), vs = [.ref j, .ref p] ∧ JarAt H j ∧ RowAt K H j p (zs.map V.str) ∧ zs ≠ [] ∧ zs.length ≤ 1000 ∧ (∀ z ∈ zs, Line z) ∧ ∀ z H', Line z → But j H H' → JarAt H' j → Q (.str z) H'
theorem RowAt.go {K : PySem.W.Frag} {H H' : Hp} {j r : Addr} {xs : List V} (h : RowAt K H j r xs) (b : But j H H') : RowAt K H' j r xs := fun _ b' => h _ (b.trans b')
theorem ok_some (D : DefTxt K mg "_law_some_line" s_l_some_line ["jar", "pool"]) (B : Blt mg) (D_l_draw : DefAt P w K mg base 2 "_law_draw" ["jar", "many"] spDraw) (D_l_pick : DefAt P w K mg base 3 "_law_pick" ["jar", "row"] (spPick K))
    (D_l_sign_line : DefAt P w K mg base 4 "_law_sign_line" ["jar"] spSign) : DefAt P w K mg base 5 "_law_some_line" ["jar", "pool"] (spSome K) := by
  refine D.ok sc_l_some_line (fun vs H Q E h => ?_) (fun f cdv A outer s H vs Q E hr h => ?_)
  · obtain ⟨j, p, zs, rfl, _⟩ := h
    rfl
  · obtain ⟨j, p, zs, rfl, hj, hR, hne, hl, hL, q⟩ := h
    refine ⟨_, (pss_cons (ps_if (pt_cmpR op_eq (pe_dc D_l_draw (hr.mono (by decide)) (pa_cons (pv 0) (pa_cons pe_int pa_nil))) pe_int (nomark _))
        (pss_one (ps_ret (pe_dc D_l_pick (hr.mono (by decide)) (pa_cons (pv 0) (pa_cons (pv 1) pa_nil)))))
        pss_nil)
      (pss_one (ps_ret (pe_dc D_l_sign_line (hr.mono (by decide)) (pa_cons (pv 0) pa_nil))))), ?_⟩
    refine ⟨_, rfl, j, _, rfl, hj, by decide, by decide, fun k H1 _ _ b1 j1 => ⟨rfl, _, rfl, ite2 (fun _ => ?_) (fun _ => ?_)⟩⟩
    · refine ⟨_, rfl, _, rfl, j, p, _, rfl, j1, RowAt.go hR b1, by simpa using hne, by rw [List.length_map]; omega, fun v H2 hv b2 j2 => ?_⟩
      obtain ⟨z, hz, rfl⟩ := List.mem_map.mp hv
      exact q z H2 (hL z hz) (b1.trans b2) j2
    · exact ⟨_, rfl, j, rfl, j1, fun z H2 hz b2 j2 => q z H2 hz (b1.trans b2) j2⟩

/-! ### _law_parted -/
abbrev s_l_parted : Stmt := topS 23
abbrev N_l_parted : List Str := ["text", "lines", "sign"]
theorem sc_l_parted : FnScope N_l_parted ["text"] (defScope s_l_parted) := ⟨rfl, rfl, rfl, by decide +kernel, rfl, by decide +kernel, by decide +kernel⟩
def spParted : Sp := fun vs H Q _ => ∃ z : Str, vs = [.str z] ∧ z.length ≤ 10000 ∧ ∀ H' p, Same H H' → H p = none → H' p = some (.lst (((pt (cs z)).map S).map V.str)) → Q (.ref p) H'
theorem pt_more {l : List Nat} {i c : Nat} (h : l[i]? = some c) : pt (l.take (i + 1)) = stp (pt (l.take i)) c := by
  unfold pt
  rw [take_more h, List.foldl_append]
  rfl
theorem pt_len (l : List Nat) : 1 ≤ (pt l).length ∧ (pt l).length ≤ l.length + 1 := by
  have key : ∀ (l : List Nat) (acc : List (List Nat)), 1 ≤ acc.length → 1 ≤ (l.foldl stp acc).length ∧ (l.foldl stp acc).length ≤ l.length + acc.length := by
    intro l
    induction l with
    | nil => intro acc h; exact ⟨h, by simp⟩
    | cons c l ih =>
      intro acc h
      have h2 : (stp acc c).length ≤ acc.length + 1 ∧ 1 ≤ (stp acc c).length := by
        unfold stp
        split
        · simp
        · rw [List.length_set]; omega
      have := ih (stp acc c) h2.2
      rw [List.foldl_cons, List.length_cons]
      omega
  have := key l [[]] (by decide)
  unfold pt
  simpa [Nat.add_comm] using this
theorem pt_sz {m : Nat} (l : List Nat) (hm : l.length ≤ m) : ∀ y ∈ pt l, y.length ≤ m := by
  have key : ∀ (l : List Nat) (acc : List (List Nat)) (k : Nat), (∀ y ∈ acc, y.length ≤ k) → ∀ y ∈ l.foldl stp acc, y.length ≤ k + l.length := by
    intro l
    induction l with
    | nil => intro acc k h; exact h
    | cons c l ih =>
      intro acc k h y hy
      rw [List.foldl_cons] at hy
      have := ih (stp acc c) (k + 1) (fun z hz => ?_) y hy
      · rw [List.length_cons]; omega
      · unfold stp at hz
        split at hz
        · rcases List.mem_append.mp hz with hz | hz
          · have := h z hz; omega
          · rw [List.mem_singleton.mp hz]; simp
        · rcases List.mem_or_eq_of_mem_set hz with hz | hz
          · have := h z hz; omega
          · rw [hz, List.length_append, List.getD_eq_getElem?_getD]
            cases e : acc[acc.length - 1]? with
            | none => simp
            | some x =>
              have := h x (List.mem_of_getElem? e)
              simp only [Option.getD_some, List.length_singleton]
              omega
  intro y hy
  have := key l [[]] 0 (by simp) y hy
  omega
theorem ok_parted (D : DefTxt K mg "_law_parted" s_l_parted ["text"]) (B : Blt mg) : DefAt P w K mg base 1 "_law_parted" ["text"] spParted := by
  refine D.ok sc_l_parted (fun vs H Q E h => ?_) (fun f cdv A outer s H vs Q E hr h => ?_)
  · obtain ⟨z, rfl, _⟩ := h
    rfl
  · obtain ⟨z, rfl, hz, q⟩ := h
    refine ⟨_, (pss_cons (ps_set (i := 1) sc_l_parted.nd rfl (.inl rfl) (pe_lst (pa_cons pe_str pa_nil)))
      (pss_cons (ps_for PassesOwn.never rfl (pi_str (pv 0)) (pg_name (i := 2) sc_l_parted.nd rfl (.inl rfl))
        (pss_one (ps_if (pt_cmpR op_eq (pv 2) pe_str (nomark _))
          (pss_one (ps_expr (pe_bm PySem.F.plainAttrs_list PySem.F.slot_list_append PySem.F.type_list_append mt_append (pv 1) (pa_cons pe_str pa_nil))))
          (pss_one (ps_asg (pe_op op_add_str (pe_ix ix_list (pv 1) (pe_un un_neg pe_int) (fun _ _ => rfl)) (pv 2)) (pg_sub (pv 1) (pe_un un_neg pe_int) set_list))))))
      (pss_one (ps_ret (pv 1))))), ?_⟩
    have hcl : (cs z).length = z.length := by simp [cs, Str.length]
    refine ⟨(by show 1 ≤ sizeLine; decide), fun p np => ⟨_, rfl, z, rfl, for_it walk_str (fun i σ H' => ∃ y : Option V, σ = [some (.str z), some (.ref p), y] ∧ Same H H' ∧ H' p = some (.lst (((pt ((cs z).take i)).map S).map V.str)))
      ⟨_, rfl, (Same.refl H).new np, ?_⟩ (fun _ _ _ _ _ => True.intro) (fun i x σ H1 H2 hi h hy => ?_) (fun σ H' h => ?_)⟩⟩
    · rw [upd_same]
      congr 3
    · obtain ⟨y, rfl, sm, hp⟩ := h
      obtain ⟨rfl, c, hc, rfl⟩ := hy
      have hc' : (cs z)[i]? = some c := by
        show z.cps.toList[i]? = _
        rw [Array.getElem?_toList]
        exact hc
      have more := pt_more hc'
      have ln := pt_len ((cs z).take i)
      have htl : ((cs z).take i).length ≤ z.length := by rw [List.length_take, hcl]; omega
      refine ⟨_, rfl, rfl, _, rfl, ite2 (fun e => ?_) (fun e => ?_)⟩
      · have ec : c = 10 := by
          have e1 := of_decide_eq_true e
          have e2 : (⟨#[c]⟩ : Str) = PySem.Str.ofString "\n" := V.str.inj e1
          have e3 : (PySem.Str.ofString "\n") = ⟨#[10]⟩ := by decide +kernel
          rw [e3] at e2
          have e4 : (#[c] : Array Nat) = #[10] := congrArg Str.cps e2
          simpa using e4
        refine ⟨_, rfl, .inl ⟨rfl, _, SqL.of hp⟩, p, _, _, rfl, rfl, hp, ?_, ?_⟩
        · rw [List.length_map, List.length_map, sizeLine_eq]
          omega
        · refine ⟨_, rfl, sm.mut np, ?_⟩
          rw [upd_same, more]
          unfold stp
          rw [if_pos ec, List.map_append, List.map_append]
          have : (PySem.Str.ofString "") = S [] := by decide +kernel
          rw [this]
          rfl
      · have ec : c ≠ 10 := by
          rintro rfl
          refine e (decide_eq_true ?_)
          have e3 : (PySem.Str.ofString "\n") = ⟨#[10]⟩ := by decide +kernel
          rw [e3]
        obtain ⟨acc, cur, ea⟩ : ∃ acc cur, pt ((cs z).take i) = acc ++ [cur] := by
          have hne : pt ((cs z).take i) ≠ [] := fun e => by rw [e] at ln; simp at ln
          exact ⟨_, _, (List.dropLast_concat_getLast hne).symm⟩
        have hp2 := hp
        rw [ea, List.map_append, List.map_append] at hp2
        have g : atI (((acc.map S).map V.str) ++ (([cur].map S).map V.str)) (-1) = some (.str (S cur)) := atI_last _ _
        have hcur : cur.length ≤ z.length := pt_sz _ htl cur (by rw [ea]; simp)
        refine ⟨_, rfl, 1, rfl, p, _, _, _, rfl, rfl, SqL.of hp2, g, _, rfl, _, _, rfl, rfl, ?_, _, rfl, 1, rfl, p, _, _, acc.length, rfl, rfl, hp2, ?_, ?_⟩
        · have h1 : (S cur).length = cur.length := by simp [S, Str.length]
          have h2 : (⟨#[c]⟩ : Str).length = 1 := rfl
          rw [h1, h2, sizeLine_eq]
          omega
        · unfold ixN
          simp
          omega
        · refine ⟨_, rfl, sm.mut np, ?_⟩
          rw [upd_same, more, ea, stp_on acc cur ec]
          congr 2
          have hl : acc.length = ((acc.map S).map V.str).length := by simp
          rw [hl]
          show (((acc.map S).map V.str) ++ [V.str (S cur)]).set _ _ = _
          rw [set_last, List.map_append, List.map_append]
          congr 2
          show V.str _ = V.str _
          congr 1
          apply str_ext
          rw [cs_append, cs_S, cs_S]
    · obtain ⟨y, rfl, sm, hp⟩ := h
      refine ⟨_, rfl, q H' p sm np ?_⟩
      rw [hp]
      have : z.cps.size = (cs z).length := by simp [cs]
      rw [this, List.take_length]
end
end K63

set_option Elab.async false
set_option linter.all false
set_option maxRecDepth 100000
set_option maxHeartbeats 4000000
namespace K63
open PySem PySem.Spec PyProof.Rows L2
/-- xs are tuples that bear the repairs rs -/
def RepsAt (H : Hp) (xs : List V) (rs : List Rep) : Prop := xs.length = rs.length ∧ ∀ (i : Nat) (x : V), xs[i]? = some x → ∃ (r : Rep) (p : Addr), rs[i]? = some r ∧ x = .ref p ∧ H p = some (.tup [.int r.1, .str r.2])
def KeepT (H H' : Hp) : Prop := ∀ (p : Addr) (xs : List V), H p = some (.tup xs) → H' p = some (.tup xs)
theorem RepsAt.go {H H' : Hp} {xs : List V} {rs : List Rep} (h : RepsAt H xs rs) (k : KeepT H H') : RepsAt H' xs rs := ⟨h.1, fun i x e => by
  obtain ⟨r, p, h1, h2, h3⟩ := h.2 i x e
  exact ⟨r, p, h1, h2, k _ _ h3⟩⟩
theorem keepT_same {H H' : Hp} (s : Same H H') : KeepT H H' := fun p xs h => s _ _ h
theorem keepT_but {H H' : Hp} {j : Addr} {js : List V} (b : But j H H') (hj : H j = some (.lst js)) : KeepT H H' := fun p xs h => b p _ (ne_of h hj (by intro z; cases z)) h
theorem keepT_jar {H H' : Hp} {j : Addr} (b : But j H H') (hj : JarAt H j) : KeepT H H' := by
  obtain ⟨x, y, z, hj⟩ := hj
  exact keepT_but b hj
theorem RepsAt.nil {H : Hp} : RepsAt H [] [] := ⟨rfl, fun i x e => by simp at e⟩
theorem RepsAt.snoc {H : Hp} {xs : List V} {rs : List Rep} {r : Rep} {p : Addr} (h : RepsAt H xs rs) (hp : H p = some (.tup [.int r.1, .str r.2])) : RepsAt H (xs ++ [.ref p]) (rs ++ [r]) := by
  refine ⟨by simp [h.1], fun i x e => ?_⟩
  by_cases hi : i < xs.length
  · rw [List.getElem?_append_left hi] at e
    obtain ⟨q, a, h1, h2, h3⟩ := h.2 i x e
    exact ⟨q, a, by rw [List.getElem?_append_left (by rw [← h.1]; exact hi)]; exact h1, h2, h3⟩
  · rw [List.getElem?_append_right (by omega)] at e
    have : i - xs.length = 0 := by
      cases z : i - xs.length with
      | zero => rfl
      | succ n => rw [z] at e; simp at e
    rw [this] at e
    have ex : V.ref p = x := Option.some.inj e
    refine ⟨r, p, ?_, ex.symm, hp⟩
    rw [List.getElem?_append_right (by rw [← h.1]; omega), ← h.1, this]
    rfl
theorem RepsAt.app {H : Hp} {xs ys : List V} {rs qs : List Rep} (h : RepsAt H xs rs) (h' : RepsAt H ys qs) : RepsAt H (xs ++ ys) (rs ++ qs) := by
  refine ⟨by simp [h.1, h'.1], fun i x e => ?_⟩
  by_cases hi : i < xs.length
  · rw [List.getElem?_append_left hi] at e
    obtain ⟨q, a, h1, h2, h3⟩ := h.2 i x e
    exact ⟨q, a, by rw [List.getElem?_append_left (by rw [← h.1]; exact hi)]; exact h1, h2, h3⟩
  · rw [List.getElem?_append_right (by omega)] at e
    obtain ⟨q, a, h1, h2, h3⟩ := h'.2 _ x e
    exact ⟨q, a, by rw [List.getElem?_append_right (by rw [← h.1]; omega), ← h.1]; exact h1, h2, h3⟩
theorem RepsAt.take {H : Hp} {xs : List V} {rs : List Rep} (h : RepsAt H xs rs) (k : Nat) : RepsAt H (xs.take k) (rs.take k) := by
  refine ⟨by simp [h.1], fun i x e => ?_⟩
  rw [List.getElem?_take] at e
  split at e
  · obtain ⟨q, a, h1, h2, h3⟩ := h.2 i x e
    refine ⟨q, a, ?_, h2, h3⟩
    rw [List.getElem?_take, if_pos (by assumption)]
    exact h1
  · cases e
theorem RepsAt.drop {H : Hp} {xs : List V} {rs : List Rep} (h : RepsAt H xs rs) (k : Nat) : RepsAt H (xs.drop k) (rs.drop k) := by
  refine ⟨by simp [h.1], fun i x e => ?_⟩
  rw [List.getElem?_drop] at e
  obtain ⟨q, a, h1, h2, h3⟩ := h.2 _ x e
  exact ⟨q, a, by rw [List.getElem?_drop]; exact h1, h2, h3⟩
section
variable {P : Program} {w : World} {K : PySem.W.Frag} {mg : Str → Option Value} {base : Heap}
/-! ### _law_put_right -/
abbrev s_l_put_right : Stmt := topS 24
abbrev N_l_put_right : List Str := ["lines", "repairs", "found", "line", "text"]
theorem sc_l_put_right : FnScope N_l_put_right ["lines", "repairs"] (defScope s_l_put_right) := ⟨rfl, rfl, rfl, by decide +kernel, rfl, by decide +kernel, by decide +kernel⟩
def Inn (n : Nat) (rs : List Rep) : Prop := ∀ r ∈ rs, 1 ≤ r.1 ∧ r.1 ≤ n
theorem Good.inn {n : Nat} {rs : List Rep} (g : Good n rs) : Inn n rs := fun r hr => (g.ok r hr).1
def spPut (K : PySem.W.Frag) : Sp := fun vs H Q _ => ∃ (a b : Addr) (ls : List Str) (xs : List V) (rs : List Rep), vs = [.ref a, .ref b] ∧ SqL K H a (ls.map V.str) ∧ (SqL K H b xs ∨ SqT K H b xs) ∧ RepsAt H xs rs ∧ Inn ls.length rs ∧
  ∀ H' p, Same H H' → H p = none → H' p = some (.lst ((put ls rs).map V.str)) → Q (.ref p) H'
theorem put_more {rs : List Rep} {ls : List Str} {i : Nat} {r : Rep} (h : rs[i]? = some r) : put ls (rs.take (i + 1)) = (put ls (rs.take i)).set (r.1 - 1).toNat r.2 := by
  rw [take_more h, put_app]
  rfl
theorem ixN_place {n : Nat} {l : Int} (h : 1 ≤ l ∧ l ≤ n) : ixN n (l - 1) = some (l - 1).toNat := by
  unfold ixN
  rw [if_pos (by omega), if_pos (by omega)]
theorem ok_put (D : DefTxt K mg "_law_put_right" s_l_put_right ["lines", "repairs"]) (B : Blt mg) : DefAt P w K mg base 1 "_law_put_right" ["lines", "repairs"] (spPut K) := by
  refine D.ok sc_l_put_right (fun vs H Q E h => ?_) (fun f cdv A outer s H vs Q E hr h => ?_)
  · obtain ⟨a, b, ls, xs, rs, rfl, _⟩ := h
    rfl
  · obtain ⟨a, b, ls, xs, rs, rfl, ha, hb, hR, hI, q⟩ := h
    rcases hb with hb | hb
    · refine ⟨_, (pss_cons (ps_set (i := 2) sc_l_put_right.nd rfl (.inl rfl) (pe_callTy call_list_of (by rfl) B.n_list (by decide +kernel) (pa_cons (pv 0) pa_nil)))
      (pss_cons (ps_for PassesOwn.never rfl (pi_list (pv 1)) (pg_tup rfl (pgs_cons (pg_name (i := 3) sc_l_put_right.nd rfl (.inl rfl)) (pgs_cons (pg_name (i := 4) sc_l_put_right.nd rfl (.inl rfl)) pgs_nil)))
        (pss_one (ps_asg (pv 4) (pg_sub (pv 2) (pe_op op_sub (pv 3) pe_int) set_list))))
      (pss_one (ps_ret (pv 2))))), ?_⟩
      refine ⟨_, rfl, a, _, rfl, .inl ha, fun p np => ?_⟩
      have s0 : Same H (upd H p (.lst (ls.map V.str))) := (Same.refl H).new np
      refine ⟨_, rfl, b, rfl, ⟨_, s0.seq hb⟩, for_it (walk_list (xs := xs)) (fun i σ H' => ∃ y z : Option V, σ = [some (.ref a), some (.ref b), some (.ref p), y, z] ∧ Same H H' ∧ H' p = some (.lst ((put ls (rs.take i)).map V.str)))
        ⟨_, _, rfl, s0, by rw [upd_same]; rfl⟩ (fun i σ H' _ h => by obtain ⟨_, _, _, sm, _⟩ := h; exact sm.seq hb) (fun i x σ H1 H2 hi h hy => ?_) (fun σ H' h => ?_)⟩
      · obtain ⟨y, z, rfl, sm, hp⟩ := h
        obtain ⟨rfl, hx⟩ := hy
        obtain ⟨r, q0, hr0, rfl, hq0⟩ := hR.2 i x hx
        have hin := hI r (List.mem_of_getElem? hr0)
        refine ⟨q0, _, rfl, SqT.of (sm _ _ hq0), rfl, _, _, rfl, _, _, rfl, rfl, _, rfl, _, rfl, _, rfl, _, _, rfl, rfl, p, _, _, (r.1 - 1).toNat, rfl, rfl, hp, ?_, _, _, rfl, sm.mut np, ?_⟩
        · rw [List.length_map, put_len]
          exact ixN_place hin
        · rw [upd_same, put_more hr0, List.map_set]
      · obtain ⟨y, z, rfl, sm, hp⟩ := h
        refine ⟨_, rfl, q H' p sm np ?_⟩
        rw [hp, hR.1, List.take_length]
    · refine ⟨_, (pss_cons (ps_set (i := 2) sc_l_put_right.nd rfl (.inl rfl) (pe_callTy call_list_of (by rfl) B.n_list (by decide +kernel) (pa_cons (pv 0) pa_nil)))
      (pss_cons (ps_for PassesOwn.never rfl (pi_tup (pv 1)) (pg_tup rfl (pgs_cons (pg_name (i := 3) sc_l_put_right.nd rfl (.inl rfl)) (pgs_cons (pg_name (i := 4) sc_l_put_right.nd rfl (.inl rfl)) pgs_nil)))
        (pss_one (ps_asg (pv 4) (pg_sub (pv 2) (pe_op op_sub (pv 3) pe_int) set_list))))
      (pss_one (ps_ret (pv 2))))), ?_⟩
      refine ⟨_, rfl, a, _, rfl, .inl ha, fun p np => ?_⟩
      have s0 : Same H (upd H p (.lst (ls.map V.str))) := (Same.refl H).new np
      refine ⟨_, rfl, b, rfl, ⟨_, Same.seqT s0 hb⟩, for_it (walk_tup (xs := xs)) (fun i σ H' => ∃ y z : Option V, σ = [some (.ref a), some (.ref b), some (.ref p), y, z] ∧ Same H H' ∧ H' p = some (.lst ((put ls (rs.take i)).map V.str)))
        ⟨_, _, rfl, s0, by rw [upd_same]; rfl⟩ (fun i σ H' _ h => by obtain ⟨_, _, _, sm, _⟩ := h; exact Same.seqT sm hb) (fun i x σ H1 H2 hi h hy => ?_) (fun σ H' h => ?_)⟩
      · obtain ⟨y, z, rfl, sm, hp⟩ := h
        obtain ⟨rfl, hx⟩ := hy
        obtain ⟨r, q0, hr0, rfl, hq0⟩ := hR.2 i x hx
        have hin := hI r (List.mem_of_getElem? hr0)
        refine ⟨q0, _, rfl, SqT.of (sm _ _ hq0), rfl, _, _, rfl, _, _, rfl, rfl, _, rfl, _, rfl, _, rfl, _, _, rfl, rfl, p, _, _, (r.1 - 1).toNat, rfl, rfl, hp, ?_, _, _, rfl, sm.mut np, ?_⟩
        · rw [List.length_map, put_len]
          exact ixN_place hin
        · rw [upd_same, put_more hr0, List.map_set]
      · obtain ⟨y, z, rfl, sm, hp⟩ := h
        refine ⟨_, rfl, q H' p sm np ?_⟩
        rw [hp, hR.1, List.take_length]

/-! ### _law_free_lines -/
abbrev s_l_free_lines : Stmt := topS 26
abbrev N_l_free_lines : List Str := ["lines", "repairs", "taken", "part", "place"]
theorem sc_l_free_lines : FnScope N_l_free_lines ["lines", "repairs"] (defScope s_l_free_lines) := ⟨rfl, rfl, rfl, by decide +kernel, rfl, by decide +kernel, by decide +kernel⟩
def spFree (K : PySem.W.Frag) : Sp := fun vs H Q _ => ∃ (a b : Addr) (ls xs : List V) (rs : List Rep), vs = [.ref a, .ref b] ∧ SqL K H a ls ∧ (SqL K H b xs ∨ SqT K H b xs) ∧ RepsAt H xs rs ∧ ls.length ≤ 1000 ∧ rs.length ≤ 1000 ∧
  ∀ H' p (fs : List Int), Same H H' → H p = none → H' p = some (.lst (fs.map V.int)) → fs.length ≤ 1000 → (∀ f ∈ fs, (1 ≤ f ∧ f ≤ ls.length) ∧ f ∉ rs.map (·.1)) → Q (.ref p) H'
theorem ix_first {x y : V} : atI [x, y] 0 = some x := atI_nat (j := 0) rfl
theorem ix_second {x y : V} : atI [x, y] 1 = some y := atI_nat (j := 1) rfl
theorem inV_ints (x : Int) (l : List Int) : inV (.int x) (l.map V.int) = decide (x ∈ l) := by
  unfold inV
  rw [List.any_map]
  induction l with
  | nil => simp
  | cons y l ih =>
    rw [List.any_cons, ih]
    show (eqV (.int y) (.int x) || _) = _
    have : eqV (.int y) (.int x) = decide (x = y) := by
      show decide (y = x) = _
      simp [eq_comm]
    rw [this]
    simp [List.mem_cons]
theorem flat_ints (l : List Int) : (l.map V.int).all flatV = true := by
  rw [List.all_map]
  simp [flatV]
theorem ok_free (D : DefTxt K mg "_law_free_lines" s_l_free_lines ["lines", "repairs"]) (B : Blt mg) : DefAt P w K mg base 1 "_law_free_lines" ["lines", "repairs"] (spFree K) := by
  refine D.ok sc_l_free_lines (fun vs H Q E h => ?_) (fun f cdv A outer s H vs Q E hr h => ?_)
  · obtain ⟨a, b, ls, xs, rs, rfl, _⟩ := h
    rfl
  · obtain ⟨a, b, ls, xs, rs, rfl, ha, hb, hR, hl, hrl, q⟩ := h
    have fin : ∀ (H1 : Hp) (d : Addr), Same H H1 → H d = none → H1 d = some (.lst ((rs.map (·.1)).map V.int)) →
      tRet (tLc (iRng1 (tCons (tCB (rLenS K) (tCons (tVar 0) tNil)) tNil)) (gName 4) (tTest (tOp (rIn K true) (tOp (rI0 fun i j => .int (i + j)) (tVar 4) (tC (.int 1))) (tVar 2))) (tOp (rI0 fun i j => .int (i + j)) (tVar 4) (tC (.int 1))) [4]) { nx := fun _ H' => Q .non H', rt := Q } [some (.ref a), some (.ref b), some (.ref d), none, none] H1 := fun H1 d sm nd hd => by
      refine ⟨_, rfl, a, ls, rfl, .inl (sm.seq ha), (ls.length : Int), rfl, by omega, by omega, fun p np => lc_range (lo := 0) (n := (ls.length : Int).toNat) (fun i H' => ∃ fs : List Int, Same H1 H' ∧ H' p = some (.lst (fs.map V.int)) ∧ fs.length ≤ i ∧ ∀ f ∈ fs, (1 ≤ f ∧ f ≤ ls.length) ∧ f ∉ rs.map (·.1))
        ⟨[], (Same.refl H1).new np, upd_same, by decide, by simp⟩ (fun i H2 hi h => ?_) (fun H2 h => ?_)⟩
      · obtain ⟨fs, sm2, hp, hfl, hf⟩ := h
        refine ⟨rfl, _, rfl, _, _, rfl, rfl, _, rfl, d, _, rfl, .inl (SqL.of (sm2 _ _ hd)), rfl, flat_ints _, _, rfl, ?_⟩
        rw [inV_ints]
        refine ite2 (fun e => ?_) (fun e => ⟨fs, sm2, hp, by omega, hf⟩)
        refine ⟨_, rfl, _, _, rfl, rfl, _, hp, ?_, fs ++ [0 + (i : Int) + 1], sm2.mut np, ?_, ?_, ?_⟩
        · rw [List.length_map]
          exact small1000 (by omega)
        · rw [upd_same, List.map_append]
          rfl
        · rw [List.length_append, List.length_singleton]
          omega
        · intro f hf'
          rcases List.mem_append.mp hf' with hf' | hf'
          · exact hf f hf'
          · rw [List.mem_singleton.mp hf']
            refine ⟨by omega, fun z => ?_⟩
            have e' : (!decide (0 + (i : Int) + 1 ∈ rs.map (·.1))) = true := e
            rw [decide_eq_true z] at e'
            cases e'
      · obtain ⟨fs, sm2, hp, hfl, hf⟩ := h
        exact q H2 p fs (sm.trans sm2) (sm.free np) hp (by omega) hf
    rcases hb with hb | hb
    · refine ⟨_, (pss_cons (ps_set (i := 2) sc_l_free_lines.nd rfl (.inr rfl) (pe_lc (own := [("part", 3)]) rfl sc_l_free_lines.nd (pi_list (pv 1)) (blkOk_by (N := N_l_free_lines) (sc := defScope s_l_free_lines) (by decide +kernel)) (fun _ _ _ _ _ => pg_name (i := 3) sc_l_free_lines.nd rfl (.inl rfl)) (fun _ _ _ _ _ => pts_nil) (fun _ _ _ _ _ => (pe_ix (ix_tupK K) (pv 3) pe_int (fun _ _ => rfl)))))
      (pss_one (ps_ret (pe_lc (own := [("place", 4)]) rfl sc_l_free_lines.nd (pi_range1 (by rfl) B.n_range (pa_cons (pe_callB call_len_seq (by rfl) B.n_len (by decide +kernel) (pa_cons (pv 0) pa_nil)) pa_nil)) (blkOk_by (N := N_l_free_lines) (sc := defScope s_l_free_lines) (by decide +kernel)) (fun _ _ _ _ _ => pg_name (i := 4) sc_l_free_lines.nd rfl (.inl rfl)) (fun _ _ _ _ _ => (pts_one (pt_cmpR (op_notIn_seqK K) (pe_op op_add (pv 4) pe_int) (pv 2) (by rfl)))) (fun _ _ _ _ _ => (pe_op op_add (pv 4) pe_int)))))), ?_⟩
      refine ⟨_, rfl, b, rfl, ⟨_, hb⟩, fun d nd => lc_it (walk_list (xs := xs)) (fun i H' => Same H H' ∧ H' d = some (.lst (((rs.take i).map (·.1)).map V.int))) ⟨(Same.refl H).new nd, by rw [upd_same]; rfl⟩ (fun i H' _ h => h.1.seq hb) (fun i x H1 H2 hi h hy => ?_) (fun H1 h => ?_)⟩
      · obtain ⟨sm, hd⟩ := h
        obtain ⟨rfl, hx⟩ := hy
        obtain ⟨r, q0, hr0, rfl, hq0⟩ := hR.2 i x hx
        refine ⟨rfl, _, rfl, q0, _, _, _, rfl, rfl, SqT.of (sm _ _ hq0), ix_first, _, hd, ?_, sm.mut nd, ?_⟩
        · simp only [List.length_map, List.length_take]
          exact Nat.lt_of_le_of_lt (Nat.min_le_right _ _) (small1000 hrl)
        · rw [upd_same, take_more hr0, List.map_append, List.map_append]
          rfl
      · obtain ⟨sm, hd⟩ := h
        rw [hR.1, List.take_length] at hd
        exact fin H1 d sm nd hd
    · refine ⟨_, (pss_cons (ps_set (i := 2) sc_l_free_lines.nd rfl (.inr rfl) (pe_lc (own := [("part", 3)]) rfl sc_l_free_lines.nd (pi_tup (pv 1)) (blkOk_by (N := N_l_free_lines) (sc := defScope s_l_free_lines) (by decide +kernel)) (fun _ _ _ _ _ => pg_name (i := 3) sc_l_free_lines.nd rfl (.inl rfl)) (fun _ _ _ _ _ => pts_nil) (fun _ _ _ _ _ => (pe_ix (ix_tupK K) (pv 3) pe_int (fun _ _ => rfl)))))
      (pss_one (ps_ret (pe_lc (own := [("place", 4)]) rfl sc_l_free_lines.nd (pi_range1 (by rfl) B.n_range (pa_cons (pe_callB call_len_seq (by rfl) B.n_len (by decide +kernel) (pa_cons (pv 0) pa_nil)) pa_nil)) (blkOk_by (N := N_l_free_lines) (sc := defScope s_l_free_lines) (by decide +kernel)) (fun _ _ _ _ _ => pg_name (i := 4) sc_l_free_lines.nd rfl (.inl rfl)) (fun _ _ _ _ _ => (pts_one (pt_cmpR (op_notIn_seqK K) (pe_op op_add (pv 4) pe_int) (pv 2) (by rfl)))) (fun _ _ _ _ _ => (pe_op op_add (pv 4) pe_int)))))), ?_⟩
      refine ⟨_, rfl, b, rfl, ⟨_, hb⟩, fun d nd => lc_it (walk_tup (xs := xs)) (fun i H' => Same H H' ∧ H' d = some (.lst (((rs.take i).map (·.1)).map V.int))) ⟨(Same.refl H).new nd, by rw [upd_same]; rfl⟩ (fun i H' _ h => Same.seqT h.1 hb) (fun i x H1 H2 hi h hy => ?_) (fun H1 h => ?_)⟩
      · obtain ⟨sm, hd⟩ := h
        obtain ⟨rfl, hx⟩ := hy
        obtain ⟨r, q0, hr0, rfl, hq0⟩ := hR.2 i x hx
        refine ⟨rfl, _, rfl, q0, _, _, _, rfl, rfl, SqT.of (sm _ _ hq0), ix_first, _, hd, ?_, sm.mut nd, ?_⟩
        · simp only [List.length_map, List.length_take]
          exact Nat.lt_of_le_of_lt (Nat.min_le_right _ _) (small1000 hrl)
        · rw [upd_same, take_more hr0, List.map_append, List.map_append]
          rfl
      · obtain ⟨sm, hd⟩ := h
        rw [hR.1, List.take_length] at hd
        exact fin H1 d sm nd hd
end
end K63

set_option Elab.async false
set_option linter.all false
set_option maxRecDepth 100000
set_option maxHeartbeats 4000000
namespace K63
open PySem PySem.Spec PyProof.Rows L2
section
variable {P : Program} {w : World} {K : PySem.W.Frag} {mg : Str → Option Value} {base : Heap}
/-! ### is_whole -/
abbrev s_whole : Stmt := topS 10
abbrev N_whole : List Str := ["value"]
theorem sc_whole : FnScope N_whole ["value"] (defScope s_whole) := ⟨rfl, rfl, rfl, by decide +kernel, rfl, by decide +kernel, by decide +kernel⟩
def spWhole : Sp := fun vs H Q _ => ∃ n : Int, vs = [.int n] ∧ Q (.bl true) H
theorem ok_whole (D : DefTxt K mg "is_whole" s_whole ["value"]) (B : Blt mg) : DefAt P w K mg base 1 "is_whole" ["value"] spWhole := by
  refine D.ok sc_whole (fun vs H Q E h => ?_) (fun f cdv A outer s H vs Q E hr h => ?_)
  · obtain ⟨n, rfl, _⟩ := h
    rfl
  · obtain ⟨n, rfl, q⟩ := h
    refine ⟨_, (pss_one (ps_ret (pe_and (pe_callB call_isi (by rfl) B.n_isinstance (by decide +kernel) (pa_cons (pv 0) (pa_cons (pe_bltn (v := .ty "int") (by rfl) B.n_int (by decide +kernel) rfl) pa_nil))) (pe_one (pe_not (pe_callB call_isi (by rfl) B.n_isinstance (by decide +kernel) (pa_cons (pv 0) (pa_cons (pe_bltn (v := .ty "bool") (by rfl) B.n_bool (by decide +kernel) rfl) pa_nil)))))))), ?_⟩
    refine ⟨_, rfl, _, _, _, _, true, rfl, .ty _, .base (.int n), kit_ty (by decide +kernel), _, rfl, iteT ?_⟩
    exact ⟨_, rfl, _, _, _, _, false, rfl, .ty _, .base (.int n), kit_ty (by decide +kernel), _, rfl, q⟩
/-! ### lines_of -/
abbrev s_lines : Stmt := topS 12
abbrev N_lines : List Str := ["text"]
theorem sc_lines : FnScope N_lines ["text"] (defScope s_lines) := ⟨rfl, rfl, rfl, by decide +kernel, rfl, by decide +kernel, by decide +kernel⟩
theorem nl_eq : PySem.Str.ofString "\n" = nl := by decide +kernel
def spLinesOf : Sp := fun vs H Q _ => ∃ z : Str, vs = [.str z] ∧ z.length ≤ 100000 ∧ ∀ H' p, Same H H' → H p = none → H' p = some (.tup ((Txt.split z nl).map V.str)) → Q (.ref p) H'
theorem ok_lines (D : DefTxt K mg "lines_of" s_lines ["text"]) (B : Blt mg) : DefAt P w K mg base 1 "lines_of" ["text"] spLinesOf := by
  refine D.ok sc_lines (fun vs H Q E h => ?_) (fun f cdv A outer s H vs Q E hr h => ?_)
  · obtain ⟨n, rfl, _⟩ := h
    rfl
  · obtain ⟨z, rfl, hz, q⟩ := h
    refine ⟨_, (pss_one (ps_ret (pe_callTy call_tuple_of (by rfl) B.n_tuple (by decide +kernel) (pa_cons (pe_split (pv 0) pe_str) pa_nil)))), ?_⟩
    refine ⟨_, rfl, ⟨_, rfl⟩, z, _, rfl, rfl, ?_, ?_, fun l nl' => ⟨l, _, rfl, .inl ⟨SqL.of upd_same, fun p np => ?_⟩⟩⟩
    · rw [nl_eq]
      rfl
    · rw [sizeLine_eq]
      omega
    · rw [nl_eq] at np ⊢
      have s1 : Same H (upd H l (.lst ((Txt.split z nl).map V.str))) := (Same.refl H).new nl'
      exact q _ p (s1.new np) (s1.free np) upd_same
/-! ### is_repair -/
abbrev s_isrep : Stmt := topS 14
abbrev N_isrep : List Str := ["value", "size"]
theorem sc_isrep : FnScope N_isrep ["value", "size"] (defScope s_isrep) := ⟨rfl, rfl, rfl, by decide +kernel, rfl, by decide +kernel, by decide +kernel⟩
def spIsRep : Sp := fun vs H Q _ => ∃ (p : Addr) (n l : Int) (t : Str), vs = [.ref p, .int n] ∧ H p = some (.tup [.int l, .str t]) ∧ Q (.bl (decide ((1 ≤ l ∧ l ≤ n) ∧ Free t))) H
theorem ok_isrep (D : DefTxt K mg "is_repair" s_isrep ["value", "size"]) (B : Blt mg) (D_whole : DefAt P w K mg base 1 "is_whole" ["value"] spWhole) : DefAt P w K mg base 2 "is_repair" ["value", "size"] spIsRep := by
  refine D.ok sc_isrep (fun vs H Q E h => ?_) (fun f cdv A outer s H vs Q E hr h => ?_)
  · obtain ⟨p, n, l, t, rfl, _⟩ := h
    rfl
  · obtain ⟨p, n, l, t, rfl, hp, q⟩ := h
    refine ⟨_, (pss_cons (ps_if ((pw_or (pt_not (pt_val (pe_callB call_isi (by rfl) B.n_isinstance (by decide +kernel) (pa_cons (pv 0) (pa_cons (pe_bltn (v := .ty "tuple") (by rfl) B.n_tuple (by decide +kernel) rfl) pa_nil))))) (pw_or (pt_cmpR op_ne (pe_callB call_len_seq (by rfl) B.n_len (by decide +kernel) (pa_cons (pv 0) pa_nil)) pe_int (nomark _)) (pw_or (pt_not (pt_val (pe_dc D_whole (hr.mono (by decide)) (pa_cons (pe_ix ix_tup (pv 0) pe_int (fun _ _ => rfl)) pa_nil)))) (pw_or1 (pt_not (pt_val (pe_callB call_isi (by rfl) B.n_isinstance (by decide +kernel) (pa_cons (pe_ix ix_tup (pv 0) pe_int (fun _ _ => rfl)) (pa_cons (pe_bltn (v := .ty "str") (by rfl) B.n_str (by decide +kernel) rfl) pa_nil)))))))))).pt
        (pss_one (ps_ret pe_bl))
        pss_nil)
      (pss_one (ps_ret (pe_and (pe_chain op_le op_le pe_int (pe_ix ix_tup (pv 0) pe_int (fun _ _ => rfl)) (pv 1)) (pe_one (pe_cmpR op_notIn_sign pe_str (pe_ix ix_tup (pv 0) pe_int (fun _ _ => rfl)) (by rfl))))))), ?_⟩
    have hT := SqT.of (K := K) hp
    refine ⟨_, rfl, _, _, _, _, true, rfl, .ty _, .base (.tup hp), kit_ty (by decide +kernel), _, rfl, iteF ?_⟩
    refine ⟨_, rfl, p, _, rfl, .inr hT, rfl, _, rfl, iteF ?_⟩
    refine ⟨_, rfl, p, _, _, _, rfl, rfl, hT, ix_first, l, rfl, _, rfl, iteF ?_⟩
    refine ⟨_, rfl, p, _, _, _, rfl, rfl, hT, ix_second, _, _, _, _, true, rfl, .ty _, .base (.str t), kit_ty (by decide +kernel), _, rfl, iteF ?_⟩
    refine ⟨_, rfl, p, _, _, _, rfl, rfl, hT, ix_first, _, _, rfl, rfl, _, rfl, ite2 (fun e1 => ?_) (fun e1 => ?_)⟩
    · have l1 := of_decide_eq_true e1
      refine ⟨_, rfl, _, _, rfl, rfl, _, rfl, ite2 (fun e2 => ?_) (fun e2 => ?_)⟩
      · have l2 := of_decide_eq_true e2
        refine ⟨_, rfl, p, _, _, _, rfl, rfl, hT, ix_second, 10, t, congrArg V.str nl_eq, rfl, ?_⟩
        have : (!decide (10 ∈ t.cps.toList)) = decide ((1 ≤ l ∧ l ≤ n) ∧ Free t) := by
          simp [Free, cs, l1, l2]
        rw [this]
        exact q
      · have : decide ((1 ≤ l ∧ l ≤ n) ∧ Free t) = false := decide_eq_false fun z => e2 (decide_eq_true z.1.2)
        rw [this] at q
        exact q
    · have : decide ((1 ≤ l ∧ l ≤ n) ∧ Free t) = false := decide_eq_false fun z => e1 (decide_eq_true z.1.1)
      rw [this] at q
      exact ⟨_, rfl, iteF q⟩
/-! ### mended -/
abbrev s_mended : Stmt := topS 15
abbrev N_mended : List Str := ["text", "repairs", "lines", "done", "repair"]
theorem sc_mended : FnScope N_mended ["text", "repairs"] (defScope s_mended) := ⟨rfl, rfl, rfl, by decide +kernel, rfl, by decide +kernel, by decide +kernel⟩
def rOne (vs : List V) : Prop := ∃ y : Str, vs = [.str y] ∧ y.length ≤ 1000
def spMended (K : PySem.W.Frag) (CQ : Addr) : Sp := fun vs H Q E => ∃ (b : Addr) (ls : List Str) (xs : List V) (rs : List Rep), vs = [.str (Str.join nl ls), .ref b] ∧ SqT K H b xs ∧ RepsAt H xs rs ∧
  ls ≠ [] ∧ (∀ z ∈ ls, Free z ∧ z.length ≤ 100) ∧ ls.length ≤ 100 ∧ (∀ r ∈ rs, r.2.length ≤ 100) ∧ rs.length ≤ 100 ∧
  (∀ ms, mend ls [] rs = some ms → ∀ H', Same H H' → Q (.str (Str.join nl ms)) H') ∧
  (mend ls [] rs = none → ∀ H' d, Same H H' → H d = none → H' d = some (.xd [("fault", .str "repair")]) → E (.ref CQ) (some d) H')
theorem sum_len {m : Nat} : ∀ ls : List Str, (∀ z ∈ ls, z.length ≤ m) → (ls.map (·.length)).sum ≤ ls.length * m
  | [], _ => by simp
  | z :: ls, h => by
    have h1 := sum_len ls fun y hy => h y (List.mem_cons_of_mem _ hy)
    have h2 := h z (by simp)
    rw [List.map_cons, List.sum_cons, List.length_cons, Nat.add_mul]
    omega
theorem join_sz {ls : List Str} (h : ∀ z ∈ ls, z.length ≤ 100) (hl : ls.length ≤ 100) : (Str.join nl ls).length ≤ 100000 := by
  have h1 := StrLaws.join_length_le nl ls
  have h2 := sum_len ls h
  have h3 : nl.length = 1 := rfl
  rw [h3] at h1
  have : ls.length * 100 ≤ 100 * 100 := Nat.mul_le_mul_right _ hl
  omega
theorem drop_more {α : Type} {l : List α} {i : Nat} {x : α} (h : l[i]? = some x) : l.drop i = x :: l.drop (i + 1) := by
  obtain ⟨hi, e⟩ := List.getElem?_eq_some_iff.mp h
  rw [List.drop_eq_getElem_cons hi, e]
theorem ok_mended {CQ : Addr} (D : DefTxt K mg "mended" s_mended ["text", "repairs"]) (B : Blt mg) (x_BadQuestion : MakesX P w K mg CQ ["fault"] rOne) (g_BadQuestion : mg "BadQuestion" = some (.ref CQ))
    (D_lines : DefAt P w K mg base 1 "lines_of" ["text"] spLinesOf) (D_isrep : DefAt P w K mg base 2 "is_repair" ["value", "size"] spIsRep) : DefAt P w K mg base 4 "mended" ["text", "repairs"] (spMended K CQ) := by
  refine D.okX sc_mended (fun vs H Q E h => ?_) (fun f cdv A outer s H vs Q E hr h => ?_)
  · obtain ⟨b, ls, xs, rs, rfl, _⟩ := h
    rfl
  · obtain ⟨b, ls, xs, rs, rfl, hb, hR, hne, hF, hl, hrl, hrn, hQ, hE⟩ := h
    refine ⟨_, (pss_cons (ps_set (i := 2) sc_mended.nd rfl (.inl rfl) (pe_callTy call_list_of (by rfl) B.n_list (by decide +kernel) (pa_cons (pe_dc D_lines (hr.mono (by decide)) (pa_cons (pv 0) pa_nil)) pa_nil)))
      (pss_cons (ps_set (i := 3) sc_mended.nd rfl (.inl rfl) (pe_lst pa_nil))
      (pss_cons (ps_for PassesOwn.leaving rfl (pi_tup (pv 1)) (pg_name (i := 4) sc_mended.nd rfl (.inl rfl))
        (pss_cons (ps_if ((pw_or (pt_not (pt_val (pe_dc D_isrep (hr.mono (by decide)) (pa_cons (pv 4) (pa_cons (pe_callB call_len_seq (by rfl) B.n_len (by decide +kernel) (pa_cons (pv 2) pa_nil)) pa_nil))))) (pw_or1 (pt_cmpR op_in_seq (pe_ix ix_tup (pv 4) pe_int (fun _ _ => rfl)) (pv 3) (by rfl))))).pt
          (pss_one (ps_raiseX rfl x_BadQuestion g_BadQuestion hr (takes_of rfl rfl rfl rfl) (pa_cons pe_str pa_nil)))
          pss_nil)
        (pss_cons (ps_asg (pe_ix ix_tup (pv 4) pe_int (fun _ _ => rfl)) (pg_sub (pv 2) (pe_op op_sub (pe_ix ix_tup (pv 4) pe_int (fun _ _ => rfl)) pe_int) set_list))
        (pss_one (ps_expr (pe_bm PySem.F.plainAttrs_list PySem.F.slot_list_append PySem.F.type_list_append mt_append (pv 3) (pa_cons (pe_ix ix_tup (pv 4) pe_int (fun _ _ => rfl)) pa_nil)))))))
      (pss_one (ps_ret (pe_join pe_str (pv 2))))))), ?_⟩
    -- lines, done
    refine ⟨_, rfl, _, rfl, join_sz (fun z hz => (hF z hz).2) hl, fun H1 p1 s1 n1 h1 => ⟨p1, _, rfl, .inr (SqT.of h1), fun pL nL => ?_⟩⟩
    rw [split_join hne fun z hz => (hF z hz).1]
    have s2 : Same H (upd H1 pL (.lst (ls.map V.str))) := s1.new nL
    have nL0 : H pL = none := s1.free nL
    refine ⟨(by show 0 ≤ sizeLine; decide), fun pD nD => ?_⟩
    have s3 := s2.new (o := .lst []) nD
    have nD0 : H pD = none := s2.free nD
    have nLD : pL ≠ pD := fun e => by rw [← e, upd_same] at nD; cases nD
    refine ⟨_, rfl, b, rfl, ⟨_, Same.seqT s3 hb⟩, for_it (walk_tup (xs := xs)) (fun i σ H' => ∃ (ls' : List Str) (dn : List Int) (y : Option V), σ = [some (.str (Str.join nl ls)), some (.ref b), some (.ref pL), some (.ref pD), y] ∧ Same H H' ∧ H' pL = some (.lst (ls'.map V.str)) ∧ H' pD = some (.lst (dn.map V.int)) ∧
        mend ls [] rs = mend ls' dn (rs.drop i) ∧ ls'.length = ls.length ∧ (∀ z ∈ ls', z.length ≤ 100) ∧ dn.length ≤ i)
      ⟨ls, [], none, rfl, s3, by rw [upd_ne nLD, upd_same], by rw [upd_same]; rfl, rfl, rfl, fun z hz => (hF z hz).2, by simp⟩ (fun i σ H' _ h => by obtain ⟨_, _, _, _, sm, _⟩ := h; exact Same.seqT sm hb) (fun i x σ Hi H2 hi h hy => ?_) (fun σ H' h => ?_)⟩
    · obtain ⟨ls', dn, y, rfl, sm, hL, hD, hm, hll, hlz, hdl⟩ := h
      obtain ⟨rfl, hx⟩ := hy
      obtain ⟨r, q0, hr0, rfl, hq0⟩ := hR.2 i x hx
      have hq := sm _ _ hq0
      have hT := SqT.of (K := K) hq
      rw [drop_more hr0, show mend ls' dn (r :: rs.drop (i + 1)) = if ((1 ≤ r.1 ∧ r.1 ≤ ls'.length) ∧ Free r.2) ∧ r.1 ∉ dn then mend (ls'.set (r.1 - 1).toNat r.2) (dn ++ [r.1]) (rs.drop (i + 1)) else none from rfl] at hm
      have raise : ¬ (((1 ≤ r.1 ∧ r.1 ≤ ls'.length) ∧ Free r.2) ∧ r.1 ∉ dn) → ∀ d, H2 d = none → E (.ref CQ) (some d) (upd H2 d (.xd ((["fault"] : List Str).zip [V.str (PySem.Str.ofString "repair")]))) := fun e d nd => by
        rw [if_neg e] at hm
        exact hE hm _ d (sm.new nd) (sm.free nd) upd_same
      refine ⟨_, rfl, _, rfl, pL, _, rfl, .inl (SqL.of hL), q0, _, r.1, r.2, rfl, hq, _, rfl, ?_⟩
      have eln : ((ls'.map V.str).length : Int) = (ls'.length : Int) := by rw [List.length_map]
      refine ite2 (fun e => ?_) (fun e => ?_)
      · -- no repair
        have e' : ¬ ((1 ≤ r.1 ∧ r.1 ≤ ((ls'.map V.str).length : Int)) ∧ Free r.2) := by
          intro z
          rw [decide_eq_true z] at e
          cases e
        refine ⟨⟨_, rfl, by decide +kernel⟩, raise fun z => e' ?_⟩
        rw [eln]
        exact z.1
      · have e' : (1 ≤ r.1 ∧ r.1 ≤ (ls'.length : Int)) ∧ Free r.2 := by
          rw [eln] at e
          by_cases z : (1 ≤ r.1 ∧ r.1 ≤ (ls'.length : Int)) ∧ Free r.2
          · exact z
          · rw [decide_eq_false z] at e
            exact absurd rfl e
        refine ⟨_, rfl, q0, _, _, _, rfl, rfl, hT, ix_first, _, rfl, pD, _, rfl, .inl (SqL.of hD), rfl, flat_ints _, _, rfl, ?_⟩
        refine ite2 (fun e2 => ?_) (fun e2 => ?_)
        · refine ⟨⟨_, rfl, by decide +kernel⟩, raise fun z => z.2 ?_⟩
          have e3 : inV (.int r.1) (dn.map V.int) = true := e2
          rw [inV_ints] at e3
          exact of_decide_eq_true e3
        · have nin : r.1 ∉ dn := fun z => e2 (by
            show inV (.int r.1) (dn.map V.int) = true
            rw [inV_ints]
            exact decide_eq_true z)
          rw [if_pos ⟨e', nin⟩] at hm
          refine ⟨_, rfl, q0, _, _, _, rfl, rfl, hT, ix_second, _, rfl, _, rfl, q0, _, _, _, rfl, rfl, hT, ix_first, _, _, rfl, rfl, pL, _, _, (r.1 - 1).toNat, rfl, rfl, hL, ?_, ?_⟩
          · rw [List.length_map]
            exact ixN_place e'.1
          · have sm2 := sm.mut (o := .lst ((ls'.map V.str).set (r.1 - 1).toNat (.str r.2))) nL0
            have hD2 : upd H2 pL (.lst ((ls'.map V.str).set (r.1 - 1).toNat (.str r.2))) pD = some (.lst (dn.map V.int)) := by rw [upd_ne nLD.symm]; exact hD
            refine ⟨_, rfl, .inl ⟨rfl, _, SqL.of hD2⟩, _, rfl, q0, _, _, _, rfl, rfl, SqT.of (sm2 _ _ hq0), ix_first, pD, _, _, rfl, rfl, hD2, ?_, ?_⟩
            · rw [List.length_map]
              refine small1000 ?_
              have : i < rs.length := by rw [← hR.1]; exact hi
              omega
            · refine ⟨ls'.set (r.1 - 1).toNat r.2, dn ++ [r.1], _, rfl, sm2.mut nD0, ?_, ?_, hm, by rw [List.length_set, hll], fun z hz => ?_, by rw [List.length_append, List.length_singleton]; omega⟩
              · rw [upd_ne nLD, upd_same, List.map_set]
              · rw [upd_same, List.map_append]
                rfl
              · rcases List.mem_or_eq_of_mem_set hz with hz | hz
                · exact hlz z hz
                · rw [hz]
                  exact hrl r (List.mem_of_getElem? hr0)
    · obtain ⟨ls', dn, y, rfl, sm, hL, hD, hm, hll, hlz, hdl⟩ := h
      rw [hR.1, List.drop_length] at hm
      refine ⟨⟨_, rfl⟩, _, rfl, _, pL, ls', rfl, rfl, .inl (SqL.of hL), ?_, ?_⟩
      · have h1 := sum_len ls' hlz
        have h2 : (PySem.Str.ofString "\n").length = 1 := by decide +kernel
        have h3 : ls'.length * 100 ≤ 100 * 100 := Nat.mul_le_mul_right _ (by omega)
        rw [h2]
        omega
      · rw [nl_eq, show Txt.join nl ls' = Str.join nl ls' from StrLaws.glued_eq_join nl ls']
        exact hQ ls' hm H' sm
end
end K63

set_option Elab.async false
set_option linter.all false
set_option maxRecDepth 100000
set_option maxHeartbeats 4000000
namespace K63
open PySem PySem.Spec PyProof.Rows L2
section
variable {P : Program} {w : World} {K : PySem.W.Frag} {mg : Str → Option Value} {base : Heap}
/-! ### _law_repairs_of -/
abbrev s_l_repairs_of : Stmt := topS 28
abbrev N_l_repairs_of : List Str := ["jar", "lines", "pool", "repairs", "step", "free", "line", "text"]
theorem sc_l_repairs_of : FnScope N_l_repairs_of ["jar", "lines", "pool"] (defScope s_l_repairs_of) := ⟨rfl, rfl, rfl, by decide +kernel, rfl, by decide +kernel, by decide +kernel⟩
-- slots: 0 jar, 1 lines, 2 pool, 3 repairs, 4 step, 5 free, 6 line, 7 text
def spReps (K : PySem.W.Frag) : Sp := fun vs H Q _ => ∃ (j a p : Addr) (ls zs : List Str), vs = [.ref j, .ref a, .ref p] ∧ JarAt H j ∧ a ≠ j ∧ H a = some (.lst (ls.map V.str)) ∧ ls.length ≤ 100 ∧ (∀ z ∈ ls, Line z) ∧ p ≠ j ∧ H p = some (.lst (zs.map V.str)) ∧ zs ≠ [] ∧ zs.length ≤ 100 ∧ (∀ z ∈ zs, Line z) ∧
  ∀ (rs : List Rep) (xs : List V) (r : Addr) H', Good ls.length rs → rs.length ≤ 4 → (∀ q ∈ rs, Line q.2) → But j H H' → JarAt H' j → H r = none → H' r = some (.lst xs) → RepsAt H' xs rs → Q (.ref r) H'
theorem ok_reps (D : DefTxt K mg "_law_repairs_of" s_l_repairs_of ["jar", "lines", "pool"]) (B : Blt mg) (D_l_draw : DefAt P w K mg base 2 "_law_draw" ["jar", "many"] spDraw) (D_l_pick : DefAt P w K mg base 3 "_law_pick" ["jar", "row"] (spPick K))
    (D_l_free_lines : DefAt P w K mg base 1 "_law_free_lines" ["lines", "repairs"] (spFree K)) (D_l_some_line : DefAt P w K mg base 5 "_law_some_line" ["jar", "pool"] (spSome K)) : DefAt P w K mg base 6 "_law_repairs_of" ["jar", "lines", "pool"] (spReps K) := by
  refine D.ok sc_l_repairs_of (fun vs H Q E h => ?_) (fun f cdv A outer s H vs Q E hr h => ?_)
  · obtain ⟨j, a, p, ls, zs, rfl, _⟩ := h
    rfl
  · obtain ⟨j, a, p, ls, zs, rfl, hj, naj, ha, hl, hL, npj, hp, hz, hzl, hZ, q⟩ := h
    refine ⟨_, (pss_cons (ps_set (i := 3) sc_l_repairs_of.nd rfl (.inl rfl) (pe_lst pa_nil))
      (pss_cons (ps_for PassesOwn.never rfl (pi_range1 (by rfl) B.n_range (pa_cons (pe_dc D_l_draw (hr.mono (by decide)) (pa_cons (pv 0) (pa_cons pe_int pa_nil))) pa_nil)) (pg_name (i := 4) sc_l_repairs_of.nd rfl (.inl rfl))
        (pss_cons (ps_set (i := 5) sc_l_repairs_of.nd rfl (.inl rfl) (pe_dc D_l_free_lines (hr.mono (by decide)) (pa_cons (pv 1) (pa_cons (pv 3) pa_nil))))
        (pss_one (ps_if (pt_truth (pv 5) (by intro _; rfl))
          (pss_cons (ps_set (i := 6) sc_l_repairs_of.nd rfl (.inl rfl) (pe_dc D_l_pick (hr.mono (by decide)) (pa_cons (pv 0) (pa_cons (pv 5) pa_nil))))
          (pss_cons (ps_set (i := 7) sc_l_repairs_of.nd rfl (.inl rfl) (pe_ifExp (pt_cmpR op_eq (pe_dc D_l_draw (hr.mono (by decide)) (pa_cons (pv 0) (pa_cons pe_int pa_nil))) pe_int (nomark _)) (pe_ix ix_list (pv 1) (pe_op op_sub (pv 6) pe_int) (fun _ _ => rfl)) (pe_dc D_l_some_line (hr.mono (by decide)) (pa_cons (pv 0) (pa_cons (pv 2) pa_nil)))))
          (pss_one (ps_expr (pe_bm PySem.F.plainAttrs_list PySem.F.slot_list_append PySem.F.type_list_append mt_append (pv 3) (pa_cons (pe_tup (pa_cons (pv 6) (pa_cons (pv 7) pa_nil))) pa_nil))))))
          pss_nil))))
      (pss_one (ps_ret (pv 3))))), ?_⟩
    refine ⟨(by show 0 ≤ sizeLine; decide), fun r nr => ?_⟩
    have b0 : But j H (upd H r (.lst [])) := (But.refl j H).new nr
    have nrj := jar_ne hj nr
    refine ⟨_, rfl, j, _, rfl, jar_new hj nr, by decide, by decide, fun k H1 k0 k1 b1 j1 => ?_⟩
    have b1' := b0.trans b1
    have hr1 : H1 r = some (.lst []) := b1 r _ nrj upd_same
    refine ⟨k, rfl, by omega, by omega, for_range (lo := 0) (n := k.toNat) (fun i σ H' => ∃ (xs : List V) (rs : List Rep) (y4 y5 y6 y7 : Option V), σ = [some (.ref j), some (.ref a), some (.ref p), some (.ref r), y4, y5, y6, y7] ∧ But j H H' ∧ JarAt H' j ∧ H' r = some (.lst xs) ∧ RepsAt H' xs rs ∧ Good ls.length rs ∧ rs.length ≤ i ∧ (∀ q ∈ rs, Line q.2))
      ⟨[], [], _, _, _, _, rfl, b1', j1, hr1, .nil, ⟨by simp, by simp⟩, by simp, by simp⟩ (fun i σ H' hi h => ?_) (fun σ H' h => ?_)⟩
    · obtain ⟨xs, rs, y4, y5, y6, y7, rfl, b, jr, hr', hR, hG, hrl, hr9⟩ := h
      refine ⟨_, rfl, _, rfl, a, r, _, xs, rs, rfl, SqL.of (b a _ naj ha), .inl (SqL.of hr'), hR, by rw [List.length_map]; omega, by omega, fun H2 pf fs s2 nf hf hfl hfs => ?_⟩
      refine ⟨_, rfl, _, .inl ⟨_, SqL.of hf, rfl⟩, ite2 (fun e => ?_) (fun e => ?_)⟩
      · have hne : fs ≠ [] := by
          rintro rfl
          cases e
        have j2 : JarAt H2 j := by
          obtain ⟨x, y, z, h⟩ := jr
          exact ⟨x, y, z, s2 _ _ h⟩
        have npf := jar_ne jr nf
        have b2 : But j H H2 := b.trans s2.but
        have hr2 := s2 _ _ hr'
        refine ⟨_, rfl, _, rfl, j, pf, _, rfl, j2, RowAt.lst npf hf, by simpa using hne, by rw [List.length_map]; omega, fun v H3 hv b3 j3 => ?_⟩
        obtain ⟨l, hlm, rfl⟩ := List.mem_map.mp hv
        obtain ⟨lin, lnew⟩ := hfs l hlm
        rw [List.length_map] at lin
        have b3' := b2.trans b3
        have hr3 := b3 r _ nrj hr2
        have hR3 : RepsAt H3 xs rs := (hR.go (keepT_same s2)).go (keepT_jar b3 j2)
        refine ⟨_, rfl, j, _, rfl, j3, by decide, by decide, fun c H4 c0 c1 b4 j4 => ⟨rfl, _, rfl, ?_⟩⟩
        have b4' := b3'.trans b4
        have hr4 := b4 r _ nrj hr3
        have hR4 : RepsAt H4 xs rs := hR3.go (keepT_jar b4 j3)
        have fin : ∀ (D : Ends) (hD : ∀ σ H', (∃ (xs : List V) (rs : List Rep) (y4 y5 y6 y7 : Option V), σ = [some (.ref j), some (.ref a), some (.ref p), some (.ref r), y4, y5, y6, y7] ∧ But j H H' ∧ JarAt H' j ∧ H' r = some (.lst xs) ∧ RepsAt H' xs rs ∧ Good ls.length rs ∧ rs.length ≤ i + 1 ∧ (∀ q ∈ rs, Line q.2)) → D.nx σ H') (t : Str) (H5 : Hp), Line t → But j H4 H5 → JarAt H5 j →
            tDrop (tBM K "list" rAppend (tVar 3) (tCons (tTup (tCons (tVar 6) (tCons (tVar 7) tNil))) tNil)) D
              [some (.ref j), some (.ref a), some (.ref p), some (.ref r), some (.int (0 + (i : Int))), some (.ref pf), some (.int l), some (.str t)] H5 := fun D hD t H5 ht b5 j5 => by
          have hr5 := b5 r _ nrj hr4
          have hR5 : RepsAt H5 xs rs := hR4.go (keepT_jar b5 j4)
          refine ⟨_, rfl, .inl ⟨rfl, _, SqL.of hr5⟩, _, rfl, _, rfl, (by show 2 ≤ sizeLine; decide), fun q0 nq => ?_⟩
          have nrq : r ≠ q0 := ne_of_none hr5 nq
          have kq : Same H5 (upd H5 q0 (.tup [.int l, .str t])) := (Same.refl H5).new nq
          refine ⟨r, _, _, rfl, rfl, kq _ _ hr5, small1000 (by rw [hR5.1]; omega), hD _ _ ⟨xs ++ [.ref q0], rs ++ [(l, t)], _, _, _, _, rfl, ?_, ?_, upd_same, ?_, ?_, ?_, ?_⟩⟩
          · intro c o n h
            by_cases hc : c = r
            · rw [hc] at h
              rw [nr] at h
              cases h
            · rw [upd_ne hc]
              exact kq _ _ (b5 c o n (b4' c o n h))
          · obtain ⟨x, y, z, h⟩ := j5
            exact ⟨x, y, z, by rw [upd_ne nrj.symm]; exact kq _ _ h⟩
          · refine (RepsAt.snoc (r := (l, t)) (hR5.go (keepT_same kq)) upd_same).go fun c ys h => ?_
            rw [upd_ne (ne_of h (kq _ _ hr5) (by intro z; cases z))]
            exact h
          · refine ⟨fun q hq => ?_, ?_⟩
            · rcases List.mem_append.mp hq with hq | hq
              · exact hG.ok q hq
              · rw [List.mem_singleton.mp hq]
                exact ⟨lin, ht.2.1⟩
            · rw [List.map_append, List.nodup_append]
              refine ⟨hG.nd, by simp, fun x hx y hy => ?_⟩
              have : y = l := by simpa using hy
              rw [this]
              rintro rfl
              exact lnew hx
          · rw [List.length_append, List.length_singleton]
            omega
          · intro q hq
            rcases List.mem_append.mp hq with hq | hq
            · exact hr9 q hq
            · rw [List.mem_singleton.mp hq]
              exact ht
        refine ite2 (fun _ => ?_) (fun _ => ?_)
        · have ha4 := b4' a _ naj ha
          have hlt : (l - 1).toNat < ls.length := by omega
          have g : atI (ls.map V.str) (l - 1) = some (.str ls[(l - 1).toNat]) := at_of (j := (l - 1).toNat) (by omega) (by rw [List.getElem?_map, List.getElem?_eq_getElem hlt]; rfl)
          exact ⟨_, rfl, _, rfl, _, _, rfl, rfl, a, _, _, _, rfl, rfl, SqL.of ha4, g, fin _ (fun _ _ h => h) _ H4 (hL _ (List.getElem_mem hlt)) (But.refl j H4) j4⟩
        · refine ⟨_, rfl, _, rfl, j, p, zs, rfl, j4, RowAt.lst npj (b4' p _ npj hp), hz, by omega, hZ, fun t H5 ht b5 j5 => fin _ (fun _ _ h => h) t H5 ht b5 j5⟩
      · exact ⟨xs, rs, _, _, _, _, rfl, b.trans s2.but, (by obtain ⟨x, y, z, h⟩ := jr; exact ⟨x, y, z, s2 _ _ h⟩), s2 _ _ hr', hR.go (keepT_same s2), hG, by omega, hr9⟩
    · obtain ⟨xs, rs, y4, y5, y6, y7, rfl, b, jr, hr', hR, hG, hrl, hr9⟩ := h
      exact ⟨_, rfl, q rs xs r H' hG (by omega) hr9 b jr nr hr' hR⟩
end
end K63

set_option Elab.async false
set_option linter.all false
set_option maxRecDepth 100000
set_option maxHeartbeats 4000000
namespace K63
open PySem PySem.Spec PyProof.Rows L2
section
variable {P : Program} {w : World} {K : PySem.W.Frag} {mg : Str → Option Value} {base : Heap}
/-! ### _law_wrong_one -/
abbrev s_l_wrong_one : Stmt := topS 27
abbrev N_l_wrong_one : List Str := ["jar", "lines", "repairs", "way", "fresh", "same", "free", "text"]
theorem sc_l_wrong_one : FnScope N_l_wrong_one ["jar", "lines", "repairs"] (defScope s_l_wrong_one) := ⟨rfl, rfl, rfl, by decide +kernel, rfl, by decide +kernel, by decide +kernel⟩
-- slots: 0 jar, 1 lines, 2 repairs, 3 way, 4 fresh, 5 same, 6 free, 7 text
def spWrong (K : PySem.W.Frag) : Sp := fun vs H Q _ => ∃ (j a b : Addr) (ls : List Str) (xs : List V) (rs : List Rep), vs = [.ref j, .ref a, .ref b] ∧ JarAt H j ∧ a ≠ j ∧ H a = some (.lst (ls.map V.str)) ∧ ls.length ≤ 100 ∧ SqT K H b xs ∧ RepsAt H xs rs ∧ rs.length ≤ 100 ∧ (∀ q ∈ rs, q.2.length ≤ 9) ∧
  ∀ (l : Int) (t : Str) (q : Addr) H', Wrong ls.length rs (l, t) → t.length ≤ 100 → But j H H' → JarAt H' j → H q = none → H' q = some (.tup [.int l, .str t]) → Q (.ref q) H'
theorem jar_same {H H' : Hp} {j : Addr} (h : JarAt H j) (s : Same H H') : JarAt H' j := by
  obtain ⟨x, y, z, h⟩ := h
  exact ⟨x, y, z, s _ _ h⟩
theorem seqT_jar {H H' : Hp} {j b : Addr} {xs : List V} (hj : JarAt H j) (bt : But j H H') (h : SqT K H b xs) : SqT K H' b xs := by
  obtain ⟨x, y, z, hj⟩ := hj
  rcases h with (h | ⟨o, h⟩) | h
  · exact .inl (.inl (bt _ _ (ne_of h hj (by intro z; cases z)) h))
  · exact .inl (.inr ⟨o, bt _ _ (ne_of h hj (by intro z; cases z)) h⟩)
  · exact .inr h
theorem ok_wrong (D : DefTxt K mg "_law_wrong_one" s_l_wrong_one ["jar", "lines", "repairs"]) (B : Blt mg) (D_l_draw : DefAt P w K mg base 2 "_law_draw" ["jar", "many"] spDraw) (D_l_pick : DefAt P w K mg base 3 "_law_pick" ["jar", "row"] (spPick K))
    (D_l_free_lines : DefAt P w K mg base 1 "_law_free_lines" ["lines", "repairs"] (spFree K)) (D_l_sign_line : DefAt P w K mg base 4 "_law_sign_line" ["jar"] spSign) : DefAt P w K mg base 6 "_law_wrong_one" ["jar", "lines", "repairs"] (spWrong K) := by
  refine D.ok sc_l_wrong_one (fun vs H Q E h => ?_) (fun f cdv A outer s H vs Q E hr h => ?_)
  · obtain ⟨j, a, b, ls, xs, rs, rfl, _⟩ := h
    rfl
  · obtain ⟨j, a, b, ls, xs, rs, rfl, hj, naj, ha, hl, hb, hR, hrl, hr9, q⟩ := h
    refine ⟨_, (pss_cons (ps_set (i := 3) sc_l_wrong_one.nd rfl (.inl rfl) (pe_dc D_l_draw (hr.mono (by decide)) (pa_cons (pv 0) (pa_cons pe_int pa_nil))))
      (pss_cons (ps_set (i := 4) sc_l_wrong_one.nd rfl (.inl rfl) (pe_dc D_l_sign_line (hr.mono (by decide)) (pa_cons (pv 0) pa_nil)))
      (pss_cons (ps_if ((pw_and (pt_cmpR op_eq (pv 3) pe_int (nomark _)) (pw_and1 (pt_truth (pv 2) (by intro _; rfl))))).pt
        (pss_cons (ps_set (i := 5) sc_l_wrong_one.nd rfl (.inl rfl) (pe_dc D_l_pick (hr.mono (by decide)) (pa_cons (pv 0) (pa_cons (pv 2) pa_nil))))
        (pss_one (ps_ret (pe_tup (pa_cons (pe_ix ix_tup (pv 5) pe_int (fun _ _ => rfl)) (pa_cons (pe_dc D_l_pick (hr.mono (by decide)) (pa_cons (pv 0) (pa_cons (pe_lst (pa_cons (pe_ix ix_tup (pv 5) pe_int (fun _ _ => rfl)) (pa_cons (pv 4) pa_nil))) pa_nil))) pa_nil))))))
        pss_nil)
      (pss_cons (ps_if (pt_cmpR op_eq (pv 3) pe_int (nomark _))
        (pss_one (ps_ret (pe_tup (pa_cons pe_int (pa_cons (pv 4) pa_nil)))))
        pss_nil)
      (pss_cons (ps_if (pt_cmpR op_eq (pv 3) pe_int (nomark _))
        (pss_one (ps_ret (pe_tup (pa_cons (pe_op op_add (pe_callB call_len_seq (by rfl) B.n_len (by decide +kernel) (pa_cons (pv 1) pa_nil)) pe_int) (pa_cons (pv 4) pa_nil)))))
        pss_nil)
      (pss_cons (ps_if (pt_cmpR op_eq (pv 3) pe_int (nomark _))
        (pss_one (ps_ret (pe_tup (pa_cons (pe_dc D_l_pick (hr.mono (by decide)) (pa_cons (pv 0) (pa_cons (pe_lst (pa_cons (pe_un un_neg pe_int) (pa_cons (pe_un un_neg (pe_callB call_len_seq (by rfl) B.n_len (by decide +kernel) (pa_cons (pv 1) pa_nil))) (pa_cons (pe_op op_add (pe_callB call_len_seq (by rfl) B.n_len (by decide +kernel) (pa_cons (pv 1) pa_nil)) pe_int) (pa_cons (pe_op op_pow pe_int pe_int) pa_nil))))) pa_nil))) (pa_cons (pv 4) pa_nil)))))
        pss_nil)
      (pss_cons (ps_set (i := 6) sc_l_wrong_one.nd rfl (.inl rfl) (pe_dc D_l_free_lines (hr.mono (by decide)) (pa_cons (pv 1) (pa_cons (pv 2) pa_nil))))
      (pss_cons (ps_set (i := 7) sc_l_wrong_one.nd rfl (.inl rfl) (pe_op op_add_str (pe_op op_add_str (pv 4) pe_str) (pe_dc D_l_pick (hr.mono (by decide)) (pa_cons (pv 0) (pa_cons (pe_lst (pa_cons pe_str (pa_cons pe_str (pa_cons pe_str pa_nil)))) pa_nil)))))
      (pss_cons (ps_if (pt_truth (pv 6) (by intro _; rfl))
        (pss_one (ps_ret (pe_tup (pa_cons (pe_dc D_l_pick (hr.mono (by decide)) (pa_cons (pv 0) (pa_cons (pv 6) pa_nil))) (pa_cons (pv 7) pa_nil)))))
        pss_nil)
      (pss_one (ps_ret (pe_tup (pa_cons pe_int (pa_cons (pv 7) pa_nil)))))))))))))), ?_⟩
    refine ⟨_, rfl, j, _, rfl, hj, by decide, by decide, fun w H1 _ _ b1 j1 => ⟨_, rfl, j, rfl, j1, fun z H2 hz b2 j2 => ?_⟩⟩
    have bb := b1.trans b2
    have hb2 := seqT_jar hj bb hb
    have ha2 := bb a _ naj ha
    have hR2 : RepsAt H2 xs rs := (hR.go (keepT_jar b1 hj)).go (keepT_jar b2 j1)
    have fin : ∀ (l : Int) (t : Str) (q0 : Addr) (H3 : Hp), Wrong ls.length rs (l, t) → t.length ≤ 100 → But j H H3 → JarAt H3 j → H3 q0 = none → Q (.ref q0) (upd H3 q0 (.tup [.int l, .str t])) := fun l t q0 H3 hw ht b3 j3 nq =>
      q l t q0 _ hw ht (b3.new nq) (jar_new j3 nq) (b3.back (jar_ne j3 nq) nq) upd_same
    have z100 : z.length ≤ 100 := by have := hz.1; omega
    have two : 2 ≤ sizeLine := by decide
    refine ⟨_, rfl, rfl, _, rfl, ite2 (fun e0 => ⟨_, rfl, _, .inr (.inl ⟨_, hb2, rfl⟩), ite2 (fun e1 => ?_) (fun e1 => ?_)⟩) (fun e0 => ?_)⟩
    · · have hne : xs ≠ [] := by
          rintro rfl
          cases e1
        refine ⟨_, rfl, _, rfl, j, b, _, rfl, j2, (fun _ b' => .inr (seqT_jar j2 b' hb2)), hne, by rw [hR.1]; omega, fun v H3 hv b3 j3 => ?_⟩
        obtain ⟨i, hi, ei⟩ := List.mem_iff_getElem.mp hv
        obtain ⟨r, p0, hr0, rfl, hp0⟩ := hR2.2 i v (by rw [List.getElem?_eq_getElem hi, ei])
        have hrm := List.mem_of_getElem? hr0
        have hp3 : H3 p0 = some (.tup [.int r.1, .str r.2]) := keepT_jar b3 j2 _ _ hp0
        refine ⟨_, rfl, p0, _, _, _, rfl, rfl, SqT.of hp3, ix_first, _, rfl, _, rfl, p0, _, _, _, rfl, rfl, SqT.of hp3, ix_second, _, rfl, two, fun m nm => ?_⟩
        refine ⟨j, m, _, rfl, jar_new j3 nm, RowAt.lst (jar_ne j3 nm) upd_same, by simp, by simp, fun v H4 hv b4 j4 => ⟨two, fun q0 nq => ?_⟩⟩
        have b4' := (bb.trans b3).trans (((But.refl j H3).new nm).trans b4)
        have wr : ∀ t, Wrong ls.length rs (r.1, t) := fun t => .inr (List.mem_map.mpr ⟨r, hrm, rfl⟩)
        simp only [List.mem_cons, List.not_mem_nil, or_false] at hv
        rcases hv with rfl | rfl
        · exact fin _ _ q0 H4 (wr _) (by have := hr9 r hrm; omega) b4' j4 nq
        · exact fin _ _ q0 H4 (wr _) z100 b4' j4 nq
    all_goals
      clear e0
      try clear e1
      have ll : ((ls.map V.str).length : Int) = (ls.length : Int) := by rw [List.length_map]
      have hLa := SqL.of (K := K) ha2
      have out : ∀ l : Int, ¬ (1 ≤ l ∧ l ≤ (ls.length : Int)) → Wrong ls.length rs (l, z) := fun l h => .inl fun y => h y.1
      -- way 1
      refine ⟨_, rfl, rfl, _, rfl, ite2 (fun _ => ⟨_, rfl, two, fun q0 nq => fin 0 z q0 H2 (out 0 (by omega)) z100 bb j2 nq⟩) (fun _ => ?_)⟩
      -- way 2
      refine ⟨_, rfl, rfl, _, rfl, ite2 (fun _ => ⟨_, rfl, a, _, rfl, .inl hLa, _, _, rfl, rfl, _, rfl, two, fun q0 nq => fin _ z q0 H2 (out _ (by omega)) z100 bb j2 nq⟩) (fun _ => ?_)⟩
      -- way 3
      refine ⟨_, rfl, rfl, _, rfl, ite2 (fun _ => ?_) (fun _ => ?_)⟩
      · refine ⟨_, rfl, 1, rfl, _, rfl, a, _, rfl, .inl hLa, _, rfl, _, rfl, a, _, rfl, .inl hLa, _, _, rfl, rfl, _, _, rfl, rfl, ⟨by decide, by decide, by decide⟩, (by show 4 ≤ sizeLine; decide), fun m nm => ?_⟩
        refine ⟨j, m, _, rfl, jar_new j2 nm, RowAt.lst (jar_ne j2 nm) upd_same, by simp, by simp, fun v H4 hv b4 j4 => ⟨_, rfl, two, fun q0 nq => ?_⟩⟩
        have b4' := bb.trans (((But.refl j H2).new nm).trans b4)
        simp only [List.mem_cons, List.not_mem_nil, or_false] at hv
        rcases hv with rfl | rfl | rfl | rfl
        · exact fin _ z q0 H4 (out _ (by omega)) z100 b4' j4 nq
        · exact fin _ z q0 H4 (out _ (by omega)) z100 b4' j4 nq
        · exact fin _ z q0 H4 (out _ (by omega)) z100 b4' j4 nq
        · refine fin _ z q0 H4 (out _ ?_) z100 b4' j4 nq
          have : (10 : Int) ^ (9 : Int).toNat = 1000000000 := by decide
          rw [this]
          omega
      · -- a text with a line feed
        refine ⟨_, rfl, _, rfl, a, b, _, xs, rs, rfl, hLa, .inr (hb2), hR2, by rw [List.length_map]; omega, by omega, fun H3 pf fs s3 nf hf hfl hfs => ?_⟩
        have j3 := jar_same j2 s3
        have b3 := bb.trans s3.but
        refine ⟨_, rfl, _, _, rfl, rfl, ?_, _, rfl, (by show 3 ≤ sizeLine; decide), fun m nm => ?_⟩
        · have : (PySem.Str.ofString "\n").length = 1 := by decide +kernel
          rw [this, sizeLine_eq]
          omega
        · refine ⟨j, m, _, rfl, jar_new j3 nm, RowAt.lst (jar_ne j3 nm) upd_same, by simp, by simp, fun v H4 hv b4 j4 => ?_⟩
          have b4' := b3.trans (((But.refl j H3).new nm).trans b4)
          obtain ⟨u, rfl, hu⟩ : ∃ u : Str, v = .str u ∧ u.length ≤ 4 := by
            simp only [List.mem_cons, List.not_mem_nil, or_false] at hv
            rcases hv with rfl | rfl | rfl
            · exact ⟨_, rfl, by decide +kernel⟩
            · exact ⟨_, rfl, by decide +kernel⟩
            · exact ⟨_, rfl, by decide +kernel⟩
          have tl : ((z ++ PySem.Str.ofString "\n") ++ u).length ≤ 100 := by
            rw [len_app, len_app]
            have : (PySem.Str.ofString "\n").length = 1 := by decide +kernel
            have := hz.1
            omega
          have nf' : ¬ Free ((z ++ PySem.Str.ofString "\n") ++ u) := fun e => e (by
            rw [cs_append, cs_append, nl_eq]
            simp [cs])
          have wr : ∀ l : Int, Wrong ls.length rs (l, (z ++ PySem.Str.ofString "\n") ++ u) := fun l => .inl fun y => nf' y.2
          have npf : pf ≠ j := jar_ne j2 nf
          have hf4 : H4 pf = some (.lst (fs.map V.int)) := b4 pf _ npf (by rw [upd_ne (ne_of_none hf nm)]; exact hf)
          refine ⟨_, _, rfl, rfl, by rw [← len_app]; exact Nat.le_trans tl (by decide), _, rfl, _, .inl ⟨_, SqL.of hf4, rfl⟩, ite2 (fun e => ?_) (fun e => ?_)⟩
          · refine ⟨_, rfl, _, rfl, j, pf, _, rfl, j4, RowAt.lst npf hf4, ?_, by rw [List.length_map]; omega, fun v H5 hv b5 j5 => ⟨_, rfl, two, fun q0 nq => ?_⟩⟩
            · intro e'
              rw [e'] at e
              cases e
            · obtain ⟨l, _, rfl⟩ := List.mem_map.mp hv
              exact fin l _ q0 H5 (wr l) tl (b4'.trans b5) j5 nq
          · exact ⟨_, rfl, two, fun q0 nq => fin 0 _ q0 H4 (wr 0) tl b4' j4 nq⟩
end
end K63

set_option Elab.async false
set_option linter.all false
set_option maxRecDepth 100000
set_option maxHeartbeats 4000000
namespace K63
open PySem PySem.Spec PyProof.Rows L2
/-- the classes of the errors -/
structure Errs (K : PySem.W.Frag) (mg : Str → Option Value) (CH CT CP CS CM CB CQ CD : Addr) : Prop where
  gH : mg "HoldError" = some (.ref CH)
  gT : mg "BadText" = some (.ref CT)
  gP : mg "BadProgram" = some (.ref CP)
  gS : mg "BadShape" = some (.ref CS)
  gM : mg "TooMany" = some (.ref CM)
  gB : mg "BadPaper" = some (.ref CB)
  gQ : mg "BadQuestion" = some (.ref CQ)
  gD : mg "BadData" = some (.ref CD)
  exQ : ExcC K CQ
  nfQ : PySem.W.findIn K (.ref CQ) "fault" = some none
  hit : PySem.W.exmOne K (.ref CQ) (.ref CH) = some true
  no6 : PySem.W.kitAny K (.ref CQ) [.ref CT, .ref CP, .ref CS, .ref CM, .ref CB, .ref CD] = some false
  yes : PySem.W.kitOne K (.ref CQ) (.ref CQ) = some true
section
variable {P : Program} {w : World} {K : PySem.W.Frag} {mg : Str → Option Value} {base : Heap}
/-! ### _law_refused -/
abbrev s_l_refused : Stmt := topS 25
abbrev N_l_refused : List Str := ["text", "repairs", "others", "error"]
theorem sc_l_refused : FnScope N_l_refused ["text", "repairs"] (defScope s_l_refused) := ⟨rfl, rfl, rfl, by decide +kernel, rfl, by decide +kernel, by decide +kernel⟩
-- slots: 0 text, 1 repairs, 2 others, 3 error
def spRefused (K : PySem.W.Frag) : Sp := fun vs H Q _ => ∃ (b : Addr) (ls : List Str) (xs : List V) (rs : List Rep), vs = [.str (Str.join nl ls), .ref b] ∧ SqT K H b xs ∧ RepsAt H xs rs ∧
  ls ≠ [] ∧ (∀ z ∈ ls, Free z ∧ z.length ≤ 100) ∧ ls.length ≤ 100 ∧ (∀ r ∈ rs, r.2.length ≤ 100) ∧ rs.length ≤ 100 ∧ mend ls [] rs = none ∧ ∀ H', Same H H' → Q (.bl true) H'
theorem ok_refused {CH CT CP CS CM CB CQ CD : Addr} (D : DefTxt K mg "_law_refused" s_l_refused ["text", "repairs"]) (B : Blt mg) (T : Errs K mg CH CT CP CS CM CB CQ CD) (D_mended : DefAt P w K mg base 4 "mended" ["text", "repairs"] (spMended K CQ)) : DefAt P w K mg base 6 "_law_refused" ["text", "repairs"] (spRefused K) := by
  refine D.ok sc_l_refused (fun vs H Q E h => ?_) (fun f cdv A outer s H vs Q E hr h => ?_)
  · obtain ⟨b, ls, xs, rs, rfl, _⟩ := h
    rfl
  · obtain ⟨b, ls, xs, rs, rfl, hb, hR, hne, hF, hl, hrl, hrn, hm, q⟩ := h
    have xf : XfC K CQ := ⟨T.exQ.hg, T.exQ.hk, T.exQ.hs, T.exQ.hd⟩
    refine ⟨_, (pss_cons (ps_try_as (i := 3) (Wout := fun _ _ _ _ => False) rfl rfl sc_l_refused.nd rfl rfl ⟨rfl, by decide, .inl T.gH⟩ takes0
        (fun W pn xe tk _ => pss_one (ps_expr (pe_dcS D_mended (hr.mono (by decide)) tk (pa_cons (pv 0) (pa_cons (pv 1) pa_nil)))))
        (fun a oe cls d pn hz hf => pss_cons (ps_set (i := 2) sc_l_refused.nd rfl (.inl rfl) (pe_callB (call_isXT (C := CQ) T.exQ hz hf) (by rfl) B.n_isinstance (by decide +kernel) (pa_cons (pv 3) (pa_cons (pe_tup (pa_cons (pe_cls T.gT) (pa_cons (pe_cls T.gP) (pa_cons (pe_cls T.gS) (pa_cons (pe_cls T.gM) (pa_cons (pe_cls T.gB) (pa_cons (pe_cls T.gD) pa_nil))))))) pa_nil))))
          (pss_one (ps_ret (pe_and (pe_callB (call_isX (C := CQ) T.exQ hz hf) (by rfl) B.n_isinstance (by decide +kernel) (pa_cons (pv 3) (pa_cons (pe_cls T.gQ) pa_nil))) (pe_and (pe_not (pv 2)) (pe_one (pe_cmpR op_eq (pe_xf xf T.nfQ hz hf (pv 3)) pe_str (nomark _)))))))))
      (pss_one (ps_ret pe_bl))), ?_⟩
    refine ⟨_, rfl, _, rfl, b, ls, xs, rs, rfl, hb, hR, hne, hF, hl, hrl, hrn, fun ms e => ?_, fun _ H1 d s1 nd hd => ?_⟩
    · rw [hm] at e
      cases e
    · refine ⟨true, T.hit, fun _ a na => ?_, fun z => nomatch z⟩
      refine ⟨_, rfl, (by show 6 ≤ sizeLine; decide), fun p np => ?_⟩
      have s2 := s1.new (o := .tup [V.ref CT, .ref CP, .ref CS, .ref CM, .ref CB, .ref CD]) np
      have hd2 : upd H1 p (.tup [V.ref CT, .ref CP, .ref CS, .ref CM, .ref CB, .ref CD]) d = some (.xd [("fault", .str "repair")]) := by
        rw [upd_ne (ne_of_none hd np)]
        exact hd
      refine ⟨p, _, _, false, d, _, rfl, rfl, rfl, hd2, upd_same, .cons (.own CT) (.cons (.own CP) (.cons (.own CS) (.cons (.own CM) (.cons (.own CB) (.cons (.own CD) .nil))))), T.no6, ?_⟩
      refine ⟨_, rfl, _, _, true, d, _, rfl, rfl, rfl, hd2, .own CQ, T.yes, true, rfl, iteT ?_⟩
      refine ⟨_, rfl, false, rfl, true, rfl, iteT ?_⟩
      refine ⟨_, rfl, rfl, rfl, d, _, _, rfl, hd2, rfl, rfl, ?_⟩
      exact q _ s2
end
end K63

set_option Elab.async false
set_option linter.all false
set_option maxRecDepth 100000
set_option maxHeartbeats 8000000
namespace K63
open PySem PySem.Spec PyProof.Rows L2
section
variable {P : Program} {w : World} {K : PySem.W.Frag} {mg : Str → Option Value} {base : Heap}
/-! ### data for == -/
theorem dp_strs {H : Hp} : ∀ zs : List Str, DpAll K H (zs.map V.str) (zs.map PyData.str)
  | [] => .nil
  | z :: zs => .cons (.str z) (dp_strs zs)
theorem lay_strs : ∀ zs : List Str, (∀ z ∈ zs, SOk z) → PyData.canLayAll0 (zs.map PyData.str) = true
  | [], _ => rfl
  | z :: zs, h => by
    have h1 : PyData.strOk z = true := by
      unfold PyData.strOk
      rw [Array.all_eq_true]
      intro i hi
      have := h z (by simp) z.cps[i] (by simp [cs])
      simpa using this
    show (PyData.strOk z && PyData.canLayAll0 (zs.map PyData.str)) = true
    rw [h1, lay_strs zs fun y hy => h y (List.mem_cons_of_mem _ hy)]
    rfl
theorem dep_strs : ∀ zs : List Str, PyData.depthAll (zs.map PyData.str) = 0
  | [] => rfl
  | z :: zs => by
    show max 0 (PyData.depthAll (zs.map PyData.str)) = 0
    rw [dep_strs zs]
    rfl
theorem shaped_strs {zs : List Str} (h : ∀ z ∈ zs, SOk z) : SeqAt.shaped (.list (zs.map PyData.str)) = true := by
  unfold SeqAt.shaped
  have h1 : PyData.canLay0 (.list (zs.map PyData.str)) = true := lay_strs zs h
  have h2 : PyData.depth (.list (zs.map PyData.str)) = 1 := by
    show PyData.depthAll (zs.map PyData.str) + 1 = 1
    rw [dep_strs]
  rw [h1, h2]
  rfl
def repD (r : Rep) : PyData := .tuple [.int r.1, .str r.2]
theorem dp_reps {H : Hp} {xs : List V} {rs : List Rep} (h : RepsAt H xs rs) : DpAll K H xs (rs.map repD) := by
  induction xs generalizing rs with
  | nil =>
    have := h.1
    cases rs with
    | nil => exact .nil
    | cons _ _ => cases this
  | cons x xs ih =>
    cases rs with
    | nil => have := h.1; cases this
    | cons r rs =>
      obtain ⟨r', p, e1, rfl, e3⟩ := h.2 0 x rfl
      cases (Option.some.inj e1)
      refine .cons (.tup (SqT.of e3) (.cons (.int _) (.cons (.str _) .nil))) (ih ⟨by have := h.1; simpa using this, fun i y e => ?_⟩)
      obtain ⟨q, a, h1, h2, h3⟩ := h.2 (i + 1) y (by simpa using e)
      exact ⟨q, a, by simpa using h1, h2, h3⟩
theorem shaped_reps {rs : List Rep} (h : ∀ r ∈ rs, SOk r.2) : SeqAt.shaped (.tuple (rs.map repD)) = true := by
  have key : PyData.canLayAll0 (rs.map repD) = true ∧ PyData.depthAll (rs.map repD) ≤ 1 := by
    induction rs with
    | nil => exact ⟨rfl, by decide⟩
    | cons r rs ih =>
      obtain ⟨h1, h2⟩ := ih fun q hq => h q (List.mem_cons_of_mem _ hq)
      have l1 := lay_strs [r.2] (by simpa using h r (by simp))
      refine ⟨?_, ?_⟩
      · show (PyData.canLay0 (repD r) && PyData.canLayAll0 (rs.map repD)) = true
        rw [h1]
        show ((true && PyData.canLayAll0 [PyData.str r.2]) && true) = true
        rw [show PyData.canLayAll0 [PyData.str r.2] = true from l1]
        rfl
      · show max (PyData.depth (repD r)) (PyData.depthAll (rs.map repD)) ≤ 1
        have : PyData.depth (repD r) = 1 := rfl
        omega
  unfold SeqAt.shaped
  have h1 : PyData.canLay0 (.tuple (rs.map repD)) = true := key.1
  have h2 : PyData.depth (.tuple (rs.map repD)) ≤ 64 := by
    show PyData.depthAll (rs.map repD) + 1 ≤ 64
    omega
  rw [h1, decide_eq_true h2]
  rfl
theorem eq_self {d : PyData} (h : SeqAt.shaped d = true) : PyData.eqv d d = true := SeqAt.eqv_refl d (SeqAt.canLay_of_shaped h)
theorem ite_ne {A C : Prop} {b : Bool} (h : b = true) (k : C) : if (!b) = true then A else C := by
  rw [h]
  exact iteF k
theorem ite_dne {A C : Prop} {p : Prop} [Decidable p] (h : p) (k : C) : if (!decide p) = true then A else C := ite_ne (decide_eq_true h) k
theorem RepsAt.rev {H : Hp} {xs : List V} {rs : List Rep} (h : RepsAt H xs rs) : RepsAt H xs.reverse rs.reverse := by
  refine ⟨by simp [h.1], fun i x e => ?_⟩
  have hi : i < xs.length := by
    have := (List.getElem?_eq_some_iff.mp e).1
    simpa using this
  rw [List.getElem?_reverse hi] at e
  obtain ⟨q, a, h1, h2, h3⟩ := h.2 _ x e
  refine ⟨q, a, ?_, h2, h3⟩
  rw [List.getElem?_reverse (by rw [← h.1]; exact hi), ← h.1]
  exact h1
theorem own_take (ls : List Str) (rs : List Rep) (k : Nat) : own ls (rs.take k) = (own ls rs).take k := by simp [own, List.map_take]
theorem put_lens {ls : List Str} {rs : List Rep} (h1 : ∀ z ∈ ls, z.length ≤ 100) (h2 : ∀ r ∈ rs, r.2.length ≤ 100) : ∀ z ∈ put ls rs, z.length ≤ 100 := put_le (n := 0) rs ls h2 h1
theorem put_sok : ∀ (rs : List Rep) (ls : List Str), (∀ r ∈ rs, SOk r.2) → (∀ z ∈ ls, SOk z) → ∀ z ∈ put ls rs, SOk z
  | [], ls, _, h => h
  | r :: rs, ls, g, h => by
    refine put_sok rs _ (fun q hq => g q (List.mem_cons_of_mem _ hq)) fun z hz => ?_
    rcases List.mem_or_eq_of_mem_set hz with hz | hz
    · exact h z hz
    · rw [hz]
      exact g r (by simp)
/-- mended, where the repairs are right -/
theorem mend_tail {H : Hp} {b : Addr} {ls : List Str} {xs : List V} {rs : List Rep} {R : List Str → Hp → Prop} {R2 : Hp → Addr → Prop} (hb : SqT K H b xs) (hR : RepsAt H xs rs) (hne : ls ≠ []) (hF : ∀ z ∈ ls, Free z ∧ z.length ≤ 100) (hl : ls.length ≤ 100) (hG : Good ls.length rs)
    (hr9 : ∀ r ∈ rs, r.2.length ≤ 100) (hrl : rs.length ≤ 100) (k : ∀ H', Same H H' → R (put ls rs) H') : SqT K H b xs ∧ RepsAt H xs rs ∧ ls ≠ [] ∧ (∀ z ∈ ls, Free z ∧ z.length ≤ 100) ∧ ls.length ≤ 100 ∧ (∀ r ∈ rs, r.2.length ≤ 100) ∧ rs.length ≤ 100 ∧
      (∀ ms, mend ls [] rs = some ms → ∀ H', Same H H' → R ms H') ∧ (mend ls [] rs = none → ∀ H' d, Same H H' → H d = none → H' d = some (.xd [("fault", .str "repair")]) → R2 H' d) := by
  have e := mend_good rs ls [] hG (by simp)
  refine ⟨hb, hR, hne, hF, hl, hr9, hrl, fun ms h => ?_, fun h => ?_⟩
  · rw [e] at h
    cases h
    exact k
  · rw [e] at h
    cases h
theorem But.keep {j : Addr} {H0 H H' : Hp} (s : Same H0 H) (b : But j H H') (n : H0 j = none) : Same H0 H' := fun a o h => b a o (ne_of_none h n) (s a o h)
/-! ### the law -/
abbrev s_law : Stmt := topS 29
abbrev N_law : List Str := ["script", "jar", "pool", "lines", "text", "more", "repairs", "handed", "due", "told", "cut", "base", "spot", "wrong", "step", "place", "line", "fresh"]
theorem sc_law : FnScope N_law ["script"] (defScope s_law) := ⟨rfl, rfl, rfl, by decide +kernel, rfl, by decide +kernel, by decide +kernel⟩
-- slots: 0 script, 1 jar, 2 pool, 3 lines, 4 text, 5 more, 6 repairs, 7 handed, 8 due, 9 told, 10 cut, 11 base, 12 spot, 13 wrong, 14 step, 15 place, 16 line, 17 fresh   cells: jar, lines, pool, repairs
def spLaw (K : PySem.W.Frag) : Sp := fun vs H Q _ => ∃ (a : Addr) (ns : List Int), vs = [.ref a] ∧ SqL K H a (ns.map V.int) ∧ ns.length ≤ 63 ∧ ∀ H', Q (.bl true) H'
theorem ok_law {CQ : Addr} (D : DefTxt K mg "law" s_law ["script"]) (B : Blt mg)
    (D_l_jar : DefAt P w K mg base 1 "_law_jar" ["script", "place"] (spJar K)) (D_l_draw : DefAt P w K mg base 2 "_law_draw" ["jar", "many"] spDraw) (D_l_pick : DefAt P w K mg base 3 "_law_pick" ["jar", "row"] (spPick K))
    (D_l_sign_line : DefAt P w K mg base 4 "_law_sign_line" ["jar"] spSign) (D_l_some_line : DefAt P w K mg base 5 "_law_some_line" ["jar", "pool"] (spSome K)) (D_l_parted : DefAt P w K mg base 1 "_law_parted" ["text"] spParted)
    (D_l_put_right : DefAt P w K mg base 1 "_law_put_right" ["lines", "repairs"] (spPut K)) (D_l_refused : DefAt P w K mg base 6 "_law_refused" ["text", "repairs"] (spRefused K)) (D_l_wrong_one : DefAt P w K mg base 6 "_law_wrong_one" ["jar", "lines", "repairs"] (spWrong K))
    (D_l_repairs_of : DefAt P w K mg base 6 "_law_repairs_of" ["jar", "lines", "pool"] (spReps K)) (D_mended : DefAt P w K mg base 4 "mended" ["text", "repairs"] (spMended K CQ)) : DefAt P w K mg base 8 "law" ["script"] (spLaw K) := by
  refine D.ok sc_law (fun vs H Q E h => ?_) (fun f cdv A outer s H vs Q E hr h => ?_)
  · obtain ⟨a, ns, rfl, _⟩ := h
    rfl
  · obtain ⟨a, ns, rfl, hS, hlen, q⟩ := h
    refine ⟨_, (pss_cons (ps_set (i := 1) sc_law.nd rfl (.inr rfl) (pe_dc D_l_jar (hr.mono (by decide)) (pa_cons (pv 0) (pa_cons pe_int pa_nil))))
      (pss_cons (ps_set (i := 2) sc_law.nd rfl (.inr rfl) (pe_lc (own := [("step", 14)]) rfl sc_law.nd (pi_range1 (by rfl) B.n_range (pa_cons pe_int pa_nil)) (blkOk_by (N := N_law) (sc := defScope s_law) (by decide +kernel)) (fun _ _ _ _ _ => pg_name (i := 14) sc_law.nd rfl (.inl rfl)) (fun _ _ _ _ _ => pts_nil) (fun _ _ _ _ _ => (pe_dc D_l_sign_line (hr.mono (by decide)) (pa_cons (pv 1) pa_nil)))))
      (pss_cons (ps_set (i := 3) sc_law.nd rfl (.inr rfl) (pe_lc (own := [("step", 14)]) rfl sc_law.nd (pi_range1 (by rfl) B.n_range (pa_cons (pe_dc D_l_pick (hr.mono (by decide)) (pa_cons (pv 1) (pa_cons (pe_lst (pa_cons pe_int (pa_cons pe_int (pa_cons pe_int (pa_cons pe_int (pa_cons pe_int (pa_cons pe_int pa_nil))))))) pa_nil))) pa_nil)) (blkOk_by (N := N_law) (sc := defScope s_law) (by decide +kernel)) (fun _ _ _ _ _ => pg_name (i := 14) sc_law.nd rfl (.inl rfl)) (fun _ _ _ _ _ => pts_nil) (fun _ _ _ _ _ => (pe_dc D_l_some_line (hr.mono (by decide)) (pa_cons (pv 1) (pa_cons (pv 2) pa_nil))))))
      (pss_cons (ps_set (i := 4) sc_law.nd rfl (.inl rfl) (pe_join pe_str (pv 3)))
      (pss_cons (ps_set (i := 5) sc_law.nd rfl (.inl rfl) (pe_dc D_l_jar (hr.mono (by decide)) (pa_cons (pv 0) (pa_cons pe_int pa_nil))))
      (pss_cons (ps_set (i := 6) sc_law.nd rfl (.inr rfl) (pe_dc D_l_repairs_of (hr.mono (by decide)) (pa_cons (pv 5) (pa_cons (pv 3) (pa_cons (pv 2) pa_nil)))))
      (pss_cons (ps_set (i := 7) sc_law.nd rfl (.inl rfl) (pe_callTy call_tuple_of (by rfl) B.n_tuple (by decide +kernel) (pa_cons (pv 6) pa_nil)))
      (pss_cons (ps_set (i := 8) sc_law.nd rfl (.inl rfl) (pe_dc D_l_put_right (hr.mono (by decide)) (pa_cons (pv 3) (pa_cons (pv 6) pa_nil))))
      (pss_cons (ps_set (i := 9) sc_law.nd rfl (.inl rfl) (pe_dc D_mended (hr.mono (by decide)) (pa_cons (pv 4) (pa_cons (pv 7) pa_nil))))
      (pss_cons (ps_if ((pw_or (pt_not (pt_val (pe_callB call_isi (by rfl) B.n_isinstance (by decide +kernel) (pa_cons (pv 9) (pa_cons (pe_bltn (v := .ty "str") (by rfl) B.n_str (by decide +kernel) rfl) pa_nil))))) (pw_or (pt_cmpR (op_neD hr.units) (pe_dc D_l_parted (hr.mono (by decide)) (pa_cons (pv 9) pa_nil)) (pv 8) (nomark _)) (pw_or1 (pt_cmpR (op_neD hr.units) (pv 7) (pe_callTy call_tuple_of (by rfl) B.n_tuple (by decide +kernel) (pa_cons (pv 6) pa_nil)) (nomark _)))))).pt
        (pss_one (ps_ret pe_bl))
        pss_nil)
      (pss_cons (ps_if (pt_cmpR op_ne (pe_dc D_mended (hr.mono (by decide)) (pa_cons (pv 4) (pa_cons (pe_callTy call_tuple_of (by rfl) B.n_tuple (by decide +kernel) (pa_cons (pe_lc (own := [("place", 15)]) rfl sc_law.nd (pi_range1 (by rfl) B.n_range (pa_cons (pe_callB call_len_seq (by rfl) B.n_len (by decide +kernel) (pa_cons (pv 6) pa_nil)) pa_nil)) (blkOk_by (N := N_law) (sc := defScope s_law) (by decide +kernel)) (fun _ _ _ _ _ => pg_name (i := 15) sc_law.nd rfl (.inl rfl)) (fun _ _ _ _ _ => pts_nil) (fun _ _ _ _ _ => (pe_ix (ix_listK K) (pv 6) (pe_op op_sub (pe_op op_sub (pe_callB (call_len_seqK K) (by rfl) B.n_len (by decide +kernel) (pa_cons (pv 6) pa_nil)) pe_int) (pv 15)) (fun _ _ => rfl)))) pa_nil)) pa_nil))) (pv 9) (nomark _))
        (pss_one (ps_ret pe_bl))
        pss_nil)
      (pss_cons (ps_set (i := 10) sc_law.nd rfl (.inl rfl) (pe_dc D_l_draw (hr.mono (by decide)) (pa_cons (pv 5) (pa_cons (pe_op op_add (pe_callB call_len_seq (by rfl) B.n_len (by decide +kernel) (pa_cons (pv 6) pa_nil)) pe_int) pa_nil))))
      (pss_cons (ps_if (pt_cmpR op_ne (pe_dc D_mended (hr.mono (by decide)) (pa_cons (pe_dc D_mended (hr.mono (by decide)) (pa_cons (pv 4) (pa_cons (pe_slice (sl_tupS K) (pv 7) po_none (po_some (pv 10))) pa_nil))) (pa_cons (pe_slice (sl_tupS K) (pv 7) (po_some (pv 10)) po_none) pa_nil))) (pv 9) (nomark _))
        (pss_one (ps_ret pe_bl))
        pss_nil)
      (pss_cons (ps_if ((pw_or (pt_cmpR op_ne (pe_dc D_mended (hr.mono (by decide)) (pa_cons (pv 4) (pa_cons (pe_tup pa_nil) pa_nil))) (pv 4) (nomark _)) (pw_or1 (pt_cmpR op_ne (pe_dc D_mended (hr.mono (by decide)) (pa_cons (pv 4) (pa_cons (pe_callTy call_tuple_of (by rfl) B.n_tuple (by decide +kernel) (pa_cons (pe_lc (own := [("line", 16), ("fresh", 17)]) rfl sc_law.nd (pi_list (pv 6)) (blkOk_by (N := N_law) (sc := defScope s_law) (by decide +kernel)) (fun _ _ _ _ _ => (pg_tupK K 2 rfl (pgs_cons (pg_name (i := 16) sc_law.nd rfl (.inl rfl)) (pgs_cons (pg_name (i := 17) sc_law.nd rfl (.inl rfl)) pgs_nil)))) (fun _ _ _ _ _ => pts_nil) (fun _ _ _ _ _ => (pe_tup (pa_cons (pv 16) (pa_cons (pe_ix (ix_listK K) (pv 3) (pe_op op_sub (pv 16) pe_int) (fun _ _ => rfl)) pa_nil))))) pa_nil)) pa_nil))) (pv 4) (nomark _))))).pt
        (pss_one (ps_ret pe_bl))
        pss_nil)
      (pss_cons (ps_set (i := 11) sc_law.nd rfl (.inl rfl) (pe_slice (sl_tupS K) (pv 7) po_none (po_some pe_int)))
      (pss_cons (ps_set (i := 12) sc_law.nd rfl (.inl rfl) (pe_dc D_l_draw (hr.mono (by decide)) (pa_cons (pv 5) (pa_cons (pe_op op_add (pe_callB call_len_seq (by rfl) B.n_len (by decide +kernel) (pa_cons (pv 11) pa_nil)) pe_int) pa_nil))))
      (pss_cons (ps_set (i := 13) sc_law.nd rfl (.inl rfl) (pe_dc D_l_wrong_one (hr.mono (by decide)) (pa_cons (pe_dc D_l_jar (hr.mono (by decide)) (pa_cons (pv 0) (pa_cons pe_int pa_nil))) (pa_cons (pv 3) (pa_cons (pv 11) pa_nil)))))
      (pss_cons (ps_if ((pw_or (pt_not (pt_val (pe_dc D_l_refused (hr.mono (by decide)) (pa_cons (pv 4) (pa_cons (pe_op (op_catS K) (pe_op (op_catS K) (pe_slice (sl_tupS K) (pv 11) po_none (po_some (pv 12))) (pe_tup (pa_cons (pv 13) pa_nil))) (pe_slice (sl_tupS K) (pv 11) (po_some (pv 12)) po_none)) pa_nil))))) (pw_or1 (pt_not (pt_val (pe_dc D_l_refused (hr.mono (by decide)) (pa_cons (pv 4) (pa_cons (pe_tup (pa_cons (pv 13) (pa_cons (pv 13) pa_nil))) pa_nil)))))))).pt
        (pss_one (ps_ret pe_bl))
        pss_nil)
      (pss_one (ps_ret (pe_and (pe_cmpR (op_eqD hr.units) (pe_dc D_l_parted (hr.mono (by decide)) (pa_cons (pe_dc D_mended (hr.mono (by decide)) (pa_cons (pv 4) (pa_cons (pv 11) pa_nil))) pa_nil)) (pe_dc D_l_put_right (hr.mono (by decide)) (pa_cons (pv 3) (pa_cons (pv 11) pa_nil))) (nomark _)) (pe_one (pe_cmpR op_eq (pe_dc D_mended (hr.mono (by decide)) (pa_cons (pv 4) (pa_cons (pv 7) pa_nil))) (pv 9) (nomark _)))))))))))))))))))))))), ?_⟩
    -- jar = _law_jar(script, 0)
    refine ⟨_, rfl, a, ns, 0, rfl, hS, by decide, by decide, hlen, fun H1 j s1 nj jr => ?_⟩
    -- pool
    refine ⟨3, rfl, by decide, by decide, fun p np => lc_range (lo := 0) (n := (3 : Int).toNat) (fun i H' => Same H H' ∧ JarAt H' j ∧ ∃ zs : List Str, H' p = some (.lst (zs.map V.str)) ∧ zs.length = i ∧ ∀ z ∈ zs, Line z)
      ⟨s1.new np, jar_new jr np, [], upd_same, rfl, by simp⟩ (fun i H' hi h => ?_) (fun H2 h => ?_)⟩
    · obtain ⟨sm, jr', zs, hp, hl, hz⟩ := h
      have npj : p ≠ j := jar_ne jr np
      refine ⟨rfl, _, rfl, j, rfl, jr', fun z H3 lz b3 j3 => ⟨_, b3 p _ npj hp, ?_, ?_⟩⟩
      · rw [List.length_map, hl]
        exact small1000 (by omega)
      · refine ⟨(But.keep sm b3 nj).mut (s1.free np), ?_, zs ++ [z], ?_, by simp [hl], ?_⟩
        · obtain ⟨x, y, u, h⟩ := j3
          exact ⟨x, y, u, by rw [upd_ne npj.symm]; exact h⟩
        · rw [upd_same, List.map_append]
          rfl
        · intro y hy
          rcases List.mem_append.mp hy with hy | hy
          · exact hz y hy
          · rw [List.mem_singleton.mp hy]
            exact lz
    obtain ⟨s2, j2, zs, hp, hzl, hz⟩ := h
    have npj : p ≠ j := jar_ne jr np
    have hzne : zs ≠ [] := by
      rintro rfl
      cases hzl
    have hzl' : zs.length = 3 := hzl
    -- lines
    refine ⟨_, rfl, (by show 6 ≤ sizeLine; decide), fun l0 nl0 => ⟨j, l0, _, rfl, jar_new j2 nl0, RowAt.lst (jar_ne j2 nl0) upd_same, by simp, by simp, fun v H3 hv b3 j3 => ?_⟩⟩
    obtain ⟨m, rfl, hm1, hm⟩ : ∃ m : Nat, v = .int m ∧ 1 ≤ m ∧ m ≤ 40 := by
      simp only [List.mem_cons, List.not_mem_nil, or_false] at hv
      rcases hv with rfl | rfl | rfl | rfl | rfl | rfl
      · exact ⟨1, rfl, by decide, by decide⟩
      · exact ⟨2, rfl, by decide, by decide⟩
      · exact ⟨3, rfl, by decide, by decide⟩
      · exact ⟨5, rfl, by decide, by decide⟩
      · exact ⟨8, rfl, by decide, by decide⟩
      · exact ⟨40, rfl, by decide, by decide⟩
    have s3 := But.keep (s2.new nl0) b3 nj
    have hp3 : H3 p = some (.lst (zs.map V.str)) := b3 p _ npj (by rw [upd_ne (ne_of_none hp nl0)]; exact hp)
    refine ⟨m, rfl, by omega, by omega, fun al nal => lc_range (lo := 0) (n := (m : Int).toNat) (fun i H' => Same H H' ∧ JarAt H' j ∧ H' p = some (.lst (zs.map V.str)) ∧ ∃ ls : List Str, H' al = some (.lst (ls.map V.str)) ∧ ls.length = i ∧ ∀ z ∈ ls, Line z)
      ⟨s3.new nal, jar_new j3 nal, by rw [upd_ne (ne_of_none hp3 nal)]; exact hp3, [], upd_same, rfl, by simp⟩ (fun i H' hi h => ?_) (fun H4 h => ?_)⟩
    · obtain ⟨sm, jr', hp', ls, hls, hl, hL⟩ := h
      have naj : al ≠ j := jar_ne j3 nal
      have nap : p ≠ al := ne_of_none hp3 nal
      refine ⟨rfl, _, rfl, _, rfl, j, p, zs, rfl, jr', RowAt.lst npj hp', hzne, by omega, hz, fun z H5 lz b5 j5 => ⟨_, b5 al _ naj hls, ?_, ?_⟩⟩
      · rw [List.length_map, hl]
        exact small1000 (by omega)
      · refine ⟨(But.keep sm b5 nj).mut (s3.free nal), ?_, ?_, ls ++ [z], ?_, by simp [hl], ?_⟩
        · obtain ⟨x, y, u, h⟩ := j5
          exact ⟨x, y, u, by rw [upd_ne naj.symm]; exact h⟩
        · rw [upd_ne nap]
          exact b5 p _ npj hp'
        · rw [upd_same, List.map_append]
          rfl
        · intro y hy
          rcases List.mem_append.mp hy with hy | hy
          · exact hL y hy
          · rw [List.mem_singleton.mp hy]
            exact lz
    obtain ⟨s4, j4, hp4, ls, ha4, hll, hL⟩ := h
    have hlm : ls.length = m := by rw [hll]; omega
    have hlne : ls ≠ [] := by
      rintro rfl
      simp at hlm
      omega
    have hF : ∀ z ∈ ls, Free z ∧ z.length ≤ 100 := fun z hz => ⟨(hL z hz).2.1, by have := (hL z hz).1; omega⟩
    -- text
    refine ⟨⟨_, rfl⟩, _, rfl, _, al, ls, rfl, rfl, .inl (SqL.of ha4), ?_, ?_⟩
    · have h1 := sum_len ls fun z hz => (hF z hz).2
      have h2 : (PySem.Str.ofString "\n").length = 1 := by decide +kernel
      have h3 : ls.length * 100 ≤ 40 * 100 := Nat.mul_le_mul_right _ (by omega)
      rw [h2]
      omega
    rw [nl_eq, show Txt.join nl ls = Str.join nl ls from StrLaws.glued_eq_join nl ls]
    -- more
    refine ⟨_, rfl, a, ns, 1, rfl, s4.seq hS, by decide, by decide, hlen, fun H5 jm s5 njm jr5 => ?_⟩
    have S5 : Same H H5 := s4.trans s5
    have njmH : H jm = none := s4.free njm
    have najm : al ≠ jm := ne_of_none ha4 njm
    have npjm : p ≠ jm := ne_of_none hp4 njm
    -- repairs
    refine ⟨_, rfl, _, rfl, _, rfl, jm, al, p, ls, zs, rfl, jr5, najm, s5 _ _ ha4, by omega, hL, npjm, s5 _ _ hp4, hzne, by omega, hz, fun rs xs r H6 hG hrl hr9 b6 jr6 nr hr6 hR6 => ?_⟩
    have S6 := But.keep S5 b6 njmH
    have ha6 := b6 al _ najm (s5 _ _ ha4)
    have hlen100 : ls.length ≤ 100 := by omega
    have hrlen : ∀ q ∈ rs, q.2.length ≤ 100 := fun q hq => by have := (hr9 q hq).1; omega
    have hrsok : ∀ q ∈ rs, SOk q.2 := fun q hq => (hr9 q hq).2.2
    have hlsok : ∀ z ∈ ls, SOk z := fun z hz => (hL z hz).2.2
    have hlfree : ∀ z ∈ ls, Free z := fun z hz => (hF z hz).1
    have nrjm : r ≠ jm := jar_ne jr5 nr
    -- handed
    refine ⟨_, rfl, r, xs, rfl, .inl ⟨SqL.of hr6, fun ph nph => ?_⟩⟩
    have k7 : Same H6 (upd H6 ph (.tup xs)) := (Same.refl H6).new nph
    have nphjm : ph ≠ jm := jar_ne jr6 nph
    -- due
    refine ⟨_, rfl, _, rfl, al, r, ls, xs, rs, rfl, SqL.of (k7 _ _ ha6), .inl (SqL.of (k7 _ _ hr6)), hR6.go (keepT_same k7), hG.inn, fun H8 pd s8 nd hd8 => ?_⟩
    have k8 : Same H6 H8 := k7.trans s8
    have hh8 : H8 ph = some (.tup xs) := s8 _ _ upd_same
    have npdjm : pd ≠ jm := jar_ne (jar_new jr6 nph) nd
    -- told
    refine ⟨_, rfl, _, rfl, _, _, _, _, rfl, mend_tail (SqT.of hh8) (hR6.go (keepT_same k8)) hlne hF hlen100 hG hrlen (by omega) fun H9 s9 => ?_⟩
    have k9 : Same H6 H9 := k8.trans s9
    have hh9 := s9 _ _ hh8
    have hd9 := s9 _ _ hd8
    have hr9' := k9 _ _ hr6
    have ha9 := k9 _ _ ha6
    have hR9 := hR6.go (keepT_same k9)
    have pne : put ls rs ≠ [] := by
      intro e
      have := put_len rs ls
      rw [e] at this
      exact hlne (List.length_eq_zero_iff.mp this.symm)
    have pfree := put_free rs ls hG hlfree
    have pF : ∀ z ∈ put ls rs, Free z ∧ z.length ≤ 100 := fun z hz => ⟨pfree z hz, put_lens (fun z hz => (hF z hz).2) hrlen z hz⟩
    have ppt : (pt (cs (Str.join nl (put ls rs)))).map S = put ls rs := pt_join pne pfree
    have sh1 := shaped_strs (put_sok rs ls hrsok hlsok)
    have sh2 := shaped_reps hrsok
    have psz : (Str.join nl (put ls rs)).length ≤ 10000 := by
      have h1 := StrLaws.join_length_le nl (put ls rs)
      have h2 := sum_len (m := 100) (put ls rs) fun z hz => (pF z hz).2
      have h3 : nl.length = 1 := rfl
      have h4 := put_len rs ls
      have h5 : ls.length * 100 ≤ 40 * 100 := Nat.mul_le_mul_right _ (by omega)
      rw [h3, h4] at h1
      rw [h4] at h2
      omega
    refine ⟨_, rfl, _, _, _, _, true, rfl, .ty _, .base (.str _), kit_ty (by decide +kernel), _, rfl, iteF ?_⟩
    refine ⟨_, rfl, _, rfl, psz, fun H10 pp s10 npp hpp => ⟨_, rfl, ?_⟩⟩
    rw [ppt] at hpp
    refine ⟨_, _, .lst (SqL.of hpp) (dp_strs _), .lst (SqL.of (s10 _ _ hd9)) (dp_strs _), sh1, sh1, _, rfl, ite_ne (eq_self sh1) ?_⟩
    have hr10 := s10 _ _ hr9'
    have hR10 := hR9.go (keepT_same s10)
    refine ⟨_, rfl, _, rfl, r, xs, rfl, .inl ⟨SqL.of hr10, fun p2 np2 => ?_⟩⟩
    have k11 : Same H10 (upd H10 p2 (.tup xs)) := (Same.refl H10).new np2
    have hR11 := hR10.go (keepT_same k11)
    refine ⟨_, _, .tup (SqT.of (k11 _ _ (s10 _ _ hh9))) (dp_reps hR11), .tup (SqT.of upd_same) (dp_reps hR11), sh2, sh2, _, rfl, ite_ne (eq_self sh2) ?_⟩
    have K11 : Same H6 (upd H10 p2 (.tup xs)) := (k9.trans s10).trans k11
    generalize hH11 : upd H10 p2 (.tup xs) = H11 at K11 hR11 ⊢
    have hr11 := K11 _ _ hr6
    have ha11 := K11 _ _ ha6
    have hh11 : H11 ph = some (.tup xs) := by rw [← hH11]; exact k11 _ _ (s10 _ _ hh9)
    have hd11 : H11 pd = some (.lst ((put ls rs).map V.str)) := by rw [← hH11]; exact k11 _ _ (s10 _ _ hd9)
    clear hH11
    -- in the other order
    refine ⟨_, rfl, _, rfl, r, xs, rfl, .inl (SqL.of hr11), (xs.length : Int), rfl, by have := hR6.1; omega, by have := hR6.1; omega, fun pv' npv => lc_range (lo := 0) (n := (xs.length : Int).toNat) (fun i H' => Same H11 H' ∧ H' pv' = some (.lst (xs.reverse.take i)))
      ⟨(Same.refl H11).new npv, by rw [upd_same]; rfl⟩ (fun i H' hi h => ?_) (fun H12 h => ?_)⟩
    · obtain ⟨sm, hv⟩ := h
      have hix : i < xs.length := by omega
      have hrv : xs.reverse[i]? = some (xs.reverse[i]'(by simpa using hix)) := List.getElem?_eq_getElem _
      have g : atI xs ((xs.length : Int) - 1 - (0 + (i : Int))) = some (xs.reverse[i]'(by simpa using hix)) := by
        refine at_of (j := xs.length - 1 - i) (by omega) ?_
        rw [← hrv, List.getElem?_reverse hix]
      refine ⟨rfl, _, rfl, _, rfl, r, xs, rfl, .inl (SqL.of (sm _ _ hr11)), _, _, rfl, rfl, _, rfl, _, _, rfl, rfl, r, xs, _, _, rfl, rfl, SqL.of (sm _ _ hr11), g, _, hv, ?_, sm.mut npv, ?_⟩
      · rw [List.length_take]
        exact Nat.lt_of_le_of_lt (Nat.min_le_right _ _) (small1000 (by rw [List.length_reverse, hR6.1]; omega))
      · rw [upd_same, take_more hrv]
    obtain ⟨s12, hv⟩ := h
    have hv12 : H12 pv' = some (.lst xs.reverse) := by
      rw [hv]
      have : (xs.length : Int).toNat = xs.reverse.length := by simp
      rw [this, List.take_length]
    refine ⟨pv', _, rfl, .inl ⟨SqL.of hv12, fun p3 np3 => ?_⟩⟩
    have k13 : Same H12 (upd H12 p3 (.tup xs.reverse)) := (Same.refl H12).new np3
    have K13 := (K11.trans s12).trans k13
    refine ⟨_, _, _, _, rfl, mend_tail (SqT.of upd_same) (hR6.go (keepT_same K13)).rev hlne hF hlen100 hG.rev (fun q hq => hrlen q (List.mem_reverse.mp hq)) (by rw [List.length_reverse]; omega) fun H14 s14 => ?_⟩
    rw [put_rev rs ls hG]
    refine ⟨_, rfl, rfl, _, rfl, ite_dne rfl ?_⟩
    have K14 := K13.trans s14
    have hh14 : H14 ph = some (.tup xs) := s14 _ _ (k13 _ _ (s12 _ _ hh11))
    -- cut
    refine ⟨_, rfl, _, rfl, r, xs, rfl, .inl (SqL.of (K14 _ _ hr6)), _, _, rfl, rfl, jm, _, rfl, jar_same jr6 K14, by omega, by have := hR6.1; omega, fun k H15 k0 k1 b15 jr15 => ?_⟩
    obtain ⟨cut, rfl⟩ : ∃ u : Nat, k = u := ⟨k.toNat, by omega⟩
    have hh15 := b15 ph _ nphjm hh14
    have kt15 : KeepT H6 H15 := fun c ys h => keepT_jar b15 (jar_same jr6 K14) _ _ (K14 _ _ h)
    have hr15 := b15 r _ nrjm (K14 _ _ hr6)
    have ha15 := b15 al _ najm (K14 _ _ ha6)
    have S15 := But.keep (S6.trans K14) b15 njmH
    have hR15 := hR6.go kt15
    -- in two steps
    refine ⟨_, rfl, _, rfl, _, rfl, _, rfl, ⟨ph, xs, rfl, SqT.of hh15, fun q1 H16 s16 hq1 => ?_⟩⟩
    rw [cut_take] at hq1
    refine ⟨_, _, _, _, rfl, mend_tail hq1 ((hR15.take cut).go (keepT_same s16)) hlne hF hlen100 (hG.take cut) (fun q hq => hrlen q (List.mem_of_mem_take hq)) (by rw [List.length_take]; omega) fun H17 s17 => ?_⟩
    have s17' := s16.trans s17
    refine ⟨_, rfl, _, rfl, _, rfl, ⟨ph, xs, rfl, SqT.of (s17' _ _ hh15), fun q2 H18 s18 hq2 => ?_⟩⟩
    rw [cut_drop] at hq2
    have s18' := s17'.trans s18
    have tl := put_len (rs.take cut) ls
    have tne : put ls (rs.take cut) ≠ [] := by
      intro e
      rw [e] at tl
      exact hlne (List.length_eq_zero_iff.mp tl.symm)
    refine ⟨_, _, _, _, rfl, mend_tail hq2 ((hR15.drop cut).go (keepT_same s18')) tne (fun z hz => ⟨put_free _ ls (hG.take cut) hlfree z hz, put_lens (fun z hz => (hF z hz).2) (fun q hq => hrlen q (List.mem_of_mem_take hq)) z hz⟩) (by omega) (by rw [tl]; exact hG.drop cut) (fun q hq => hrlen q (List.mem_of_mem_drop hq)) (by rw [List.length_drop]; omega) fun H19 s19 => ?_⟩
    rw [← put_app, List.take_append_drop]
    refine ⟨_, rfl, rfl, _, rfl, ite_dne rfl ?_⟩
    have s19' := s18'.trans s19
    -- no repair
    refine ⟨_, rfl, (by show 0 ≤ sizeLine; decide), fun p4 np4 => ?_⟩
    have k20 : Same H19 (upd H19 p4 (.tup [])) := (Same.refl H19).new np4
    refine ⟨_, _, _, [], rfl, mend_tail (SqT.of upd_same) .nil hlne hF hlen100 ⟨by simp, by simp⟩ (by simp) (by simp) fun H21 s21 => ?_⟩
    refine ⟨_, rfl, rfl, _, rfl, ite_dne rfl ?_⟩
    have s21' := (s19'.trans k20).trans s21
    have hr21 := s21' _ _ hr15
    have ha21 := s21' _ _ ha15
    have hR21 := hR15.go (keepT_same s21')
    -- repairs by what stands there
    refine ⟨_, rfl, _, rfl, r, rfl, ⟨_, SqL.of hr21⟩, fun po npo => lc_list (K := K) (a := r) (xs := xs) (fun i H' => Same H21 H' ∧ ∃ ys : List V, H' po = some (.lst ys) ∧ RepsAt H' ys (own ls (rs.take i)))
      ⟨(Same.refl H21).new npo, [], upd_same, .nil⟩ (fun i H' _ h => SqL.of (h.1 _ _ hr21)) (fun i x H' hx h => ?_) (fun H22 h => ?_)⟩
    · obtain ⟨sm, ys, hy, hRy⟩ := h
      obtain ⟨r0, q0, hr0, rfl, hq0⟩ := hR21.2 i x hx
      have hin := (hG.ok r0 (List.mem_of_getElem? hr0)).1
      have hlt : (r0.1 - 1).toNat < ls.length := by omega
      have g : atI (ls.map V.str) (r0.1 - 1) = some (.str (ls.getD (r0.1 - 1).toNat nl)) := at_of (j := (r0.1 - 1).toNat) (by omega) (by
        rw [List.getElem?_map, List.getD_eq_getElem?_getD, List.getElem?_eq_getElem hlt]
        rfl)
      refine ⟨q0, _, rfl, SqT.of (sm _ _ hq0), rfl, _, _, rfl, _, _, rfl, rfl, rfl, _, rfl, _, rfl, _, rfl, _, _, rfl, rfl, al, _, _, _, rfl, rfl, SqL.of (sm _ _ ha21), g, (by show 2 ≤ sizeLine; decide), fun pn npn => ⟨ys, ?_, ?_, ?_, ys ++ [.ref pn], upd_same, ?_⟩⟩
      · rw [upd_ne (ne_of_none hy npn)]
        exact hy
      · refine small1000 ?_
        have := hRy.1
        simp only [own, List.length_map, List.length_take] at this
        omega
      · exact (sm.new npn).mut npo
      · have kp : Same H' (upd H' pn (.tup [.int r0.1, .str (ls.getD (r0.1 - 1).toNat nl)])) := (Same.refl H').new npn
        have e : own ls (rs.take (i + 1)) = own ls (rs.take i) ++ [(r0.1, ls.getD (r0.1 - 1).toNat nl)] := by
          rw [take_more hr0]
          simp [own]
        rw [e]
        refine (RepsAt.snoc (r := (r0.1, ls.getD (r0.1 - 1).toNat nl)) (hRy.go (keepT_same kp)) upd_same).go fun c ws h => ?_
        rw [upd_ne (ne_of h (kp _ _ hy) (by intro z; cases z))]
        exact h
    obtain ⟨s22, ys, hy, hRy⟩ := h
    rw [show xs.length = rs.length from hR6.1, List.take_length] at hRy
    refine ⟨po, ys, rfl, .inl ⟨SqL.of hy, fun p5 np5 => ?_⟩⟩
    have k23 : Same H22 (upd H22 p5 (.tup ys)) := (Same.refl H22).new np5
    have og := own_good rfl hG hlfree
    refine ⟨_, _, _, _, rfl, mend_tail (SqT.of upd_same) (hRy.go (keepT_same k23)) hlne hF hlen100 og (fun q hq => ?_) (by simp [own]; omega) fun H24 s24 => ?_⟩
    · obtain ⟨q', hq', rfl⟩ := List.mem_map.mp hq
      have hin := (hG.ok q' hq').1
      have hlt : (q'.1 - 1).toNat < ls.length := by omega
      show (ls.getD (q'.1 - 1).toNat nl).length ≤ 100
      rw [List.getD_eq_getElem?_getD, List.getElem?_eq_getElem hlt]
      exact (hF _ (List.getElem_mem hlt)).2
    rw [own_same ls.length rs ls rfl fun q hq => (hG.ok q hq).1]
    refine ⟨_, rfl, rfl, _, rfl, ite_dne rfl ?_⟩
    have s24' := ((s21'.trans s22).trans k23).trans s24
    -- base
    refine ⟨_, rfl, _, rfl, ⟨ph, xs, rfl, SqT.of (s24' _ _ hh15), fun pb H25 s25 hb25 => ?_⟩⟩
    rw [show cutV xs none (some 3) = xs.take 3 from cut_take xs 3] at hb25
    have s25' := s24'.trans s25
    have jr25 := jar_same jr15 s25'
    have lb : (xs.take 3).length ≤ 3 := by
      rw [List.length_take]
      exact Nat.min_le_left _ _
    -- spot
    refine ⟨_, rfl, _, rfl, pb, _, rfl, .inr hb25, _, _, rfl, rfl, jm, _, rfl, jr25, by omega, by omega, fun k H26 k0 k1 b26 jr26 => ?_⟩
    obtain ⟨spot, rfl⟩ : ∃ u : Nat, k = u := ⟨k.toNat, by omega⟩
    have hb26 := seqT_jar jr25 b26 hb25
    have ha26 := b26 al _ najm (s25' _ _ ha15)
    have hh26 := b26 ph _ nphjm (s25' _ _ hh15)
    have hR26 : RepsAt H26 xs rs := (hR15.go (keepT_same s25')).go (keepT_jar b26 jr25)
    have S26 := But.keep (S15.trans s25') b26 njmH
    have hG3 := hG.take 3
    have hr3 : ∀ q ∈ rs.take 3, Line q.2 := fun q hq => hr9 q (List.mem_of_mem_take hq)
    have l3 : (rs.take 3).length ≤ 3 := by
      rw [List.length_take]
      exact Nat.min_le_left _ _
    -- wrong
    refine ⟨_, rfl, a, ns, 2, rfl, S26.seq hS, by decide, by decide, hlen, fun H27 j3 s27 nj3 jr27 => ?_⟩
    refine ⟨_, rfl, _, rfl, j3, al, pb, ls, xs.take 3, rs.take 3, rfl, jr27, ne_of_none ha26 nj3, s27 _ _ ha26, hlen100, Same.seqT s27 hb26, (hR26.take 3).go (keepT_same s27), by omega, fun q hq => (hr3 q hq).1, fun l t pw H28 hW ht b28 jr28 npw hpw => ?_⟩
    have s28 : Same H26 H28 := fun c o h => b28 c o (ne_of_none h nj3) (s27 c o h)
    have hb28 := Same.seqT s28 hb26
    have hR28 := hR26.go (keepT_same s28)
    have hW1 : RepsAt H28 [.ref pw] [(l, t)] := RepsAt.snoc (xs := []) (rs := []) (r := (l, t)) .nil hpw
    have txt : ∀ (c : Nat) q, q ∈ (rs.take 3).take c ++ (l, t) :: (rs.take 3).drop c → q.2.length ≤ 100 := by
      intro c q hq
      rcases List.mem_append.mp hq with hq | hq
      · have := (hr3 q (List.mem_of_mem_take hq)).1
        omega
      · rcases List.mem_cons.mp hq with rfl | hq
        · exact ht
        · have := (hr3 q (List.mem_of_mem_drop hq)).1
          omega
    have two : 1 ≤ sizeLine := by decide
    -- refused: the wrong one among them
    refine ⟨_, rfl, _, rfl, _, rfl, _, rfl, ⟨pb, _, rfl, hb28, fun q1 H29 s29 hq1 => ⟨_, rfl, two, fun pt' npt => ?_⟩⟩⟩
    rw [cut_take] at hq1
    have k30 : Same H29 (upd H29 pt' (.tup [.ref pw])) := (Same.refl H29).new npt
    refine ⟨q1, pt', _, _, rfl, rfl, Same.seqT k30 hq1, SqT.of upd_same, ?_, fun q2 H31 s31 hq2 => ⟨_, rfl, _, rfl, _, rfl, ⟨pb, _, rfl, Same.seqT ((s29.trans k30).trans s31) hb28, fun q3 H32 s32 hq3 => ?_⟩⟩⟩
    · simp only [List.length_take, List.length_singleton]
      omega
    rw [cut_drop] at hq3
    refine ⟨q2, q3, _, _, rfl, rfl, Same.seqT s32 hq2, hq3, ?_, fun q4 H33 s33 hq4 => ?_⟩
    · simp only [List.length_append, List.length_take, List.length_singleton, List.length_drop]
      omega
    have s33' : Same H28 H33 := (((s29.trans k30).trans s31).trans s32).trans s33
    have hR33 : RepsAt H33 (((xs.take 3).take spot ++ [.ref pw]) ++ (xs.take 3).drop spot) ((rs.take 3).take spot ++ (l, t) :: (rs.take 3).drop spot) := by
      have := ((((hR28.take 3).take spot).app hW1).app ((hR28.take 3).drop spot)).go (keepT_same s33')
      simpa using this
    refine ⟨q4, ls, _, _, rfl, hq4, hR33, hlne, hF, hlen100, txt spot, ?_, mend_wrong (by rw [List.take_append_drop]; exact hW), fun H34 s34 => ⟨_, rfl, iteF ?_⟩⟩
    · simp only [List.length_append, List.length_take, List.length_cons, List.length_drop]
      omega
    have s34' := s33'.trans s34
    -- twice
    refine ⟨_, rfl, _, rfl, _, rfl, (by show 2 ≤ sizeLine; decide), fun p6 np6 => ?_⟩
    have k35 : Same H34 (upd H34 p6 (.tup [.ref pw, .ref pw])) := (Same.refl H34).new np6
    have hW2 : RepsAt H28 [.ref pw, .ref pw] [(l, t), (l, t)] := RepsAt.snoc (xs := [.ref pw]) (rs := [(l, t)]) (r := (l, t)) hW1 hpw
    refine ⟨p6, ls, _, _, rfl, SqT.of upd_same, hW2.go (keepT_same (s34'.trans k35)), hlne, hF, hlen100, ?_, (show 2 ≤ 100 by decide), mend_twice ls (l, t), fun H36 s36 => ⟨_, rfl, iteF ?_⟩⟩
    · intro q hq
      simp only [List.mem_cons, List.not_mem_nil, or_false, or_self] at hq
      rw [hq]
      exact ht
    have s36' : Same H26 H36 := s28.trans ((s34'.trans k35).trans s36)
    have hR36 := hR26.go (keepT_same s36')
    -- the end
    refine ⟨_, rfl, _, rfl, _, _, _, _, rfl, mend_tail (Same.seqT s36' hb26) (hR36.take 3) hlne hF hlen100 hG3 (fun q hq => by have := (hr3 q hq).1; omega) (by omega) fun H37 s37 => ?_⟩
    have s37' := s36'.trans s37
    have qne : put ls (rs.take 3) ≠ [] := by
      intro e
      have := put_len (rs.take 3) ls
      rw [e] at this
      exact hlne (List.length_eq_zero_iff.mp this.symm)
    have qpt : (pt (cs (Str.join nl (put ls (rs.take 3))))).map S = put ls (rs.take 3) := pt_join qne (put_free _ ls hG3 hlfree)
    have sh3 := shaped_strs (put_sok (rs.take 3) ls (fun q hq => (hr3 q hq).2.2) hlsok)
    refine ⟨_, rfl, ?_, fun H38 p7 s38 np7 hp7 => ?_⟩
    · have h1 := StrLaws.join_length_le nl (put ls (rs.take 3))
      have h2 := sum_len (m := 100) (put ls (rs.take 3)) (put_lens (fun z hz => (hF z hz).2) fun q hq => by have := (hr3 q hq).1; omega)
      have h3 : nl.length = 1 := rfl
      have h4 := put_len (rs.take 3) ls
      have h5 : ls.length * 100 ≤ 40 * 100 := Nat.mul_le_mul_right _ (by omega)
      rw [h3, h4] at h1
      rw [h4] at h2
      omega
    rw [qpt] at hp7
    have s38' := s37'.trans s38
    refine ⟨_, rfl, _, rfl, al, pb, ls, _, _, rfl, SqL.of (s38' _ _ ha26), .inr (Same.seqT s38' hb26), (hR26.take 3).go (keepT_same s38'), hG3.inn, fun H39 p8 s39 np8 hp8 => ?_⟩
    refine ⟨_, _, .lst (SqL.of (s39 _ _ hp7)) (dp_strs _), .lst (SqL.of hp8) (dp_strs _), sh3, sh3, _, rfl, ?_⟩
    rw [eq_self sh3]
    have s39' := s38'.trans s39
    refine iteT ⟨_, rfl, _, rfl, _, _, _, _, rfl, mend_tail (SqT.of (s39' _ _ hh26)) (hR26.go (keepT_same s39')) hlne hF hlen100 hG hrlen (by omega) fun H40 s40 => ?_⟩
    refine ⟨_, rfl, rfl, ?_⟩
    rw [decide_eq_true rfl]
    exact q _
end
end K63

set_option Elab.async false
set_option linter.all false
set_option maxRecDepth 100000
set_option maxHeartbeats 4000000
namespace K63
open PySem PySem.Spec PyProof.Rows L2
section
variable {P : Program} {w : World} {K : PySem.W.Frag} {mg : Str → Option Value} {base : Heap}
/-! ### the error that mended raises is made -/
abbrev s_Q : Stmt := inClass (topS 7) 0
theorem pref_len : (PySem.Str.ofString "question: ").length = 10 := by decide +kernel
theorem mk_Q {C fI cc cda : Addr} (T : XS.Sup P K C fI cc) (SF : XS.SupFn P K fI cc (defArgs s_Q) (defBody s_Q) (defScope s_Q) "BadQuestion.__init__" cda) (hno : PySem.W.findIn K (.ref C) "fault" = some none)
    (exC : PySem.W.subIn K (.ref C) (.type "BaseException") = some true) (tyC : PySem.W.typeIn K (.ref C) = some (.type "type")) (kC : PySem.W.keepIn K (.ref C) = true) : MakesX P w K mg C ["fault"] rOne := by
  refine ⟨fun base A R s vs us r hok MO bk hlim hd hq => ?_, exC, tyC, kC⟩
  obtain ⟨y, rfl, hy⟩ := hok
  obtain ⟨u, rfl, r1⟩ := vals1 r
  obtain ⟨t, rfl⟩ := (show ∃ t, u = .str y t from r1)
  refine XS.made_of (m := fun z => if z = "fault" then some (.str y t) else none) T MO bk hlim hd (show 1 ≤ 100 by decide) (fun A' R' s' x t0 bk' hlim' hr' hx hb k => ?_) (fun h' tk e d M => hq h' tk e d _ (fun f => ?_) M)
  · refine XS.init1 (f := "fault") (v := .str y t) T SF MO bk' hlim' hr' hx hb (fun _ _ _ _ _ => .of_eq rfl) (fun L => ?_) hno (by decide +kernel) (by decide +kernel) (by decide +kernel) (by decide +kernel) (by decide +kernel) rfl (by decide +kernel) rfl rfl rfl rfl (by decide +kernel) (fun _ => rfl) (fun _ => rfl) (fun _ => rfl) (fun _ => rfl) (fun _ => rfl) k
    refine XS.je_str fun A E s Q hn q => ?_
    refine PySem.Calls.Constant_str ⟨_, _, rfl, ?_, ?_⟩
    · show (Str.empty ++ PySem.Str.ofString "question: ").length ≤ sizeLine
      rw [PySem.sizeLine_eq, Str.length_append, pref_len]
      decide
    · refine wpAny_FormattedValue_plain (XS.ldX (v := .str y t) hn rfl ?_ rfl rfl (by decide))
      have hz : (Str.empty ++ PySem.Str.ofString "question: " ++ y).length ≤ sizeLine := by
        rw [PySem.sizeLine_eq, Str.length_append, Str.length_append, pref_len]
        show 0 + 10 + y.length ≤ 16777216
        omega
      exact wpAny_formatField_str ⟨_, _, rfl, hz, q _ _ hz⟩ ⟨_, _, rfl, hz, q _ _ hz⟩ (by rw [PySem.sizeLine_eq]; omega)
  · by_cases e : f = "fault"
    · subst e
      exact ⟨t, rfl⟩
    · have e2 : (([("fault" : Str)].zip [V.str y]) : List (Str × V)).lookup f = none := by
        show List.lookup f [(("fault" : Str), V.str y)] = none
        rw [List.lookup_cons, beq_eq_false_iff_ne.mpr e]
        rfl
      show RelO ((([("fault" : Str)].zip [V.str y]) : List (Str × V)).lookup f) (if f = "fault" then some (.str y t) else none)
      rw [e2, if_neg e]
      trivial
theorem errs_of {h : Heap} {CH CT CP CS CM CB CQ CD : Addr} (X : K.In h) (G : h.Ns mainGlobals mg) {fI cc : Addr} (_ : XS.Sup P K CQ fI cc) (nf : PySem.W.findIn K (.ref CQ) "fault" = some none)
    (hg : PySem.W.findIn K (.ref CQ) "__getattribute__" = some (some (.builtin "BaseException.__getattribute__"))) (hk : PySem.W.findIn K (.ref CQ) "__getattr__" = some none) (hs : PySem.W.subIn K (.ref CQ) (.type "BaseException") = some true) (hd : PySem.W.hasDictIn K CQ = true)
    (ha : PySem.W.findIn K (.ref CQ) "__class__" = some (some (.builtin "object.__class__"))) (hn : PySem.W.specialIn K (.builtin "object.__class__") "__get__" = some (some (.builtin "getset_descriptor.__get__"))) (ht : PySem.W.takesIn K (.builtin "object.__class__") = some true) (hm : PySem.W.mroIn K CQ (.type "object") = some true)
    (aH : PySem.W.nsIn K mainGlobals "HoldError" = some (some (.ref CH))) (h1 : PySem.W.subIn K (.ref CH) (.type "BaseException") = some true) (h2 : PySem.W.hasDictIn K CH = true) (h3 : PySem.W.typeIn K (.ref CH) = some (.type "type")) (h4 : PySem.W.subIn K (.ref CQ) (.ref CH) = some true)
    (gH : mg "HoldError" = some (.ref CH)) (gT : mg "BadText" = some (.ref CT)) (gP : mg "BadProgram" = some (.ref CP)) (gS : mg "BadShape" = some (.ref CS)) (gM : mg "TooMany" = some (.ref CM)) (gB : mg "BadPaper" = some (.ref CB)) (gQ : mg "BadQuestion" = some (.ref CQ)) (gD : mg "BadData" = some (.ref CD))
    (no6 : PySem.W.kitAny K (.ref CQ) [.ref CT, .ref CP, .ref CS, .ref CM, .ref CB, .ref CD] = some false) (yes : PySem.W.kitOne K (.ref CQ) (.ref CQ) = some true) : Errs K mg CH CT CP CS CM CB CQ CD :=
  ⟨gH, gT, gP, gS, gM, gB, gQ, gD, ⟨hg, hk, hs, hd, ha, hn, ht, hm⟩, nf, L2.exmOne_of h1 h2 h3 h4, no6, yes⟩
/-! ### all -/
theorem all_ok {CH CT CP CS CM CB CQ CD : Addr} (B : Blt mg) (T : Errs K mg CH CT CP CS CM CB CQ CD) (M : MakesX P w K mg CQ ["fault"] rOne)
    (d_whole : DefTxt K mg "is_whole" s_whole ["value"]) (d_lines : DefTxt K mg "lines_of" s_lines ["text"]) (d_isrep : DefTxt K mg "is_repair" s_isrep ["value", "size"]) (d_mended : DefTxt K mg "mended" s_mended ["text", "repairs"])
    (d_mix : DefTxt K mg "_law_mix" s_l_mix ["number", "turn"]) (d_jar : DefTxt K mg "_law_jar" s_l_jar ["script", "place"]) (d_draw : DefTxt K mg "_law_draw" s_l_draw ["jar", "many"]) (d_pick : DefTxt K mg "_law_pick" s_l_pick ["jar", "row"])
    (d_sign : DefTxt K mg "_law_sign_line" s_l_sign_line ["jar"]) (d_some : DefTxt K mg "_law_some_line" s_l_some_line ["jar", "pool"]) (d_parted : DefTxt K mg "_law_parted" s_l_parted ["text"]) (d_put : DefTxt K mg "_law_put_right" s_l_put_right ["lines", "repairs"])
    (d_refused : DefTxt K mg "_law_refused" s_l_refused ["text", "repairs"]) (d_free : DefTxt K mg "_law_free_lines" s_l_free_lines ["lines", "repairs"]) (d_wrong : DefTxt K mg "_law_wrong_one" s_l_wrong_one ["jar", "lines", "repairs"])
    (d_reps : DefTxt K mg "_law_repairs_of" s_l_repairs_of ["jar", "lines", "pool"]) (d_law : DefTxt K mg "law" s_law ["script"]) : DefAt P w K mg base 8 "law" ["script"] (spLaw K) := by
  have o_draw := ok_draw (P := P) (w := w) (base := base) d_draw B (ok_mix d_mix B)
  have o_pick := ok_pick d_pick B o_draw
  have o_sign := ok_sign d_sign B o_draw o_pick
  have o_some := ok_some d_some B o_draw o_pick o_sign
  have o_free := ok_free (P := P) (w := w) (base := base) d_free B
  have o_mended := ok_mended (base := base) d_mended B M T.gQ (ok_lines d_lines B) (ok_isrep d_isrep B (ok_whole d_whole B))
  exact ok_law d_law B (ok_jar d_jar B) o_draw o_pick o_sign o_some (ok_parted d_parted B) (ok_put d_put B) (ok_refused d_refused B T o_mended) (ok_wrong d_wrong B o_draw o_pick o_free o_sign) (ok_reps d_reps B o_draw o_pick o_free o_some) o_mended
end
end K63

open PySem PySem.W PyProof.Rows
set_option maxRecDepth 100000 in
set_option maxHeartbeats 0 in
theorem PySem.Challenge.cw_holdorslip_k63_mended_lines_holds : PySem.Challenge.rw_holdorslip_k63_mended_lines.Holds := by
  w_on; o_law; k_head; (case hw => w_witness2)
  k_fill
  refine L2.walk_of (l := PySem.Challenge.rw_holdorslip_k63_mended_lines) (n := 63) (k := 8) (x := "script") (CX := fun w => L2.CX PySem.Challenge.rw_holdorslip_k63_mended_lines.prog w) (sp := fun w => K63.spLaw _) rfl (by decide) rfl ⟨rfl, by decide, by decide⟩ (fun w h Y => PySem.W.kIn_of Y) ?F (fun _ _ a ns hl _ hS => ⟨a, ns, rfl, hS, hl, fun _ => rfl⟩) ?X
  case F =>
    intro w mg fa h KX G hmg
    refine' L2.use (L2.def_of (x := "is_whole") (st := K63.s_whole) (ps := ["value"]) KX G ?a_1 ?l_1 ?c_1 ?k_1 (fun _ _ _ _ _ _ us hl => match us, hl with | [_], _ => rfl)) ?r_1
    (case a_1 => k_is); (case l_1 => k_is); (case c_1 => k_is); (case k_1 => k_is)
    intro d_whole
    refine' L2.use (L2.def_of (x := "lines_of") (st := K63.s_lines) (ps := ["text"]) KX G ?a_2 ?l_2 ?c_2 ?k_2 (fun _ _ _ _ _ _ us hl => match us, hl with | [_], _ => rfl)) ?r_2
    (case a_2 => k_is); (case l_2 => k_is); (case c_2 => k_is); (case k_2 => k_is)
    intro d_lines
    refine' L2.use (L2.def_of (x := "is_repair") (st := K63.s_isrep) (ps := ["value", "size"]) KX G ?a_3 ?l_3 ?c_3 ?k_3 (fun _ _ _ _ _ _ us hl => match us, hl with | [_, _], _ => rfl)) ?r_3
    (case a_3 => k_is); (case l_3 => k_is); (case c_3 => k_is); (case k_3 => k_is)
    intro d_isrep
    refine' L2.use (L2.def_of (x := "mended") (st := K63.s_mended) (ps := ["text", "repairs"]) KX G ?a_4 ?l_4 ?c_4 ?k_4 (fun _ _ _ _ _ _ us hl => match us, hl with | [_, _], _ => rfl)) ?r_4
    (case a_4 => k_is); (case l_4 => k_is); (case c_4 => k_is); (case k_4 => k_is)
    intro d_mended
    refine' L2.use (L2.def_of (x := "_law_mix") (st := K63.s_l_mix) (ps := ["number", "turn"]) KX G ?a_5 ?l_5 ?c_5 ?k_5 (fun _ _ _ _ _ _ us hl => match us, hl with | [_, _], _ => rfl)) ?r_5
    (case a_5 => k_is); (case l_5 => k_is); (case c_5 => k_is); (case k_5 => k_is)
    intro d_mix
    refine' L2.use (L2.def_of (x := "_law_jar") (st := K63.s_l_jar) (ps := ["script", "place"]) KX G ?a_6 ?l_6 ?c_6 ?k_6 (fun _ _ _ _ _ _ us hl => match us, hl with | [_, _], _ => rfl)) ?r_6
    (case a_6 => k_is); (case l_6 => k_is); (case c_6 => k_is); (case k_6 => k_is)
    intro d_jar
    refine' L2.use (L2.def_of (x := "_law_draw") (st := K63.s_l_draw) (ps := ["jar", "many"]) KX G ?a_7 ?l_7 ?c_7 ?k_7 (fun _ _ _ _ _ _ us hl => match us, hl with | [_, _], _ => rfl)) ?r_7
    (case a_7 => k_is); (case l_7 => k_is); (case c_7 => k_is); (case k_7 => k_is)
    intro d_draw
    refine' L2.use (L2.def_of (x := "_law_pick") (st := K63.s_l_pick) (ps := ["jar", "row"]) KX G ?a_8 ?l_8 ?c_8 ?k_8 (fun _ _ _ _ _ _ us hl => match us, hl with | [_, _], _ => rfl)) ?r_8
    (case a_8 => k_is); (case l_8 => k_is); (case c_8 => k_is); (case k_8 => k_is)
    intro d_pick
    refine' L2.use (L2.def_of (x := "_law_sign_line") (st := K63.s_l_sign_line) (ps := ["jar"]) KX G ?a_9 ?l_9 ?c_9 ?k_9 (fun _ _ _ _ _ _ us hl => match us, hl with | [_], _ => rfl)) ?r_9
    (case a_9 => k_is); (case l_9 => k_is); (case c_9 => k_is); (case k_9 => k_is)
    intro d_sign
    refine' L2.use (L2.def_of (x := "_law_some_line") (st := K63.s_l_some_line) (ps := ["jar", "pool"]) KX G ?a_10 ?l_10 ?c_10 ?k_10 (fun _ _ _ _ _ _ us hl => match us, hl with | [_, _], _ => rfl)) ?r_10
    (case a_10 => k_is); (case l_10 => k_is); (case c_10 => k_is); (case k_10 => k_is)
    intro d_some
    refine' L2.use (L2.def_of (x := "_law_parted") (st := K63.s_l_parted) (ps := ["text"]) KX G ?a_11 ?l_11 ?c_11 ?k_11 (fun _ _ _ _ _ _ us hl => match us, hl with | [_], _ => rfl)) ?r_11
    (case a_11 => k_is); (case l_11 => k_is); (case c_11 => k_is); (case k_11 => k_is)
    intro d_parted
    refine' L2.use (L2.def_of (x := "_law_put_right") (st := K63.s_l_put_right) (ps := ["lines", "repairs"]) KX G ?a_12 ?l_12 ?c_12 ?k_12 (fun _ _ _ _ _ _ us hl => match us, hl with | [_, _], _ => rfl)) ?r_12
    (case a_12 => k_is); (case l_12 => k_is); (case c_12 => k_is); (case k_12 => k_is)
    intro d_put
    refine' L2.use (L2.def_of (x := "_law_refused") (st := K63.s_l_refused) (ps := ["text", "repairs"]) KX G ?a_13 ?l_13 ?c_13 ?k_13 (fun _ _ _ _ _ _ us hl => match us, hl with | [_, _], _ => rfl)) ?r_13
    (case a_13 => k_is); (case l_13 => k_is); (case c_13 => k_is); (case k_13 => k_is)
    intro d_refused
    refine' L2.use (L2.def_of (x := "_law_free_lines") (st := K63.s_l_free_lines) (ps := ["lines", "repairs"]) KX G ?a_14 ?l_14 ?c_14 ?k_14 (fun _ _ _ _ _ _ us hl => match us, hl with | [_, _], _ => rfl)) ?r_14
    (case a_14 => k_is); (case l_14 => k_is); (case c_14 => k_is); (case k_14 => k_is)
    intro d_free
    refine' L2.use (L2.def_of (x := "_law_wrong_one") (st := K63.s_l_wrong_one) (ps := ["jar", "lines", "repairs"]) KX G ?a_15 ?l_15 ?c_15 ?k_15 (fun _ _ _ _ _ _ us hl => match us, hl with | [_, _, _], _ => rfl)) ?r_15
    (case a_15 => k_is); (case l_15 => k_is); (case c_15 => k_is); (case k_15 => k_is)
    intro d_wrong
    refine' L2.use (L2.def_of (x := "_law_repairs_of") (st := K63.s_l_repairs_of) (ps := ["jar", "lines", "pool"]) KX G ?a_16 ?l_16 ?c_16 ?k_16 (fun _ _ _ _ _ _ us hl => match us, hl with | [_, _, _], _ => rfl)) ?r_16
    (case a_16 => k_is); (case l_16 => k_is); (case c_16 => k_is); (case k_16 => k_is)
    intro d_reps
    refine' L2.use (L2.def_of (x := "law") (st := K63.s_law) (ps := ["script"]) KX G ?a_17 ?l_17 ?c_17 ?k_17 (fun _ _ _ _ _ _ us hl => match us, hl with | [_], _ => rfl)) ?r_17
    (case a_17 => k_is); (case l_17 => k_is); (case c_17 => k_is); (case k_17 => k_is)
    intro d_law
    refine' L2.use (L2.free_of (x := "len") KX G ?a_18) ?r_18
    (case a_18 => k_is)
    intro n_len
    refine' L2.use (L2.free_of (x := "int") KX G ?a_19) ?r_19
    (case a_19 => k_is)
    intro n_int
    refine' L2.use (L2.free_of (x := "str") KX G ?a_20) ?r_20
    (case a_20 => k_is)
    intro n_str
    refine' L2.use (L2.free_of (x := "abs") KX G ?a_21) ?r_21
    (case a_21 => k_is)
    intro n_abs
    refine' L2.use (L2.free_of (x := "tuple") KX G ?a_22) ?r_22
    (case a_22 => k_is)
    intro n_tuple
    refine' L2.use (L2.free_of (x := "list") KX G ?a_23) ?r_23
    (case a_23 => k_is)
    intro n_list
    refine' L2.use (L2.free_of (x := "bool") KX G ?a_24) ?r_24
    (case a_24 => k_is)
    intro n_bool
    refine' L2.use (L2.free_of (x := "range") KX G ?a_25) ?r_25
    (case a_25 => k_is)
    intro n_range
    refine' L2.use (L2.free_of (x := "isinstance") KX G ?a_26) ?r_26
    (case a_26 => k_is)
    intro n_isinstance
    have B : L2.Blt mg := ⟨n_len, n_int, n_str, n_abs, n_tuple, n_list, n_bool, n_range, n_isinstance⟩
    refine' L2.use (L2.glob_of (x := "HoldError") KX G ?a_27) ?r_27
    (case a_27 => k_is)
    intro g_HoldError
    refine' L2.use (L2.glob_of (x := "BadText") KX G ?a_28) ?r_28
    (case a_28 => k_is)
    intro g_BadText
    refine' L2.use (L2.glob_of (x := "BadProgram") KX G ?a_29) ?r_29
    (case a_29 => k_is)
    intro g_BadProgram
    refine' L2.use (L2.glob_of (x := "BadShape") KX G ?a_30) ?r_30
    (case a_30 => k_is)
    intro g_BadShape
    refine' L2.use (L2.glob_of (x := "TooMany") KX G ?a_31) ?r_31
    (case a_31 => k_is)
    intro g_TooMany
    refine' L2.use (L2.glob_of (x := "BadPaper") KX G ?a_32) ?r_32
    (case a_32 => k_is)
    intro g_BadPaper
    refine' L2.use (L2.glob_of (x := "BadQuestion") KX G ?a_33) ?r_33
    (case a_33 => k_is)
    intro g_BadQuestion
    refine' L2.use (L2.glob_of (x := "BadData") KX G ?a_34) ?r_34
    (case a_34 => k_is)
    intro g_BadData
    refine' L2.use (L2.err_of (P := PySem.Challenge.rw_holdorslip_k63_mended_lines.prog) (st := K63.s_Q) (qual := "BadQuestion.__init__") (x := "BadQuestion") KX ?aC_35 ?iC_35 ?tI_35 ?l_35 ?c_35 ?lC_35 ?rv_35 ?sa_35 ?su_35 ?mr_35 ?sv_35 ?lc_35 ?ns_35 ?op_35 ?tp_35 ?ld_35 ?v2_35 ?fe_35) ?r_35
    (case aC_35 => k_is); (case iC_35 => k_is); (case tI_35 => k_is); (case l_35 => k_is); (case c_35 => k_is); (case lC_35 => k_is); (case rv_35 => decide +kernel); (case sa_35 => k_is); (case su_35 => ks_is); (case mr_35 => k_is); (case sv_35 => k_is); (case lc_35 => k_is); (case ns_35 => k_is); (case op_35 => k_is); (case tp_35 => decide +kernel); (case ld_35 => k_is); (case v2_35 => rfl); (case fe_35 => decide +kernel)
    intro T
    refine' L2.use (K63.mk_Q (w := w) (mg := mg) T.1 T.2 ?nf_36 ?eC_36 ?tC_36 ?kC_36) ?r_36
    (case nf_36 => k_is); (case eC_36 => k_is); (case tC_36 => k_is); (case kC_36 => k_is)
    intro M
    refine' L2.use (K63.errs_of KX G T.1 ?nf_37 ?hg_37 ?hk_37 ?hs_37 ?hd_37 ?ha_37 ?hn_37 ?ht_37 ?hm_37 ?aH_37 ?h1_37 ?h2_37 ?h3_37 ?h4_37 g_HoldError g_BadText g_BadProgram g_BadShape g_TooMany g_BadPaper g_BadQuestion g_BadData ?no6_37 ?yes_37) ?r_37
    (case nf_37 => k_is); (case hg_37 => k_is); (case hk_37 => k_is); (case hs_37 => k_is); (case hd_37 => k_is); (case ha_37 => k_is); (case hn_37 => k_is); (case ht_37 => k_is); (case hm_37 => k_is); (case aH_37 => k_is); (case h1_37 => k_is); (case h2_37 => k_is); (case h3_37 => k_is); (case h4_37 => k_is); (case no6_37 => kit_is); (case yes_37 => kit_is)
    intro E
    exact L2.law_of d_law hmg (fun _ _ _ _ _ _ _ => rfl) fun base => K63.all_ok B E M d_whole d_lines d_isrep d_mended d_mix d_jar d_draw d_pick d_sign d_some d_parted d_put d_refused d_free d_wrong d_reps d_law
  case X =>
    intro w H s e s' h
    obtain ⟨_, _, _, _, _, _, _, _, _, _, _, _, z⟩ := h
    exact z
