import PyProof.Rows.All
import Wide.All
import OpenK.AllK
import Wide.FinOn
import HandS.ForMost
import HandS.ForExc
import HandS.ExcInit
import KE.KExcSuper
import HandS.IsInst
import HandS.ExcIs
import HandS.ExcField
import HandS.MakeKwOnly
import HandS.ExcOwn
import HandS.Codes
import HandS.Style
import HandS.Flow
import HandS.Defaults
import HandS.OwnEq
import PySem.Challenge.RW_lastlife_k01_numbers_names_customs
set_option Elab.async false
set_option linter.all false
set_option maxRecDepth 100000
set_option maxHeartbeats 4000000
namespace PySem
namespace ErrL
open PySem.W PySem.Calls PyProof.Rows PySem.HandSPX
/-! own errors whose first row calls the base's maker through super() -/
def supS (args : List Expr) (a1 a2 a3 a4 a5 : Pos) : Stmt :=
  .Expr (.Call (.Attribute (.Call (.Name "super" a1) [] [] a2) "__init__" a3) args [] a4) a5
def stoS (f : Str) (q1 q2 q3 q4 : Pos) : Stmt :=
  .Assign [.Attribute (.Name "self" q1) f q2] (.Name f q3) q4
/-- the facts about an error class at C whose maker stands at fI -/
structure SupC (prog : Program) (K : Frag) (C fI : Addr) (qual : Str) (params : Arguments) (body : List Stmt) (scope : Scope) : Prop where
  cls : ∃ nm q N bs bm sn sub ab col dd k0 k1 k2 k3 k5, K.lookup C = some (excClassObj nm q C N bs bm true sn sub ab col dd k0 k1 k2 k3 k5 "ValueError.__new__") ∧ refsVE bm = true
  fn : ∃ (oc : Value) (od : Option Addr) (kV doc pm : Value) (an : Option Addr) (cda : Addr) (ct : Value) (osl : Array (Option Value)) (cc : Addr) (vs : Array Value) (file : Str) (tf : Tok) (ccl : Value) (cdd : Option Addr) (ccs : Array (Option Value)) (cl : Value) (cld : Option Addr) (csl : Array (Option Value)),
    K.lookup fI = some ⟨oc, od, .func (ksFn "__init__" qual params body scope .none kV doc pm an (.ref cda) ct cc), osl⟩ ∧ codeIn K (.ref cda) qual = true ∧
    K.lookup cda = some ⟨ccl, cdd, .fields vs, ccs⟩ ∧ vs[2]? = some (.str file tf) ∧ ((prog.main.file : Str) == file) = true ∧
    K.lookup cc = some ⟨cl, cld, .cell (some (.ref C)), csl⟩
  self1 : mroIn K C (.ref C) = some true
  isVE : subIn K (.ref C) (.type "ValueError") = some true
  opq : nsIn K cStatics "thirdparty.any" = some none
  sup : ks_superIn K C C "__init__" = some (some (.builtin "ValueError.__init__"))
  sa : findIn K (.ref C) "__setattr__" = some (some (.builtin "object.__setattr__"))
  iC : findIn K (.ref C) "__init__" = some (some (.ref fI))
  tC : typeIn K (.ref fI) = some (.type "function")
  top : (prog.main.scope.names.lookup ("super" : Str)).isSome = false
/-- a method-wrapper of ValueError.__init__, bound to x, called -/
theorem call_mw {prog : Program} {w : World} {A : Around} {E : Value → Shared → Prop} {h : Heap} {g : Array GenState} {d : Drawn} {t : Nat} {os : OsState}
    {nm q : Str} {C N : Addr} {bs bm : List Value} {hdct : Bool} {sn : List Str} {sub : List Value} {ab : Bool} {col : Option Bool} {dd : Option Addr} {k0 k1 k2 k3 k5 : Option Value}
    {u e t0 : Addr} {rest : List Value} {Q : Value → Shared → Prop}
    (hC : h.get? C = some (excClassObj nm q C N bs bm hdct sn sub ab col dd k0 k1 k2 k3 k5 "ValueError.__new__")) (he : h.get? e = some (excO C t0)) (hu : h.get? u = some (kxs_mw "ValueError.__init__" e)) (hrest : rest.length ≤ sizeLine)
    (hq : ∀ h' t1, (∀ b o, b ≠ e → h.get? b = some o → h'.get? b = some o) → h'.get? e = some (excO C t1) → Q .none ⟨h', g, d, t, os⟩) :
    wpAny (model prog w) A (call (.ref u) rest) Q E ⟨h, g, d, t, os⟩ := by
  refine wpAny_call (codeAny_of_tree ?_)
  show wpAny _ A.in1 (callAny (.ref u) ⟨rest, []⟩) _ _ _
  simp only [callAny]
  refine wpAny_bind (wpAny_load hu ?_)
  refine KFB.if_so (by rfl) ?_
  refine wpAny_bind (check_bound_init F.excBase_ValueError.toExcCallFacts hC he rfl ?_)
  refine wpAny_bind (wpAny_pure (wpAny_pure ?_))
  refine ⟨plainId_quiet F.excBase_ValueError.init.plain _, codeAny_builtin F.excBase_ValueError.initEntry ?_⟩
  wp_walk
  refine hq _ h.objs.size (fun b o hb ho => ?_) ?_
  · rw [Heap.get?_update_other _ _ (Ne.symm hb)]
    exact Heap.get?_push_of_some _ ho
  · rw [Heap.get?_update_self _ (Heap.get?_push_of_some _ he) rfl]
    rfl

/-- what stands behind super().__init__(..): the exception has new args, all else is kept -/
theorem sup_first {prog : Program} {w : World} {A : Around} {E : Value → Shared → Prop} {K : Frag} {C fI : Addr} {qual : Str} {body : List Stmt} {scope : Scope} {mg mb : Str → Option Value}
    {ar : Arg} {x t0 L cda cc : Addr} {m : Str → Option Value} {e0 : Expr} {es : List Expr} {a1 a2 a3 a4 a5 : Pos} {s : Shared} {Q : Flow → Shared → Prop} {fd : FuncData} {oc ccl cl : Value} {od cdd cld : Option Addr} {osl ccs csl : Array (Option Value)} {vs : Array Value} {file : Str} {tf : Tok}
    {nm q : Str} {N : Addr} {bs bm : List Value} {sn : List Str} {sub : List Value} {ab : Bool} {col : Option Bool} {dd : Option Addr} {k0 k1 k2 k3 k5 : Option Value}
    (hC : K.lookup C = some (excClassObj nm q C N bs bm true sn sub ab col dd k0 k1 k2 k3 k5 "ValueError.__new__"))
    (X : K.In s.heap) (hg : s.heap.Ns mainGlobals mg) (hb : s.heap.Ns builtinsNs mb) (hbt : ∀ y : Str, y ≠ "__name__" → mb y = bootBuiltins y) (hsu : mg "super" = none)
    (hf : K.lookup fI = some ⟨oc, od, .func fd, osl⟩) (hp : (fd.params.posonlyargs ++ fd.params.args).head? = some ar)
    (hcode : K.lookup cda = some ⟨ccl, cdd, .fields vs, ccs⟩) (hvs : vs[2]? = some (.str file tf)) (hfile : ((prog.main.file : Str) == file) = true) (hcell : K.lookup cc = some ⟨cl, cld, .cell (some (.ref C)), csl⟩)
    (self1 : mroIn K C (.ref C) = some true) (isVE : subIn K (.ref C) (.type "ValueError") = some true) (opq : nsIn K cStatics "thirdparty.any" = some none) (sup : ks_superIn K C C "__init__" = some (some (.builtin "ValueError.__init__")))
    (htop : (prog.main.scope.names.lookup ("super" : Str)).isSome = false)
    (hns : s.heap.Ns L m) (hv : m ar.arg = some (.ref x)) (hx : s.heap.get? x = some (excO C t0))
    (hks : scope.names.lookup ("super" : Str) = some .globalImplicit) (hkc : scope.names.lookup ("__class__" : Str) = some .free) (hka : scope.names.lookup ar.arg = some .local) (hk : scope.kind = .function)
    (hargs : ∀ (s1 : Shared) (Q1 : List Value → Shared → Prop), s1.heap.Ns L m → s1.heap.Ns mainGlobals mg → s1.heap.Ns builtinsNs mb → (∀ us tk, us.length ≤ 10 → Q1 us { s1 with toks := tk }) →
      wpAny (model prog w) A (spliced (backTo a4 (starEach (e0 :: es) (ksEnv qual scope L fI (.ref cda) cc)))) Q1 E s1)
    (he : starEach (e0 :: es) (ksEnv qual scope L fI (.ref cda) cc) = (false, eval e0 (ksEnv qual scope L fI (.ref cda) cc)) :: starEach es (ksEnv qual scope L fI (.ref cda) cc))
    (hpl : (backTo a4 (starEach es (ksEnv qual scope L fI (.ref cda) cc))).any (·.1) = false)
    (hi : interactive (ksEnv qual scope L fI (.ref cda) cc) = false) {pl : Sem Bool}
    (hev : eval (.Call (.Attribute (.Call (.Name "super" a1) [] [] a2) "__init__" a3) (e0 :: es) [] a4) (ksEnv qual scope L fI (.ref cda) cc) = (do
      let ov ← attributeBase (.Call (.Name "super" a1) [] [] a2) "__init__" (ksEnv qual scope L fI (.ref cda) cc) (eval (.Call (.Name "super" a1) [] [] a2) (ksEnv qual scope L fI (.ref cda) cc))
      standAt a3.atName
      let (f, first) ← holding [ov] (getMethod ov "__init__" pl)
      callWith a4 f first (backTo a4 (starEach (e0 :: es) (ksEnv qual scope L fI (.ref cda) cc))) []))
    (hsw : swapsWith (.Call (.Attribute (.Call (.Name "super" a1) [] [] a2) "__init__" a3) (e0 :: es) [] a4) none a5.line (ksEnv qual scope L fI (.ref cda) cc) = pure false)
    (h : ∀ h' tk t1, (∀ b o, b ≠ x → s.heap.get? b = some o → h'.get? b = some o) → h'.get? x = some (excO C t1) → Q .next { s with heap := h', toks := tk }) :
    _root_.PySem.wpAt (model prog w) A (.func body (ksEnv qual scope L fI (.ref cda) cc)) (exec (supS (e0 :: es) a1 a2 a3 a4 a5) (ksEnv qual scope L fI (.ref cda) cc)) Q E s := by
  have hCc : clsIn K C = some { name := nm, bases := bs, mro := .ref C :: bm, ns := N, qualname := q, hasDict := true, slotNames := sn, subclasses := sub, abstract := ab, collection := col, hasDel := false } := by unfold clsIn; rw [hC] <;> rfl
  obtain ⟨hh, g, d, t, os⟩ := s
  have hCh := X _ _ hC
  have xC : x ≠ C := by
    rintro rfl
    rw [hCh] at hx
    cases hx
  unfold supS
  refine ks_wpAt_Expr_any (ks_wpAt_MethodCall ?_ hev) hi hsw
  refine ks_wpAt_super_base (env := ksEnv qual scope L fI (.ref cda) cc) hks hkc (by decide) rfl (X _ _ hf) rfl hp rfl (X _ _ hcode) rfl hvs hfile htop ?_
  refine ks_loadName_global hk hks (loadGlobal_builtin (env := ksEnv qual scope L fI (.ref cda) cc) hg hsu hb ((hbt _ (by decide +kernel)).trans (show bootBuiltins ("super" : Str) = some (.type "super") by decide +kernel)) ⟨rfl, ?_⟩)
  refine wpAny_loadName_free hk hkc rfl ⟨_, X _ _ hcell, rfl⟩ ?_
  refine wpAny_loadName_local hk hka hns hv ?_
  refine ks_wpAny_isType_cls hCh rfl ⟨rfl, ?_⟩
  refine ks_wpAny_call_super hCh rfl hx rfl (fun c e => ?_) (looks_mroIn X self1) (fun h1 e1 k1 => ?_)
  · cases e
  have X1 : K.In h1 := X.keeps k1
  have hx1 := k1 _ _ hx
  have hI : Looks (model prog w) h1 (isInstance (.ref x) (.type "ValueError")) true := (InstAt.type (od := none) ⟨hx1, rfl, rfl, trivial⟩).andThen (looks_subIn X1 isVE)
  have hsu2 := sup
  unfold ks_superIn at hsu2
  rw [hCc] at hsu2
  refine kxs_getMethod kxs_ValueError e1 (looks_opaque X1 opq) (l₀ := .ref C :: bm) ?_ rfl X1 hsu2 hI xC (by decide) ?_
  · exact fun A Q E s k q => wpAny_bind ((looks_clsIn X1 hCc) A _ E s k (wpAny_pure q))
  have k2 : ∀ b o, h1.get? b = some o → (h1.push (kxs_mw "ValueError.__init__" x)).get? b = some o := fun b o e => Heap.get?_push_of_some _ e
  have k12 : ∀ b o, hh.get? b = some o → (h1.push (kxs_mw "ValueError.__init__" x)).get? b = some o := fun b o e => k2 b o (k1 b o e)
  have mwn : (h1.push (kxs_mw "ValueError.__init__" x)).get? h1.objs.size = some (kxs_mw "ValueError.__init__" x) := Heap.get?_push_at rfl rfl
  rw [he]
  refine kxs_callWith (i := "ValueError.__init__") (x := x) (by show (false || (backTo a4 (starEach es (ksEnv qual scope L fI (.ref cda) cc))).any (·.1)) = false; rw [hpl]; rfl) ?_
  refine evalArgs_plain ?_
  have ha := hargs ⟨h1.push (kxs_mw "ValueError.__init__" x), g, d, t + 1, os⟩ (fun vs s₁ => KxsAt "ValueError.__init__" h1.objs.size x s₁.heap ∧ wpAny (model prog w) A (call (.ref h1.objs.size) ([] ++ vs)) (fun _ => Q .next) E s₁) (hns.keeps k12) (hg.keeps k12) (hb.keeps k12) (fun us tk hl => ?_)
  · rw [he] at ha
    exact ha
  refine ⟨mwn, ?_⟩
  refine call_mw ((X.keeps k12) _ _ hC) (k12 _ _ hx) mwn (Nat.le_trans hl (by rw [sizeLine_eq]; decide)) fun h' t1 k e => ?_
  exact h h' tk t1 (fun b o hb e => k b o hb (k12 b o e)) e

/-- what the text of the maker says: everything that hangs on its written scope -/
structure SupW (prog : Program) (w : World) (params : Arguments) (scope : Scope) (qual : Str) (fs : List Str) (ok : List Value → Prop) (e0 : Expr) (es : List Expr) (a1 a2 a3 a4 a5 : Pos) : Prop where
  hk : scope.kind = .function
  co : scope.isCoroutine = false
  gen : scope.isGenerator = false
  ks : scope.names.lookup ("super" : Str) = some .globalImplicit
  kc : scope.names.lookup ("__class__" : Str) = some .free
  kse : scope.names.lookup ("self" : Str) = some .local
  kf : ∀ f ∈ fs, scope.names.lookup f = some .local
  cell : ∀ y ∈ scope.names, y.2 ≠ .cell
  par : ∃ p, (params.posonlyargs ++ params.args).head? = some p ∧ p.arg = "self"
  hi : ∀ (L fI : Addr) (cd : Value) (cc : Addr), interactive (ksEnv qual scope L fI cd cc) = false
  hev : ∀ (L fI : Addr) (cd : Value) (cc : Addr), ∃ pl : Sem Bool, eval (.Call (.Attribute (.Call (.Name "super" a1) [] [] a2) "__init__" a3) (e0 :: es) [] a4) (ksEnv qual scope L fI cd cc) = (do
      let ov ← attributeBase (.Call (.Name "super" a1) [] [] a2) "__init__" (ksEnv qual scope L fI cd cc) (eval (.Call (.Name "super" a1) [] [] a2) (ksEnv qual scope L fI cd cc))
      standAt a3.atName
      let (f, first) ← holding [ov] (getMethod ov "__init__" pl)
      callWith a4 f first (backTo a4 (starEach (e0 :: es) (ksEnv qual scope L fI cd cc))) [])
  hsw : ∀ (L fI : Addr) (cd : Value) (cc : Addr), swapsWith (.Call (.Attribute (.Call (.Name "super" a1) [] [] a2) "__init__" a3) (e0 :: es) [] a4) none a5.line (ksEnv qual scope L fI cd cc) = pure false
  hst : ∀ (L fI : Addr) (cd : Value) (cc : Addr) (f : Str) (q1 q2 q3 q4 : Pos), swapsWith (.Name f q3) (some (.Attribute (.Name "self" q1) f q2)) q4.line (ksEnv qual scope L fI cd cc) = pure false
  he : ∀ (L fI : Addr) (cd : Value) (cc : Addr), starEach (e0 :: es) (ksEnv qual scope L fI cd cc) = (false, eval e0 (ksEnv qual scope L fI cd cc)) :: starEach es (ksEnv qual scope L fI cd cc)
  hpl : ∀ (L fI : Addr) (cd : Value) (cc : Addr), (backTo a4 (starEach es (ksEnv qual scope L fI cd cc))).any (·.1) = false
  hargs : ∀ (L fI : Addr) (cd : Value) (cc : Addr) (A : Around) (E : Value → Shared → Prop) (us : List Value) (s1 : Shared) (mg mb m : Str → Option Value) (Q1 : List Value → Shared → Prop), ok us → (∀ (i : Nat) (f : Str), fs[i]? = some f → m f = us[i]?) → us.length = fs.length → mg "str" = none → s1.heap.Ns L m → s1.heap.Ns mainGlobals mg → s1.heap.Ns builtinsNs mb →
      (∀ y : Str, y ≠ "__name__" → mb y = bootBuiltins y) → (∀ ws tk, ws.length ≤ 10 → Q1 ws { s1 with toks := tk }) →
      wpAny (model prog w) A (spliced (backTo a4 (starEach (e0 :: es) (ksEnv qual scope L fI cd cc)))) Q1 E s1
/-- what a maker leaves of a fresh exception at x: its dict holds the map -/
structure InitEnd (h h' : Heap) (x C dx : Addr) (mA : Str → Option Value) : Prop where
  keep : ∀ b o, b ≠ x → h.get? b = some o → h'.get? b = some o
  obj : ∃ t1, h'.get? x = some { cls := .ref C, dict := some dx, data := .fields #[.ref t1, .none, .none, .none, .bool false, .none] }
  dbig : h.objs.size ≤ dx
  dne : dx ≠ x
  ns : h'.Ns1 dx mA
theorem ldS {M : Model} {s : Shared} {env : Env} {m : Str → Option Value} {x : Str} {pos : Pos} {v : Value} {Q : Value → Shared → Prop} {A : Around} {E : Value → Shared → Prop} (hk : env.scope.kind = .function) (hl : env.kindOf x = some .local) (hn : s.heap.Ns env.locals m) (hv : m x = some v) (h : Q v s)
    (hd : (x == ("__debug__" : Str)) = false) : wpAny M A (eval (.Name x pos) env) Q E s := wpAny_Name (wpAny_loadName_local hk hl hn hv h) hd
section
variable {prog : Program} {w : World} {A : Around} {E : Value → Shared → Prop} {K : Frag} {C fI : Addr} {qual : Str} {params : Arguments} {body : List Stmt} {scope : Scope} {mg mb : Str → Option Value} {x t0 : Addr} {s : Shared} {R : Result → Shared → Prop}
    {f f1 f2 : Str} {ok : List Value → Prop} {e0 : Expr} {es : List Expr} {a1 a2 a3 a4 a5 q1 q2 q3 q4 r1 r2 r3 r4 : Pos}
theorem kin_but {h h' : Heap} (X : K.In h) (hx : K.lookup x = none) (k : ∀ b o, b ≠ x → h.get? b = some o → h'.get? b = some o) : K.In h' := fun a o e => k a o (fun z => by rw [z, hx] at e; cases e) (X a o e)
theorem ns_but {h h' : Heap} {L : Addr} {m : Str → Option Value} (n : L ≠ x) (hn : h.Ns L m) (k : ∀ b o, b ≠ x → h.get? b = some o → h'.get? b = some o) : h'.Ns L m := by
  obtain ⟨o, es, ep, ho, r⟩ := hn
  exact ⟨o, es, ep, k _ _ n ho, r⟩
/-- one field -/
theorem sup_init1 (T : SupC prog K C fI qual params [supS (e0 :: es) a1 a2 a3 a4 a5, stoS f q1 q2 q3 q4] scope) (W : SupW prog w params scope qual [f] ok e0 es a1 a2 a3 a4 a5) (hnf : findIn K (.ref C) f = some none) (hfd : (f == ("__debug__" : Str)) = false) (hfs : f ≠ "self") {v : Value} (hok : ok [v])
    (hb : ∀ (kV doc pm : Value) (an : Option Addr) (cdv ct : Value) (cc : Addr), bindArgs (ksFn "__init__" qual params [supS (e0 :: es) a1 a2 a3 a4 a5, stoS f q1 q2 q3 q4] scope .none kV doc pm an cdv ct cc) ⟨[.ref x, v], []⟩ = pure [(("self" : Str), Value.ref x), (f, v)])
    (X : K.In s.heap) (hlim : s.heap.NoLimit) (hg : s.heap.Ns mainGlobals mg) (hbn : s.heap.Ns builtinsNs mb) (hbt : ∀ y : Str, y ≠ "__name__" → mb y = bootBuiltins y) (hsu : mg "super" = none) (hstr : mg "str" = none)
    (hx : s.heap.get? x = some (excO C t0)) (hnx : K.lookup x = none) (hroom : A.depth < recursionLimit)
    (hq : ∀ h' tk dx, InitEnd s.heap h' x C dx (fun y => if y = f then some v else none) → R (.ok (.ret .none)) { s with heap := h', toks := tk }) :
    codeAny (model prog w) A (.call (.ref fI) ⟨[.ref x, v], []⟩) R s := by
  obtain ⟨nm, q, N, bs, bm, sn, sub, ab, col, dd, k0, k1, k2, k3, k5, hC, hbm⟩ := T.cls
  obtain ⟨oc, od, kV, doc, pm, an, cda, ct, osl, cc, vs, file, tf, ccl, cdd, ccs, cl, cld, csl, hf, hcd, hcode, hvs, hfile, hcell⟩ := T.fn
  obtain ⟨par, hp, hps⟩ := W.par
  have hcl : clsIn K C = some { name := nm, bases := bs, mro := .ref C :: bm, ns := N, qualname := q, hasDict := true, slotNames := sn, subclasses := sub, abstract := ab, collection := col, hasDel := false } := by unfold clsIn; rw [hC] <;> rfl
  refine ks_codeAny_call_defAt (fd := ksFn "__init__" qual params [supS (e0 :: es) a1 a2 a3 a4 a5, stoS f q1 q2 q3 q4] scope .none kV doc pm an (.ref cda) ct cc) (binds := [(("self" : Str), Value.ref x), (f, v)]) hroom (X _ _ hf) rfl hlim (codeRec_of X hcd) rfl (BindsTo.of_eq (hb ..)) W.cell ?_ (fun h₁ hn k₁ => ?_) W.co W.gen W.hk
  · intro y hy
    rcases List.mem_cons.mp hy with rfl | hy
    · exact W.kse
    · rcases List.mem_cons.mp hy with rfl | hy
      · exact W.kf f (List.mem_cons_self)
      · cases hy
  have hmf : (fun y => List.lookup y (List.reverse [(("self" : Str), Value.ref x), (f, v)])) f = some v := by
    show List.lookup f [(f, v), (("self" : Str), Value.ref x)] = some v
    simp [List.lookup]
  have hms : (fun y => List.lookup y (List.reverse [(("self" : Str), Value.ref x), (f, v)])) ("self" : Str) = some (Value.ref x) := by
    show List.lookup ("self" : Str) [(f, v), (("self" : Str), Value.ref x)] = some (.ref x)
    have e : (("self" : Str) == f) = false := by simpa using Ne.symm hfs
    simp [List.lookup, e]
  have X₁ : K.In h₁ := X.keeps k₁
  obtain ⟨pl, hev⟩ := W.hev s.heap.objs.size fI (.ref cda) cc
  show _root_.PySem.wpAt _ _ (.func _ (ksEnv qual scope s.heap.objs.size fI (.ref cda) cc)) (execs _ (ksEnv qual scope s.heap.objs.size fI (.ref cda) cc)) _ _ _
  refine ks_wpAt_execs_cons (sup_first hC X₁ (hg.keeps k₁) (hbn.keeps k₁) hbt hsu hf hp hcode hvs hfile hcell T.self1 T.isVE T.opq T.sup T.top hn (by rw [hps]; exact hms) (k₁ _ _ hx) W.ks W.kc (by rw [hps]; exact W.kse) W.hk ?_ (W.he ..) (W.hpl ..) (W.hi ..) hev (W.hsw ..) ?_)
  · intro s1 Q1 g1 g2 g3 g4
    refine W.hargs _ _ _ _ _ _ [v] s1 mg mb _ Q1 hok (fun i f' e => ?_) rfl hstr g1 g2 g3 hbt g4
    match i, e with
    | 0, e => cases e; exact hmf
  intro h₂ tk₂ t₁ k₂ hx₂
  refine wpAt_of_wpAny ?_
  have n₂ : s.heap.objs.size ≠ x := Nat.ne_of_gt (Heap.lt_size hx)
  have k12 : ∀ b o, b ≠ x → s.heap.get? b = some o → h₂.get? b = some o := fun b o hb e => k₂ b o hb (k₁ b o e)
  have X₂ : K.In h₂ := kin_but X₁ hnx k₂
  have hn₂ : h₂.Ns s.heap.objs.size _ := ns_but n₂ hn k₂
  show wpAny _ _ (execs _ _) _ _ _
  refine wpAny_execs_cons (plainObj_wpAny_Assign_Attribute ?_ (W.hst ..))
  refine ldS W.hk (W.kf f (List.mem_cons_self)) hn₂ hmf (ldS W.hk W.kse hn₂ hms ?_ (by decide)) hfd
  refine set_plain X₂ (ox := excO C t₁) (od := none) ⟨hx₂, rfl, rfl, trivial⟩ T.sa ?_
  refine exc_osa X₂ hx₂ hcl (show refsVE (.ref C :: bm) = true from hbm) rfl hnf (fun h₃ tk₃ dx k₃ dn dne hx₃ hn₃ => ?_)
  show wpAny _ _ (execs _ _) _ _ _
  refine wpAny_execs_nil (hq h₃ tk₃ dx ⟨fun b o hb e => k₃ b o hb (k12 b o hb e), ⟨_, hx₃⟩, ?_, dne, hn₃⟩)
  exact Nat.le_of_lt (Nat.lt_of_lt_of_le hn₂.lt dn)
/-- two fields -/
theorem sup_init2 (T : SupC prog K C fI qual params [supS (e0 :: es) a1 a2 a3 a4 a5, stoS f1 q1 q2 q3 q4, stoS f2 r1 r2 r3 r4] scope) (W : SupW prog w params scope qual [f1, f2] ok e0 es a1 a2 a3 a4 a5)
    (hnf1 : findIn K (.ref C) f1 = some none) (hnf2 : findIn K (.ref C) f2 = some none) (hfd1 : (f1 == ("__debug__" : Str)) = false) (hfd2 : (f2 == ("__debug__" : Str)) = false) (hfs1 : f1 ≠ "self") (hfs2 : f2 ≠ "self") (h12 : f1 ≠ f2) {v1 v2 : Value} (hok : ok [v1, v2])
    (hb : ∀ (kV doc pm : Value) (an : Option Addr) (cdv ct : Value) (cc : Addr), bindArgs (ksFn "__init__" qual params [supS (e0 :: es) a1 a2 a3 a4 a5, stoS f1 q1 q2 q3 q4, stoS f2 r1 r2 r3 r4] scope .none kV doc pm an cdv ct cc) ⟨[.ref x, v1, v2], []⟩ = pure [(("self" : Str), Value.ref x), (f1, v1), (f2, v2)])
    (X : K.In s.heap) (hlim : s.heap.NoLimit) (hg : s.heap.Ns mainGlobals mg) (hbn : s.heap.Ns builtinsNs mb) (hbt : ∀ y : Str, y ≠ "__name__" → mb y = bootBuiltins y) (hsu : mg "super" = none) (hstr : mg "str" = none)
    (hx : s.heap.get? x = some (excO C t0)) (hnx : K.lookup x = none) (hroom : A.depth < recursionLimit)
    (hq : ∀ h' tk dx, InitEnd s.heap h' x C dx (fun y => if y = f2 then some v2 else if y = f1 then some v1 else none) → R (.ok (.ret .none)) { s with heap := h', toks := tk }) :
    codeAny (model prog w) A (.call (.ref fI) ⟨[.ref x, v1, v2], []⟩) R s := by
  obtain ⟨nm, q, N, bs, bm, sn, sub, ab, col, dd, k0, k1, k2, k3, k5, hC, hbm⟩ := T.cls
  obtain ⟨oc, od, kV, doc, pm, an, cda, ct, osl, cc, vs, file, tf, ccl, cdd, ccs, cl, cld, csl, hf, hcd, hcode, hvs, hfile, hcell⟩ := T.fn
  obtain ⟨par, hp, hps⟩ := W.par
  have hcl : clsIn K C = some { name := nm, bases := bs, mro := .ref C :: bm, ns := N, qualname := q, hasDict := true, slotNames := sn, subclasses := sub, abstract := ab, collection := col, hasDel := false } := by unfold clsIn; rw [hC] <;> rfl
  have kf1 := W.kf f1 (List.mem_cons_self)
  have kf2 := W.kf f2 (List.mem_cons_of_mem _ (List.mem_cons_self))
  refine ks_codeAny_call_defAt (fd := ksFn "__init__" qual params [supS (e0 :: es) a1 a2 a3 a4 a5, stoS f1 q1 q2 q3 q4, stoS f2 r1 r2 r3 r4] scope .none kV doc pm an (.ref cda) ct cc) (binds := [(("self" : Str), Value.ref x), (f1, v1), (f2, v2)]) hroom (X _ _ hf) rfl hlim (codeRec_of X hcd) rfl (BindsTo.of_eq (hb ..)) W.cell ?_ (fun h₁ hn k₁ => ?_) W.co W.gen W.hk
  · intro y hy
    rcases List.mem_cons.mp hy with rfl | hy
    · exact W.kse
    rcases List.mem_cons.mp hy with rfl | hy
    · exact kf1
    rcases List.mem_cons.mp hy with rfl | hy
    · exact kf2
    · cases hy
  have e12 : (f1 == f2) = false := by simpa using h12
  have es1 : (("self" : Str) == f1) = false := by simpa using Ne.symm hfs1
  have es2 : (("self" : Str) == f2) = false := by simpa using Ne.symm hfs2
  have hmf1 : (fun y => List.lookup y (List.reverse [(("self" : Str), Value.ref x), (f1, v1), (f2, v2)])) f1 = some v1 := by
    show List.lookup f1 [(f2, v2), (f1, v1), (("self" : Str), Value.ref x)] = some v1
    simp [List.lookup, e12]
  have hmf2 : (fun y => List.lookup y (List.reverse [(("self" : Str), Value.ref x), (f1, v1), (f2, v2)])) f2 = some v2 := by
    show List.lookup f2 [(f2, v2), (f1, v1), (("self" : Str), Value.ref x)] = some v2
    simp [List.lookup]
  have hms : (fun y => List.lookup y (List.reverse [(("self" : Str), Value.ref x), (f1, v1), (f2, v2)])) ("self" : Str) = some (Value.ref x) := by
    show List.lookup ("self" : Str) [(f2, v2), (f1, v1), (("self" : Str), Value.ref x)] = some (.ref x)
    simp [List.lookup, es1, es2]
  have X₁ : K.In h₁ := X.keeps k₁
  obtain ⟨pl, hev⟩ := W.hev s.heap.objs.size fI (.ref cda) cc
  show _root_.PySem.wpAt _ _ (.func _ (ksEnv qual scope s.heap.objs.size fI (.ref cda) cc)) (execs _ (ksEnv qual scope s.heap.objs.size fI (.ref cda) cc)) _ _ _
  refine ks_wpAt_execs_cons (sup_first hC X₁ (hg.keeps k₁) (hbn.keeps k₁) hbt hsu hf hp hcode hvs hfile hcell T.self1 T.isVE T.opq T.sup T.top hn (by rw [hps]; exact hms) (k₁ _ _ hx) W.ks W.kc (by rw [hps]; exact W.kse) W.hk ?_ (W.he ..) (W.hpl ..) (W.hi ..) hev (W.hsw ..) ?_)
  · intro s1 Q1 g1 g2 g3 g4
    refine W.hargs _ _ _ _ _ _ [v1, v2] s1 mg mb _ Q1 hok (fun i f' e => ?_) rfl hstr g1 g2 g3 hbt g4
    match i, e with
    | 0, e => cases e; exact hmf1
    | 1, e => cases e; exact hmf2
  intro h₂ tk₂ t₁ k₂ hx₂
  refine wpAt_of_wpAny ?_
  have n₂ : s.heap.objs.size ≠ x := Nat.ne_of_gt (Heap.lt_size hx)
  have k12 : ∀ b o, b ≠ x → s.heap.get? b = some o → h₂.get? b = some o := fun b o hb e => k₂ b o hb (k₁ b o e)
  have X₂ : K.In h₂ := kin_but X₁ hnx k₂
  have hn₂ : h₂.Ns s.heap.objs.size _ := ns_but n₂ hn k₂
  show wpAny _ _ (execs _ _) _ _ _
  refine wpAny_execs_cons (plainObj_wpAny_Assign_Attribute ?_ (W.hst ..))
  refine ldS W.hk kf1 hn₂ hmf1 (ldS W.hk W.kse hn₂ hms ?_ (by decide)) hfd1
  refine set_plain X₂ (ox := excO C t₁) (od := none) ⟨hx₂, rfl, rfl, trivial⟩ T.sa ?_
  refine exc_osa X₂ hx₂ hcl (show refsVE (.ref C :: bm) = true from hbm) rfl hnf1 (fun h₃ tk₃ dx k₃ dn dne hx₃ hn₃ => ?_)
  have X₃ : K.In h₃ := kin_but X₂ hnx k₃
  have hLd : s.heap.objs.size ≠ dx := Nat.ne_of_lt (Nat.lt_of_lt_of_le hn₂.lt dn)
  have hn₃' : h₃.Ns s.heap.objs.size _ := ns_but n₂ hn₂ k₃
  obtain ⟨od3, ho3⟩ : ∃ o, h₃.get? dx = some o := by
    obtain ⟨o, _, _, e, _⟩ := hn₃
    exact ⟨o, e⟩
  show wpAny _ _ (execs _ _) _ _ _
  refine wpAny_execs_cons (plainObj_wpAny_Assign_Attribute ?_ (W.hst ..))
  refine ldS W.hk kf2 hn₃' hmf2 (ldS W.hk W.kse hn₃' hms ?_ (by decide)) hfd2
  refine set_plain X₃ (ox := { cls := .ref C, dict := some dx, data := .fields #[.ref t₁, .none, .none, .none, .bool false, .none] }) (od := some od3) ⟨hx₃, rfl, rfl, ho3⟩ T.sa ?_
  refine PySem.OEX.osa_old X₃ hx₃ hn₃ (nl := [f1]) (fun y hy => ?_) (by show 1 ≤ 1000; decide) hcl (show refsVE (.ref C :: bm) = true from hbm) rfl hnf2 (fun h₄ tk₄ k₄ hn₄ => ?_)
  · by_cases e : y = f1
    · rw [e]; exact List.mem_cons_self
    · exact absurd (if_neg e) hy
  show wpAny _ _ (execs _ _) _ _ _
  have hbig : s.heap.objs.size ≤ dx := Nat.le_of_lt (Nat.lt_of_lt_of_le hn₂.lt dn)
  refine wpAny_execs_nil (hq h₄ tk₄ dx ⟨fun b o hb e => k₄ b o (Nat.ne_of_lt (Nat.lt_of_lt_of_le (Heap.lt_size e) hbig)) (k₃ b o hb (k12 b o hb e)), ⟨_, k₄ _ _ (Ne.symm dne) hx₃⟩, hbig, dne, hn₄⟩)
end
/-- an error that is made -/
structure Made (h h' : Heap) (e C d : Addr) (mA : Str → Option Value) : Prop where
  keep : ∀ b o, h.get? b = some o → h'.get? b = some o
  new : h.objs.size ≤ e
  obj : ∃ oe vs, h'.get? e = some oe ∧ oe.cls = .ref C ∧ oe.dict = some d ∧ oe.data = .fields vs ∧ vs[1]? = some .none
  dbig : h.objs.size ≤ d
  dne : d ≠ e
  ns : h'.Ns1 d mA
/-- the class at C makes errors of these fields -/
structure Makes (prog : Program) (w : World) (K : Frag) (mg : Str → Option Value) (C : Addr) (fs : List Str) (ok : List Value → Prop) : Prop where
  kC : keepIn K (.ref C) = true
  exC : subIn K (.ref C) (.type "BaseException") = some true
  tyC : typeIn K (.ref C) = some (.type "type")
  run : ∀ (A : Around) (s : Shared) (us : List Value) (mb : Str → Option Value) (R : Result → Shared → Prop), us.length = fs.length → ok us → K.In s.heap → s.heap.NoLimit → s.heap.Ns mainGlobals mg → s.heap.Ns builtinsNs mb → (∀ y : Str, y ≠ "__name__" → mb y = bootBuiltins y) →
    A.depth + 1 < recursionLimit → (∀ h' tk e d mA, (∀ f : Str, mA f = (fs.zip us).lookup f) → Made s.heap h' e C d mA → R (.ok (.ret (.ref e))) { s with heap := h', toks := tk }) → codeAny (model prog w) A (.call (.ref C) ⟨us, []⟩) R s
/-- from the maker to the class -/
theorem made_of {prog : Program} {w : World} {A : Around} {K : Frag} {C fI : Addr} {s : Shared} {us : List Value} {mA : Str → Option Value} {R : Result → Shared → Prop} {nm q : Str} {N : Addr} {bs bm : List Value} {sn : List Str} {sub : List Value} {ab : Bool} {col : Option Bool} {dd : Option Addr} {k0 k1 k2 k3 k5 : Option Value}
    (hC : K.lookup C = some (excClassObj nm q C N bs bm true sn sub ab col dd k0 k1 k2 k3 k5 "ValueError.__new__")) (hbm : refsVE bm = true) (iC : findIn K (.ref C) "__init__" = some (some (.ref fI))) (tC : typeIn K (.ref fI) = some (.type "function")) (hus : us.length ≤ 10)
    (X : K.In s.heap) (hlim : s.heap.NoLimit)
    (hin : ∀ (A' : Around) (s' : Shared) (x t0 : Addr) (R' : Result → Shared → Prop), A'.depth = A.depth + 1 → (∀ b o, s.heap.get? b = some o → s'.heap.get? b = some o) → s'.heap.get? x = some (excO C t0) → K.lookup x = none →
      (∀ h' tk dx, InitEnd s'.heap h' x C dx mA → R' (.ok (.ret .none)) { s' with heap := h', toks := tk }) → codeAny (model prog w) A' (.call (.ref fI) ⟨.ref x :: us, []⟩) R' s')
    (hq : ∀ h' tk e d, Made s.heap h' e C d mA → R (.ok (.ret (.ref e))) { s with heap := h', toks := tk }) :
    codeAny (model prog w) A (.call (.ref C) ⟨us, []⟩) R s := by
  obtain ⟨hp, g, dr, tk, os⟩ := s
  have k : ∀ b o, hp.get? b = some o → ((hp.push (kdv_tup us)).push (excO C hp.objs.size)).get? b = some o := fun b o e => Heap.get?_push_of_some _ (Heap.get?_push_of_some _ e)
  have hget : ((hp.push (kdv_tup us)).push (excO C hp.objs.size)).get? (hp.objs.size + 1) = some (excO C hp.objs.size) := by heap_get
  have hnx : K.lookup (hp.objs.size + 1) = none := by
    cases e : K.lookup (hp.objs.size + 1) with
    | none => rfl
    | some o =>
      have z : hp.get? (hp.objs.size + 1) = some o := X _ _ e
      exact absurd (Nat.lt_of_succ_lt (Heap.lt_size z)) (Nat.lt_irrefl _)
  refine call_own F.excBase_ValueError (fun X => refsVE_contains X bm hbm) (X _ _ hC) (looks_findIn X iC) (fun self => bind_fn X self tC) (Nat.le_trans hus (by rw [sizeLine_eq]; decide)) ?_
  refine hin (A.under (.builtin "type.__call__" ⟨.ref C :: us, []⟩)) ⟨(hp.push (kdv_tup us)).push (excO C hp.objs.size), g, dr, tk, os⟩ (hp.objs.size + 1) hp.objs.size _ rfl k hget hnx fun h' tk' dx ⟨k', hx, dn, dne, hns⟩ => ?_
  have old : ∀ b o, hp.get? b = some o → h'.get? b = some o := fun b o e => k' b o (Nat.ne_of_lt (Nat.lt_succ_of_lt (Heap.lt_size e))) (k b o e)
  have z : hp.objs.size + 1 + 1 ≤ dx := by
    first
      | (simpa only [Heap.size_push] using dn)
      | exact dn
      | (have q := dn; rw [Heap.size_push, Heap.size_push] at q; exact q)
  obtain ⟨t1, hx⟩ := hx
  exact ⟨rfl, hq h' tk' (hp.objs.size + 1) dx ⟨old, Nat.le_succ _, ⟨_, _, hx, rfl, rfl, rfl, rfl⟩, Nat.le_trans (Nat.le_trans (Nat.le_succ _) (Nat.le_succ _)) z, dne, hns⟩⟩
section
variable {prog : Program} {w : World} {K : Frag} {C fI : Addr} {qual : Str} {params : Arguments} {scope : Scope} {mg : Str → Option Value} {f f1 f2 : Str} {ok : List Value → Prop} {e0 : Expr} {es : List Expr} {a1 a2 a3 a4 a5 q1 q2 q3 q4 r1 r2 r3 r4 : Pos}
theorem makes1 (T : SupC prog K C fI qual params [supS (e0 :: es) a1 a2 a3 a4 a5, stoS f q1 q2 q3 q4] scope) (W : SupW prog w params scope qual [f] ok e0 es a1 a2 a3 a4 a5) (kC : keepIn K (.ref C) = true) (exC : subIn K (.ref C) (.type "BaseException") = some true) (tyC : typeIn K (.ref C) = some (.type "type"))
    (hnf : findIn K (.ref C) f = some none) (hfd : (f == ("__debug__" : Str)) = false) (hfs : f ≠ "self") (hsu : mg "super" = none) (hstr : mg "str" = none)
    (hb : ∀ (x : Addr) (v : Value) (kV doc pm : Value) (an : Option Addr) (cdv ct : Value) (cc : Addr), bindArgs (ksFn "__init__" qual params [supS (e0 :: es) a1 a2 a3 a4 a5, stoS f q1 q2 q3 q4] scope .none kV doc pm an cdv ct cc) ⟨[.ref x, v], []⟩ = pure [(("self" : Str), Value.ref x), (f, v)]) :
    Makes prog w K mg C [f] ok where
  kC := kC
  exC := exC
  tyC := tyC
  run := fun A s us mb R hl hok X hlim hg hbn hbt hroom hq => by
    obtain ⟨nm, q, N, bs, bm, sn, sub, ab, col, dd, k0, k1, k2, k3, k5, hC, hbm⟩ := T.cls
    match us, hl with
    | [v], _ =>
      refine made_of (mA := fun y => if y = f then some v else none) hC hbm T.iC T.tC (by show 1 ≤ 10; decide) X hlim (fun A' s' x t0 R' hd k hx hnx h' => ?_) fun h' tk e d M => hq h' tk e d _ (fun g => ?_) M
      · exact sup_init1 T W hnf hfd hfs hok (hb x v) (X.keeps k) (hlim.keeps k) (hg.keeps k) (hbn.keeps k) hbt hsu hstr hx hnx (by rw [hd]; exact hroom) h'
      · by_cases e : g = f
        · subst e; simp [List.zip]
        · have e2 : (g == f) = false := by simpa using e
          simp [List.zip, List.lookup, e, e2]
theorem makes2 (T : SupC prog K C fI qual params [supS (e0 :: es) a1 a2 a3 a4 a5, stoS f1 q1 q2 q3 q4, stoS f2 r1 r2 r3 r4] scope) (W : SupW prog w params scope qual [f1, f2] ok e0 es a1 a2 a3 a4 a5) (kC : keepIn K (.ref C) = true) (exC : subIn K (.ref C) (.type "BaseException") = some true) (tyC : typeIn K (.ref C) = some (.type "type"))
    (hnf1 : findIn K (.ref C) f1 = some none) (hnf2 : findIn K (.ref C) f2 = some none) (hfd1 : (f1 == ("__debug__" : Str)) = false) (hfd2 : (f2 == ("__debug__" : Str)) = false) (hfs1 : f1 ≠ "self") (hfs2 : f2 ≠ "self") (h12 : f1 ≠ f2) (hsu : mg "super" = none) (hstr : mg "str" = none)
    (hb : ∀ (x : Addr) (v1 v2 : Value) (kV doc pm : Value) (an : Option Addr) (cdv ct : Value) (cc : Addr), bindArgs (ksFn "__init__" qual params [supS (e0 :: es) a1 a2 a3 a4 a5, stoS f1 q1 q2 q3 q4, stoS f2 r1 r2 r3 r4] scope .none kV doc pm an cdv ct cc) ⟨[.ref x, v1, v2], []⟩ = pure [(("self" : Str), Value.ref x), (f1, v1), (f2, v2)]) :
    Makes prog w K mg C [f1, f2] ok where
  kC := kC
  exC := exC
  tyC := tyC
  run := fun A s us mb R hl hok X hlim hg hbn hbt hroom hq => by
    obtain ⟨nm, q, N, bs, bm, sn, sub, ab, col, dd, k0, k1, k2, k3, k5, hC, hbm⟩ := T.cls
    match us, hl with
    | [v1, v2], _ =>
      refine made_of (mA := fun y => if y = f2 then some v2 else if y = f1 then some v1 else none) hC hbm T.iC T.tC (by show 2 ≤ 10; decide) X hlim (fun A' s' x t0 R' hd k hx hnx h' => ?_) fun h' tk e d M => hq h' tk e d _ (fun g => ?_) M
      · exact sup_init2 T W hnf1 hnf2 hfd1 hfd2 hfs1 hfs2 h12 hok (hb x v1 v2) (X.keeps k) (hlim.keeps k) (hg.keeps k) (hbn.keeps k) hbt hsu hstr hx hnx (by rw [hd]; exact hroom) h'
      · by_cases e : g = f2
        · subst e
          have e2 : (g == f1) = false := by simpa using Ne.symm h12
          simp [List.zip, List.lookup, e2]
        · have e2 : (g == f2) = false := by simpa using e
          by_cases e1 : g = f1
          · subst e1; simp [List.zip, List.lookup, e]
          · have e3 : (g == f1) = false := by simpa using e1
            simp [List.zip, List.lookup, e, e1, e2, e3]
end
end ErrL
end PySem

namespace L2
open PySem PySem.Spec PyProof.Rows
theorem relO_zip : ∀ {fs : List Str} {vs : List V} {us : List Value}, Vals vs us → ∀ f, RelO (List.lookup f (fs.zip vs)) (List.lookup f (fs.zip us))
  | [], vs, us, r, f => by simp [List.zip, RelO]
  | g :: fs, [], _, .nil, f => by simp [List.zip, RelO]
  | g :: fs, v :: vs, u :: us, .cons rv r, f => by
    by_cases e : f = g
    · subst e
      have q : RelO (some v) (some u) := rv
      simpa [List.zip, List.lookup] using q
    · have e2 : (f == g) = false := by simpa using e
      have ih := relO_zip (fs := fs) r f
      simpa [List.zip, List.lookup, e2] using ih
section
variable {X : Cx} {C : Addr} {fs : List Str} {ok : List Value → Prop}
/-- X(e, ..): a new error; okV says that the values may be written into its args -/
def tMkErr (C : Addr) (fs : List Str) (okV : List V → Prop) (ta : TA) : St → Hp → XK → Prop := fun σ H Q => ta σ H fun vs H1 => vs.length = fs.length ∧ okV vs ∧ ∀ d, H1 d = none → Q (.ref C) (some d) (upd H1 d (.xd (fs.zip vs)))
theorem pmk_err {x : Str} {e : Expr} {es : List Expr} {ta : TA} {p pos : Pos} {k : Nat} {okV : List V → Prop} (T : PySem.ErrL.Makes X.prog X.w X.K X.mg C fs ok) (hok : ∀ vs us, Vals vs us → okV vs → ok us) (gC : X.mg x = some (.ref C)) (hr : Room k X.A) (ha : PA X (e :: es) ta) (hg : Gl X x := by rfl)
    (hdb : (x == ("__debug__" : Str)) = false := by decide) (he : starEach (e :: es) X.env = (false, eval e X.env) :: starEach es X.env := by rfl) (hpl : (backTo pos (starEach es X.env)).any (·.1) = false := by rfl) :
    PMk X (.Call (.Name x p) (e :: es) [] pos) (tMkErr C fs okV ta) := by
  intro pins s σ H Q I h
  refine wpAny_Call_Name_kw (ld_glob I hg gC ?_ hdb)
  refine PySem.W.callWith_K (h₀ := X.base) I.ok.mod.kin T.kC (thn (ha.run pos pins s σ H _ I h) fun us s1 hh => ?_) he hpl
  obtain ⟨vs, H1, I1, r1, hl, hov, q1⟩ := hh
  refine ⟨I1.kIn, ?_⟩
  show wpAny _ _ (call (.ref C) us) _ _ _
  obtain ⟨mb, hmb, hbt⟩ := I1.mod.blt
  have hlim := I1.nolimit
  have hgl := I1.mod.glob.keeps I1.bk
  have hbl := hmb.keeps I1.bk
  have kin := I1.kIn
  obtain ⟨hp, g, dr, tk, os⟩ := s1
  refine wpAny_call (T.run _ _ us mb _ (by rw [← hl]; exact (Vals.length r1).symm) (hok vs us r1 hov) kin hlim hgl hbl hbt (by have := hr.dp; omega) fun h' tk' e d mA hmA M => ?_)
  show MkP X pins σ Q (.ref e) ⟨h', g, dr, tk', os⟩
  obtain ⟨oe, fv, hoe, hc, hd, hdat, h1⟩ := M.obj
  have hns := M.ns
  obtain ⟨G', g1, g2⟩ := restrict h' fun b => decide (b ≠ e)
  have gk : ∀ b, b ≠ e → G'.get? b = h'.get? b := fun b hb => g1 b (decide_eq_true hb)
  have ge : G'.get? e = none := g2 e (by simp)
  have old : ∀ b o, hp.get? b = some o → G'.get? b = some o := fun b o q => (gk b (Nat.ne_of_lt (Nat.lt_of_lt_of_le (Heap.lt_size q) M.new))).trans (M.keep b o q)
  have ob : ObjOk X.prog X.w (upd H1 d (.xd (fs.zip vs))) G' d (.xd (fs.zip vs)) :=
    ⟨_, hns.at (fun o q => (gk d M.dne).trans q), fun f => by rw [hmA]; exact relO_zip r1 f⟩
  have J : Inv X pins σ (upd H1 d (.xd (fs.zip vs))) ⟨G', g, dr, tk', os⟩ := I1.laid (t' := tk') old M.dbig ob
  refine ⟨e, oe, fv, ⟨G', g, dr, tk', os⟩, _, .ref C, some d, rfl, J, fun b o q => ?_, ge, hoe, ⟨hc, hd⟩, hdat, h1, ?_, rfl, I1.bare, raises_own T.exC T.tyC, q1 d (I1.hok.fresh M.dbig)⟩
  · by_cases hb : b = e
    · have q' : G'.get? b = some o := q
      rw [hb, ge] at q'; cases q'
    · exact (gk b hb).symm.trans q
  · rw [upd_ne (Ne.symm M.dne)]
    exact I1.hok.fresh M.new
/-- raise X(e, ..) -/
def tRaiseErr (C : Addr) (fs : List Str) (okV : List V → Prop) (W : WX) (ta : TA) : TS := fun _ σ H => tMkErr C fs okV ta σ H fun cls d H' => W cls d σ H'
theorem ps_raiseErr {W : WX} {x : Str} {e : Expr} {es : List Expr} {ta : TA} {p pos pos2 : Pos} {k : Nat} {okV : List V → Prop} (hc : X.calm = true) (T : PySem.ErrL.Makes X.prog X.w X.K X.mg C fs ok) (hok : ∀ vs us, Vals vs us → okV vs → ok us) (gC : X.mg x = some (.ref C)) (hr : Room k X.A) (tk : Takes X W) (ha : PA X (e :: es) ta) (hg : Gl X x := by rfl)
    (hdb : (x == ("__debug__" : Str)) = false := by decide) (he : starEach (e :: es) X.env = (false, eval e X.env) :: starEach es X.env := by rfl) (hpl : (backTo pos (starEach es X.env)).any (·.1) = false := by rfl) :
    PS X (.Raise (some (.Call (.Name x p) (e :: es) [] pos)) none pos2) (tRaiseErr C fs okV W ta) := ps_raise hc tk (pmk_err T hok gC hr ha hg hdb he hpl)
end
end L2
set_option Elab.async false
set_option linter.all false
set_option maxRecDepth 100000
set_option maxHeartbeats 4000000
namespace PySem
namespace ErrL
open PySem.W PySem.Calls PyProof.Rows PySem.HandSPX
section
variable {prog : Program} {w : World} {params : Arguments} {scope : Scope} {qual : Str} {f f1 f2 : Str} {a1 a2 a3 a4 a5 p0 p1 p2 p3 : Pos} {j0 : Nat} {z : Str}
theorem args_c (hk : scope.kind = .function) (L fI : Addr) (cd : Value) (cc : Addr) (A : Around) (E : Value → Shared → Prop) (s1 : Shared) (Q1 : List Value → Shared → Prop) (h : ∀ (ws : List Value) tk, ws.length ≤ 10 → Q1 ws { s1 with toks := tk }) :
    wpAny (model prog w) A (spliced (backTo a4 (starEach [.Constant (.str z) j0 p0] (ksEnv qual scope L fI cd cc)))) Q1 E s1 := by
  show wpAny _ _ (spliced [(false, eval (.Constant (.str z) j0 p0) (ksEnv qual scope L fI cd cc))]) _ _ _
  exact spliced_cons (wpAny_Constant_str (spliced_nil (h _ _ (by show 1 ≤ 10; decide))))
theorem args_cn (hk : scope.kind = .function) (kf : scope.names.lookup f = some .local) (hfd : (f == ("__debug__" : Str)) = false) (L fI : Addr) (cd : Value) (cc : Addr) (A : Around) (E : Value → Shared → Prop) (v : Value) (s1 : Shared) (m : Str → Option Value) (Q1 : List Value → Shared → Prop)
    (hm : m f = some v) (hn : s1.heap.Ns L m) (h : ∀ (ws : List Value) tk, ws.length ≤ 10 → Q1 ws { s1 with toks := tk }) :
    wpAny (model prog w) A (spliced (backTo a4 (starEach [.Constant (.str z) j0 p0, .Name f p1] (ksEnv qual scope L fI cd cc)))) Q1 E s1 := by
  show wpAny _ _ (spliced [(false, eval (.Constant (.str z) j0 p0) (ksEnv qual scope L fI cd cc)), (false, eval (.Name f p1) (ksEnv qual scope L fI cd cc))]) _ _ _
  refine spliced_cons (wpAny_Constant_str (spliced_cons ?_))
  exact ldS hk kf hn hm (spliced_nil (h _ _ (by show 2 ≤ 10; decide))) hfd
theorem args_csn (hk : scope.kind = .function) (kf1 : scope.names.lookup f1 = some .local) (kf2 : scope.names.lookup f2 = some .local) (kstr : scope.names.lookup ("str" : Str) = some .globalImplicit) (hfd1 : (f1 == ("__debug__" : Str)) = false) (hfd2 : (f2 == ("__debug__" : Str)) = false)
    (L fI : Addr) (cd : Value) (cc : Addr) (A : Around) (E : Value → Shared → Prop) (i : Int) (t : Tok) (v2 : Value) (s1 : Shared) (m mg mb : Str → Option Value) (Q1 : List Value → Shared → Prop) (hi : i.natAbs.log2 < 1920)
    (hm1 : m f1 = some (.int i t)) (hm2 : m f2 = some v2) (hstr : mg "str" = none) (hn : s1.heap.Ns L m) (hg : s1.heap.Ns mainGlobals mg) (hb : s1.heap.Ns builtinsNs mb) (hbt : ∀ y : Str, y ≠ "__name__" → mb y = bootBuiltins y) (h : ∀ (ws : List Value) tk, ws.length ≤ 10 → Q1 ws { s1 with toks := tk })
    (he1 : starEach [.Name f1 p2] (ksEnv qual scope L fI cd cc) = (false, eval (.Name f1 p2) (ksEnv qual scope L fI cd cc)) :: starEach [] (ksEnv qual scope L fI cd cc)) :
    wpAny (model prog w) A (spliced (backTo a4 (starEach [.Constant (.str z) j0 p0, .Call (.Name "str" p1) [.Name f1 p2] [] p3, .Name f2 a5] (ksEnv qual scope L fI cd cc)))) Q1 E s1 := by
  show wpAny _ _ (spliced [(false, eval (.Constant (.str z) j0 p0) (ksEnv qual scope L fI cd cc)), (false, eval (.Call (.Name "str" p1) [.Name f1 p2] [] p3) (ksEnv qual scope L fI cd cc)), (false, eval (.Name f2 a5) (ksEnv qual scope L fI cd cc))]) _ _ _
  refine spliced_cons (wpAny_Constant_str (spliced_cons ?_))
  refine wpAny_Call_Name_kw ?_
  refine wpAny_Name ?_ (by decide)
  refine ks_loadName_global hk kstr (loadGlobal_builtin (env := ksEnv qual scope L fI cd cc) hg hstr hb ((hbt _ (by decide +kernel)).trans (show bootBuiltins ("str" : Str) = some (.type "str") by decide +kernel)) ?_)
  refine PyProof.Rows.callWith_type1 ?_ he1 rfl
  show wpAny _ _ (spliced [(false, eval (.Name f1 p2) (ksEnv qual scope L fI cd cc))]) _ _ _
  refine spliced_cons (ldS hk kf1 hn hm1 (spliced_nil ?_) hfd1)
  refine PySem.P.str_of_int hi (spliced_cons ?_)
  exact ldS hk kf2 hn hm2 (spliced_nil (h _ _ (by show 3 ≤ 10; decide))) hfd2
end
end ErrL
end PySem
set_option Elab.async false
set_option linter.all false
set_option maxRecDepth 100000
set_option maxHeartbeats 4000000
/-! isinstance of a caught error that has its own dict -/
namespace PySem.ErrL
open PySem PySem.W PySem.Spec PySem.Calls PyProof.Rows
section
variable {prog : Program} {w : World} {A : Around} {E : Value → Shared → Prop} {s : Shared} {K : Frag} {x D : Addr} {ox : Obj} {od : Option Obj}
theorem find_cls (hd : hasDictIn K D = true) (ha : findIn K (.ref D) "__class__" = some (some (.builtin "object.__class__"))) (hn : specialIn K (.builtin "object.__class__") "__get__" = some (some (.builtin "getset_descriptor.__get__"))) (ht : takesIn K (.builtin "object.__class__") = some true) :
    findObj K D od "__class__" = some (.bind (.builtin "getset_descriptor.__get__") (.builtin "object.__class__")) := by
  obtain ⟨cd, hc, _⟩ := any_some hd
  unfold findObj
  rw [hc, Option.bind_some, ha, Option.bind_some]
  simp [hn, ht]
/-- e.__class__, e an error with its dict -/
theorem cls_of (T : L2.ExcC K D) {Q : Option Value → Shared → Prop} (X : K.In s.heap) (I : InstAt s.heap x ox D od) (h : Q (some (.ref D)) { s with toks := s.toks + 1 }) : wpAny (model prog w) A (getAttr? (.ref x) "__class__") Q E s := by
  have hf := find_cls (od := od) T.hd T.ha T.hn T.ht
  obtain ⟨hp, g, d, t, os⟩ := s
  have ty := I.type (M := model prog w); have l1 := looks_findIn (M := model prog w) X T.hg; have l2 := looks_findIn (M := model prog w) X T.hk
  have l3 := looks_find (M := model prog w) X I hf; have sb : Looks (model prog w) hp (isInstance (.ref x) (.type "BaseException")) true := ty.andThen (looks_subIn X T.hs)
  have n2 : (Value.builtin "BaseException.__getattribute__" == Value.builtin "object.__getattribute__") = false := by decide +kernel
  have n1 : (onTheHeap (Value.ref D) && Value.builtin "BaseException.__getattribute__" == Value.builtin "object.__getattribute__") = false := (by rw [n2]; rfl)
  unfold getAttr? getAttrBy? getAttrBy
  refine wpAny_bind (wpAny_mkText (wpAny_bind (wpAny_attempt (wpAny_holding (wpAny_bind (ty.at (wpAny_bind (l1.at ?_))))))))
  show wpAny _ _ (if (onTheHeap (Value.ref D) && Value.builtin "BaseException.__getattribute__" == Value.builtin "object.__getattribute__") = true then _ else _) _ _ _
  rw [n1, if_neg Bool.false_ne_true]; unfold getAttrByItsOwn hookBefore
  refine wpAny_bind ?_
  rw [if_pos (show onTheHeap (Value.ref D) = true from rfl)]
  refine l2.at (wpAny_bind (wpAny_attempt (wpAny_holding ?_)))
  unfold callGetattribute
  rw [show (false && onTheHeap (Value.builtin "BaseException.__getattribute__")) = false from rfl, if_neg Bool.false_ne_true]; unfold boundAndCalled; rw [PySem.F.excAttr_ValueError.ga.bind (.ref x)]
  refine wpAny_bind (wpAny_pure ?_)
  show wpAny _ _ (call (.builtin "BaseException.__getattribute__") [.ref x, .str "__class__" t]) _ _ _
  refine wpAny_call (codeAny_call_builtin PySem.F.excAttr_ValueError.ga.plain PySem.F.entry_bexc_ga (@check_slot (model prog w) _ _ ⟨hp, g, d, t + 1, os⟩ "BaseException.__getattribute__" "BaseException" "__getattribute__" (.ref x) [.str "__class__" t] [] _ (by decide +kernel) (by decide +kernel) sb (PySem.F.args_bexc_ga (.ref x) (.str "__class__" t)) ?_))
  unfold Builtin.«object.__getattribute__»
  refine wpAny_bind (wpAny_of_eq (a := ((Value.ref x : Value), [Value.str "__class__" t])) (by first | rfl | (simp only [slotArgs]; rfl)) (wpAny_bind (wpAny_pure (wpAny_bind (ty.at (wpAny_bind (l3.at ?_)))))))
  show wpAny _ _ (holding [Value.builtin "object.__class__"] (call (.builtin "getset_descriptor.__get__") [.builtin "object.__class__", .ref x, .ref D]) >>= ret) _ _ _
  refine wpAny_bind (wpAny_holding (wpAny_call (class_get (s := ⟨hp, g, d, t + 1, os⟩) (ox := ox) (od := od) X I T.hm (wpAny_pure ?_))))
  show wpAny _ _ (handedOut (.ref D)) _ _ _
  rw [handedOut_of (v := .ref D) rfl]
  first
    | exact wpAny_pure (wpAny_pure h)
    | exact wpAny_pure h
    | exact wpAny_pure (wpAny_bind (wpAny_pure (wpAny_pure h)))
theorem kitx_err (T : L2.ExcC K D) : KitX K (.ref x) (.ref D) (fun h => InstAt h x ox D od) where
  ty := fun _ _ _ I => I.type
  it := fun M h X I => by
    obtain ⟨cd, hc, _⟩ := any_some T.hd
    unfold clsIn at hc
    split at hc
    · rename_i c' d' cd' sl' ho
      intro A' Q' E' s' k q; unfold isType loadHead; exact wpAny_bind (wpAny_loadPart (k _ _ (X _ _ ho)) (wpAny_pure q))
    · cases hc
  ne := (handS_kitx_exc (x := x) (ox := ox) T.hg T.hk T.hs T.hd T.ha T.hn T.ht T.hm).ne
  ca := fun X I k => cls_of T X I k
end
end PySem.ErrL
namespace L2
open PySem PySem.Spec PyProof.Rows
theorem ExcC.xf {K : PySem.W.Frag} {C : Addr} (T : ExcC K C) : XfC K C := ⟨T.hg, T.hk, T.hs, T.hd⟩
/-- isinstance(e, c), e the error that the suite holds, its dict at dd -/
def rIsErr (K : PySem.W.Frag) (cls : Value) (d : Option Addr) (a : Addr) : List V → Hp → VK → Prop := fun xs H Q => ∃ (c : V) (cv : Value) (b : Bool) (D dd : Addr) (fs : List (Str × V)), xs = [.ref a, c] ∧ cls = .ref D ∧ d = some dd ∧ H dd = some (.xd fs) ∧ ExcC K D ∧ ClsV c cv ∧ PySem.W.kitOne K (.ref D) cv = some b ∧ Q (.bl b) H
theorem call_isErr {X : Cx} {a : Addr} {cls : Value} {d : Option Addr} {oe : Obj} {pn : List (Addr × Obj)} (hz : Zc cls d oe) (hf : ∃ vs, oe.data = .fields vs) : CallR (X.suite a ((a, oe) :: pn)) (.builtin "isinstance") (rIsErr X.K cls d a) := by
  intro pins s σ H xs us Q I r h
  obtain ⟨c, cv, b, D, dd, fs, rfl, rfl, rfl, hdd, T, hcv, e, q⟩ := h
  obtain ⟨u1, u2, rfl, r1, r2⟩ := vals2 r
  obtain rfl : u1 = Value.ref a := r1
  have ec := hcv.eq r2
  subst ec
  obtain ⟨hget, _⟩ := I.pin (a, oe) (List.mem_append.mpr (.inl List.mem_cons_self))
  obtain ⟨vs, hv⟩ := hf
  obtain ⟨mA, hns, _⟩ := (show ObjOk X.prog X.w H s.heap dd (.xd fs) from I.hok dd _ hdd)
  obtain ⟨o', es, ep, ho, _⟩ := hns
  have J : PySem.W.InstAt s.heap a oe D (some o') := ⟨hget, hz.1, by unfold PySem.W.notCls; rw [hv] <;> rfl, by rw [hz.2]; exact ho⟩
  exact PySem.W.kia_one (PySem.ErrL.kitx_err T) I.kIn J e (fun z => nomatch z) fun tk => ⟨.bl b, H, I.kept (t' := tk) fun _ _ z => z, rfl, q⟩
theorem call_isErrK {X : Cx} {K : PySem.W.Frag} {a : Addr} {cls : Value} {d : Option Addr} {oe : Obj} {pn : List (Addr × Obj)} (h : X.K = K) (hz : Zc cls d oe) (hf : ∃ vs, oe.data = .fields vs) : CallR (X.suite a ((a, oe) :: pn)) (.builtin "isinstance") (rIsErr K cls d a) := h ▸ call_isErr hz hf
end L2
set_option Elab.async false
set_option linter.all false
set_option maxRecDepth 100000
set_option maxHeartbeats 4000000
/-! the draws: an object of six entries -/
namespace Dw
open PySem L2
/-- the entries of the draws -/
def drK (c : Addr) (nx dg rs sd tn : Int) : List (Key × V) :=
  [(.inr "cells", .ref c), (.inr "next", .int nx), (.inr "digits", .int dg), (.inr "rest", .int rs), (.inr "seed", .int sd), (.inr "turn", .int tn)]
section
variable {c : Addr} {nx dg rs sd tn y : Int}
theorem g_cells : valV (drK c nx dg rs sd tn) (.inr "cells") = some (.ref c) := rfl
theorem g_next : valV (drK c nx dg rs sd tn) (.inr "next") = some (.int nx) := rfl
theorem g_digits : valV (drK c nx dg rs sd tn) (.inr "digits") = some (.int dg) := rfl
theorem g_rest : valV (drK c nx dg rs sd tn) (.inr "rest") = some (.int rs) := rfl
theorem g_seed : valV (drK c nx dg rs sd tn) (.inr "seed") = some (.int sd) := rfl
theorem g_turn : valV (drK c nx dg rs sd tn) (.inr "turn") = some (.int tn) := rfl
theorem p_next : putK (drK c nx dg rs sd tn) (.inr "next") (.int y) = drK c y dg rs sd tn := rfl
theorem p_digits : putK (drK c nx dg rs sd tn) (.inr "digits") (.int y) = drK c nx y rs sd tn := rfl
theorem p_rest : putK (drK c nx dg rs sd tn) (.inr "rest") (.int y) = drK c nx dg y sd tn := rfl
theorem p_seed : putK (drK c nx dg rs sd tn) (.inr "seed") (.int y) = drK c nx dg rs y tn := rfl
theorem p_turn : putK (drK c nx dg rs sd tn) (.inr "turn") (.int y) = drK c nx dg rs sd y := rfl
end
/-- the draws at d, their cells at c -/
def Dr (H : Hp) (d c : Addr) : Prop := d ≠ c ∧ ∃ (ns : List Int) (nx dg rs sd tn : Int), H d = some (.dK (drK c nx dg rs sd tn)) ∧ H c = some (.lst (ns.map V.int)) ∧ ns.length ≤ 63 ∧ 0 ≤ nx
theorem Dr.keep {H H' : Hp} {d c : Addr} (x : Dr H d c) (kd : ∀ o, H d = some o → H' d = some o) (kc : ∀ o, H c = some o → H' c = some o) : Dr H' d c := by
  obtain ⟨n, ns, nx, dg, rs, sd, tn, h1, h2, h3, h4⟩ := x
  exact ⟨n, ns, nx, dg, rs, sd, tn, kd _ h1, kc _ h2, h3, h4⟩
theorem Dr.same {H H' : Hp} {d c : Addr} (x : Dr H d c) (k : Same H H') : Dr H' d c := x.keep (k d) (k c)
theorem Dr.upd {H : Hp} {d c a : Addr} {o : HO} (x : Dr H d c) (h1 : d ≠ a) (h2 : c ≠ a) : Dr (upd H a o) d c := x.keep (fun o e => by rw [upd_ne h1]; exact e) (fun o e => by rw [upd_ne h2]; exact e)
theorem Dr.new {H : Hp} {d c a : Addr} {o : HO} (x : Dr H d c) (h : H a = none) : Dr (L2.upd H a o) d c := by
  obtain ⟨n, ns, nx, dg, rs, sd, tn, h1, h2, h3, h4⟩ := id x
  exact x.upd (ne_of_none h1 h) (ne_of_none h2 h)
theorem Dr.ne {H : Hp} {d c a : Addr} (x : Dr H d c) (h : H a = none) : d ≠ a ∧ c ≠ a := by
  obtain ⟨n, ns, nx, dg, rs, sd, tn, h1, h2, h3, h4⟩ := id x
  exact ⟨ne_of_none h1 h, ne_of_none h2 h⟩
/-- all but the object at d is as it was -/
def But (d : Addr) (H H' : Hp) : Prop := ∀ b o, H b = some o → b ≠ d → H' b = some o
theorem But.refl (d : Addr) (H : Hp) : But d H H := fun _ _ h _ => h
theorem But.trans {d : Addr} {H H1 H2 : Hp} (a : But d H H1) (b : But d H1 H2) : But d H H2 := fun c o h n => b c o (a c o h n) n
theorem But.of {d : Addr} {H H1 : Hp} (a : Same H H1) : But d H H1 := fun c o h _ => a c o h
theorem But.upd (d : Addr) (H : Hp) (o : HO) : But d H (L2.upd H d o) := fun c u h n => by rw [upd_ne n]; exact h
theorem But.free {d a : Addr} {H H1 : Hp} (x : But d H H1) (hd : ∀ o, H1 d = some o → True) (h : H1 a = none) (n : a ≠ d) : H a = none := by
  cases e : H a with
  | none => rfl
  | some o => rw [x a o e n] at h; cases h
/-- a draw: a number from 0 to many - 1; nothing but the draws changes -/
def spNext : Sp := fun vs H Q _ => ∃ (d c : Addr) (many : Int), vs = [.ref d, .int many] ∧ Dr H d c ∧ 1 ≤ many ∧ many < 1073741824 ∧
  ∀ (k : Int) (H' : Hp), 0 ≤ k → k < many → Dr H' d c → But d H H' → Q (.int k) H'
/-- the draws of a script -/
def spDigits (K : PySem.W.Frag) : Sp := fun vs H Q _ => ∃ (a : Addr) (ns : List Int) (many : V), vs = [.ref a, many] ∧ SqL K H a (ns.map V.int) ∧ ns.length ≤ 63 ∧
  ∀ (d c : Addr) (H' : Hp), H d = none → H c = none → Dr H' d c → Same H H' → Q (.ref d) H'
theorem dgs {H : Hp} {a : Addr} {kvs : List (Key × V)} {x : Str} {v : V} (e : H a = some (.dK kvs)) (h : valV kvs (.inr x) = some v) : DGet H a (.str x) (some v) := by
  have q := DGet.k (k := .inr x) e
  rw [h] at q
  exact q
theorem dps {H : Hp} {a : Addr} {kvs kvs' : List (Key × V)} {x : Str} {v : V} (e : H a = some (.dK kvs)) (h : putK kvs (.inr x) v = kvs') (hl : kvs.length < sizeLine) : DPut H a (.str x) v (upd H a (.dK kvs')) := by
  have q := DPut.k (k := .inr x) (v := v) e hl
  rw [h] at q
  exact q
theorem dpu {H : Hp} {a : Addr} {kvs kvs' : List (Key × V)} {x : Str} {v : V} (h : putK kvs (.inr x) v = kvs') (hl : kvs.length < sizeLine) : DPut (upd H a (.dK kvs)) a (.str x) v (upd H a (.dK kvs')) := by
  have q := dps (H := upd H a (.dK kvs)) (a := a) upd_same h hl
  rw [upd_upd] at q
  exact q
theorem dr_len {c : Addr} {nx dg rs sd tn : Int} : (drK c nx dg rs sd tn).length < sizeLine := by show 6 < sizeLine; decide
end Dw
set_option Elab.async false
set_option linter.all false
set_option maxRecDepth 100000
set_option maxHeartbeats 4000000
/-! new instances and methods whose error is wished for at the caller's slots -/
namespace L2
open PySem PySem.Spec PyProof.Rows
/-- C(..), C(.., k = v, ..), o.m(..): what is raised is wished for at σ -/
def tMakeS (C : Addr) (sp : Sp) (dvs : List V) (E : St → XK) (t : TA) : TE := fun σ H Q => t σ H fun vs H1 => ∀ x dx, H1 x = none → H1 dx = none → dx ≠ x →
  sp (.ref x :: (vs ++ dvs)) (upd (upd H1 dx (.own x)) x (.ins C dx [])) (fun v H2 => v = .non ∧ Q (.ref x) H2) (E σ)
def tMakeKS (C : Addr) (n m : Nat) (sp : Sp) (gV : List V → List V → List V) (E : St → XK) (t tk : TA) : TE := fun σ H Q => t σ H fun vs H1 => tk σ H1 fun zs H2 => vs.length = n ∧ zs.length = m ∧ ∀ x dx, H2 x = none → H2 dx = none → dx ≠ x →
  sp (gV (.ref x :: vs) zs) (upd (upd H2 dx (.own x)) x (.ins C dx [])) (fun v H3 => v = .non ∧ Q (.ref x) H3) (E σ)
def tMethS (C : Addr) (m : Str) (sp : Sp) (dvs : List V) (E : St → XK) (ta : TE) (t : TA) : TE := fun σ H Q => ta σ H fun x H1 => ∃ a dx fs, x = .ref a ∧ H1 a = some (.ins C dx fs) ∧ fs.lookup m = none ∧
  t σ H1 fun vs H2 => sp (x :: (vs ++ dvs)) H2 Q (E σ)
section
variable {X : Cx} {CX : CXT} {k n : Nat} {f C : Addr} {fd : FuncData} {ps ks : List Str} {sp : Sp} {E : St → XK} {x m : Str} {p pos apos : Pos} {e o : Expr} {es : List Expr} {kws : List Keyword} {ta : TE} {t tk : TA} {ds : List Value} {dvs : List V} {g : List Value → List Value → List Value} {gV : List V → List V → List V}
theorem mk_back {pins : List (Addr × Obj)} {σ : St} {H : Hp} {s s' : Shared} {Q : VK} {r : Result} {E1 : XK} {a : Addr} (hx : PassesAt CX X σ E1) (I2 : Inv X pins σ H s)
    (hq : CR CX X.stack X.prog X.w H s (fun v H3 => v = .non ∧ Q (.ref a) H3) E1 r s') :
    PySem.W.InitBack a (fun r s' => match r with | .ok (.ret u) => EP X pins σ Q u s' | .ok _ => False | .error e => X.xe e s') r s' := by
  cases r with
  | error e => exact hx pins H s e s' I2 hq
  | ok fl =>
    cases fl with
    | ret u =>
      obtain ⟨v, H', I3, rv, ev, q3⟩ := I2.after hq
      subst ev
      exact ⟨rv, V.ref a, H', I3, rfl, q3⟩
    | next => exact hq.elim
    | brk => exact hq.elim
    | cont => exact hq.elim
theorem run_makeS {pins : List (Addr × Obj)} {σ : St} {H : Hp} {s : Shared} {Q : VK} {us : List Value} {vs : List V} (M : Mk X.K C f) (F : FnOk X.prog X.w X.K X.mg X.base CX k f fd ps sp) (hr : Room (k + 1) X.A) (hb : Binds X.K fd ps ds) (hd : Vals dvs ds)
    (hx : PassesAt CX X σ (E σ)) (I : Inv X pins σ H s) (r : Vals vs us)
    (h : ∀ x dx, H x = none → H dx = none → dx ≠ x → sp (.ref x :: (vs ++ dvs)) (upd (upd H dx (.own x)) x (.ins C dx [])) (fun v H2 => v = .non ∧ Q (.ref x) H2) (E σ)) :
    wpAny (model X.prog X.w) X.A (call (.ref C) us) (EP X pins σ Q) X.xe s := by
  have q0 := h (s.heap.objs.size + 1) s.heap.objs.size (I.hok.fresh (Nat.le_succ _)) (I.hok.fresh (Nat.le_refl _)) (Nat.ne_of_lt (Nat.lt_succ_self _))
  have J := Inv.made (C := C) I
  have rr : Vals (V.ref (s.heap.objs.size + 1) :: (vs ++ dvs)) (Value.ref (s.heap.objs.size + 1) :: (us ++ ds)) := .cons rfl (r.append hd)
  have hl : (Value.ref (s.heap.objs.size + 1) :: us ++ ds).length = ps.length := (rr.length.symm.trans (F.len _ _ _ _ q0))
  exact wpAny_call (make_map (f := f) I.kIn M.makes M.init (beq_iff_eq.mp M.fn) (codeAny_mono (F.run _ X.stack _ _ ⟨Value.ref (s.heap.objs.size + 1) :: us, []⟩ (Value.ref (s.heap.objs.size + 1) :: (us ++ ds)) _ _ (E σ) (hr.make C us [])
    (J.env0.make C us []) (hb _ (Value.ref (s.heap.objs.size + 1) :: us) J.kIn hl) rr q0) fun r s' q => mk_back hx J q))
theorem run_makeKS {pins : List (Addr × Obj)} {σ : St} {H : Hp} {s : Shared} {Q : VK} {us ws : List Value} {vs zs : List V} (M : Mk X.K C f) (F : FnOk X.prog X.w X.K X.mg X.base CX k f fd ps sp) (hr : Room (k + 1) X.A) (hb : KBn X.K fd ps (n + 1) ks g gV) (hx : PassesAt CX X σ (E σ))
    (I : Inv X pins σ H s) (r : Vals vs us) (rz : Vals zs ws) (l1 : vs.length = n) (l2 : zs.length = ks.length)
    (h : ∀ x dx, H x = none → H dx = none → dx ≠ x → sp (gV (.ref x :: vs) zs) (upd (upd H dx (.own x)) x (.ins C dx [])) (fun v H2 => v = .non ∧ Q (.ref x) H2) (E σ)) :
    wpAny (model X.prog X.w) X.A (call (.ref C) us (ks.zip ws)) (EP X pins σ Q) X.xe s := by
  have q0 := h (s.heap.objs.size + 1) s.heap.objs.size (I.hok.fresh (Nat.le_succ _)) (I.hok.fresh (Nat.le_refl _)) (Nat.ne_of_lt (Nat.lt_succ_self _))
  have J := Inv.made (C := C) I
  have rr := hb.rel (show Vals (V.ref (s.heap.objs.size + 1) :: vs) (Value.ref (s.heap.objs.size + 1) :: us) from .cons rfl r) rz
  have n1 : (Value.ref (s.heap.objs.size + 1) :: us).length = n + 1 := congrArg Nat.succ (r.length.symm.trans l1)
  exact wpAny_call (make_map (f := f) I.kIn M.makes M.init (beq_iff_eq.mp M.fn) (codeAny_mono (F.run _ X.stack _ _ ⟨Value.ref (s.heap.objs.size + 1) :: us, ks.zip ws⟩ (g (Value.ref (s.heap.objs.size + 1) :: us) ws) _ _ (E σ) (hr.make C us (ks.zip ws))
    (J.env0.make C us (ks.zip ws)) (hb.to _ (Value.ref (s.heap.objs.size + 1) :: us) ws J.kIn n1 (rz.length.symm.trans l2)) rr q0) fun r s' q => mk_back hx J q))
/-- C(e, ..) -/
theorem pe_makeS (M : Mk X.K C f) (F : FnOk X.prog X.w X.K X.mg X.base CX k f fd ps sp) (hr : Room (k + 1) X.A) (hg : Gl X x) (hm : X.mg x = some (.ref C)) (hb : Binds X.K fd ps ds) (hd : Vals dvs ds) (hx : ∀ σ, PassesAt CX X σ (E σ)) (ha : PA X (e :: es) t)
    (hdb : (x == ("__debug__" : Str)) = false := by decide) (he : starEach (e :: es) X.env = (false, eval e X.env) :: starEach es X.env := by rfl) (hpl : (backTo pos (starEach es X.env)).any (·.1) = false := by rfl) :
    PE X (.Call (.Name x p) (e :: es) [] pos) (tMakeS C sp dvs E t) := ⟨fun pins s σ H Q I h =>
  wpAny_Call_Name_kw (ld_glob I hg hm (PySem.W.callWith_K (h₀ := X.base) I.ok.mod.kin M.kp (thn (ha.run pos pins s σ H _ I h) fun us s1 ⟨vs, H1, I1, r, q⟩ => ⟨I1.kIn, run_makeS M F hr hb hd (hx σ) I1 r q⟩) he hpl) hdb)⟩
/-- C(e, .., k = v, ..) -/
theorem pe_makeKS (M : Mk X.K C f) (F : FnOk X.prog X.w X.K X.mg X.base CX k f fd ps sp) (hr : Room (k + 1) X.A) (hg : Gl X x) (hm : X.mg x = some (.ref C)) (hb : KBn X.K fd ps (n + 1) ks g gV) (hx : ∀ σ, PassesAt CX X σ (E σ)) (ha : PA X (e :: es) t) (hkw : PK X kws tk)
    (hall : (backToKw pos (keywordEach kws X.env)).all (·.1.isSome) = true := by rfl) (hks : (backToKw pos (keywordEach kws X.env)).filterMap (·.1) = ks := by rfl) (hdb : (x == ("__debug__" : Str)) = false := by decide)
    (he : starEach (e :: es) X.env = (false, eval e X.env) :: starEach es X.env := by rfl) (hpl : ((backTo pos (starEach (e :: es) X.env)).any (·.1) || (backToKw pos (keywordEach kws X.env)).any (·.1.isNone)) = false := by rfl) :
    PE X (.Call (.Name x p) (e :: es) kws pos) (tMakeKS C n ks.length sp gV E t tk) := ⟨fun pins s σ H Q I h =>
  wpAny_Call_Name_kw (ld_glob I hg hm (PySem.W.callWith_KW (h₀ := X.base) I.ok.mod.kin M.kp hall (thn (ha.run pos pins s σ H _ I h) fun us s1 ⟨vs, H1, I1, r, q⟩ =>
    thn (hkw.run pos pins s1 σ H1 _ I1 q) fun ws s2 ⟨zs, H2, I2, rz, l1, l2, q2⟩ => ⟨I2.kIn, by rw [hks]; exact run_makeKS M F hr hb (hx σ) I2 r rz l1 l2 q2⟩) hpl he) hdb)⟩
/-- o.m(e, ..) -/
theorem pe_methS {pl : Sem Bool} (ho : PE X o ta) (c : Cls X.K C) (hm : Meth X.K C m f) (F : FnOk X.prog X.w X.K X.mg X.base CX k f fd ps sp) (hr : Room k X.A) (hb : Binds X.K fd ps []) (hx : ∀ σ, PassesAt CX X σ (E σ)) (ha : PA X (e :: es) t)
    (hst : starEach (e :: es) X.env = (false, eval e X.env) :: starEach es X.env := by rfl) (hpl : (backTo pos (starEach es X.env)).any (·.1) = false := by rfl)
    (ht : eval (.Call (.Attribute o m apos) (e :: es) [] pos) X.env = (do
      let v0 ← eval o X.env
      standAt apos.atName
      let (f1, first) ← holding [v0] (getMethod v0 m pl)
      callWith pos f1 first (backTo pos (starEach (e :: es) X.env)) (backToKw pos (keywordEach [] X.env))) := by rfl) :
    PE X (.Call (.Attribute o m apos) (e :: es) [] pos) (tMethS C m sp [] E ta t) := by
  refine ⟨fun pins s σ H Q I h => PySem.W.methodCall_KW (pl := pl) (thn (ho.run pins s σ H _ I h) fun u s1 hh => ?_) ht⟩
  obtain ⟨x, H1, I1, rx, a, dx, fs, ex, ea, l, q⟩ := hh
  subst ex
  obtain rfl : u = Value.ref a := rx
  refine getmeth_ok I1 ea c hm l (PySem.W.callWith_K (first := [.ref a]) (h₀ := X.base) I.ok.mod.kin hm.kp (thn (ha.run pos pins s1 σ H1 _ I1 q) fun us s2 hh2 => ?_) hst hpl)
  obtain ⟨vs, H2, I2, r, q2⟩ := hh2
  rw [List.append_nil] at q2
  exact ⟨I2.kIn, run_fnS (us := .ref a :: us) (vs := .ref a :: vs) F hr hb (hx σ) I2 (.cons rfl r) q2⟩
end
end L2
set_option Elab.async false
set_option linter.all false
set_option maxRecDepth 100000
set_option maxHeartbeats 4000000
namespace L2
open PySem PySem.Spec PyProof.Rows
/-- a def of the text that keeps sp, as its callers need it -/
def Cal (P : Program) (w : World) (K : PySem.W.Frag) (mg : Str → Option Value) (base : Heap) (CX : CXT) (k : Nat) (x : Str) (ps : List Str) (sp : Sp) : Prop :=
  ∃ (f : Addr) (fd : FuncData), FnOk P w K mg base CX k f fd ps sp ∧ mg x = some (.ref f) ∧ PySem.W.keepIn K (.ref f) = true ∧ Binds K fd ps []
/-- a method of the class at C that keeps sp -/
def CalM (P : Program) (w : World) (K : PySem.W.Frag) (mg : Str → Option Value) (base : Heap) (CX : CXT) (k : Nat) (C : Addr) (m : Str) (ps : List Str) (sp : Sp) : Prop :=
  ∃ (f : Addr) (fd : FuncData), FnOk P w K mg base CX k f fd ps sp ∧ Meth K C m f ∧ Binds K fd ps []
/-- the class at C makes its instances by sp -/
def CalC (P : Program) (w : World) (K : PySem.W.Frag) (mg : Str → Option Value) (base : Heap) (CX : CXT) (k : Nat) (C : Addr) (ps : List Str) (sp : Sp) : Prop :=
  ∃ (f : Addr) (fd : FuncData), FnOk P w K mg base CX k f fd ps sp ∧ Mk K C f ∧ Binds K fd ps []
/-- where a def stands -/
def Def (K : PySem.W.Frag) (mg : Str → Option Value) (x : Str) (st : Stmt) : Prop := ∃ (f : Addr) (fd : FuncData), Fun K x x st f fd ∧ mg x = some (.ref f)
def DefM (K : PySem.W.Frag) (C : Addr) (m qual : Str) (st : Stmt) : Prop := ∃ (f : Addr) (fd : FuncData), Fun K m qual st f fd ∧ Meth K C m f
def DefC (K : PySem.W.Frag) (C : Addr) (qual : Str) (st : Stmt) : Prop := ∃ (f : Addr) (fd : FuncData), Fun K "__init__" qual st f fd ∧ Mk K C f
section
variable {X : Cx} {CX : CXT} {k : Nat} {ps : List Str} {sp : Sp} {x : Str} {p pos apos : Pos} {e o : Expr} {es : List Expr} {t : TA} {ta : TE} {v : V} {C : Addr} {m : Str}
theorem pe_cal (c : Cal X.prog X.w X.K X.mg X.base CX k x ps sp) (hr : Room k X.A) (ha : PA X (e :: es) t) (hx : Passes CX X E0 := by first | exact pass0 | exact passL) (hg : Gl X x := by rfl) (hdb : (x == ("__debug__" : Str)) = false := by decide) (he : starEach (e :: es) X.env = (false, eval e X.env) :: starEach es X.env := by rfl)
    (hpl : (backTo pos (starEach es X.env)).any (·.1) = false := by rfl) : PE X (.Call (.Name x p) (e :: es) [] pos) (tCall sp [] E0 t) := by
  obtain ⟨f, fd, h1, h2, h3, h4⟩ := c
  exact pe_call h1 hr hg h2 h3 h4 .nil hx ha hdb he hpl
theorem pe_cal0 (c : Cal X.prog X.w X.K X.mg X.base CX k x ps sp) (hr : Room k X.A) (hx : Passes CX X E0 := by first | exact pass0 | exact passL) (hg : Gl X x := by rfl) (hdb : (x == ("__debug__" : Str)) = false := by decide) : PE X (.Call (.Name x p) [] [] pos) (tCall sp [] E0 tNil) := by
  obtain ⟨f, fd, h1, h2, h3, h4⟩ := c
  exact pe_call0 h1 hr hg h2 h3 h4 .nil hx hdb
/-- f(e, ..) within a try: what it raises is wished for at the slots -/
theorem pe_calS {E : St → XK} (c : Cal X.prog X.w X.K X.mg X.base CX k x ps sp) (hr : Room k X.A) (hx : ∀ σ, PassesAt CX X σ (E σ)) (ha : PA X (e :: es) t) (hg : Gl X x := by rfl) (hdb : (x == ("__debug__" : Str)) = false := by decide) (he : starEach (e :: es) X.env = (false, eval e X.env) :: starEach es X.env := by rfl)
    (hpl : (backTo pos (starEach es X.env)).any (·.1) = false := by rfl) : PE X (.Call (.Name x p) (e :: es) [] pos) (tCallS sp E t) := by
  obtain ⟨f, fd, h1, h2, h3, h4⟩ := c
  exact pe_callS h1 hr hg h2 h3 h4 hx ha hdb he hpl
/-- C(e, ..) -/
theorem pe_mk (c : CalC X.prog X.w X.K X.mg X.base CX k C ps sp) (hm : X.mg x = some (.ref C)) (hr : Room (k + 1) X.A) (ha : PA X (e :: es) t) (hx : Passes CX X E0 := by first | exact pass0 | exact passL) (hg : Gl X x := by rfl) (hdb : (x == ("__debug__" : Str)) = false := by decide) (he : starEach (e :: es) X.env = (false, eval e X.env) :: starEach es X.env := by rfl)
    (hpl : (backTo pos (starEach es X.env)).any (·.1) = false := by rfl) : PE X (.Call (.Name x p) (e :: es) [] pos) (tMake C sp [] E0 t) := by
  obtain ⟨f, fd, h1, h2, h4⟩ := c
  exact pe_make h2 h1 hr hg hm h4 .nil hx ha hdb he hpl
theorem pe_mkS {E : St → XK} (c : CalC X.prog X.w X.K X.mg X.base CX k C ps sp) (hm : X.mg x = some (.ref C)) (hr : Room (k + 1) X.A) (hx : ∀ σ, PassesAt CX X σ (E σ)) (ha : PA X (e :: es) t) (hg : Gl X x := by rfl) (hdb : (x == ("__debug__" : Str)) = false := by decide) (he : starEach (e :: es) X.env = (false, eval e X.env) :: starEach es X.env := by rfl)
    (hpl : (backTo pos (starEach es X.env)).any (·.1) = false := by rfl) : PE X (.Call (.Name x p) (e :: es) [] pos) (tMakeS C sp [] E t) := by
  obtain ⟨f, fd, h1, h2, h4⟩ := c
  exact pe_makeS h2 h1 hr hg hm h4 .nil hx ha hdb he hpl
/-- o.m(e, ..), o.m() -/
theorem pe_mth {pl : Sem Bool} (cl : Cls X.K C) (c : CalM X.prog X.w X.K X.mg X.base CX k C m ps sp) (hr : Room k X.A) (ho : PE X o ta) (ha : PA X (e :: es) t) (hx : Passes CX X E0 := by first | exact pass0 | exact passL) (hst : starEach (e :: es) X.env = (false, eval e X.env) :: starEach es X.env := by rfl) (hpl : (backTo pos (starEach es X.env)).any (·.1) = false := by rfl)
    (ht : eval (.Call (.Attribute o m apos) (e :: es) [] pos) X.env = (do
      let v0 ← eval o X.env
      standAt apos.atName
      let (f1, first) ← holding [v0] (getMethod v0 m pl)
      callWith pos f1 first (backTo pos (starEach (e :: es) X.env)) (backToKw pos (keywordEach [] X.env))) := by rfl) : PE X (.Call (.Attribute o m apos) (e :: es) [] pos) (tMeth C m sp [] E0 ta t) := by
  obtain ⟨f, fd, h1, h2, h4⟩ := c
  exact pe_meth ho cl h2 h1 hr h4 .nil hx ha hst hpl ht
theorem pe_mth0 {pl : Sem Bool} (cl : Cls X.K C) (c : CalM X.prog X.w X.K X.mg X.base CX k C m ps sp) (hr : Room k X.A) (ho : PE X o ta) (hx : Passes CX X E0 := by first | exact pass0 | exact passL)
    (ht : eval (.Call (.Attribute o m apos) [] [] pos) X.env = (do
      let v0 ← eval o X.env
      standAt apos.atName
      let (f1, first) ← holding [v0] (getMethod v0 m pl)
      callWith pos f1 first (backTo pos (starEach [] X.env)) (backToKw pos (keywordEach [] X.env))) := by rfl) : PE X (.Call (.Attribute o m apos) [] [] pos) (tMeth C m sp [] E0 ta tNil) := by
  obtain ⟨f, fd, h1, h2, h4⟩ := c
  exact pe_meth0 ho cl h2 h1 hr h4 .nil hx ht
theorem pe_mthS {pl : Sem Bool} {E : St → XK} (cl : Cls X.K C) (c : CalM X.prog X.w X.K X.mg X.base CX k C m ps sp) (hr : Room k X.A) (ho : PE X o ta) (hx : ∀ σ, PassesAt CX X σ (E σ)) (ha : PA X (e :: es) t) (hst : starEach (e :: es) X.env = (false, eval e X.env) :: starEach es X.env := by rfl) (hpl : (backTo pos (starEach es X.env)).any (·.1) = false := by rfl)
    (ht : eval (.Call (.Attribute o m apos) (e :: es) [] pos) X.env = (do
      let v0 ← eval o X.env
      standAt apos.atName
      let (f1, first) ← holding [v0] (getMethod v0 m pl)
      callWith pos f1 first (backTo pos (starEach (e :: es) X.env)) (backToKw pos (keywordEach [] X.env))) := by rfl) : PE X (.Call (.Attribute o m apos) (e :: es) [] pos) (tMethS C m sp [] E ta t) := by
  obtain ⟨f, fd, h1, h2, h4⟩ := c
  exact pe_methS ho cl h2 h1 hr h4 hx ha hst hpl ht
end
/-- a module's constant -/
theorem pe_gl {X : Cx} {x : Str} {pos : Pos} {v : V} (h : ∃ u, X.mg x = some u ∧ RelV v u) (hg : Gl X x := by rfl) (hdb : (x == ("__debug__" : Str)) = false := by decide) : PE X (.Name x pos) (tC v) := by
  obtain ⟨u, hm, r⟩ := h
  exact pe_glob hg hm r hdb
/-- a built-in class as a value -/
theorem pe_ty {X : Cx} {x : Str} {pos : Pos} (n : String) (hm : X.mg x = none) (hg : Gl X x := by rfl) (hv : bootBuiltins x = some (.type n) := by decide +kernel) (hn : x ≠ "__name__" := by decide) (hd : (x == ("__debug__" : Str)) = false := by decide) : PE X (.Name x pos) (tC (.ty n)) :=
  pe_bltn hg hm hv rfl hn hd
/-- an own class as a value -/
theorem pe_cls {X : Cx} {x : Str} {pos : Pos} {C : Addr} (hm : X.mg x = some (.ref C)) (hg : Gl X x := by rfl) (hd : (x == ("__debug__" : Str)) = false := by decide) : PE X (.Name x pos) (tC (.ref C)) := pe_glob hg hm rfl hd
/-- a plain value and the name of its type -/
inductive Dm (K : PySem.W.Frag) (H : Hp) : V → String → Prop where
  | non : Dm K H .non "NoneType"
  | bl (b : Bool) : Dm K H (.bl b) "bool"
  | int (i : Int) : Dm K H (.int i) "int"
  | str (x : Str) (h : x.length ≤ sizeLine) : Dm K H (.str x) "str"
  | lst {a : Addr} {xs : List V} (e : H a = some (.lst xs)) : Dm K H (.ref a) "list"
  | tup {a : Addr} {xs : List V} (e : H a = some (.tup xs)) : Dm K H (.ref a) "tuple"
section
variable {K : PySem.W.Frag} {H H' : Hp} {v : V} {n : String}
theorem Dm.mono (d : Dm K H v n) (k : ∀ a o, v = .ref a → H a = some o → (∃ o', H' a = some o' ∧ ((∃ xs ys, o = .lst xs ∧ o' = .lst ys) ∨ o' = o))) : Dm K H' v n := by
  cases d with
  | non => exact .non
  | bl b => exact .bl b
  | int i => exact .int i
  | str x h => exact .str x h
  | lst e =>
    obtain ⟨o', h1, h2⟩ := k _ _ rfl e
    rcases h2 with ⟨xs, ys, _, h3⟩ | h3
    · subst h3; exact .lst h1
    · subst h3; exact .lst h1
  | tup e =>
    obtain ⟨o', h1, h2⟩ := k _ _ rfl e
    rcases h2 with ⟨xs, ys, h3, _⟩ | h3
    · cases h3
    · subst h3; exact .tup h1
theorem Dm.same (d : Dm K H v n) (k : Same H H') : Dm K H' v n := d.mono fun a o _ e => ⟨o, k a o e, .inr rfl⟩
theorem Dm.ty (d : Dm K H v n) : TyX K H v (.type n) := by
  cases d with
  | non => exact .base .non
  | bl b => exact .base (.bl b)
  | int i => exact .base (.int i)
  | str x h => exact .base (.str x)
  | lst e => exact .base (.lst e)
  | tup e => exact .base (.tup e)
end
theorem sNew {H : Hp} {p : Addr} {o : HO} (h : H p = none) : Same H (upd H p o) := fun b u e => by rw [upd_ne (ne_of_none e h)]; exact e
/-! the same rules, the written part named -/
section
variable {X : Cx} {K : PySem.W.Frag}
theorem ix_listK (h : X.K = K) : IxR X (rIxL K) := h ▸ ix_list
theorem ix_tupK (h : X.K = K) : IxR X (rIxT K) := h ▸ ix_tup
theorem call_isiK' (h : X.K = K) : CallR X (.builtin "isinstance") (rIsi K) := h ▸ call_isi
theorem call_isiTK (h : X.K = K) : CallR X (.builtin "isinstance") (rIsiT K) := h ▸ call_isiT
theorem sl_listK (h : X.K = K) : SlR X (rSlL K) := h ▸ sl_list
end
/-- a comprehension over a text -/
theorem lc_str {x : Str} {g : TG} {tt : TT} {te : TE} {vs : List Nat} {σ : St} {H1 : Hp} {D : Addr} {Qd : Hp → Prop} (Pv : Nat → Hp → Prop) (h0 : Pv 0 (upd H1 D (.lst [])))
    (hs : ∀ i c H, x.cps[i]? = some c → Pv i H → g (.str ⟨#[c]⟩) (wipe σ vs) H fun σ2 H2 => wipe σ2 vs = wipe σ vs ∧ tt σ2 H2 fun b H3 =>
      if b = true then te σ2 H3 fun y H4 => ∃ acc, H4 D = some (.lst acc) ∧ acc.length < sizeLine ∧ Pv (i + 1) (upd H4 D (.lst (acc ++ [y]))) else Pv (i + 1) H3) (hd : ∀ H, Pv x.cps.size H → Qd H) :
    ∃ W : Nat → Nat → Hp → Prop, (∃ m, W 0 m (upd H1 D (.lst []))) ∧ ∀ i m H, W i m H →
      ((Its x).stop i H ∧ Qd H) ∨ ((Its x).go i H ∧ ∃ Nx : Hp → Prop, (∀ H', Nx H' → ∃ m', m' < m ∧ W (i + 1) m' H') ∧ ∀ y H', (Its x).yld i H y H' → g y (wipe σ vs) H' fun σ2 H2 => wipe σ2 vs = wipe σ vs ∧ tt σ2 H2 fun b H3 =>
        if b = true then te σ2 H3 fun y H4 => ∃ acc, H4 D = some (.lst acc) ∧ acc.length < sizeLine ∧ Nx (upd H4 D (.lst (acc ++ [y]))) else Nx H3) := by
  refine ⟨fun i m H => m = x.cps.size - i ∧ i ≤ x.cps.size ∧ Pv i H, ⟨x.cps.size, by simp, Nat.zero_le _, h0⟩, ?_⟩
  rintro i m H ⟨rfl, hi, p⟩
  by_cases hlt : i < x.cps.size
  · refine .inr ⟨hlt, Pv (i + 1), fun H' p' => ⟨x.cps.size - (i + 1), by omega, rfl, by omega, p'⟩, ?_⟩
    rintro y H' ⟨rfl, c, hc, rfl⟩
    exact hs i c H' hc p
  · have e : i = x.cps.size := by omega
    subst e
    exact .inl ⟨Nat.le_refl _, hd H p⟩
/-- a for over a text -/
theorem for_strT {x : Str} {g : TG} {tb : TS} {D : Ends} {σ : St} {H : Hp} (Pv : Nat → St → Hp → Prop) (h0 : Pv 0 σ H)
    (hs : ∀ i c σ H, x.cps[i]? = some c → Pv i σ H → g (.str ⟨#[c]⟩) σ H fun σ2 H2 => tb { D with nx := Pv (i + 1), ct := Pv (i + 1), bk := D.nx } σ2 H2) (hd : ∀ σ H, Pv x.cps.size σ H → D.nx σ H) :
    ∃ W : Nat → Nat → St → Hp → Prop, (∃ m, W 0 m σ H) ∧ ∀ i m σ H, W i m σ H →
      ((Its x).stop i H ∧ D.nx σ H) ∨ ((Its x).go i H ∧ ∃ N : St → Hp → Prop, (∀ σ' H', N σ' H' → ∃ m', m' < m ∧ W (i + 1) m' σ' H') ∧ ∀ y H', (Its x).yld i H y H' → g y σ H' fun σ2 H2 => tb { D with nx := N, ct := N, bk := D.nx } σ2 H2) := by
  refine ⟨fun i m σ H => m = x.cps.size - i ∧ i ≤ x.cps.size ∧ Pv i σ H, ⟨x.cps.size, by simp, Nat.zero_le _, h0⟩, ?_⟩
  rintro i m σ H ⟨rfl, hi, p⟩
  by_cases hlt : i < x.cps.size
  · refine .inr ⟨hlt, Pv (i + 1), fun σ' H' p' => ⟨x.cps.size - (i + 1), by omega, rfl, by omega, p'⟩, ?_⟩
    rintro y H' ⟨rfl, c, hc, rfl⟩
    exact hs i c σ H' hc p
  · have e : i = x.cps.size := by omega
    subst e
    exact .inl ⟨Nat.le_refl _, hd σ H p⟩
end L2
set_option Elab.async false
set_option linter.all false
set_option maxRecDepth 100000
namespace L2
open PySem PySem.Spec PyProof.Rows
/-- a maker with one positional and three keyword-only defaults: where it stands -/
def DefK (K : PySem.W.Frag) (C : Addr) (st : Stmt) : Prop := ∃ (f : Addr) (fd : FuncData), FunD K "__init__" "Customs.__init__" (defArgs st) (defBody st) (defScope st) [.int 1] [("years_after", .int 1), ("wed_age", .int 0), ("limit", .int 21)] f fd ∧ Mk K C f
end L2
set_option Elab.async false
set_option linter.all false
set_option maxRecDepth 100000
namespace L2
open PySem PySem.Spec PyProof.Rows
theorem eqvAll_ints : ∀ ns ms : List Int, PyData.eqvAll (ns.map PyData.int) (ms.map PyData.int) = decide (ns = ms)
  | [], [] => by simp [PyData.eqvAll]
  | [], m :: ms => by simp [PyData.eqvAll]
  | n :: ns, [] => by simp [PyData.eqvAll]
  | n :: ns, m :: ms => by
    have ih := eqvAll_ints ns ms
    by_cases e : n = m
    · subst e
      simp [PyData.eqvAll, PyData.eqv, ih]
    · simp [PyData.eqvAll, PyData.eqv, e]
theorem eqv_tupI (ns ms : List Int) : PyData.eqv (.tuple (ns.map PyData.int)) (.tuple (ms.map PyData.int)) = decide (ns = ms) := by rw [← eqvAll_ints]; simp [PyData.eqv]
theorem eqv_lstI (ns ms : List Int) : PyData.eqv (.list (ns.map PyData.int)) (.list (ms.map PyData.int)) = decide (ns = ms) := by rw [← eqvAll_ints]; simp [PyData.eqv]
theorem dpAll_ints {K : PySem.W.Frag} {H : Hp} : ∀ ns : List Int, DpAll K H (ns.map V.int) (ns.map PyData.int)
  | [] => .nil
  | n :: ns => .cons (.int n) (dpAll_ints ns)
theorem depthAll_ints : ∀ ns : List Int, PyData.depthAll (ns.map PyData.int) = 0
  | [] => by simp [PyData.depthAll]
  | n :: ns => by simp [PyData.depthAll, PyData.depth, depthAll_ints ns]
theorem layAll_ints : ∀ ns : List Int, PyData.canLayAll0 (ns.map PyData.int) = true
  | [] => by simp [PyData.canLayAll0]
  | n :: ns => by simp [PyData.canLayAll0, PyData.canLay0, layAll_ints ns]
theorem shaped_tupI (ns : List Int) : SeqAt.shaped (.tuple (ns.map PyData.int)) = true := by simp [SeqAt.shaped, PyData.canLay0, PyData.depth, layAll_ints, depthAll_ints]
theorem shaped_lstI (ns : List Int) : SeqAt.shaped (.list (ns.map PyData.int)) = true := by simp [SeqAt.shaped, PyData.canLay0, PyData.depth, layAll_ints, depthAll_ints]
theorem eqD_tup {K : PySem.W.Frag} {H : Hp} {p q : Addr} {ns ms : List Int} {Q : VK} (hp : SqT K H p (ns.map V.int)) (hq : SqT K H q (ms.map V.int)) (h : Q (.bl (decide (ns = ms))) H) : rEqD K (.ref p) (.ref q) H Q :=
  ⟨_, _, .tup hp (dpAll_ints ns), .tup hq (dpAll_ints ms), shaped_tupI ns, shaped_tupI ms, by rw [eqv_tupI]; exact h⟩
theorem eqD_lst {K : PySem.W.Frag} {H : Hp} {p q : Addr} {ns ms : List Int} {Q : VK} (hp : SqL K H p (ns.map V.int)) (hq : SqL K H q (ms.map V.int)) (h : Q (.bl (decide (ns = ms))) H) : rEqD K (.ref p) (.ref q) H Q :=
  ⟨_, _, .lst hp (dpAll_ints ns), .lst hq (dpAll_ints ms), shaped_lstI ns, shaped_lstI ms, by rw [eqv_lstI]; exact h⟩
theorem neD_lst {K : PySem.W.Frag} {H : Hp} {p q : Addr} {ns ms : List Int} {Q : VK} (hp : SqL K H p (ns.map V.int)) (hq : SqL K H q (ms.map V.int)) (h : Q (.bl (!decide (ns = ms))) H) : rNeD K (.ref p) (.ref q) H Q :=
  ⟨_, _, .lst hp (dpAll_ints ns), .lst hq (dpAll_ints ms), shaped_lstI ns, shaped_lstI ms, by rw [eqv_lstI]; exact h⟩
end L2
set_option Elab.async false
set_option linter.all false
set_option maxRecDepth 100000
set_option maxHeartbeats 4000000
/-! == by an own __eq__ that may say False -/
namespace L2
open PySem PySem.Spec PyProof.Rows
def rOwn (K : PySem.W.Frag) (C : Addr) (sp : Sp) : R2 := fun x y H Q => ∃ (a dx : Addr) (fs : List (Str × V)) (t : Value), x = .ref a ∧ H a = some (.ins C dx fs) ∧ TyX K H y t ∧ PySem.W.notFirst K C t = true ∧ sp [x, y] H (fun v H' => (∃ b, v = .bl b) ∧ Q v H') E0
theorem op_own {X : Cx} {CX : CXT} {C : Addr} {k : Nat} {ps : List Str} {sp : Sp} (c : CalM X.prog X.w X.K X.mg X.base CX k C "__eq__" ps sp) (hr : Room k X.A) (hx : Passes CX X E0 := by first | exact pass0 | exact passL) : OpR X (compareOp .Eq) (rOwn X.K C sp) := by
  intro pins s σ H x y v u Q I rx ry h
  obtain ⟨f, fd, h1, h2, h4⟩ := c
  obtain ⟨a, dx, fs, t, rfl, ha, hy, hn, q⟩ := h
  obtain rfl : v = Value.ref a := rx
  obtain ⟨mA, J, _⟩ := ins_get I.hok ha
  obtain ⟨od, J, _⟩ := J.look
  obtain ⟨Pz, Z, pz, _⟩ := kit_of I ry hy
  obtain ⟨m, hF⟩ := I.fr
  show wpAny (model X.prog X.w) X.A (richCompare .Eq (.ref a) u) (EP X pins σ Q) X.xe s
  refine PySem.W.cmp_K (op := .Eq) (tb := t) hr.units0 hF I.ok.mod.kin J (Z.ty _ _ I.kIn pz) hn h2.at_ h2.fn ?_
  refine wpAny_mono (run_fn (us := [.ref a, u]) (vs := [.ref a, y]) (dvs := []) h1 hr h4 .nil hx I (.cons (show RelV (.ref a) (.ref a) from rfl) (.cons ry .nil)) q) (fun r s' hq => ?_) fun _ _ z => z
  obtain ⟨v', H', I', rv, ⟨b, rfl⟩, q'⟩ := hq
  obtain rfl : r = Value.bool b := rv
  exact ⟨.bl b, H', I', rfl, q'⟩
end L2
set_option Elab.async false
set_option linter.all false
set_option maxRecDepth 100000
set_option maxHeartbeats 4000000
namespace My
open PySem L2 Dw
open C8 (pss_cut tCut)
def top (i : Nat) : Stmt := PySem.Challenge.pw_lastlife_k01_numbers_names_customs.main.body.getD i (.Pass ⟨0, 0, 0, 0⟩)
abbrev s_BadCustoms_init : Stmt := inClass (top 2) 0
abbrev s_BadLives_init : Stmt := inClass (top 3) 0
abbrev s_is_whole : Stmt := top 9
theorem sc_is_whole : FnScope ["thing", "low", "high"] ["thing", "low", "high"] (defScope s_is_whole) := ⟨rfl, rfl, rfl, by decide +kernel, rfl, by decide +kernel, by decide +kernel⟩
abbrev s_is_name : Stmt := top 10
theorem sc_is_name : FnScope ["thing", "sign"] ["thing"] (defScope s_is_name) := ⟨rfl, rfl, rfl, by decide +kernel, rfl, by decide +kernel, by decide +kernel⟩
abbrev s_Customs_init : Stmt := inClass (top 13) 0
theorem sc_Customs_init : FnScope ["self", "parent_age", "years_after", "wed_age", "limit"] ["self", "parent_age", "years_after", "wed_age", "limit"] (defScope s_Customs_init) := ⟨rfl, rfl, rfl, by decide +kernel, rfl, by decide +kernel, by decide +kernel⟩
abbrev s_Customs_as_tuple : Stmt := inClass (top 13) 1
theorem sc_Customs_as_tuple : FnScope ["self"] ["self"] (defScope s_Customs_as_tuple) := ⟨rfl, rfl, rfl, by decide +kernel, rfl, by decide +kernel, by decide +kernel⟩
abbrev s_Customs_eq : Stmt := inClass (top 13) 2
theorem sc_Customs_eq : FnScope ["self", "other"] ["self", "other"] (defScope s_Customs_eq) := ⟨rfl, rfl, rfl, by decide +kernel, rfl, by decide +kernel, by decide +kernel⟩
abbrev s_digits : Stmt := top 15
theorem sc_digits : FnScope ["_law_script", "_law_many", "_law_seed", "_law_cell"] ["_law_script", "_law_many"] (defScope s_digits) := ⟨rfl, rfl, rfl, by decide +kernel, rfl, by decide +kernel, by decide +kernel⟩
abbrev s_next : Stmt := top 16
theorem sc_next : FnScope ["_law_draws", "_law_many", "_law_cell", "_law_digit"] ["_law_draws", "_law_many"] (defScope s_next) := ⟨rfl, rfl, rfl, by decide +kernel, rfl, by decide +kernel, by decide +kernel⟩
abbrev s_far : Stmt := top 17
theorem sc_far : FnScope ["_law_draws", "_law_many", "_law_whole", "_law_turn"] ["_law_draws", "_law_many"] (defScope s_far) := ⟨rfl, rfl, rfl, by decide +kernel, rfl, by decide +kernel, by decide +kernel⟩
abbrev s_thing : Stmt := top 18
theorem sc_thing : FnScope ["_law_draws", "_law_low", "_law_high", "_law_kind"] ["_law_draws", "_law_low", "_law_high"] (defScope s_thing) := ⟨rfl, rfl, rfl, by decide +kernel, rfl, by decide +kernel, by decide +kernel⟩
abbrev s_word : Stmt := top 19
theorem sc_word : FnScope ["_law_draws", "_law_many", "_law_signs", "_law_word_here", "_law_turn", "_law_odd", "_law_place"] ["_law_draws"] (defScope s_word) := ⟨rfl, rfl, rfl, by decide +kernel, rfl, by decide +kernel, by decide +kernel⟩
abbrev s_right : Stmt := top 20
theorem sc_right : FnScope ["_law_thing_here", "_law_low", "_law_high"] ["_law_thing_here", "_law_low", "_law_high"] (defScope s_right) := ⟨rfl, rfl, rfl, by decide +kernel, rfl, by decide +kernel, by decide +kernel⟩
abbrev s_customs_words : Stmt := top 21
theorem sc_customs_words : FnScope ["_law_values", "_law_ends", "_law_place", "_law_name", "_law_low", "_law_high"] ["_law_values"] (defScope s_customs_words) := ⟨rfl, rfl, rfl, by decide +kernel, rfl, by decide +kernel, by decide +kernel⟩
abbrev s_asked : Stmt := top 22
theorem sc_asked : FnScope ["_law_values", "_law_due", "_law_told", "_law_made", "e"] ["_law_values"] (defScope s_asked) := ⟨rfl, rfl, rfl, by decide +kernel, rfl, by decide +kernel, by decide +kernel⟩
abbrev s_says : Stmt := top 23
theorem sc_says : FnScope ["_law_told", "_law_due"] ["_law_told", "_law_due"] (defScope s_says) := ⟨rfl, rfl, rfl, by decide +kernel, rfl, by decide +kernel, by decide +kernel⟩
abbrev s_law : Stmt := top 24
theorem sc_law : FnScope ["_law_script", "_law_draws", "_law_turn", "_law_low", "_law_high", "_law_thing_here", "_law_word_here", "_law_letters", "_law_values", "_law_good", "_law_spoilt", "_law_at", "_law_one", "_law_other", "_law_plain", "_law_sign"] ["_law_script"] (defScope s_law) := ⟨rfl, rfl, rfl, by decide +kernel, rfl, by decide +kernel, by decide +kernel⟩
/-- what the top has written -/
structure Txt (P : Program) (w : World) (K : PySem.W.Frag) (mg : Str → Option Value) (cl : String → Addr) : Prop where
  n_len : mg "len" = none
  n_int : mg "int" = none
  n_str : mg "str" = none
  n_bool : mg "bool" = none
  n_list : mg "list" = none
  n_tuple : mg "tuple" = none
  n_isinstance : mg "isinstance" = none
  n_range : mg "range" = none
  n_all : mg "all" = none
  n_ValueError : mg "ValueError" = none
  n_super : mg "super" = none
  c_LETTERS : ∃ u, mg "LETTERS" = some u ∧ RelV (.str "abcdefghijklmnopqrstuvwxyz") u
  c_MOST : ∃ u, mg "MOST" = some u ∧ RelV (.int 1000000) u
  c_MOST_YEAR : ∃ u, mg "MOST_YEAR" = some u ∧ RelV (.int 1000000000) u
  c_LATE : ∃ u, mg "LATE" = some u ∧ RelV (.int 10000000000) u
  c_WIDEST : ∃ u, mg "WIDEST" = some u ∧ RelV (.int 1000) u
  m_DeedError : mg "DeedError" = some (.ref (cl "DeedError"))
  m_BadCustoms : mg "BadCustoms" = some (.ref (cl "BadCustoms"))
  m_BadLives : mg "BadLives" = some (.ref (cl "BadLives"))
  m_Customs : mg "Customs" = some (.ref (cl "Customs"))
  e_BadCustoms : PySem.ErrL.Makes P w K mg (cl "BadCustoms") ["what"] (fun _ => True)
  x_BadCustoms : ExcC K (cl "BadCustoms")
  xf_BadCustoms_what : PySem.W.findIn K (.ref (cl "BadCustoms")) "what" = some none
  is_BadCustoms : PySem.W.exmOne K (.ref (cl "BadCustoms")) (.ref (cl "BadCustoms")) = some true
  k_bc_de : PySem.W.kitOne K (.ref (cl "BadCustoms")) (.ref (cl "DeedError")) = some true
  k_bc_ve : PySem.W.kitOne K (.ref (cl "BadCustoms")) (.type "ValueError") = some true
  k_bc_bl : PySem.W.kitOne K (.ref (cl "BadCustoms")) (.ref (cl "BadLives")) = some false
  cl_Customs : Cls K (cl "Customs")
  na_Customs : ∀ f : Str, f ∈ (["parent_age", "years_after", "wed_age", "limit"] : List Str) → NoAttr K (cl "Customs") f
  y_Customs : PySem.W.findIn K (.ref (cl "Customs")) "__class__" = some (some (.builtin "object.__class__"))
  z3_Customs : PySem.W.mroIn K (cl "Customs") (.type "object") = some true
  k_in_Cu : ∀ n : String, n ∈ ["NoneType", "bool", "int", "str", "list", "tuple"] → PySem.W.kitOne K (.type n) (.ref (cl "Customs")) = some false
  nf_Customs : ∀ n : String, n ∈ ["NoneType", "bool", "int", "str", "list", "tuple"] → PySem.W.notFirst K (cl "Customs") (.type n) = true
  nf2_Customs : PySem.W.notFirst K (cl "Customs") (.ref (cl "Customs")) = true
  k_Cu_Cu : PySem.W.kitOne K (.ref (cl "Customs")) (.ref (cl "Customs")) = some true
  i_Customs : DefK K (cl "Customs") s_Customs_init
  d_as_tuple : DefM K (cl "Customs") "as_tuple" "Customs.as_tuple" s_Customs_as_tuple
  d_eq : DefM K (cl "Customs") "__eq__" "Customs.__eq__" s_Customs_eq
  d_is_whole : Def K mg "is_whole" s_is_whole
  d_is_name : Def K mg "is_name" s_is_name
  d_digits : Def K mg "_law_digits" s_digits
  d_next : Def K mg "_law_next" s_next
  d_far : Def K mg "_law_far" s_far
  d_thing : Def K mg "_law_thing" s_thing
  d_word : Def K mg "_law_word" s_word
  d_right : Def K mg "_law_right" s_right
  d_customs_words : Def K mg "_law_customs_words" s_customs_words
  d_asked : Def K mg "_law_asked" s_asked
  d_says : Def K mg "_law_says" s_says
  z1 : PySem.W.specialIn K (.builtin "object.__class__") "__get__" = some (some (.builtin "getset_descriptor.__get__"))
  z2 : PySem.W.takesIn K (.builtin "object.__class__") = some true
/-! plain functions -/
def isW (lo hi : Int) : V → Bool
  | .int i => decide (lo ≤ i) && decide (i ≤ hi)
  | _ => false
def letters : List Nat := ("abcdefghijklmnopqrstuvwxyz" : Str).cps.toList
def isN : V → Bool
  | .str s => decide (1 ≤ s.length) && decide (s.length ≤ 8) && s.cps.toList.all fun c => decide (c ∈ letters)
  | _ => false
/-! promises -/
def spW (K : PySem.W.Frag) : Sp := fun vs H Q _ => ∃ (v : V) (n : String) (lo hi : Int), vs = [v, .int lo, .int hi] ∧ Dm K H v n ∧ Q (.bl (isW lo hi v)) H
def spN (K : PySem.W.Frag) : Sp := fun vs H Q _ => ∃ (v : V) (n : String), vs = [v] ∧ Dm K H v n ∧ ∀ H', Same H H' → Q (.bl (isN v)) H'
section
variable {P : Program} {w : World} {K : PySem.W.Frag} {mg : Str → Option Value} {base : Heap} {cl : String → Addr}
theorem kb {v : V} {H : Hp} {n m : String} {b : Bool} (d : Dm K H v n) (h : kitB n m = some b) : PySem.W.kitOne K (.type n) (.type m) = some b := kit_ty h
theorem ok_is_whole {f : Addr} {fd : FuncData} (F : Fun K "is_whole" "is_whole" s_is_whole f fd) (T : Txt P w K mg cl) : FnOk P w K mg base CX0 1 f fd ["thing", "low", "high"] (spW K) := by
  refine F.ok sc_is_whole (fun vs H Q E h => ?_) (fun cdv A outer s H vs Q E hr h => ?_)
  · obtain ⟨v, n, lo, hi, rfl, _⟩ := h
    rfl
  · obtain ⟨v, n, lo, hi, rfl, d, k⟩ := h
    have hu := hu_of hr
    refine ⟨_, (pss_one (ps_ret (pe_and (pe_callB call_isi (by rfl) T.n_isinstance (by decide +kernel) (pa_cons (pv 0) (pa_cons (pe_ty "int" T.n_int) pa_nil))) (pe_and (pe_not (pe_callB call_isi (by rfl) T.n_isinstance (by decide +kernel) (pa_cons (pv 0) (pa_cons (pe_ty "bool" T.n_bool) pa_nil)))) (pe_one (pe_chain op_le op_le (pv 1) (pv 0) (pv 2))))))), ?_⟩
    cases d with
    | int i =>
      refine ⟨_, rfl, _, _, _, _, _, rfl, .ty "int", .base (.int i), kit_ty (by decide +kernel), true, rfl, iteT ?_⟩
      refine ⟨_, rfl, _, _, _, _, _, rfl, .ty "bool", .base (.int i), kit_ty (by decide +kernel), false, rfl, _, rfl, iteT ?_⟩
      refine ⟨_, rfl, _, rfl, _, _, rfl, rfl, _, rfl, ?_⟩
      refine ite2 (fun h1 => ?_) (fun h1 => ?_)
      · refine ⟨_, rfl, _, _, rfl, rfl, ?_⟩
        have e : isW lo hi (.int i) = decide (i ≤ hi) := by show (decide (lo ≤ i) && decide (i ≤ hi)) = _; rw [h1]; rfl
        rw [e] at k
        exact k
      · have e : isW lo hi (.int i) = false := by show (decide (lo ≤ i) && decide (i ≤ hi)) = _; rw [Bool.eq_false_iff.mpr h1]; rfl
        rw [e] at k
        exact k
    | bl b =>
      refine ⟨_, rfl, _, _, _, _, _, rfl, .ty "int", .base (.bl b), kit_ty (by decide +kernel), true, rfl, iteT ?_⟩
      exact ⟨_, rfl, _, _, _, _, _, rfl, .ty "bool", .base (.bl b), kit_ty (by decide +kernel), true, rfl, _, rfl, iteF k⟩
    | non => exact ⟨_, rfl, _, _, _, _, _, rfl, .ty "int", .base .non, kit_ty (by decide +kernel), false, rfl, iteF k⟩
    | str x hx => exact ⟨_, rfl, _, _, _, _, _, rfl, .ty "int", .base (.str x), kit_ty (by decide +kernel), false, rfl, iteF k⟩
    | lst e => exact ⟨_, rfl, _, _, _, _, _, rfl, .ty "int", .base (.lst e), kit_ty (by decide +kernel), false, rfl, iteF k⟩
    | tup e => exact ⟨_, rfl, _, _, _, _, _, rfl, .ty "int", .base (.tup e), kit_ty (by decide +kernel), false, rfl, iteF k⟩
theorem cal_is_whole (T : Txt P w K mg cl) : Cal P w K mg base CX0 1 "is_whole" ["thing", "low", "high"] (spW K) := by
  obtain ⟨f, fd, F, m⟩ := T.d_is_whole
  exact ⟨f, fd, ok_is_whole F T, m, F.kp, F.binds fun _ _ _ _ _ _ us hl => match us, hl with | [_, _, _], _ => rfl⟩
theorem all_filter {α : Type} (l : List α) (p : α → Bool) : l.all p = (l.filter fun c => !p c).isEmpty := by
  induction l with
  | nil => rfl
  | cons a l ih =>
    cases h : p a with
    | true => rw [List.all_cons, h, Bool.true_and, List.filter_cons_of_neg (by simp [h])]; exact ih
    | false => rw [List.all_cons, h, Bool.false_and, List.filter_cons_of_pos (by simp [h])]; rfl
theorem ok_is_name {f : Addr} {fd : FuncData} (F : Fun K "is_name" "is_name" s_is_name f fd) (T : Txt P w K mg cl) : FnOk P w K mg base CX0 1 f fd ["thing"] (spN K) := by
  refine F.ok sc_is_name (fun vs H Q E h => ?_) (fun cdv A outer s H vs Q E hr h => ?_)
  · obtain ⟨v, n, rfl, _⟩ := h
    rfl
  · obtain ⟨v, n, rfl, d, k⟩ := h
    have hu := hu_of hr
    refine ⟨_, (pss_cons (ps_if (PW.pt (pw_or (pt_not (pt_val (pe_callB call_isi (by rfl) T.n_isinstance (by decide +kernel) (pa_cons (pv 0) (pa_cons (pe_ty "str" T.n_str) pa_nil))))) (pw_or1 (pt_not (pt_chain op_le op_le pe_int (pe_callB call_len_str (by rfl) T.n_len PySem.boot_len (pa_cons (pv 0) pa_nil)) pe_int)))))
          (pss_one (ps_ret pe_bl)) pss_nil)
        (pss_one (ps_ret (pe_notT (pe_lc (own := [("sign", 1)]) (g := gName 1)  rfl sc_is_name.nd (pi_str (pv 0)) (blkOk_by (own := [("sign", 1)]) (N := ["thing", "sign"]) (sc := defScope s_is_name) (by decide +kernel)) (fun _ _ _ _ _ => pg_name (i := 1) sc_is_name.nd rfl (Or.inl rfl)) (fun _ _ _ _ _ => pts_one (pt_cmpR op_notIn_sign (pv 1) (pe_gl T.c_LETTERS) (by rfl))) (fun _ _ _ _ _ => (pv 1))))))), ?_⟩
    cases d with
    | str x hx =>
      refine ⟨_, rfl, _, _, _, _, _, rfl, .ty "str", .base (.str x), kit_ty (by decide +kernel), true, rfl, iteF ?_⟩
      refine ⟨_, rfl, _, rfl, hx, _, _, rfl, rfl, _, rfl, ?_⟩
      have no : ∀ b : Bool, isN (.str x) = b → Q (.bl b) H := fun b e => by rw [← e]; exact k H (Same.refl H)
      refine ite2 (fun h1 => ?_) (fun h1 => ?_)
      · refine ⟨_, _, rfl, rfl, _, rfl, ?_⟩
        have g1 : (1 : Int) ≤ x.length := of_decide_eq_true h1
        have e1 : isN (.str x) = (decide (x.length ≤ 8) && x.cps.toList.all fun c => decide (c ∈ letters)) := by
          show (decide (1 ≤ x.length) && decide (x.length ≤ 8) && _) = _
          rw [decide_eq_true (show 1 ≤ x.length by omega), Bool.true_and]
        refine ite2 (fun h2 => ?_) (fun h2 => ?_)
        · refine no false ?_
          have g2 : ¬ x.length ≤ 8 := by
            have := (Bool.not_eq_true' _).mp h2
            have := of_decide_eq_false this
            omega
          rw [e1, decide_eq_false g2, Bool.false_and]
        · have g2 : x.length ≤ 8 := by
            have := Bool.eq_false_iff.mpr h2
            have := of_decide_eq_true ((Bool.not_eq_false' _).mp this)
            omega
          rw [decide_eq_true g2, Bool.true_and] at e1
          refine ⟨_, rfl, x, rfl, fun D hD => lc_str (x := x) (fun i H' => H' = upd H D (.lst (((x.cps.toList.take i).filter fun c => !decide (c ∈ letters)).map fun c => V.str ⟨#[c]⟩))) rfl ?_ ?_⟩
          · rintro i c H' hc rfl
            have hi : i < x.cps.size := (Array.getElem?_eq_some_iff.mp hc).1
            have hc2 : x.cps.toList[i]? = some c := by rw [← hc]; simp
            have ht : x.cps.toList.take (i + 1) = x.cps.toList.take i ++ [c] := by rw [List.take_add_one, hc2]; rfl
            refine ⟨rfl, _, rfl, c, _, rfl, rfl, _, rfl, ?_⟩
            refine ite2 (fun h3 => ?_) (fun h3 => ?_)
            · refine ⟨_, rfl, _, upd_same, small1000 ?_, ?_⟩
              · rw [List.length_map]
                refine Nat.le_trans (List.length_filter_le _ _) (Nat.le_trans (List.length_take_le _ _) ?_)
                have : x.length = x.cps.size := rfl
                omega
              · rw [upd_upd, ht, List.filter_append, List.map_append, show List.filter (fun c => !decide (c ∈ letters)) [c] = [c] by rw [List.filter_cons_of_pos (by exact h3)]; rfl]
                rfl
            · rw [ht, List.filter_append, List.map_append, show List.filter (fun c => !decide (c ∈ letters)) [c] = [] by rw [List.filter_cons_of_neg (by exact h3)]; rfl]
              rw [List.map_nil, List.append_nil]
          · rintro H' rfl
            refine ⟨_, .inl ⟨_, SqL.of upd_same, rfl⟩, ?_⟩
            have sm : Same H (upd H D (.lst (((x.cps.toList.take x.cps.size).filter fun c => !decide (c ∈ letters)).map fun c => V.str ⟨#[c]⟩))) := fun b o e => by rw [upd_ne (ne_of_none e hD)]; exact e
            have q := k _ sm
            rw [e1] at q
            have ea : (x.cps.toList.all fun c => decide (c ∈ letters)) = !!(((x.cps.toList.take x.cps.size).filter fun c => !decide (c ∈ letters)).map fun c => V.str ⟨#[c]⟩).isEmpty := by
              rw [Bool.not_not, List.isEmpty_map, show x.cps.toList.take x.cps.size = x.cps.toList from List.take_of_length_le (by simp)]
              exact all_filter _ _
            rw [ea] at q
            exact q
      · refine ⟨_, rfl, iteT (no false ?_)⟩
        have g1 : ¬ (1 : Int) ≤ x.length := fun z => h1 (decide_eq_true z)
        show (decide (1 ≤ x.length) && decide (x.length ≤ 8) && _) = false
        rw [decide_eq_false (show ¬ 1 ≤ x.length by omega), Bool.false_and, Bool.false_and]
    | int x => exact ⟨_, rfl, _, _, _, _, _, rfl, .ty "str", .base (.int x), kit_ty (by decide +kernel), false, rfl, iteT (iteT (k H (Same.refl H)))⟩
    | bl b => exact ⟨_, rfl, _, _, _, _, _, rfl, .ty "str", .base (.bl b), kit_ty (by decide +kernel), false, rfl, iteT (iteT (k H (Same.refl H)))⟩
    | non => exact ⟨_, rfl, _, _, _, _, _, rfl, .ty "str", .base .non, kit_ty (by decide +kernel), false, rfl, iteT (iteT (k H (Same.refl H)))⟩
    | lst e => exact ⟨_, rfl, _, _, _, _, _, rfl, .ty "str", .base (.lst e), kit_ty (by decide +kernel), false, rfl, iteT (iteT (k H (Same.refl H)))⟩
    | tup e => exact ⟨_, rfl, _, _, _, _, _, rfl, .ty "str", .base (.tup e), kit_ty (by decide +kernel), false, rfl, iteT (iteT (k H (Same.refl H)))⟩
theorem cal_is_name (T : Txt P w K mg cl) : Cal P w K mg base CX0 1 "is_name" ["thing"] (spN K) := by
  obtain ⟨f, fd, F, m⟩ := T.d_is_name
  exact ⟨f, fd, ok_is_name F T, m, F.kp, F.binds fun _ _ _ _ _ _ us hl => match us, hl with | [_], _ => rfl⟩
end
end My
set_option Elab.async false
set_option linter.all false
set_option maxRecDepth 100000
set_option maxHeartbeats 4000000
namespace My
open PySem L2 Dw
open C8 (pss_cut tCut)
/-- the first wrong value of customs -/
def cuWord (a b c d : V) : Option Str :=
  if isW 1 1000 a = false then some "parent_age" else if isW 0 1000 b = false then some "years_after" else if isW 0 1000 c = false then some "wed_age" else if isW 0 1000000 d = false then some "limit" else none
def cuF (a b c d : V) : List (Str × V) := [("parent_age", a), ("years_after", b), ("wed_age", c), ("limit", d)]
def spCu (K : PySem.W.Frag) (C CB : Addr) : Sp := fun vs H Q E => ∃ (p dx : Addr) (a b c d : V) (n1 n2 n3 n4 : String), vs = [.ref p, a, b, c, d] ∧ H p = some (.ins C dx []) ∧ Dm K H a n1 ∧ Dm K H b n2 ∧ Dm K H c n3 ∧ Dm K H d n4 ∧
  (∀ s, cuWord a b c d = some s → ∀ e, H e = none → E (.ref CB) (some e) (upd H e (.xd [("what", .str s)]))) ∧ (cuWord a b c d = none → Q .non (upd H p (.ins C dx (cuF a b c d))))
section
variable {P : Program} {w : World} {K : PySem.W.Frag} {mg : Str → Option Value} {base : Heap} {cl : String → Addr}
theorem ok_Customs_init {f : Addr} {fd : FuncData} (F : FunD K "__init__" "Customs.__init__" (defArgs s_Customs_init) (defBody s_Customs_init) (defScope s_Customs_init) [.int 1] [("years_after", .int 1), ("wed_age", .int 0), ("limit", .int 21)] f fd) (T : Txt P w K mg cl) :
    FnOk P w K mg base (L2.CX P w) 4 f fd ["self", "parent_age", "years_after", "wed_age", "limit"] (spCu K (cl "Customs") (cl "BadCustoms")) := by
  refine F.ok sc_Customs_init (fun vs H Q E h => ?_) (fun cdv A outer s H vs Q E hr h => ?_)
  · obtain ⟨p, dx, a, b, c, d, n1, n2, n3, n4, rfl, _⟩ := h
    rfl
  · obtain ⟨p, dx, a, b, c, d, n1, n2, n3, n4, rfl, hp, d1, d2, d3, d4, ke, kn⟩ := h
    have hu := hu_of hr
    have C_is_whole : Cal P w K mg base CX0 1 "is_whole" _ (spW K) := cal_is_whole T
    refine ⟨_, (pss_cons (ps_if (pt_not (pt_val (pe_cal C_is_whole (hr.mono (by decide)) (pa_cons (pv 1) (pa_cons pe_int (pa_cons (pe_gl T.c_WIDEST) pa_nil))))))
          (pss_one (ps_raiseErr (k := 1) (okV := fun _ => True) rfl T.e_BadCustoms (fun _ _ _ _ => trivial) T.m_BadCustoms (hr.mono (by decide)) (takes_of rfl rfl rfl rfl) (by exact (pa_cons pe_str pa_nil)))) pss_nil)
        (pss_cons (ps_if (pt_not (pt_val (pe_cal C_is_whole (hr.mono (by decide)) (pa_cons (pv 2) (pa_cons pe_int (pa_cons (pe_gl T.c_WIDEST) pa_nil))))))
          (pss_one (ps_raiseErr (k := 1) (okV := fun _ => True) rfl T.e_BadCustoms (fun _ _ _ _ => trivial) T.m_BadCustoms (hr.mono (by decide)) (takes_of rfl rfl rfl rfl) (by exact (pa_cons pe_str pa_nil)))) pss_nil)
        (pss_cons (ps_if (pt_not (pt_val (pe_cal C_is_whole (hr.mono (by decide)) (pa_cons (pv 3) (pa_cons pe_int (pa_cons (pe_gl T.c_WIDEST) pa_nil))))))
          (pss_one (ps_raiseErr (k := 1) (okV := fun _ => True) rfl T.e_BadCustoms (fun _ _ _ _ => trivial) T.m_BadCustoms (hr.mono (by decide)) (takes_of rfl rfl rfl rfl) (by exact (pa_cons pe_str pa_nil)))) pss_nil)
        (pss_cons (ps_if (pt_not (pt_val (pe_cal C_is_whole (hr.mono (by decide)) (pa_cons (pv 4) (pa_cons pe_int (pa_cons (pe_gl T.c_MOST) pa_nil))))))
          (pss_one (ps_raiseErr (k := 1) (okV := fun _ => True) rfl T.e_BadCustoms (fun _ _ _ _ => trivial) T.m_BadCustoms (hr.mono (by decide)) (takes_of rfl rfl rfl rfl) (by exact (pa_cons pe_str pa_nil)))) pss_nil)
        (pss_cons (ps_fld (pv 0) (pv 1) rfl)
        (pss_cons (ps_fld (pv 0) (pv 2) rfl)
        (pss_cons (ps_fld (pv 0) (pv 3) rfl)
        (pss_one (ps_fld (pv 0) (pv 4) rfl))))))))), ?_⟩
    have bad : ∀ s (H' : Hp), cuWord a b c d = some s → H' = H → ∀ e, H' e = none → E (.ref (cl "BadCustoms")) (some e) (upd H' e (.xd (List.zip ["what"] [V.str s]))) := fun s H' q1 q2 e he => by subst q2; exact ke s q1 e he
    refine ⟨_, rfl, _, _, _, _, rfl, d1, _, rfl, ?_⟩
    refine ite2 (fun h => ?_) (fun h => ?_)
    · have g1 : isW 1 1000 a = false := by simpa using h
      exact ⟨rfl, trivial, bad _ _ (if_pos g1) rfl⟩
    have g1 : ¬ isW 1 1000 a = false := by simpa using h
    refine ⟨_, rfl, _, _, _, _, rfl, d2, _, rfl, ?_⟩
    refine ite2 (fun h => ?_) (fun h => ?_)
    · have g2 : isW 0 1000 b = false := by simpa using h
      exact ⟨rfl, trivial, bad _ _ (by unfold cuWord; rw [if_neg g1, if_pos g2]) rfl⟩
    have g2 : ¬ isW 0 1000 b = false := by simpa using h
    refine ⟨_, rfl, _, _, _, _, rfl, d3, _, rfl, ?_⟩
    refine ite2 (fun h => ?_) (fun h => ?_)
    · have g3 : isW 0 1000 c = false := by simpa using h
      exact ⟨rfl, trivial, bad _ _ (by unfold cuWord; rw [if_neg g1, if_neg g2, if_pos g3]) rfl⟩
    have g3 : ¬ isW 0 1000 c = false := by simpa using h
    refine ⟨_, rfl, _, _, _, _, rfl, d4, _, rfl, ?_⟩
    refine ite2 (fun h => ?_) (fun h => ?_)
    · have g4 : isW 0 1000000 d = false := by simpa using h
      exact ⟨rfl, trivial, bad _ _ (by unfold cuWord; rw [if_neg g1, if_neg g2, if_neg g3, if_pos g4]) rfl⟩
    have g4 : ¬ isW 0 1000000 d = false := by simpa using h
    refine ⟨_, rfl, _, rfl, p, _, dx, _, rfl, hp, T.cl_Customs, T.na_Customs _ (by decide), (by show 0 < 1000; decide), ?_⟩
    refine ⟨_, rfl, _, rfl, p, _, dx, _, rfl, upd_same, T.cl_Customs, T.na_Customs _ (by decide), (by show 1 < 1000; decide), ?_⟩
    refine ⟨_, rfl, _, rfl, p, _, dx, _, rfl, upd_same, T.cl_Customs, T.na_Customs _ (by decide), (by show 2 < 1000; decide), ?_⟩
    refine ⟨_, rfl, _, rfl, p, _, dx, _, rfl, upd_same, T.cl_Customs, T.na_Customs _ (by decide), (by show 3 < 1000; decide), ?_⟩
    have q := kn (by unfold cuWord; rw [if_neg g1, if_neg g2, if_neg g3, if_neg g4])
    rw [upd_upd, upd_upd, upd_upd]
    exact q
/-- customs stand at p -/
def CuAt (C : Addr) (H : Hp) (p : Addr) (a b c d : V) : Prop := ∃ dx, H p = some (.ins C dx (cuF a b c d))
/-- as_tuple: a new tuple -/
def spTup (C : Addr) : Sp := fun vs H Q _ => ∃ (p : Addr) (a b c d : V), vs = [.ref p] ∧ CuAt C H p a b c d ∧ ∀ t, H t = none → Q (.ref t) (upd H t (.tup [a, b, c, d]))
theorem ok_as_tuple {f : Addr} {fd : FuncData} (F : Fun K "as_tuple" "Customs.as_tuple" s_Customs_as_tuple f fd) (T : Txt P w K mg cl) : FnOk P w K mg base CX0 1 f fd ["self"] (spTup (cl "Customs")) := by
  refine F.ok sc_Customs_as_tuple (fun vs H Q E h => ?_) (fun cdv A outer s H vs Q E hr h => ?_)
  · obtain ⟨p, a, b, c, d, rfl, _⟩ := h
    rfl
  · obtain ⟨p, a, b, c, d, rfl, ⟨dx, hp⟩, k⟩ := h
    refine ⟨_, (pss_one (ps_ret (pe_tup (pa_cons (pe_fld (pv 0) rfl) (pa_cons (pe_fld (pv 0) rfl) (pa_cons (pe_fld (pv 0) rfl) (pa_cons (pe_fld (pv 0) rfl) pa_nil))))))), ?_⟩
    refine ⟨_, rfl, p, _, dx, _, _, rfl, hp, T.cl_Customs, T.na_Customs _ (by decide), rfl, ?_⟩
    refine ⟨_, rfl, p, _, dx, _, _, rfl, hp, T.cl_Customs, T.na_Customs _ (by decide), rfl, ?_⟩
    refine ⟨_, rfl, p, _, dx, _, _, rfl, hp, T.cl_Customs, T.na_Customs _ (by decide), rfl, ?_⟩
    refine ⟨_, rfl, p, _, dx, _, _, rfl, hp, T.cl_Customs, T.na_Customs _ (by decide), rfl, ?_⟩
    exact ⟨by show 4 ≤ sizeLine; decide, k⟩
theorem cal_as_tuple (T : Txt P w K mg cl) : CalM P w K mg base CX0 1 (cl "Customs") "as_tuple" ["self"] (spTup (cl "Customs")) := by
  obtain ⟨f, fd, F, m⟩ := T.d_as_tuple
  exact ⟨f, fd, ok_as_tuple F T, m, F.binds fun _ _ _ _ _ _ us hl => match us, hl with | [_], _ => rfl⟩
/-- ==: with other customs of whole numbers, or with a plain value -/
def spEq (K : PySem.W.Frag) (C : Addr) : Sp := fun vs H Q _ => ∃ (p : Addr) (a b c d : Int) (o : V), vs = [.ref p, o] ∧ CuAt C H p (.int a) (.int b) (.int c) (.int d) ∧
  ((∃ q a' b' c' d', o = .ref q ∧ CuAt C H q (.int a') (.int b') (.int c') (.int d') ∧ ∀ H', Same H H' → Q (.bl (decide ([a, b, c, d] = [a', b', c', d']))) H') ∨ ((∃ n, Dm K H o n) ∧ Q (.bl false) H))
theorem ok_eq {f : Addr} {fd : FuncData} (F : Fun K "__eq__" "Customs.__eq__" s_Customs_eq f fd) (T : Txt P w K mg cl) : FnOk P w K mg base CX0 2 f fd ["self", "other"] (spEq K (cl "Customs")) := by
  refine F.ok sc_Customs_eq (fun vs H Q E h => ?_) (fun cdv A outer s H vs Q E hr h => ?_)
  · obtain ⟨p, a, b, c, d, o, rfl, _⟩ := h
    rfl
  · obtain ⟨p, a, b, c, d, o, rfl, hp, h⟩ := h
    have hu := hu_of hr
    have C_Customs_as_tuple : CalM P w K mg base CX0 1 (cl "Customs") "as_tuple" _ (spTup (cl "Customs")) := cal_as_tuple T
    refine ⟨_, (pss_one (ps_ret (pe_and (pe_callB call_isi (by rfl) T.n_isinstance (by decide +kernel) (pa_cons (pv 1) (pa_cons (pe_cls T.m_Customs) pa_nil))) (pe_one (pe_cmpR (op_eqD hr.units) (pe_mth0 T.cl_Customs C_Customs_as_tuple (hr.mono (by decide)) (pv 0)) (pe_mth0 T.cl_Customs C_Customs_as_tuple (hr.mono (by decide)) (pv 1)) (nomark _)))))), ?_⟩
    rcases h with ⟨q, a', b', c', d', rfl, hq, k⟩ | ⟨⟨n, hd⟩, k⟩
    · obtain ⟨dx, hp⟩ := hp
      obtain ⟨dy, hq⟩ := hq
      refine ⟨_, rfl, _, _, _, _, _, rfl, .own (cl "Customs"), .base (.ins hq T.cl_Customs T.y_Customs T.z1 T.z2 T.z3_Customs), T.k_Cu_Cu, _, rfl, iteT ?_⟩
      refine ⟨_, rfl, p, dx, _, rfl, hp, rfl, p, _, _, _, _, rfl, ⟨dx, hp⟩, fun t ht => ?_⟩
      have hq' : ∀ o, (upd H t o) q = some (.ins (cl "Customs") dy (cuF (.int a') (.int b') (.int c') (.int d'))) := fun o => by rw [upd_ne (ne_of_none hq ht)]; exact hq
      refine ⟨_, rfl, q, dy, _, rfl, hq' _, rfl, q, _, _, _, _, rfl, ⟨dy, hq' _⟩, fun u hu' => ?_⟩
      have ntu : t ≠ u := ne_of_none upd_same hu'
      refine eqD_tup (ns := [a, b, c, d]) (ms := [a', b', c', d']) (SqT.of (by rw [upd_ne ntu]; exact upd_same)) (SqT.of upd_same) ?_
      exact k _ fun x o e => by rw [upd_ne (ne_of_none (show (upd H t _) x = some o by rw [upd_ne (ne_of_none e ht)]; exact e) hu'), upd_ne (ne_of_none e ht)]; exact e
    · have kt : ∀ m, Dm K H o m → m ∈ ["NoneType", "bool", "int", "str", "list", "tuple"] := fun m x => by cases x <;> decide
      exact ⟨_, rfl, _, _, _, _, _, rfl, .own (cl "Customs"), hd.ty, T.k_in_Cu n (kt n hd), _, rfl, iteF k⟩
theorem cal_eq (T : Txt P w K mg cl) : CalM P w K mg base CX0 2 (cl "Customs") "__eq__" ["self", "other"] (spEq K (cl "Customs")) := by
  obtain ⟨f, fd, F, m⟩ := T.d_eq
  exact ⟨f, fd, ok_eq F T, m, F.binds fun _ _ _ _ _ _ us hl => match us, hl with | [_, _], _ => rfl⟩
end
end My
set_option Elab.async false
set_option linter.all false
set_option maxRecDepth 100000
set_option maxHeartbeats 4000000
namespace My
open PySem L2 Dw
open C8 (pss_cut tCut)
section
variable {P : Program} {w : World} {K : PySem.W.Frag} {mg : Str → Option Value} {base : Heap} {cl : String → Addr}
theorem ok_next {f : Addr} {fd : FuncData} (F : Fun K "_law_next" "_law_next" s_next f fd) (T : Txt P w K mg cl) : FnOk P w K mg base CX0 1 f fd ["_law_draws", "_law_many"] spNext := by
  refine F.ok sc_next (fun vs H Q E h => ?_) (fun cdv A outer s H vs Q E hr h => ?_)
  · obtain ⟨d, c, many, rfl, _⟩ := h
    rfl
  · obtain ⟨d, c, many, rfl, D, hm0, hm1, k⟩ := h
    have hu := hu_of hr
    refine ⟨_, (pss_cons (ps_dput hu (pv 0) pe_str (pe_op op_add (pe_dget hu (pv 0) pe_str (fun _ _ => rfl)) pe_int) rfl)
        (pss_cut (ps_if (PW.pt (pw_and (pt_cmpR op_eq (pe_dget hu (pv 0) pe_str (fun _ _ => rfl)) pe_int (nomark _)) (pw_and1 (pt_cmpR op_lt (pe_dget hu (pv 0) pe_str (fun _ _ => rfl)) (pe_callB call_len_seq (by rfl) T.n_len PySem.boot_len (pa_cons (pe_dget hu (pv 0) pe_str (fun _ _ => rfl)) pa_nil)) (nomark _)))))
          (pss_cons (ps_set (i := 2) sc_next.nd rfl (Or.inl rfl) (pe_callTy call_int1 (by rfl) T.n_int (by decide +kernel) (pa_cons (pe_ix ix_list (pe_dget hu (pv 0) pe_str (fun _ _ => rfl)) (pe_dget hu (pv 0) pe_str (fun _ _ => rfl)) (fun _ _ => rfl)) pa_nil)))
            (pss_cons (ps_dput hu (pv 0) pe_str (pe_op op_add (pe_dget hu (pv 0) pe_str (fun _ _ => rfl)) pe_int) rfl)
            (pss_one (ps_if (pt_cmpR op_ge (pv 2) (pe_op op_pow pe_int pe_int) (nomark _))
              (pss_cons (ps_dput hu (pv 0) pe_str (pe_op op_sub (pv 2) (pe_op op_pow pe_int pe_int)) rfl)
                (pss_one (ps_dput hu (pv 0) pe_str pe_int rfl))) (pss_one (ps_dput hu (pv 0) pe_str (pe_op op_mod (pe_callTy call_int1 (by rfl) T.n_int (by decide +kernel) (pa_cons (pe_op op_add (pe_op op_add (pe_op op_mul (pe_dget hu (pv 0) pe_str (fun _ _ => rfl)) pe_int) (pe_op op_mod (pv 2) pe_int)) pe_int) pa_nil)) pe_int) rfl)))))) pss_nil)
        (pss_cons (ps_if (pt_cmpR op_gt (pe_dget hu (pv 0) pe_str (fun _ _ => rfl)) pe_int (nomark _))
          (pss_cons (ps_dput hu (pv 0) pe_str (pe_op op_sub (pe_dget hu (pv 0) pe_str (fun _ _ => rfl)) pe_int) rfl)
            (pss_cons (ps_set (i := 3) sc_next.nd rfl (Or.inl rfl) (pe_op op_mod (pe_callTy call_int1 (by rfl) T.n_int (by decide +kernel) (pa_cons (pe_dget hu (pv 0) pe_str (fun _ _ => rfl)) pa_nil)) (pv 1)))
            (pss_cons (ps_dput hu (pv 0) pe_str (pe_op op_fdiv (pe_dget hu (pv 0) pe_str (fun _ _ => rfl)) (pv 1)) rfl)
            (pss_one (ps_ret (pv 3)))))) pss_nil)
        (pss_cons (ps_dput hu (pv 0) pe_str (pe_op op_mod (pe_callTy call_int1 (by rfl) T.n_int (by decide +kernel) (pa_cons (pe_op op_add (pe_op op_add (pe_op op_mul (pe_dget hu (pv 0) pe_str (fun _ _ => rfl)) pe_int) (pe_op op_mul pe_int (pe_dget hu (pv 0) pe_str (fun _ _ => rfl)))) pe_int) pa_nil)) pe_int) rfl)
        (pss_one (ps_ret (pe_op op_mod (pe_op op_fdiv (pe_op op_mod (pe_callTy call_int1 (by rfl) T.n_int (by decide +kernel) (pa_cons (pe_op op_mul (pe_dget hu (pv 0) pe_str (fun _ _ => rfl)) pe_int) pa_nil)) pe_int) pe_int) (pv 1)))))))), ?_⟩
    obtain ⟨ndc, ns, nx, dg, rs, sd, tn, hd, hc, hl, hn⟩ := D
    -- the count of the turns
    refine ⟨_, rfl, _, _, rfl, dgs hd g_turn, _, _, rfl, rfl, _, rfl, _, _, rfl, dps hd p_turn dr_len, ?_⟩
    generalize htn : tn + 1 = tn1
    have hc1 : ∀ o, (upd H d o) c = some (.lst (ns.map V.int)) := fun o => by rw [upd_ne (Ne.symm ndc)]; exact hc
    refine ⟨fun σ' H' => ∃ (nx dg rs sd : Int) (v : Option V), 0 ≤ nx ∧ σ' = [some (.ref d), some (.int many), v, none] ∧ H' = upd H d (.dK (drK c nx dg rs sd tn1)), ?_, ?_⟩
    · refine ⟨_, rfl, _, _, rfl, dgs upd_same g_digits, rfl, _, rfl, ?_⟩
      refine ite2 (fun h0 => ?_) (fun h0 => ?_)
      · refine ⟨_, rfl, _, _, rfl, dgs upd_same g_next, _, rfl, _, _, rfl, dgs upd_same g_cells, _, _, rfl, .inl (SqL.of (hc1 _)), _, _, rfl, rfl, _, rfl, ?_⟩
        refine ite2 (fun h1 => ?_) (fun h1 => ?_)
        · have h1 : nx < (ns.length : Int) := by simpa using h1
          obtain ⟨z, hz⟩ : ∃ z, ns[nx.toNat]? = some z := ⟨_, List.getElem?_eq_getElem (by omega)⟩
          have hz2 : (ns.map V.int)[nx.toNat]? = some (.int z) := by rw [List.getElem?_map, hz]; rfl
          refine ⟨_, rfl, _, _, rfl, dgs upd_same g_cells, _, rfl, _, _, rfl, dgs upd_same g_next, _, _, _, _, rfl, rfl, SqL.of (hc1 _), at_of (by omega) hz2, .inl ⟨_, rfl, ?_⟩⟩
          refine ⟨_, rfl, _, _, rfl, dgs upd_same g_next, _, _, rfl, rfl, _, rfl, _, _, rfl, dpu p_next dr_len, ?_⟩
          refine ⟨_, rfl, _, _, rfl, rfl, ⟨by decide, by decide, by decide⟩, _, _, rfl, rfl, _, rfl, ?_⟩
          refine ite2 (fun h2 => ?_) (fun h2 => ?_)
          · refine ⟨_, rfl, _, _, rfl, rfl, ⟨by decide, by decide, by decide⟩, _, _, rfl, rfl, _, rfl, _, _, rfl, dpu p_rest dr_len, ?_⟩
            exact ⟨_, rfl, _, _, rfl, dpu p_digits dr_len, _, _, _, _, _, by omega, rfl, rfl⟩
          · refine ⟨_, rfl, _, _, rfl, dgs upd_same g_seed, _, _, rfl, rfl, .inr ⟨by decide, by decide⟩, _, rfl, _, _, rfl, rfl, (by show (0 : Int) < _; decide), _, _, rfl, rfl, _, _, rfl, rfl, .inl ⟨_, rfl, _, _, rfl, rfl, (by show (0 : Int) < _; decide), ?_⟩⟩
            exact ⟨_, rfl, _, _, rfl, dpu p_seed dr_len, _, _, _, _, _, by omega, rfl, rfl⟩
        · exact ⟨nx, dg, rs, sd, none, hn, rfl, rfl⟩
      · exact iteF ⟨nx, dg, rs, sd, none, hn, rfl, rfl⟩
    · rintro σ' H' ⟨nx, dg, rs, sd, v2, hn, rfl, rfl⟩
      have fin : ∀ kvs, But d H (upd H d kvs) := fun kvs => But.upd d H kvs
      refine ⟨_, rfl, _, _, rfl, dgs upd_same g_digits, _, _, rfl, rfl, _, rfl, ?_⟩
      refine ite2 (fun h0 => ?_) (fun h0 => ?_)
      · refine ⟨_, rfl, _, _, rfl, dgs upd_same g_digits, _, _, rfl, rfl, _, rfl, _, _, rfl, dpu p_digits dr_len, ?_⟩
        refine ⟨_, rfl, _, _, rfl, dgs upd_same g_rest, .inl ⟨_, rfl, _, rfl, _, _, rfl, rfl, by show 0 < many; omega, ?_⟩⟩
        refine ⟨_, rfl, _, _, rfl, dgs upd_same g_rest, _, rfl, _, _, rfl, rfl, ⟨by omega, by omega⟩, _, rfl, _, _, rfl, dpu p_rest dr_len, ?_⟩
        exact ⟨_, rfl, k _ _ (Int.emod_nonneg _ (by omega)) (Int.emod_lt_of_pos _ (by omega)) ⟨ndc, ns, _, _, _, _, _, upd_same, hc1 _, hl, hn⟩ (fin _)⟩
      · refine ⟨_, rfl, _, _, rfl, dgs upd_same g_seed, _, _, rfl, rfl, .inr ⟨by decide, by decide⟩, _, rfl, _, _, rfl, dgs upd_same g_turn, _, _, rfl, rfl, .inl ⟨by decide, by decide⟩, _, _, rfl, rfl, _, _, rfl, rfl, .inl ⟨_, rfl, _, _, rfl, rfl, (by show (0 : Int) < _; decide), ?_⟩⟩
        refine ⟨_, rfl, _, _, rfl, dpu p_seed dr_len, ?_⟩
        refine ⟨_, rfl, _, _, rfl, dgs upd_same g_seed, _, _, rfl, rfl, .inr ⟨by decide, by decide⟩, .inl ⟨_, rfl, _, _, rfl, rfl, (by show (0 : Int) < _; decide), _, _, rfl, rfl, ⟨by decide, by decide⟩, _, rfl, _, _, rfl, rfl, by show 0 < many; omega, ?_⟩⟩
        exact k _ _ (Int.emod_nonneg _ (by omega)) (Int.emod_lt_of_pos _ (by omega)) ⟨ndc, ns, _, _, _, _, _, upd_same, hc1 _, hl, hn⟩ (fin _)
theorem cal_next (T : Txt P w K mg cl) : Cal P w K mg base CX0 1 "_law_next" ["_law_draws", "_law_many"] spNext := by
  obtain ⟨f, fd, F, m⟩ := T.d_next
  exact ⟨f, fd, ok_next F T, m, F.kp, F.binds fun _ _ _ _ _ _ us hl => match us, hl with | [_, _], _ => rfl⟩
theorem ok_digits {f : Addr} {fd : FuncData} (F : Fun K "_law_digits" "_law_digits" s_digits f fd) (T : Txt P w K mg cl) : FnOk P w K mg base CX0 1 f fd ["_law_script", "_law_many"] (spDigits K) := by
  refine F.ok sc_digits (fun vs H Q E h => ?_) (fun cdv A outer s H vs Q E hr h => ?_)
  · obtain ⟨a, ns, many, rfl, _⟩ := h
    rfl
  · obtain ⟨a, ns, many, rfl, hS, hl, k⟩ := h
    refine ⟨_, (pss_cons (ps_set (i := 2) sc_digits.nd rfl (Or.inl rfl) pe_int)
        (pss_cons (ps_for PassesOwn.never rfl (pi_list (pv 0)) (pg_name (i := 3) sc_digits.nd rfl (Or.inl rfl))
          (pss_one (ps_set (i := 2) sc_digits.nd rfl (Or.inl rfl) (pe_op op_mod (pe_callTy call_int1 (by rfl) T.n_int (by decide +kernel) (pa_cons (pe_op op_add (pe_op op_add (pe_op op_mul (pv 2) pe_int) (pe_op op_mod (pe_callTy call_int1 (by rfl) T.n_int (by decide +kernel) (pa_cons (pv 3) pa_nil)) pe_int)) pe_int) pa_nil)) pe_int))))
        (pss_one (ps_ret (pe_disp (pps_cons pe_str (pe_callTy call_list_of (by rfl) T.n_list (by decide +kernel) (pa_cons (pv 0) pa_nil)) (pps_cons pe_str pe_int (pps_cons pe_str pe_int (pps_cons pe_str pe_int (pps_cons pe_str (pv 2) (pps_cons pe_str pe_int pps_nil)))))) (by rfl) (by rfl) (fun z => by cases z) (by decide)))))), ?_⟩
    refine ⟨_, rfl, a, rfl, ⟨_, hS⟩, for_list (K := K) (a := a) (xs := ns.map V.int) (fun i σ H' => H' = H ∧ ∃ (sd : Int) (v : Option V), σ = [some (.ref a), some many, some (.int sd), v]) ⟨rfl, _, _, rfl⟩ (fun i σ H' _ q => by rw [q.1]; exact hS) ?_ ?_⟩
    · rintro i y σ H' hi ⟨rfl, sd, v, rfl⟩
      obtain ⟨z, rfl⟩ : ∃ z, y = V.int z := by
        rw [List.getElem?_map] at hi
        cases e : ns[i]? with
        | none => rw [e] at hi; cases hi
        | some z => rw [e] at hi; exact ⟨z, (Option.some.inj hi).symm⟩
      refine ⟨_, rfl, _, _, rfl, rfl, .inr ⟨by decide, by decide⟩, _, rfl, .inl ⟨_, rfl, _, _, rfl, rfl, (by show (0 : Int) < _; decide), _, _, rfl, rfl, _, _, rfl, rfl, .inl ⟨_, rfl, _, _, rfl, rfl, (by show (0 : Int) < _; decide), ?_⟩⟩⟩
      exact ⟨rfl, _, _, rfl⟩
    · rintro σ H' ⟨rfl, sd, v, rfl⟩
      refine fun p hp => ⟨_, rfl, a, _, rfl, .inl ((Same.seq (fun b o e => by rw [upd_ne (ne_of_none e hp)]; exact e) hS)), fun l hl' => ?_⟩
      have npl : p ≠ l := ne_of_none upd_same hl'
      have hl0 : H' l = none := by
        have q := hl'
        rw [upd_ne (Ne.symm npl)] at q
        exact q
      have fin := k p l (upd (upd (upd H' p (.dK [])) l (.lst (ns.map V.int))) p (.dK (drK l 0 0 0 sd 0))) hp hl0 ⟨npl, ns, 0, 0, 0, sd, 0, upd_same, by rw [upd_ne (Ne.symm npl), upd_same], hl, Int.le_refl _⟩
        (fun b o e => by rw [upd_ne (ne_of_none e hp), upd_ne (ne_of_none e hl0), upd_ne (ne_of_none e hp)]; exact e)
      exact ⟨_, rfl, by rw [upd_ne npl]; exact upd_same, drK l 0 0 0 sd 0, rfl, by show 6 ≤ 15; decide, fin⟩
theorem cal_digits (T : Txt P w K mg cl) : Cal P w K mg base CX0 1 "_law_digits" ["_law_script", "_law_many"] (spDigits K) := by
  obtain ⟨f, fd, F, m⟩ := T.d_digits
  exact ⟨f, fd, ok_digits F T, m, F.kp, F.binds fun _ _ _ _ _ _ us hl => match us, hl with | [_, _], _ => rfl⟩
theorem ok_far {f : Addr} {fd : FuncData} (F : Fun K "_law_far" "_law_far" s_far f fd) (T : Txt P w K mg cl) : FnOk P w K mg base CX0 2 f fd ["_law_draws", "_law_many"] spNext := by
  refine F.ok sc_far (fun vs H Q E h => ?_) (fun cdv A outer s H vs Q E hr h => ?_)
  · obtain ⟨d, c, many, rfl, _⟩ := h
    rfl
  · obtain ⟨d, c, many, rfl, D, h0, h1, k⟩ := h
    have C_next : Cal P w K mg base CX0 1 "_law_next" _ spNext := cal_next T
    refine ⟨_, (pss_cons (ps_set (i := 2) sc_far.nd rfl (Or.inl rfl) pe_int)
        (pss_cons (ps_for PassesOwn.never rfl (pi_range1 rfl T.n_range (pa_cons pe_int pa_nil)) (pg_name (i := 3) sc_far.nd rfl (Or.inl rfl))
          (pss_one (ps_set (i := 2) sc_far.nd rfl (Or.inl rfl) (pe_op op_add (pe_op op_mul (pv 2) pe_int) (pe_cal C_next (hr.mono (by decide)) (pa_cons (pv 0) (pa_cons pe_int pa_nil)))))))
        (pss_one (ps_ret (pe_op op_mod (pe_callTy call_int1 (by rfl) T.n_int (by decide +kernel) (pa_cons (pv 2) pa_nil)) (pv 1)))))), ?_⟩
    refine ⟨_, rfl, by decide, by decide, for_range (n := 4) (fun i σ H' => ∃ (wh : Int) (v : Option V), σ = [some (.ref d), some (.int many), some (.int wh), v] ∧ Dr H' d c ∧ But d H H') ⟨0, _, rfl, D, But.refl d H⟩ ?_ ?_⟩
    · rintro i σ H' hi ⟨wh, v, rfl, D', B⟩
      refine ⟨_, rfl, _, _, rfl, rfl, .inr ⟨by decide, by decide⟩, _, rfl, d, c, _, rfl, D', by decide, by decide, fun j H2 _ _ D2 B2 => ⟨_, _, rfl, rfl, ?_⟩⟩
      exact ⟨_, _, rfl, D2, B.trans B2⟩
    · rintro σ H' ⟨wh, v, rfl, D', B⟩
      exact ⟨_, rfl, .inl ⟨_, rfl, _, rfl, _, _, rfl, rfl, (by show 0 < many; omega), k _ _ (Int.emod_nonneg _ (by omega)) (Int.emod_lt_of_pos _ (by omega)) D' B⟩⟩
theorem cal_far (T : Txt P w K mg cl) : Cal P w K mg base CX0 2 "_law_far" ["_law_draws", "_law_many"] spNext := by
  obtain ⟨f, fd, F, m⟩ := T.d_far
  exact ⟨f, fd, ok_far F T, m, F.kp, F.binds fun _ _ _ _ _ _ us hl => match us, hl with | [_, _], _ => rfl⟩
/-- an odd thing: any plain value -/
def spThing (K : PySem.W.Frag) : Sp := fun vs H Q _ => ∃ (d c : Addr) (lo hi : Int), vs = [.ref d, .int lo, .int hi] ∧ Dr H d c ∧ lo ≤ hi ∧ hi - lo < 1073741000 ∧
  ∀ (v : V) (n : String) (H' : Hp), Dm K H' v n → Dr H' d c → But d H H' → (∀ a, v = .ref a → H a = none) → Q v H'
theorem ok_thing {f : Addr} {fd : FuncData} (F : Fun K "_law_thing" "_law_thing" s_thing f fd) (T : Txt P w K mg cl) : FnOk P w K mg base CX0 3 f fd ["_law_draws", "_law_low", "_law_high"] (spThing K) := by
  refine F.ok sc_thing (fun vs H Q E h => ?_) (fun cdv A outer s H vs Q E hr h => ?_)
  · obtain ⟨d, c, lo, hi, rfl, _⟩ := h
    rfl
  · obtain ⟨d, c, lo, hi, rfl, D, h0, h1, k⟩ := h
    have C_next : Cal P w K mg base CX0 1 "_law_next" _ spNext := cal_next T
    have C_far : Cal P w K mg base CX0 2 "_law_far" _ spNext := cal_far T
    refine ⟨_, (pss_cons (ps_set (i := 3) sc_thing.nd rfl (Or.inl rfl) (pe_cal C_next (hr.mono (by decide)) (pa_cons (pv 0) (pa_cons pe_int pa_nil))))
        (pss_cons (ps_if (pt_cmpR op_le (pv 3) pe_int (nomark _))
          (pss_one (ps_ret (pe_ix ix_list (pe_lst (pa_cons (pe_op op_sub (pv 1) pe_int) (pa_cons (pv 1) (pa_cons (pv 2) (pa_cons (pe_op op_add (pv 2) pe_int) (pa_cons pe_int pa_nil)))))) (pv 3) (fun _ _ => rfl)))) pss_nil)
        (pss_cons (ps_if (pt_cmpR op_le (pv 3) pe_int (nomark _))
          (pss_one (ps_ret (pe_op op_add (pv 1) (pe_cal C_far (hr.mono (by decide)) (pa_cons (pv 0) (pa_cons (pe_op op_add (pe_op op_sub (pv 2) (pv 1)) pe_int) pa_nil)))))) pss_nil)
        (pss_one (ps_ret (pe_ix ix_list (pe_lst (pa_cons pe_bl (pa_cons pe_non (pa_cons pe_str (pa_cons (pe_lst (pa_cons (pv 1) pa_nil)) (pa_cons pe_bl pa_nil)))))) (pe_cal C_next (hr.mono (by decide)) (pa_cons (pv 0) (pa_cons pe_int pa_nil))) (fun _ _ => rfl))))))), ?_⟩
    refine ⟨_, rfl, d, c, _, rfl, D, by decide, by decide, fun j H1 j0 j1 D1 B1 => ?_⟩
    refine ⟨_, rfl, _, _, rfl, rfl, _, rfl, ?_⟩
    refine ite2 (fun g => ?_) (fun g => ?_)
    · have g : j ≤ 4 := of_decide_eq_true g
      refine ⟨_, rfl, _, _, rfl, rfl, _, rfl, _, rfl, _, rfl, _, _, rfl, rfl, by show 5 ≤ sizeLine; decide, fun p hp => ⟨_, rfl, ?_⟩⟩
      obtain ⟨m, rfl⟩ : ∃ m : Nat, j = (m : Int) := ⟨j.toNat, by omega⟩
      have D2 := D1.new (o := .lst [.int (lo - 1), .int lo, .int hi, .int (hi + 1), .int 0]) hp
      have B2 : But d H (upd H1 p (.lst [.int (lo - 1), .int lo, .int hi, .int (hi + 1), .int 0])) := B1.trans (But.of fun b o e => by rw [upd_ne (ne_of_none e hp)]; exact e)
      have fin : ∀ z : Int, ([V.int (lo - 1), .int lo, .int hi, .int (hi + 1), .int 0] : List V)[m]? = some (.int z) → _ := fun z hz => (⟨_, _, _, _, rfl, rfl, SqL.of upd_same, atI_nat hz, k (.int z) "int" _ (.int z) D2 B2 (fun a e => by cases e)⟩ :
        rIxL K (.ref p) (.int (m : Int)) (upd H1 p (.lst [.int (lo - 1), .int lo, .int hi, .int (hi + 1), .int 0])) Q)
      match m, (show m < 5 by omega) with
      | 0, _ => exact fin _ rfl
      | 1, _ => exact fin _ rfl
      | 2, _ => exact fin _ rfl
      | 3, _ => exact fin _ rfl
      | 4, _ => exact fin _ rfl
    · refine ⟨_, rfl, _, _, rfl, rfl, _, rfl, ?_⟩
      refine ite2 (fun g2 => ?_) (fun g2 => ?_)
      · refine ⟨_, rfl, _, rfl, _, rfl, _, rfl, _, _, rfl, rfl, _, _, rfl, rfl, d, c, _, rfl, D1, by omega, by omega, fun i H2 _ _ D2 B2 => ⟨_, _, rfl, rfl, ?_⟩⟩
        exact k _ "int" _ (.int _) D2 (B1.trans B2) (fun a e => by cases e)
      · refine ⟨_, rfl, by show 1 ≤ sizeLine; decide, fun q hq => ⟨by show 5 ≤ sizeLine; decide, fun p hp => ?_⟩⟩
        have npq : p ≠ q := Ne.symm (ne_of_none upd_same hp)
        have D2 := (D1.new (o := .lst [.int lo]) hq).new (o := .lst [.bl true, .non, .str "7", .ref q, .bl false]) hp
        refine ⟨_, rfl, d, c, _, rfl, D2, by decide, by decide, fun i H3 i0 i1 D3 B3 => ?_⟩
        have dp : p ≠ d := Ne.symm ((D1.new (o := .lst [.int lo]) hq).ne hp).1
        have dq : q ≠ d := Ne.symm (D1.ne hq).1
        have hp3 : H3 p = some (.lst [.bl true, .non, .str "7", .ref q, .bl false]) := B3 _ _ upd_same dp
        have hq3 : H3 q = some (.lst [.int lo]) := B3 _ _ (by rw [upd_ne (Ne.symm npq)]; exact upd_same) dq
        have B4 : But d H H3 := (B1.trans (But.of fun b o e => by rw [upd_ne (ne_of_none (show (upd H1 q _) b = some o by rw [upd_ne (ne_of_none e hq)]; exact e) hp), upd_ne (ne_of_none e hq)]; exact e)).trans B3
        have hqH : H q = none := by
          cases e : H q with
          | none => rfl
          | some o => have z := B1 q o e dq; rw [hq] at z; cases z
        obtain ⟨m, rfl⟩ : ∃ m : Nat, i = (m : Int) := ⟨i.toNat, by omega⟩
        have fin : ∀ (v : V) (n : String), ([V.bl true, .non, .str "7", .ref q, .bl false] : List V)[m]? = some v → Dm K H3 v n → (∀ a, v = .ref a → H a = none) → rIxL K (.ref p) (.int (m : Int)) H3 Q := fun v n hz dm hf => ⟨_, _, _, _, rfl, rfl, SqL.of hp3, atI_nat hz, k v n _ dm D3 B4 hf⟩
        match m, (show m < 5 by omega) with
        | 0, _ => exact fin _ _ rfl (.bl true) (fun a e => by cases e)
        | 1, _ => exact fin _ _ rfl .non (fun a e => by cases e)
        | 2, _ => exact fin _ _ rfl (.str "7" (by decide)) (fun a e => by cases e)
        | 3, _ => exact fin _ _ rfl (.lst hq3) (fun a e => by cases e; exact hqH)
        | 4, _ => exact fin _ _ rfl (.bl false) (fun a e => by cases e)
theorem cal_thing (T : Txt P w K mg cl) : Cal P w K mg base CX0 3 "_law_thing" ["_law_draws", "_law_low", "_law_high"] (spThing K) := by
  obtain ⟨f, fd, F, m⟩ := T.d_thing
  exact ⟨f, fd, ok_thing F T, m, F.kp, F.binds fun _ _ _ _ _ _ us hl => match us, hl with | [_, _, _], _ => rfl⟩
/-- a text of at most 20 signs -/
def spWord : Sp := fun vs H Q _ => ∃ (d c : Addr), vs = [.ref d] ∧ Dr H d c ∧ ∀ (x : Str) (H' : Hp), x.length ≤ 30 → Dr H' d c → But d H H' → Q (.str x) H'
theorem ok_word {f : Addr} {fd : FuncData} (F : Fun K "_law_word" "_law_word" s_word f fd) (T : Txt P w K mg cl) : FnOk P w K mg base CX0 2 f fd ["_law_draws"] spWord := by
  refine F.ok sc_word (fun vs H Q E h => ?_) (fun cdv A outer s H vs Q E hr h => ?_)
  · obtain ⟨d, c, rfl, _⟩ := h
    rfl
  · obtain ⟨d, c, rfl, D, k⟩ := h
    have C_next : Cal P w K mg base CX0 1 "_law_next" _ spNext := cal_next T
    refine ⟨_, (pss_cons (ps_set (i := 1) sc_word.nd rfl (Or.inl rfl) (pe_cal C_next (hr.mono (by decide)) (pa_cons (pv 0) (pa_cons pe_int pa_nil))))
        (pss_cons (ps_set (i := 2) sc_word.nd rfl (Or.inl rfl) pe_str)
        (pss_cons (ps_set (i := 3) sc_word.nd rfl (Or.inl rfl) pe_str)
        (pss_cons (ps_for PassesOwn.never rfl (pi_range1 rfl T.n_range (pa_cons (pv 1) pa_nil)) (pg_name (i := 4) sc_word.nd rfl (Or.inl rfl))
          (pss_one (ps_set (i := 3) sc_word.nd rfl (Or.inl rfl) (pe_op op_add_str (pv 3) (pe_ix ix_str (pv 2) (pe_cal C_next (hr.mono (by decide)) (pa_cons (pv 0) (pa_cons pe_int pa_nil))) (fun _ _ => rfl))))))
        (pss_cons (ps_set (i := 5) sc_word.nd rfl (Or.inl rfl) (pe_cal C_next (hr.mono (by decide)) (pa_cons (pv 0) (pa_cons pe_int pa_nil))))
        (pss_cut (ps_if (PW.pt (pw_and (pt_cmpR op_le (pv 5) pe_int (nomark _)) (pw_and1 (pt_cmpR op_gt (pv 1) pe_int (nomark _)))))
          (pss_cons (ps_set (i := 6) sc_word.nd rfl (Or.inl rfl) (pe_cal C_next (hr.mono (by decide)) (pa_cons (pv 0) (pa_cons (pv 1) pa_nil))))
            (pss_one (ps_set (i := 3) sc_word.nd rfl (Or.inl rfl) (pe_op op_add_str (pe_op op_add_str (pe_slice sl_str (pv 3) po_none (po_some (pv 6))) (pe_ix ix_list (pe_lst (pa_cons pe_str (pa_cons pe_str (pa_cons pe_str pa_nil)))) (pv 5) (fun _ _ => rfl))) (pe_slice sl_str (pv 3) (po_some (pe_op op_add (pv 6) pe_int)) po_none))))) pss_nil)
        (pss_one (ps_ret (pv 3))))))))), ?_⟩
    refine ⟨_, rfl, d, c, _, rfl, D, by decide, by decide, fun j H1 j0 j1 D1 B1 => ?_⟩
    refine ⟨_, rfl, _, rfl, by omega, by omega, for_range (n := j.toNat) (fun i σ H' => ∃ (x : Str) (v : Option V), σ = [some (.ref d), some (.int j), some (.str "abcdefghijklmnopqrstuvwxyz"), some (.str x), v, none, none] ∧ x.length = i ∧ Dr H' d c ∧ But d H H') ⟨"", _, rfl, rfl, D1, B1⟩ ?_ ?_⟩
    · rintro i σ H' hi ⟨x, v, rfl, hx, D', B⟩
      refine ⟨_, rfl, _, rfl, _, rfl, d, c, _, rfl, D', by decide, by decide, fun a H2 a0 a1 D2 B2 => ?_⟩
      obtain ⟨m, rfl⟩ : ∃ m : Nat, a = (m : Int) := ⟨a.toNat, by omega⟩
      have hm : m < letters.length := by show m < 26; omega
      refine ⟨_, _, letters[m], rfl, rfl, by decide, atI_nat (List.getElem?_eq_getElem hm), _, _, rfl, rfl, Nat.le_of_lt (small1000 ?_), x ++ ⟨#[letters[m]]⟩, _, rfl, ?_, D2, B.trans B2⟩
      · show x.length + 1 ≤ 1000
        omega
      · rw [Str.length_append, hx]
        rfl
    · rintro σ H' ⟨x, v, rfl, hx, D', B⟩
      refine ⟨_, rfl, d, c, _, rfl, D', by decide, by decide, fun a H2 a0 a1 D2 B2 => ?_⟩
      refine ⟨fun σ' H3 => ∃ (y : Str) (u : Option V), σ' = [some (.ref d), some (.int j), some (.str "abcdefghijklmnopqrstuvwxyz"), some (.str y), v, some (.int a), u] ∧ y.length ≤ 30 ∧ Dr H3 d c ∧ But d H H3, ?_, ?_⟩
      · have stay : ∀ (u : Option V) (H3 : Hp), Dr H3 d c → But d H H3 → ∃ (y : Str) (u' : Option V), ([some (.ref d), some (.int j), some (.str "abcdefghijklmnopqrstuvwxyz"), some (.str x), v, some (.int a), u] : List (Option V)) = [some (.ref d), some (.int j), some (.str "abcdefghijklmnopqrstuvwxyz"), some (.str y), v, some (.int a), u'] ∧ y.length ≤ 30 ∧ Dr H3 d c ∧ But d H H3 := fun u H3 q1 q2 => ⟨x, u, rfl, by omega, q1, q2⟩
        refine ⟨_, rfl, _, _, rfl, rfl, _, rfl, ?_⟩
        refine ite2 (fun g => ?_) (fun g => iteF (stay none H2 D2 (B.trans B2)))
        refine ⟨_, rfl, _, _, rfl, rfl, _, rfl, ?_⟩
        refine ite2 (fun g1 => ?_) (fun g1 => stay none H2 D2 (B.trans B2))
        have g1 : 0 < j := of_decide_eq_true g1
        have g : a ≤ 2 := of_decide_eq_true g
        refine ⟨_, rfl, _, rfl, d, c, _, rfl, D2, by omega, by omega, fun b H3 b0 b1 D3 B3 => ?_⟩
        have hxl : x.length ≤ sizeLine := Nat.le_of_lt (small1000 (by omega))
        refine ⟨_, rfl, _, rfl, _, rfl, _, rfl, hxl, by show 3 ≤ sizeLine; decide, fun p hp => ⟨_, rfl, ?_⟩⟩
        obtain ⟨m, rfl⟩ : ∃ m : Nat, a = (m : Int) := ⟨a.toNat, by omega⟩
        have D4 := D3.new (o := .lst [.str "A", .str " ", .str "1"]) hp
        have B4 : But d H (upd H3 p (.lst [.str "A", .str " ", .str "1"])) := ((B.trans B2).trans B3).trans (But.of fun b o e => by rw [upd_ne (ne_of_none e hp)]; exact e)
        obtain ⟨z, hz, hzl⟩ : ∃ z : Str, ([V.str "A", .str " ", .str "1"] : List V)[m]? = some (.str z) ∧ z.length = 1 := by
          match m, (show m < 3 by omega) with
          | 0, _ => exact ⟨_, rfl, rfl⟩
          | 1, _ => exact ⟨_, rfl, rfl⟩
          | 2, _ => exact ⟨_, rfl, rfl⟩
        have l1 := cutS_length x none (some b)
        have l2 := cutS_length x (some (b + 1)) none
        refine ⟨_, _, _, _, rfl, rfl, SqL.of upd_same, atI_nat hz, _, _, rfl, rfl, Nat.le_of_lt (small1000 (by omega)), _, rfl, _, rfl, _, _, rfl, rfl, _, rfl, _, rfl, hxl, _, _, rfl, rfl, Nat.le_of_lt (small1000 ?_), ?_⟩
        · rw [Str.length_append]
          omega
        · refine ⟨_, _, rfl, ?_, D4, B4⟩
          rw [Str.length_append, Str.length_append]
          omega
      · rintro σ' H3 ⟨y, u, rfl, hy, D3, B3⟩
        exact ⟨_, rfl, k y H3 hy D3 B3⟩
theorem cal_word (T : Txt P w K mg cl) : Cal P w K mg base CX0 2 "_law_word" ["_law_draws"] spWord := by
  obtain ⟨f, fd, F, m⟩ := T.d_word
  exact ⟨f, fd, ok_word F T, m, F.kp, F.binds fun _ _ _ _ _ _ us hl => match us, hl with | [_], _ => rfl⟩
end
end My
set_option Elab.async false
set_option linter.all false
set_option maxRecDepth 100000
set_option maxHeartbeats 4000000
namespace My
open PySem L2 Dw
open C8 (pss_cut tCut)
section
variable {P : Program} {w : World} {K : PySem.W.Frag} {mg : Str → Option Value} {base : Heap} {cl : String → Addr}
theorem ok_right {f : Addr} {fd : FuncData} (F : Fun K "_law_right" "_law_right" s_right f fd) (T : Txt P w K mg cl) : FnOk P w K mg base CX0 1 f fd ["_law_thing_here", "_law_low", "_law_high"] (spW K) := by
  refine F.ok sc_right (fun vs H Q E h => ?_) (fun cdv A outer s H vs Q E hr h => ?_)
  · obtain ⟨v, n, lo, hi, rfl, _⟩ := h
    rfl
  · obtain ⟨v, n, lo, hi, rfl, d, k⟩ := h
    have hu := hu_of hr
    refine ⟨_, (pss_one (ps_ret (pe_and (pe_callB call_isi (by rfl) T.n_isinstance (by decide +kernel) (pa_cons (pv 0) (pa_cons (pe_ty "int" T.n_int) pa_nil))) (pe_and (pe_not (pe_callB call_isi (by rfl) T.n_isinstance (by decide +kernel) (pa_cons (pv 0) (pa_cons (pe_ty "bool" T.n_bool) pa_nil)))) (pe_one (pe_chain op_le op_le (pv 1) (pv 0) (pv 2))))))), ?_⟩
    cases d with
    | int i =>
      refine ⟨_, rfl, _, _, _, _, _, rfl, .ty "int", .base (.int i), kit_ty (by decide +kernel), true, rfl, iteT ?_⟩
      refine ⟨_, rfl, _, _, _, _, _, rfl, .ty "bool", .base (.int i), kit_ty (by decide +kernel), false, rfl, _, rfl, iteT ?_⟩
      refine ⟨_, rfl, _, rfl, _, _, rfl, rfl, _, rfl, ?_⟩
      refine ite2 (fun h1 => ?_) (fun h1 => ?_)
      · refine ⟨_, rfl, _, _, rfl, rfl, ?_⟩
        have e : isW lo hi (.int i) = decide (i ≤ hi) := by show (decide (lo ≤ i) && decide (i ≤ hi)) = _; rw [h1]; rfl
        rw [e] at k
        exact k
      · have e : isW lo hi (.int i) = false := by show (decide (lo ≤ i) && decide (i ≤ hi)) = _; rw [Bool.eq_false_iff.mpr h1]; rfl
        rw [e] at k
        exact k
    | bl b =>
      refine ⟨_, rfl, _, _, _, _, _, rfl, .ty "int", .base (.bl b), kit_ty (by decide +kernel), true, rfl, iteT ?_⟩
      exact ⟨_, rfl, _, _, _, _, _, rfl, .ty "bool", .base (.bl b), kit_ty (by decide +kernel), true, rfl, _, rfl, iteF k⟩
    | non => exact ⟨_, rfl, _, _, _, _, _, rfl, .ty "int", .base .non, kit_ty (by decide +kernel), false, rfl, iteF k⟩
    | str x hx => exact ⟨_, rfl, _, _, _, _, _, rfl, .ty "int", .base (.str x), kit_ty (by decide +kernel), false, rfl, iteF k⟩
    | lst e => exact ⟨_, rfl, _, _, _, _, _, rfl, .ty "int", .base (.lst e), kit_ty (by decide +kernel), false, rfl, iteF k⟩
    | tup e => exact ⟨_, rfl, _, _, _, _, _, rfl, .ty "int", .base (.tup e), kit_ty (by decide +kernel), false, rfl, iteF k⟩
theorem cal_right (T : Txt P w K mg cl) : Cal P w K mg base CX0 1 "_law_right" ["_law_thing_here", "_law_low", "_law_high"] (spW K) := by
  obtain ⟨f, fd, F, m⟩ := T.d_right
  exact ⟨f, fd, ok_right F T, m, F.kp, F.binds fun _ _ _ _ _ _ us hl => match us, hl with | [_, _, _], _ => rfl⟩
/-- the truth that is due -/
def spSays : Sp := fun vs H Q _ => ∃ a b : Bool, vs = [.bl a, .bl b] ∧ Q (.bl (a == b)) H
theorem ok_says {f : Addr} {fd : FuncData} (F : Fun K "_law_says" "_law_says" s_says f fd) (T : Txt P w K mg cl) : FnOk P w K mg base CX0 1 f fd ["_law_told", "_law_due"] spSays := by
  refine F.ok sc_says (fun vs H Q E h => ?_) (fun cdv A outer s H vs Q E hr h => ?_)
  · obtain ⟨a, b, rfl, _⟩ := h
    rfl
  · obtain ⟨a, b, rfl, k⟩ := h
    refine ⟨_, (pss_one (ps_ret (pe_ifExp (pt_val (pv 1)) (pe_cmpR op_isBl (pv 0) pe_bl (nomark _)) (pe_cmpR op_isBl (pv 0) pe_bl (nomark _))))), ?_⟩
    refine ⟨_, rfl, _, rfl, ?_⟩
    cases b with
    | true => exact iteT ⟨_, rfl, _, _, rfl, rfl, by cases a <;> exact k⟩
    | false => exact iteF ⟨_, rfl, _, _, rfl, rfl, by cases a <;> exact k⟩
theorem cal_says (T : Txt P w K mg cl) : Cal P w K mg base CX0 1 "_law_says" ["_law_told", "_law_due"] spSays := by
  obtain ⟨f, fd, F, m⟩ := T.d_says
  exact ⟨f, fd, ok_says F T, m, F.kp, F.binds fun _ _ _ _ _ _ us hl => match us, hl with | [_, _], _ => rfl⟩
def optV : Option Str → V
  | some s => .str s
  | none => .non
/-- four values in a list: the first wrong one's word -/
def spWords (K : PySem.W.Frag) : Sp := fun vs H Q _ => ∃ (l : Addr) (a b c d : V) (n1 n2 n3 n4 : String), vs = [.ref l] ∧ H l = some (.lst [a, b, c, d]) ∧ Dm K H a n1 ∧ Dm K H b n2 ∧ Dm K H c n3 ∧ Dm K H d n4 ∧ ∀ H', Same H H' → Q (optV (cuWord a b c d)) H'
theorem ok_customs_words {f : Addr} {fd : FuncData} (F : Fun K "_law_customs_words" "_law_customs_words" s_customs_words f fd) (T : Txt P w K mg cl) : FnOk P w K mg base CX0 2 f fd ["_law_values"] (spWords K) := by
  refine F.ok sc_customs_words (fun vs H Q E h => ?_) (fun cdv A outer s H vs Q E hr h => ?_)
  · obtain ⟨l, a, b, c, d, n1, n2, n3, n4, rfl, _⟩ := h
    rfl
  · obtain ⟨l, a, b, c, d, n1, n2, n3, n4, rfl, hl, d1, d2, d3, d4, k⟩ := h
    have C_right : Cal P w K mg base CX0 1 "_law_right" _ (spW K) := cal_right T
    refine ⟨_, (pss_cons (ps_set (i := 1) sc_customs_words.nd rfl (Or.inl rfl) (pe_lst (pa_cons (pe_tup (pa_cons pe_str (pa_cons pe_int (pa_cons pe_int pa_nil)))) (pa_cons (pe_tup (pa_cons pe_str (pa_cons pe_int (pa_cons pe_int pa_nil)))) (pa_cons (pe_tup (pa_cons pe_str (pa_cons pe_int (pa_cons pe_int pa_nil)))) (pa_cons (pe_tup (pa_cons pe_str (pa_cons pe_int (pa_cons pe_int pa_nil)))) pa_nil))))))
        (pss_cons (ps_for PassesOwn.never rfl (pi_range1 rfl T.n_range (pa_cons pe_int pa_nil)) (pg_name (i := 2) sc_customs_words.nd rfl (Or.inl rfl))
          (pss_cons (ps_asg (pe_ix ix_list (pv 1) (pv 2) (fun _ _ => rfl)) (pg_tup rfl (pgs_cons (pg_name (i := 3) sc_customs_words.nd rfl (Or.inl rfl)) (pgs_cons (pg_name (i := 4) sc_customs_words.nd rfl (Or.inl rfl)) (pgs_cons (pg_name (i := 5) sc_customs_words.nd rfl (Or.inl rfl)) pgs_nil)))))
            (pss_one (ps_if (pt_not (pt_val (pe_cal C_right (hr.mono (by decide)) (pa_cons (pe_ix ix_list (pv 0) (pv 2) (fun _ _ => rfl)) (pa_cons (pv 4) (pa_cons (pv 5) pa_nil))))))
              (pss_one (ps_ret (pv 3))) pss_nil))))
        (pss_one (ps_ret pe_non)))), ?_⟩
    refine ⟨by show 3 ≤ sizeLine; decide, fun t0 h0 => ⟨by show 3 ≤ sizeLine; decide, fun t1 h1 => ⟨by show 3 ≤ sizeLine; decide, fun t2 h2 => ⟨by show 3 ≤ sizeLine; decide, fun t3 h3 => ⟨by show 4 ≤ sizeLine; decide, fun e he => ?_⟩⟩⟩⟩⟩
    have S := (((((sNew (o := .tup [.str "parent_age", .int 1, .int 1000]) h0).trans (sNew (o := .tup [.str "years_after", .int 0, .int 1000]) h1)).trans (sNew (o := .tup [.str "wed_age", .int 0, .int 1000]) h2)).trans (sNew (o := .tup [.str "limit", .int 0, .int 1000000]) h3)).trans (sNew (o := .lst [.ref t0, .ref t1, .ref t2, .ref t3]) he))
    have g3 := sNew (o := .lst [.ref t0, .ref t1, .ref t2, .ref t3]) he
    have f3 := g3 _ _ (upd_same (o := .tup [.str "limit", .int 0, .int 1000000]) (a := t3))
    have g2 := (sNew (o := .tup [.str "limit", .int 0, .int 1000000]) h3).trans g3
    have f2 := g2 _ _ (upd_same (o := .tup [.str "wed_age", .int 0, .int 1000]) (a := t2))
    have g1 := (sNew (o := .tup [.str "wed_age", .int 0, .int 1000]) h2).trans g2
    have f1 := g1 _ _ (upd_same (o := .tup [.str "years_after", .int 0, .int 1000]) (a := t1))
    have g0 := (sNew (o := .tup [.str "years_after", .int 0, .int 1000]) h1).trans g1
    have f0 := g0 _ _ (upd_same (o := .tup [.str "parent_age", .int 1, .int 1000]) (a := t0))
    generalize hHF : upd (upd (upd (upd (upd H t0 (.tup [.str "parent_age", .int 1, .int 1000])) t1 (.tup [.str "years_after", .int 0, .int 1000])) t2 (.tup [.str "wed_age", .int 0, .int 1000])) t3 (.tup [.str "limit", .int 0, .int 1000000])) e (.lst [.ref t0, .ref t1, .ref t2, .ref t3]) = HF at S f0 f1 f2 f3
    have fe : HF e = some (.lst [.ref t0, .ref t1, .ref t2, .ref t3]) := by rw [← hHF]; exact upd_same
    clear g0 g1 g2 g3
    refine ⟨_, rfl, by decide, by decide, for_range (n := 4) (fun i σ H' => H' = HF ∧ ∃ (p v1 v2 v3 : Option V), σ = [some (.ref l), some (.ref e), p, v1, v2, v3] ∧ (1 ≤ i → isW 1 1000 a = true) ∧ (2 ≤ i → isW 0 1000 b = true) ∧ (3 ≤ i → isW 0 1000 c = true) ∧ (4 ≤ i → isW 0 1000000 d = true)) ⟨rfl, _, _, _, _, rfl, by omega, by omega, by omega, by omega⟩ ?_ ?_⟩
    · rintro i σ H' hi ⟨rfl, p, v1, v2, v3, rfl, o1, o2, o3, o4⟩
      obtain ⟨nm, lo, hi', v, n, t, e1, e2, e3, e4, e5, e6⟩ : ∃ (nm : Str) (lo hi : Int) (v : V) (n : String) (t : Addr), ([V.ref t0, .ref t1, .ref t2, .ref t3] : List V)[i]? = some (.ref t) ∧ H' t = some (.tup [.str nm, .int lo, .int hi]) ∧ ([a, b, c, d] : List V)[i]? = some v ∧ Dm K H' v n ∧
          (isW lo hi v = false → cuWord a b c d = some nm) ∧ (isW lo hi v = true → (1 ≤ i + 1 → isW 1 1000 a = true) ∧ (2 ≤ i + 1 → isW 0 1000 b = true) ∧ (3 ≤ i + 1 → isW 0 1000 c = true) ∧ (4 ≤ i + 1 → isW 0 1000000 d = true)) := by
        have t1' : ∀ {z : Bool}, z = true → ¬ z = false := fun h => by rw [h]; decide
        match i, hi with
        | 0, _ => exact ⟨_, _, _, a, n1, t0, rfl, f0, rfl, d1.same S, fun q => by unfold cuWord; rw [if_pos q], fun q => ⟨fun _ => q, by omega, by omega, by omega⟩⟩
        | 1, _ => exact ⟨_, _, _, b, n2, t1, rfl, f1, rfl, d2.same S, fun q => by unfold cuWord; rw [if_neg (t1' (o1 (by decide))), if_pos q], fun q => ⟨fun _ => o1 (by decide), fun _ => q, by omega, by omega⟩⟩
        | 2, _ => exact ⟨_, _, _, c, n3, t2, rfl, f2, rfl, d3.same S, fun q => by unfold cuWord; rw [if_neg (t1' (o1 (by decide))), if_neg (t1' (o2 (by decide))), if_pos q], fun q => ⟨fun _ => o1 (by decide), fun _ => o2 (by decide), fun _ => q, by omega⟩⟩
        | 3, _ => exact ⟨_, _, _, d, n4, t3, rfl, f3, rfl, d4.same S, fun q => by unfold cuWord; rw [if_neg (t1' (o1 (by decide))), if_neg (t1' (o2 (by decide))), if_neg (t1' (o3 (by decide))), if_pos q], fun q => ⟨fun _ => o1 (by decide), fun _ => o2 (by decide), fun _ => o3 (by decide), fun _ => q⟩⟩
      refine ⟨_, rfl, _, rfl, _, _, _, _, rfl, rfl, SqL.of fe, at_of (Int.zero_add _) e1, t, _, rfl, SqT.of e2, rfl, _, _, rfl, _, _, rfl, _, _, rfl, rfl, ?_⟩
      refine ⟨_, rfl, _, rfl, _, _, _, _, rfl, rfl, SqL.of (S _ _ hl), at_of (Int.zero_add _) e3, _, rfl, _, rfl, _, _, _, _, rfl, e4, _, rfl, ?_⟩
      refine ite2 (fun g => ?_) (fun g => ?_)
      · have q := k H' S
        rw [e5 (by simpa using g)] at q
        exact ⟨_, rfl, q⟩
      · exact ⟨rfl, _, _, _, _, rfl, e6 (by simpa using g)⟩
    · rintro σ H' ⟨rfl, p, v1, v2, v3, rfl, o1, o2, o3, o4⟩
      have q := k H' S
      have t1' : ∀ {z : Bool}, z = true → ¬ z = false := fun h => by rw [h]; decide
      rw [show cuWord a b c d = none by unfold cuWord; rw [if_neg (t1' (o1 (by decide))), if_neg (t1' (o2 (by decide))), if_neg (t1' (o3 (by decide))), if_neg (t1' (o4 (by decide)))]] at q
      exact q
theorem cal_customs_words (T : Txt P w K mg cl) : Cal P w K mg base CX0 2 "_law_customs_words" ["_law_values"] (spWords K) := by
  obtain ⟨f, fd, F, m⟩ := T.d_customs_words
  exact ⟨f, fd, ok_customs_words F T, m, F.kp, F.binds fun _ _ _ _ _ _ us hl => match us, hl with | [_], _ => rfl⟩
end
end My
set_option Elab.async false
set_option linter.all false
set_option maxRecDepth 100000
set_option maxHeartbeats 4000000
namespace My
open PySem L2 Dw
open C8 (pss_cut tCut)
abbrev cuP : List Str := ["self", "parent_age", "years_after", "wed_age", "limit"]
section
variable {P : Program} {w : World} {K : PySem.W.Frag} {mg : Str → Option Value} {base : Heap} {cl : String → Addr}
/-- Customs(a, years_after = b, wed_age = c, limit = d) -/
theorem cu_A (T : Txt P w K mg cl) : ∃ (f : Addr) (fd : FuncData) (its mv : List Value), FnOk P w K mg base (L2.CX P w) 4 f fd cuP (spCu K (cl "Customs") (cl "BadCustoms")) ∧ Mk K (cl "Customs") f ∧
    KBn K fd cuP 2 ["years_after", "wed_age", "limit"] (fun us ws => us ++ ws) (fun vs zs => vs ++ zs) := by
  obtain ⟨f, fd, F, M⟩ := T.i_Customs
  obtain ⟨its, mv, h⟩ := F.kbinds (ps := cuP) 2 ["years_after", "wed_age", "limit"] [] (fun us _ _ ws => us ++ ws) (by decide) (by decide) (fun q hq => by cases hq) (fun a _ _ b => a.append b)
    (fun T D doc pm an cdv ct us its mv ws l1 l2 l3 l4 => match us, its, mv, ws, l1, l2, l3, l4 with
      | [_, _], [_], [], [_, _, _], _, _, _, _ => ⟨_, rfl, rfl⟩)
  exact ⟨f, fd, its, mv, ok_Customs_init F T, M, h⟩
/-- Customs(a, limit = d) -/
theorem cu_D (T : Txt P w K mg cl) : ∃ (f : Addr) (fd : FuncData) (its mv : List Value), FnOk P w K mg base (L2.CX P w) 4 f fd cuP (spCu K (cl "Customs") (cl "BadCustoms")) ∧ Mk K (cl "Customs") f ∧
    KBn K fd cuP 2 ["limit"] (fun us ws => us ++ (mv ++ ws)) (fun vs zs => vs ++ ([.int 1, .int 0] ++ zs)) := by
  obtain ⟨f, fd, F, M⟩ := T.i_Customs
  obtain ⟨its, mv, h⟩ := F.kbinds (ps := cuP) 2 ["limit"] [("years_after", .int 1), ("wed_age", .int 0)] (fun us _ mz ws => us ++ (mz ++ ws)) (by decide) (by decide) (fun q hq => by simp at hq ⊢; rcases hq with h | h <;> simp [h]) (fun a _ c b => a.append (c.append b))
    (fun T D doc pm an cdv ct us its mv ws l1 l2 l3 l4 => match us, its, mv, ws, l1, l2, l3, l4 with
      | [_, _], [_], [_, _], [_], _, _, _, _ => ⟨_, rfl, _, _, _, _, _, _, rfl, rfl, _, _, _, _, _, _, rfl, rfl, rfl⟩)
  exact ⟨f, fd, its, mv, ok_Customs_init F T, M, h⟩
/-- Customs(a), Customs() -/
theorem cu_C (T : Txt P w K mg cl) : ∃ (f : Addr) (fd : FuncData) (ds : List Value), FnOk P w K mg base (L2.CX P w) 4 f fd cuP (spCu K (cl "Customs") (cl "BadCustoms")) ∧ Mk K (cl "Customs") f ∧ Vals [.int 1, .int 0, .int 21] ds ∧ Binds K fd cuP ds := by
  obtain ⟨f, fd, F, M⟩ := T.i_Customs
  obtain ⟨ds, h1, h2⟩ := F.binds (ps := cuP) 2 1 (by decide) (by decide)
    (fun T D doc pm an cdv ct us its ks l1 l2 l3 => match us, its, ks, l1, l2, l3 with
      | [_, _], [_], [_, _, _], _, _, _ => ⟨_, rfl, _, _, _, _, _, _, rfl, rfl, _, _, _, _, _, _, rfl, rfl, _, _, _, _, _, _, rfl, rfl, rfl⟩) (by decide)
  exact ⟨f, fd, ds, ok_Customs_init F T, M, h1, h2⟩
theorem cu_B (T : Txt P w K mg cl) : ∃ (f : Addr) (fd : FuncData) (ds : List Value), FnOk P w K mg base (L2.CX P w) 4 f fd cuP (spCu K (cl "Customs") (cl "BadCustoms")) ∧ Mk K (cl "Customs") f ∧ Vals [.int 1, .int 1, .int 0, .int 21] ds ∧ Binds K fd cuP ds := by
  obtain ⟨f, fd, F, M⟩ := T.i_Customs
  obtain ⟨ds, h1, h2⟩ := F.binds (ps := cuP) 1 0 (by decide) (by decide)
    (fun T D doc pm an cdv ct us its ks l1 l2 l3 => match us, its, ks, l1, l2, l3 with
      | [_], [_], [_, _, _], _, _, _ => ⟨_, rfl, _, _, _, _, _, _, rfl, rfl, _, _, _, _, _, _, rfl, rfl, _, _, _, _, _, _, rfl, rfl, rfl⟩) (by decide)
  exact ⟨f, fd, ds, ok_Customs_init F T, M, h1, h2⟩
theorem isW_int {lo hi : Int} {v : V} (h : isW lo hi v = true) : ∃ i, v = .int i ∧ lo ≤ i ∧ i ≤ hi := by
  cases v with
  | int i =>
    obtain ⟨h1, h2⟩ := Bool.and_eq_true_iff.mp (show (decide (lo ≤ i) && decide (i ≤ hi)) = true from h)
    exact ⟨i, rfl, of_decide_eq_true h1, of_decide_eq_true h2⟩
  | _ => cases h
theorem cuWord_none {a b c d : V} (h : cuWord a b c d = none) : isW 1 1000 a = true ∧ isW 0 1000 b = true ∧ isW 0 1000 c = true ∧ isW 0 1000000 d = true := by
  unfold cuWord at h
  split at h
  · cases h
  split at h
  · cases h
  split at h
  · cases h
  split at h
  · cases h
  rename_i h1 h2 h3 h4
  simp only [Bool.not_eq_false] at h1 h2 h3 h4
  exact ⟨h1, h2, h3, h4⟩
/-- four values: what Customs says of them is right -/
def spAsked (K : PySem.W.Frag) : Sp := fun vs H Q _ => ∃ (l : Addr) (a b c d : V) (n1 n2 n3 n4 : String), vs = [.ref l] ∧ H l = some (.lst [a, b, c, d]) ∧ Dm K H a n1 ∧ Dm K H b n2 ∧ Dm K H c n3 ∧ Dm K H d n4 ∧ ∀ H', Same H H' → Q (.bl true) H'
theorem ok_asked {f : Addr} {fd : FuncData} (F : Fun K "_law_asked" "_law_asked" s_asked f fd) (T : Txt P w K mg cl) : FnOk P w K mg base CX0 7 f fd ["_law_values"] (spAsked K) := by
  refine F.ok sc_asked (fun vs H Q E h => ?_) (fun cdv A outer s H vs Q E hr h => ?_)
  · obtain ⟨l, a, b, c, d, n1, n2, n3, n4, rfl, _⟩ := h
    rfl
  · obtain ⟨l, a, b, c, d, n1, n2, n3, n4, rfl, hl, d1, d2, d3, d4, k⟩ := h
    have C_customs_words : Cal P w K mg base CX0 2 "_law_customs_words" _ (spWords K) := cal_customs_words T
    obtain ⟨fA, fdA, itsA, mvA, G_A, M_A, B_A⟩ := cu_A (base := base) T
    refine ⟨_, (pss_cons (ps_set (i := 1) sc_asked.nd rfl (Or.inl rfl) (pe_cal C_customs_words (hr.mono (by decide)) (pa_cons (pv 0) pa_nil)))
        (pss_cons (ps_set (i := 2) sc_asked.nd rfl (Or.inl rfl) pe_non)
        (pss_cons (ps_set (i := 3) sc_asked.nd rfl (Or.inl rfl) pe_non)
        (pss_cut (ps_try_as (i := 4) (Wout := fun _ _ _ _ => False) rfl rfl sc_asked.nd rfl rfl ⟨rfl, by decide, Or.inl T.m_BadCustoms⟩ takes0
            (fun W pn xe tk _ => (pss_one (ps_set (i := 3) sc_asked.nd rfl (Or.inl rfl) (pe_makeKS M_A G_A (hr.mono (by decide)) rfl T.m_Customs B_A (fun σ => passAt tk σ) (pa_cons (pe_ix (ix_listK (K := K) rfl) (pv 0) pe_int (fun _ _ => rfl)) pa_nil) (pk_cons (pe_ix (ix_listK (K := K) rfl) (pv 0) pe_int (fun _ _ => rfl)) (pk_cons (pe_ix (ix_listK (K := K) rfl) (pv 0) pe_int (fun _ _ => rfl)) (pk_cons (pe_ix (ix_listK (K := K) rfl) (pv 0) pe_int (fun _ _ => rfl)) pk_nil)))))))
            (fun a oe cls d pn hz hf => (pss_cons (ps_set (i := 2) sc_asked.nd rfl (Or.inl rfl) (pe_xf (T.x_BadCustoms).xf T.xf_BadCustoms_what hz hf (pv 4)))
              (pss_one (ps_if (PW.pt (pw_or (pt_not (pt_val (pe_callB (call_isErrK (K := K) rfl hz hf) (by rfl) T.n_isinstance (by decide +kernel) (pa_cons (pv 4) (pa_cons (pe_cls T.m_DeedError) pa_nil))))) (pw_or (pt_not (pt_val (pe_callB (call_isErrK (K := K) rfl hz hf) (by rfl) T.n_isinstance (by decide +kernel) (pa_cons (pv 4) (pa_cons (pe_ty "ValueError" T.n_ValueError) pa_nil))))) (pw_or1 (pt_val (pe_callB (call_isErrK (K := K) rfl hz hf) (by rfl) T.n_isinstance (by decide +kernel) (pa_cons (pv 4) (pa_cons (pe_cls T.m_BadLives) pa_nil))))))))
                (pss_one (ps_ret pe_bl)) pss_nil)))))
        (pss_cons (ps_if (PW.pt (pw_or (pt_cmpR op_ne (pv 2) (pv 1) (nomark _)) (pw_or1 (pt_cmpR op_ne (pe_cmpR op_isN (pv 1) pe_non (nomark _)) (pe_cmpR op_notN (pv 3) pe_non (nomark _)) (nomark _)))))
          (pss_one (ps_ret pe_bl)) pss_nil)
        (pss_cons (ps_if (pt_cmpR op_isN (pv 3) pe_non (nomark _))
          (pss_one (ps_ret pe_bl)) pss_nil)
        (pss_one (ps_ret (pe_cmpR (op_eqD hr.units) (pe_lst (pa_cons (pe_fld (pv 3) rfl) (pa_cons (pe_fld (pv 3) rfl) (pa_cons (pe_fld (pv 3) rfl) (pa_cons (pe_fld (pv 3) rfl) pa_nil))))) (pe_callTy call_list_of (by rfl) T.n_list (by decide +kernel) (pa_cons (pv 0) pa_nil)) (nomark _)))))))))), ?_⟩
    refine ⟨_, rfl, l, a, b, c, d, n1, n2, n3, n4, rfl, hl, d1, d2, d3, d4, fun H1 S1 => ?_⟩
    have hl1 := S1 _ _ hl
    refine ⟨fun σ' H' => ∃ (tv mv : V) (ev : Option V), σ' = [some (.ref l), some (optV (cuWord a b c d)), some tv, some mv, ev] ∧ Same H H' ∧
      ((cuWord a b c d = none ∧ tv = .non ∧ ∃ x, mv = .ref x ∧ CuAt (cl "Customs") H' x a b c d) ∨ ∃ s, cuWord a b c d = some s ∧ tv = .str s ∧ mv = .non), ?_, ?_⟩
    · refine ⟨_, rfl, _, _, _, _, rfl, rfl, SqL.of hl1, atI_nat (j := 0) rfl, _, rfl, _, _, _, _, rfl, rfl, SqL.of hl1, atI_nat (j := 1) rfl, _, rfl, _, _, _, _, rfl, rfl, SqL.of hl1, atI_nat (j := 2) rfl, _, rfl, _, _, _, _, rfl, rfl, SqL.of hl1, atI_nat (j := 3) rfl, rfl, rfl, fun x dx nx ndx nex => ?_⟩
      have S2 : Same H (upd (upd H1 dx (.own x)) x (.ins (cl "Customs") dx [])) := S1.trans ((sNew ndx).trans (sNew (by rw [upd_ne (Ne.symm nex)]; exact nx)))
      refine ⟨x, dx, a, b, c, d, n1, n2, n3, n4, rfl, upd_same, d1.same S2, d2.same S2, d3.same S2, d4.same S2, fun s hs e he => ?_, fun hw => ⟨rfl, ?_⟩⟩
      · refine ⟨true, T.is_BadCustoms, fun _ a0 _ => ?_, fun q => Bool.noConfusion q⟩
        refine ⟨_, rfl, rfl, rfl, e, _, _, rfl, upd_same, rfl, ?_⟩
        refine ⟨_, rfl, _, _, true, _, e, _, rfl, rfl, rfl, upd_same, T.x_BadCustoms, .own _, T.k_bc_de, _, rfl, iteF ?_⟩
        refine ⟨_, rfl, _, _, true, _, e, _, rfl, rfl, rfl, upd_same, T.x_BadCustoms, .ty _, T.k_bc_ve, _, rfl, iteF ?_⟩
        refine ⟨_, rfl, _, _, false, _, e, _, rfl, rfl, rfl, upd_same, T.x_BadCustoms, .own _, T.k_bc_bl, _, rfl, iteF ?_⟩
        exact ⟨_, _, _, rfl, S2.trans (sNew he), .inr ⟨s, hs, rfl, rfl⟩⟩
      · refine ⟨_, _, _, rfl, fun y o hy => ?_, .inl ⟨hw, rfl, x, rfl, dx, upd_same⟩⟩
        rw [upd_ne (ne_of_none (S1 _ _ hy) nx)]
        exact S2 _ _ hy
    · rintro σ' H' ⟨tv, mv, ev, rfl, S', h⟩
      rcases h with ⟨hw, rfl, x, rfl, dx, hx⟩ | ⟨s, hw, rfl, rfl⟩
      · obtain ⟨o1, o2, o3, o4⟩ := cuWord_none hw
        obtain ⟨i1, rfl, _⟩ := isW_int o1
        obtain ⟨i2, rfl, _⟩ := isW_int o2
        obtain ⟨i3, rfl, _⟩ := isW_int o3
        obtain ⟨i4, rfl, _⟩ := isW_int o4
        rw [hw]
        refine ⟨_, rfl, _, rfl, rfl, _, rfl, iteF ?_⟩
        refine ⟨_, rfl, rfl, _, rfl, rfl, rfl, _, rfl, iteF ?_⟩
        refine ⟨_, rfl, rfl, _, rfl, iteF ?_⟩
        refine ⟨_, rfl, x, _, dx, _, _, rfl, hx, T.cl_Customs, T.na_Customs _ (by decide), rfl, ?_⟩
        refine ⟨_, rfl, x, _, dx, _, _, rfl, hx, T.cl_Customs, T.na_Customs _ (by decide), rfl, ?_⟩
        refine ⟨_, rfl, x, _, dx, _, _, rfl, hx, T.cl_Customs, T.na_Customs _ (by decide), rfl, ?_⟩
        refine ⟨_, rfl, x, _, dx, _, _, rfl, hx, T.cl_Customs, T.na_Customs _ (by decide), rfl, ?_⟩
        refine ⟨by show 4 ≤ sizeLine; decide, fun p hp => ⟨_, rfl, l, _, rfl, .inl (SqL.of (sNew hp _ _ (S' _ _ hl))), fun q hq => ?_⟩⟩
        refine eqD_lst (ns := [i1, i2, i3, i4]) (ms := [i1, i2, i3, i4]) (SqL.of (sNew hq _ _ upd_same)) (SqL.of upd_same) ?_
        rw [decide_eq_true rfl]
        exact k _ ((S'.trans (sNew hp)).trans (sNew hq))
      · rw [hw]
        refine ⟨_, rfl, _, rfl, rfl, _, rfl, ?_⟩
        refine iteNS rfl ?_
        refine ⟨_, rfl, rfl, _, rfl, rfl, rfl, _, rfl, iteF ?_⟩
        exact ⟨_, rfl, rfl, _, rfl, iteT (k _ S')⟩
theorem cal_asked (T : Txt P w K mg cl) : Cal P w K mg base CX0 7 "_law_asked" ["_law_values"] (spAsked K) := by
  obtain ⟨f, fd, F, m⟩ := T.d_asked
  exact ⟨f, fd, ok_asked F T, m, F.kp, F.binds fun _ _ _ _ _ _ us hl => match us, hl with | [_], _ => rfl⟩
end
end My
set_option Elab.async false
set_option linter.all false
set_option maxRecDepth 100000
set_option maxHeartbeats 8000000
namespace My
open PySem L2 Dw
open C8 (pss_cut tCut)
def spLaw (K : PySem.W.Frag) : Sp := fun vs H Q _ => ∃ (a : Addr) (ns : List Int), vs = [.ref a] ∧ SqL K H a (ns.map V.int) ∧ ns.length ≤ 63 ∧ ∀ H', Q (.bl true) H'
theorem iteSelf {x : Bool} {A B : Prop} (h : B) : if (!(x == x)) = true then A else B := by cases x <;> exact h
theorem iteNT {A B : Prop} (h : B) : if (!true) = true then A else B := h
theorem iteNE {c A B : Prop} [Decidable c] (hc : c) (h : B) : if (!decide c) = true then A else B := iteNS hc h
section
variable {P : Program} {w : World} {K : PySem.W.Frag} {mg : Str → Option Value} {base : Heap} {cl : String → Addr}
theorem dmBut {K : PySem.W.Frag} {H H' : Hp} {d c : Addr} {v : V} {n : String} (D : Dr H d c) (B : But d H H') (x : Dm K H v n) : Dm K H' v n := by
  obtain ⟨_, ns, nx, dg, rs, sd, tn, h1, _⟩ := D
  refine x.mono fun a o _ e => ?_
  by_cases q : a = d
  · subst q
    rw [h1] at e
    cases e
    cases x with
    | lst e' => simp_all
    | tup e' => simp_all
    | _ => simp_all
  · exact ⟨o, B _ _ e q, .inr rfl⟩
theorem butLst {H H' : Hp} {d c l : Addr} {xs : List V} (D : Dr H d c) (B : But d H H') (h : H l = some (.lst xs)) : H' l = some (.lst xs) := by
  obtain ⟨_, ns, nx, dg, rs, sd, tn, h1, _⟩ := D
  refine B _ _ h ?_
  rintro rfl
  rw [h1] at h
  cases h
theorem cuWord_ok {a b c d : Int} (h1 : 1 ≤ a ∧ a ≤ 1000) (h2 : 0 ≤ b ∧ b ≤ 1000) (h3 : 0 ≤ c ∧ c ≤ 1000) (h4 : 0 ≤ d ∧ d ≤ 1000000) : cuWord (.int a) (.int b) (.int c) (.int d) = none := by
  simp [cuWord, isW, h1.1, h1.2, h2.1, h2.2, h3.1, h3.2, h4.1, h4.2]
theorem iteEq {x y : Bool} {A B : Prop} (e : x = y) (h : B) : if (!(x == y)) = true then A else B := by subst e; exact iteSelf h
theorem spoil {K : PySem.W.Frag} {H : Hp} {a b c d v : V} {n1 n2 n3 n4 n : String} (h1 : Dm K H a n1) (h2 : Dm K H b n2) (h3 : Dm K H c n3) (h4 : Dm K H d n4) (h : Dm K H v n) {j : Nat} (hj : j < 4) :
    ∃ a' b' c' d' m1 m2 m3 m4, [a, b, c, d].set j v = [a', b', c', d'] ∧ Dm K H a' m1 ∧ Dm K H b' m2 ∧ Dm K H c' m3 ∧ Dm K H d' m4 := by
  match j, hj with
  | 0, _ => exact ⟨_, _, _, _, _, _, _, _, rfl, h, h2, h3, h4⟩
  | 1, _ => exact ⟨_, _, _, _, _, _, _, _, rfl, h1, h, h3, h4⟩
  | 2, _ => exact ⟨_, _, _, _, _, _, _, _, rfl, h1, h2, h, h4⟩
  | 3, _ => exact ⟨_, _, _, _, _, _, _, _, rfl, h1, h2, h3, h⟩
theorem bound4 {j : Nat} (hj : j < 4) : ∃ z : Int, ([.int 1000, .int 1000, .int 1000, .int 1000000] : List V)[j]? = some (.int z) ∧ 0 ≤ z ∧ z - 0 < 1073741000 := by
  match j, hj with
  | 0, _ => exact ⟨_, rfl, by decide, by decide⟩
  | 1, _ => exact ⟨_, rfl, by decide, by decide⟩
  | 2, _ => exact ⟨_, rfl, by decide, by decide⟩
  | 3, _ => exact ⟨_, rfl, by decide, by decide⟩
theorem mkCu {K : PySem.W.Frag} {H : Hp} {C CB : Addr} {a b c d : Int} {E : XK} {Q : Addr → Hp → Prop} (hw : cuWord (.int a) (.int b) (.int c) (.int d) = none) (k : ∀ x H', Same H H' → CuAt C H' x (.int a) (.int b) (.int c) (.int d) → Q x H') :
    ∀ x dx, H x = none → H dx = none → dx ≠ x → spCu K C CB [.ref x, .int a, .int b, .int c, .int d] (upd (upd H dx (.own x)) x (.ins C dx [])) (fun v H3 => v = .non ∧ Q x H3) E := fun x dx nx ndx nex => by
  have S2 : Same H (upd (upd H dx (.own x)) x (.ins C dx [])) := (sNew ndx).trans (sNew (by rw [upd_ne (Ne.symm nex)]; exact nx))
  refine ⟨x, dx, _, _, _, _, _, _, _, _, rfl, upd_same, .int _, .int _, .int _, .int _, fun s hs => (by rw [hw] at hs; cases hs), fun _ => ⟨rfl, k x _ (fun y o hy => ?_) ⟨dx, upd_same⟩⟩⟩
  rw [upd_ne (ne_of_none hy nx)]
  exact S2 _ _ hy
theorem ownEq {K : PySem.W.Frag} {P : Program} {w : World} {mg : Str → Option Value} {cl : String → Addr} (T : Txt P w K mg cl) {H : Hp} {x y : Addr} {a b c d a' b' c' d' : Int} {Q : VK} (hx : CuAt (cl "Customs") H x (.int a) (.int b) (.int c) (.int d)) (hy : CuAt (cl "Customs") H y (.int a') (.int b') (.int c') (.int d'))
    (k : ∀ H', Same H H' → Q (.bl (decide ([a, b, c, d] = [a', b', c', d']))) H') : rOwn K (cl "Customs") (spEq K (cl "Customs")) (.ref x) (.ref y) H Q := by
  obtain ⟨dx, hx'⟩ := id hx
  obtain ⟨dy, hy'⟩ := id hy
  exact ⟨x, dx, _, _, rfl, hx', .base (.ins hy' T.cl_Customs T.y_Customs T.z1 T.z2 T.z3_Customs), T.nf2_Customs, x, a, b, c, d, _, rfl, hx, .inl ⟨y, a', b', c', d', rfl, hy, fun H' S => ⟨⟨_, rfl⟩, k H' S⟩⟩⟩
theorem ownNo {K : PySem.W.Frag} {P : Program} {w : World} {mg : Str → Option Value} {cl : String → Addr} (T : Txt P w K mg cl) {H : Hp} {x : Addr} {o : V} {n : String} {a b c d : Int} {Q : VK} (hx : CuAt (cl "Customs") H x (.int a) (.int b) (.int c) (.int d)) (ho : Dm K H o n)
    (k : Q (.bl false) H) : rOwn K (cl "Customs") (spEq K (cl "Customs")) (.ref x) o H Q := by
  obtain ⟨dx, hx'⟩ := id hx
  have kt : ∀ m, Dm K H o m → m ∈ ["NoneType", "bool", "int", "str", "list", "tuple"] := fun m x => by cases x <;> decide
  exact ⟨x, dx, _, _, rfl, hx', ho.ty, T.nf_Customs n (kt n ho), x, a, b, c, d, _, rfl, hx, .inr ⟨⟨n, ho⟩, ⟨_, rfl⟩, k⟩⟩
theorem cuSame {C : Addr} {H H' : Hp} {x : Addr} {a b c d : V} (S : Same H H') (h : CuAt C H x a b c d) : CuAt C H' x a b c d := by
  obtain ⟨dx, h⟩ := h
  exact ⟨dx, S _ _ h⟩
theorem ixN4 {i : Nat} (h : i < 4) : ixN 4 (i : Int) = some i := by
  unfold ixN
  rw [if_pos (by omega), if_pos (by omega)]
  simp
theorem ok_law {f : Addr} {fd : FuncData} (F : Fun K "law" "law" s_law f fd) (T : Txt P w K mg cl) : FnOk P w K mg base CX0 8 f fd ["_law_script"] (spLaw K) := by
  refine F.ok sc_law (fun vs H Q E h => ?_) (fun cdv A outer s H vs Q E hr h => ?_)
  · obtain ⟨a, ns, rfl, _⟩ := h
    rfl
  · obtain ⟨a, ns, rfl, hS, hlen, k⟩ := h
    have C_digits : Cal P w K mg base CX0 1 "_law_digits" _ (spDigits K) := cal_digits T
    have C_far : Cal P w K mg base CX0 2 "_law_far" _ spNext := cal_far T
    have C_next : Cal P w K mg base CX0 1 "_law_next" _ spNext := cal_next T
    have C_thing : Cal P w K mg base CX0 3 "_law_thing" _ (spThing K) := cal_thing T
    have C_word : Cal P w K mg base CX0 2 "_law_word" _ spWord := cal_word T
    have C_right : Cal P w K mg base CX0 1 "_law_right" _ (spW K) := cal_right T
    have C_is_whole : Cal P w K mg base CX0 1 "is_whole" _ (spW K) := cal_is_whole T
    have C_is_name : Cal P w K mg base CX0 1 "is_name" _ (spN K) := cal_is_name T
    have C_says : Cal P w K mg base CX0 1 "_law_says" _ spSays := cal_says T
    have C_asked : Cal P w K mg base CX0 7 "_law_asked" _ (spAsked K) := cal_asked T
    have C_customs_words : Cal P w K mg base CX0 2 "_law_customs_words" _ (spWords K) := cal_customs_words T
    have C_Customs_eq : CalM P w K mg base CX0 2 (cl "Customs") "__eq__" _ (spEq K (cl "Customs")) := cal_eq T
    obtain ⟨fA, fdA, itsA, mvA, G_A, M_A, B_A⟩ := cu_A (base := base) T
    obtain ⟨fD, fdD, itsD, mvD, G_D, M_D, B_D⟩ := cu_D (base := base) T
    obtain ⟨fC, fdC, dsC, G_C, M_C, v_C, b_C⟩ := cu_C (base := base) T
    obtain ⟨fB, fdB, dsB, G_B, M_B, v_B, b_B⟩ := cu_B (base := base) T
    refine ⟨_, (pss_cons (ps_set (i := 1) sc_law.nd rfl (Or.inl rfl) (pe_cal C_digits (hr.mono (by decide)) (pa_cons (pv 0) (pa_cons pe_int pa_nil))))
        (pss_cons (ps_if (PW.pt (pw_or (pt_cmpR op_ne (pe_gl T.c_MOST_YEAR) (pe_op op_pow pe_int pe_int) (nomark _)) (pw_or (pt_cmpR op_ne (pe_gl T.c_LATE) (pe_op op_pow pe_int pe_int) (nomark _)) (pw_or1 (pt_cmpR op_ne (pe_gl T.c_MOST) pe_int (nomark _))))))
          (pss_one (ps_ret pe_bl)) pss_nil)
        (pss_cons (ps_for PassesOwn.never rfl (pi_range1 rfl T.n_range (pa_cons pe_int pa_nil)) (pg_name (i := 2) sc_law.nd rfl (Or.inl rfl))
          (pss_cons (ps_set (i := 3) sc_law.nd rfl (Or.inl rfl) (pe_op op_sub (pe_cal C_far (hr.mono (by decide)) (pa_cons (pv 1) (pa_cons pe_int pa_nil))) pe_int))
            (pss_cons (ps_set (i := 4) sc_law.nd rfl (Or.inl rfl) (pe_op op_add (pv 3) (pe_cal C_far (hr.mono (by decide)) (pa_cons (pv 1) (pa_cons (pe_op op_pow pe_int pe_int) pa_nil)))))
            (pss_cons (ps_set (i := 5) sc_law.nd rfl (Or.inl rfl) (pe_cal C_thing (hr.mono (by decide)) (pa_cons (pv 1) (pa_cons (pv 3) (pa_cons (pv 4) pa_nil)))))
            (pss_cons (ps_if (pt_not (pt_val (pe_cal C_says (hr.mono (by decide)) (pa_cons (pe_cal C_is_whole (hr.mono (by decide)) (pa_cons (pv 5) (pa_cons (pv 3) (pa_cons (pv 4) pa_nil)))) (pa_cons (pe_cal C_right (hr.mono (by decide)) (pa_cons (pv 5) (pa_cons (pv 3) (pa_cons (pv 4) pa_nil)))) pa_nil)))))
              (pss_one (ps_ret pe_bl)) pss_nil)
            (pss_cons (ps_set (i := 6) sc_law.nd rfl (Or.inl rfl) (pe_cal C_word (hr.mono (by decide)) (pa_cons (pv 1) pa_nil)))
            (pss_cons (ps_set (i := 7) sc_law.nd rfl (Or.inl rfl) (pe_callB (cr_all rfl) (by rfl) T.n_all (by decide +kernel) (pa_cons (pe_lc (own := [("_law_sign", 15)]) (g := gName 15) (tt := tYes) rfl sc_law.nd (pi_str (pv 6)) (blkOk_by (own := [("_law_sign", 15)]) (N := ["_law_script", "_law_draws", "_law_turn", "_law_low", "_law_high", "_law_thing_here", "_law_word_here", "_law_letters", "_law_values", "_law_good", "_law_spoilt", "_law_at", "_law_one", "_law_other", "_law_plain", "_law_sign"]) (sc := defScope s_law) (by decide +kernel)) (fun _ _ _ _ _ => pg_name (i := 15) sc_law.nd rfl (Or.inl rfl)) (fun _ _ _ _ _ => pts_nil) (fun _ _ _ _ _ => (pe_cmpR op_in_sign (pv 15) pe_str (by rfl)))) pa_nil)))
            (pss_one (ps_if (pt_not (pt_val (pe_cal C_says (hr.mono (by decide)) (pa_cons (pe_cal C_is_name (hr.mono (by decide)) (pa_cons (pv 6) pa_nil)) (pa_cons (pe_and (pv 7) (pe_one (pe_chain op_le op_le pe_int (pe_callB call_len_str (by rfl) T.n_len PySem.boot_len (pa_cons (pv 6) pa_nil)) pe_int))) pa_nil)))))
              (pss_one (ps_ret pe_bl)) pss_nil)))))))))
        (pss_cons (ps_if (PW.pt (pw_or (pt_cmpR op_notBl (pe_cal C_is_name (hr.mono (by decide)) (pa_cons pe_int pa_nil)) pe_bl (nomark _)) (pw_or (pt_cmpR op_notBl (pe_cal C_is_name (hr.mono (by decide)) (pa_cons pe_non pa_nil)) pe_bl (nomark _)) (pw_or1 (pt_cmpR op_notBl (pe_cal C_is_name (hr.mono (by decide)) (pa_cons (pe_lst (pa_cons pe_str pa_nil)) pa_nil)) pe_bl (nomark _))))))
          (pss_one (ps_ret pe_bl)) pss_nil)
        (pss_cons (ps_set (i := 8) sc_law.nd rfl (Or.inl rfl) (pe_lst (pa_cons (pe_cal C_thing (hr.mono (by decide)) (pa_cons (pv 1) (pa_cons pe_int (pa_cons pe_int pa_nil)))) (pa_cons (pe_cal C_thing (hr.mono (by decide)) (pa_cons (pv 1) (pa_cons pe_int (pa_cons pe_int pa_nil)))) (pa_cons (pe_cal C_thing (hr.mono (by decide)) (pa_cons (pv 1) (pa_cons pe_int (pa_cons pe_int pa_nil)))) (pa_cons (pe_cal C_thing (hr.mono (by decide)) (pa_cons (pv 1) (pa_cons pe_int (pa_cons pe_int pa_nil)))) pa_nil))))))
        (pss_cons (ps_if (pt_not (pt_val (pe_cal C_asked (hr.mono (by decide)) (pa_cons (pv 8) pa_nil))))
          (pss_one (ps_ret pe_bl)) pss_nil)
        (pss_cons (ps_set (i := 9) sc_law.nd rfl (Or.inl rfl) (pe_lst (pa_cons (pe_op op_add pe_int (pe_cal C_far (hr.mono (by decide)) (pa_cons (pv 1) (pa_cons pe_int pa_nil)))) (pa_cons (pe_cal C_far (hr.mono (by decide)) (pa_cons (pv 1) (pa_cons pe_int pa_nil))) (pa_cons (pe_cal C_far (hr.mono (by decide)) (pa_cons (pv 1) (pa_cons pe_int pa_nil))) (pa_cons (pe_cal C_far (hr.mono (by decide)) (pa_cons (pv 1) (pa_cons pe_int pa_nil))) pa_nil))))))
        (pss_cons (ps_set (i := 10) sc_law.nd rfl (Or.inl rfl) (pe_callTy call_list_of (by rfl) T.n_list (by decide +kernel) (pa_cons (pv 9) pa_nil)))
        (pss_cons (ps_set (i := 11) sc_law.nd rfl (Or.inl rfl) (pe_cal C_next (hr.mono (by decide)) (pa_cons (pv 1) (pa_cons pe_int pa_nil))))
        (pss_cons (ps_asg (pe_cal C_thing (hr.mono (by decide)) (pa_cons (pv 1) (pa_cons pe_int (pa_cons (pe_ix ix_list (pe_lst (pa_cons pe_int (pa_cons pe_int (pa_cons pe_int (pa_cons pe_int pa_nil))))) (pv 11) (fun _ _ => rfl)) pa_nil)))) (pg_sub (pv 10) (pv 11) set_list))
        (pss_cons (ps_if (PW.pt (pw_or (pt_not (pt_val (pe_cal C_asked (hr.mono (by decide)) (pa_cons (pv 9) pa_nil)))) (pw_or1 (pt_not (pt_val (pe_cal C_asked (hr.mono (by decide)) (pa_cons (pv 10) pa_nil)))))))
          (pss_one (ps_ret pe_bl)) pss_nil)
        (pss_cons (ps_set (i := 12) sc_law.nd rfl (Or.inl rfl) (pe_makeK M_A G_A (hr.mono (by decide)) rfl T.m_Customs B_A passL (pa_cons (pe_ix ix_list (pv 9) pe_int (fun _ _ => rfl)) pa_nil) (pk_cons (pe_ix ix_list (pv 9) pe_int (fun _ _ => rfl)) (pk_cons (pe_ix ix_list (pv 9) pe_int (fun _ _ => rfl)) (pk_cons (pe_ix ix_list (pv 9) pe_int (fun _ _ => rfl)) pk_nil)))))
        (pss_cut (ps_if (pt_cmpR op_isN (pe_cal C_customs_words (hr.mono (by decide)) (pa_cons (pv 10) pa_nil)) pe_non (nomark _))
          (pss_cons (ps_set (i := 13) sc_law.nd rfl (Or.inl rfl) (pe_makeK M_A G_A (hr.mono (by decide)) rfl T.m_Customs B_A passL (pa_cons (pe_ix ix_list (pv 10) pe_int (fun _ _ => rfl)) pa_nil) (pk_cons (pe_ix ix_list (pv 10) pe_int (fun _ _ => rfl)) (pk_cons (pe_ix ix_list (pv 10) pe_int (fun _ _ => rfl)) (pk_cons (pe_ix ix_list (pv 10) pe_int (fun _ _ => rfl)) pk_nil)))))
            (pss_one (ps_if (PW.pt (pw_or (pt_not (pt_val (pe_cal C_says (hr.mono (by decide)) (pa_cons (pe_cmpR (op_own C_Customs_eq (hr.mono (by decide))) (pv 12) (pv 13) (nomark _)) (pa_cons (pe_cmpR (op_eqD hr.units) (pv 9) (pv 10) (nomark _)) pa_nil))))) (pw_or1 (pt_not (pt_val (pe_cal C_says (hr.mono (by decide)) (pa_cons (pe_cmpR (op_own C_Customs_eq (hr.mono (by decide))) (pv 13) (pv 12) (nomark _)) (pa_cons (pe_cmpR (op_eqD hr.units) (pv 9) (pv 10) (nomark _)) pa_nil))))))))
              (pss_one (ps_ret pe_bl)) pss_nil))) pss_nil)
        (pss_cons (ps_set (i := 14) sc_law.nd rfl (Or.inl rfl) (pe_make0 M_B G_B (hr.mono (by decide)) rfl T.m_Customs b_B v_B passL))
        (pss_cons (ps_if (pt_cmpR (op_neD hr.units) (pe_lst (pa_cons (pe_fld (pv 14) rfl) (pa_cons (pe_fld (pv 14) rfl) (pa_cons (pe_fld (pv 14) rfl) (pa_cons (pe_fld (pv 14) rfl) pa_nil))))) (pe_lst (pa_cons pe_int (pa_cons pe_int (pa_cons pe_int (pa_cons pe_int pa_nil))))) (nomark _))
          (pss_one (ps_ret pe_bl)) pss_nil)
        (pss_cons (ps_if (PW.pt (pw_or (pt_cmpR op_notBl (pe_cmpR (op_own C_Customs_eq (hr.mono (by decide))) (pv 12) (pe_callTy call_tuple_of (by rfl) T.n_tuple (by decide +kernel) (pa_cons (pv 9) pa_nil)) (nomark _)) pe_bl (nomark _)) (pw_or1 (pt_cmpR op_notBl (pe_cmpR (op_own C_Customs_eq (hr.mono (by decide))) (pv 12) pe_non (nomark _)) pe_bl (nomark _)))))
          (pss_one (ps_ret pe_bl)) pss_nil)
        (pss_one (ps_ret (pe_and (pe_cmpR op_eq (pe_fld (pe_make M_C G_C (hr.mono (by decide)) rfl T.m_Customs b_C v_C passL (pa_cons (pe_ix ix_list (pv 9) pe_int (fun _ _ => rfl)) pa_nil)) rfl) pe_int (nomark _)) (pe_one (pe_cmpR op_isBl (pe_cmpR (op_own C_Customs_eq (hr.mono (by decide))) (pe_makeK M_D G_D (hr.mono (by decide)) rfl T.m_Customs B_D passL (pa_cons (pe_ix ix_list (pv 9) pe_int (fun _ _ => rfl)) pa_nil) (pk_cons (pe_ix ix_list (pv 9) pe_int (fun _ _ => rfl)) pk_nil)) (pe_makeK M_D G_D (hr.mono (by decide)) rfl T.m_Customs B_D passL (pa_cons (pe_ix ix_list (pv 9) pe_int (fun _ _ => rfl)) pa_nil) (pk_cons (pe_ix ix_list (pv 9) pe_int (fun _ _ => rfl)) pk_nil)) (nomark _)) pe_bl (nomark _)))))))))))))))))))))), ?_⟩
    refine ⟨_, rfl, a, ns, _, rfl, hS, hlen, fun d c H1 nd nc D1 S1 => ?_⟩
    refine ⟨_, _, rfl, rfl, ⟨by decide, by decide, by decide⟩, rfl, _, rfl, iteNS rfl ?_⟩
    refine ⟨_, _, rfl, rfl, ⟨by decide, by decide, by decide⟩, rfl, _, rfl, iteNS rfl ?_⟩
    refine ⟨rfl, _, rfl, iteNS rfl ?_⟩
    refine ⟨_, rfl, by decide, by decide, for_range (n := 5) (fun i σ H' => Dr H' d c ∧ ∃ (v2 v3 v4 v5 v6 v7 : Option V), σ = [some (.ref a), some (.ref d), v2, v3, v4, v5, v6, v7, none, none, none, none, none, none, none, none]) ⟨D1, _, _, _, _, _, _, rfl⟩ ?_ ?_⟩
    · rintro i σ H' hi ⟨D', v2, v3, v4, v5, v6, v7, rfl⟩
      clear D1 S1
      refine ⟨_, rfl, d, c, _, rfl, D', by decide, by decide, fun j H2 j0 j1 D2 B2 => ⟨_, _, rfl, rfl, ?_⟩⟩
      refine ⟨_, rfl, _, rfl, _, _, rfl, rfl, ⟨by decide, by decide, by decide⟩, d, c, _, rfl, D2, by decide +kernel, by decide +kernel, fun m H3 m0 m1 D3 B3 => ⟨_, _, rfl, rfl, ?_⟩⟩
      have m1 : m < 1000000 := m1
      refine ⟨_, rfl, _, rfl, _, rfl, d, c, _, _, rfl, D3, by omega, by omega, fun v n H4 dm D4 B4 fr => ?_⟩
      refine ⟨_, rfl, _, rfl, _, rfl, v, n, _, _, rfl, dm, _, rfl, _, rfl, _, rfl, v, n, _, _, rfl, dm, _, _, rfl, _, rfl, iteSelf ?_⟩
      refine ⟨_, rfl, d, c, rfl, D4, fun x H5 hx D5 B5 => ?_⟩
      have hxs : x.length ≤ sizeLine := Nat.le_of_lt (small1000 (by omega))
      refine ⟨_, rfl, x, rfl, fun L hL => lc_str (x := x) (fun i H' => H' = upd H5 L (.lst ((x.cps.toList.take i).map fun c => V.bl (decide (c ∈ letters))))) rfl ?_ ?_⟩
      · rintro i z H' hz rfl
        have hi : i < x.cps.size := (Array.getElem?_eq_some_iff.mp hz).1
        have hz2 : x.cps.toList[i]? = some z := by rw [← hz]; simp
        have ht : x.cps.toList.take (i + 1) = x.cps.toList.take i ++ [z] := by rw [List.take_add_one, hz2]; rfl
        refine ⟨rfl, ?_⟩
        refine ⟨_, rfl, z, _, rfl, rfl, _, upd_same, small1000 ?_, ?_⟩
        · rw [List.length_map]
          have : x.length = x.cps.size := rfl
          exact Nat.le_trans (List.length_take_le _ _) (by omega)
        · rw [upd_upd, ht, List.map_append]
          rfl
      · rintro H' rfl
        refine ⟨L, x.cps.toList.map fun c => decide (c ∈ letters), rfl, SqL.of (by rw [upd_same, List.map_map]; rw [show x.cps.toList.take x.cps.size = x.cps.toList from List.take_of_length_le (by simp)]; rfl), ?_⟩
        have D6 := D5.new (o := .lst ((x.cps.toList.take x.cps.size).map fun c => V.bl (decide (c ∈ letters)))) hL
        refine ⟨_, rfl, .str x, "str", rfl, .str x hxs, fun H6 S6 => ?_⟩
        have D7 := D6.same S6
        have fin : ∀ b : Bool, b = isN (.str x) → (if (!(isN (.str x) == b)) = true then Q (.bl false) H6 else Dr H6 d c ∧ ∃ (v2 v3 v4 v5 v6 v7 : Option V), ([some (.ref a), some (.ref d), some (.int (0 + (i : Int))), some (.int (j - 2000)), some (.int (j - 2000 + m)), some v, some (.str x), some (.bl ((x.cps.toList.map fun c => decide (c ∈ letters)).all id)), none, none, none, none, none, none, none, none] : List (Option V)) = [some (.ref a), some (.ref d), v2, v3, v4, v5, v6, v7, none, none, none, none, none, none, none, none]) := fun b hb => by
          rw [hb]
          exact iteSelf ⟨D7, _, _, _, _, _, _, rfl⟩
        have hN : isN (.str x) = (decide (1 ≤ x.length) && decide (x.length ≤ 8) && (x.cps.toList.map fun c => decide (c ∈ letters)).all id) := by
          show (_ && _ && _) = _
          rw [List.all_map]
          rfl
        refine ⟨_, rfl, _, rfl, ?_⟩
        refine ite2 (fun g => ?_) (fun g => ?_)
        · refine ⟨_, rfl, _, rfl, hxs, _, _, rfl, rfl, _, rfl, ?_⟩
          refine ite2 (fun g1 => ?_) (fun g1 => ?_)
          · refine ⟨_, _, rfl, rfl, _, _, rfl, _, rfl, fin _ ?_⟩
            have q1 : (1 : Int) ≤ x.length := of_decide_eq_true g1
            rw [hN, g, decide_eq_true (show 1 ≤ x.length by omega), Bool.true_and, Bool.and_true]
            exact decide_eq_decide.mpr (by omega)
          · refine ⟨_, _, rfl, _, rfl, fin _ ?_⟩
            have q1 : ¬ (1 : Int) ≤ x.length := fun z => g1 (decide_eq_true z)
            rw [hN, decide_eq_false (show ¬ 1 ≤ x.length by omega), Bool.false_and, Bool.false_and]
        · refine ⟨_, _, rfl, _, rfl, fin _ ?_⟩
          rw [hN, Bool.eq_false_iff.mpr g, Bool.and_false]
    · rintro σ H' ⟨D', u2, u3, u4, u5, u6, u7, rfl⟩
      clear D1 S1
      refine ⟨.int 5, _, rfl, .int 5, fun H2 S2 => ⟨_, _, rfl, rfl, _, rfl, iteNE rfl ?_⟩⟩
      refine ⟨.non, _, rfl, .non, fun H3 S3 => ⟨_, _, rfl, rfl, _, rfl, iteNE rfl ?_⟩⟩
      refine ⟨by show 1 ≤ sizeLine; decide, fun p hp => ⟨.ref p, _, rfl, .lst upd_same, fun H4 S4 => ⟨_, _, rfl, rfl, _, rfl, iteNE rfl ?_⟩⟩⟩
      have D4 : Dr H4 d c := (((D'.same S2).same S3).new hp).same S4
      clear D' S2 S3 S4 hp
      refine ⟨_, rfl, d, c, _, _, rfl, D4, by decide, by decide, fun v1 n1 H5 dm1 D5 B5 _ => ?_⟩
      refine ⟨_, rfl, d, c, _, _, rfl, D5, by decide, by decide, fun v2 n2 H6 dm2 D6 B6 _ => ?_⟩
      have dm1 := dmBut D5 B6 dm1
      refine ⟨_, rfl, d, c, _, _, rfl, D6, by decide, by decide, fun v3 n3 H7 dm3 D7 B7 _ => ?_⟩
      have dm1 := dmBut D6 B7 dm1
      have dm2 := dmBut D6 B7 dm2
      refine ⟨_, rfl, d, c, _, _, rfl, D7, by decide, by decide, fun v4 n4 H8 dm4 D8 B8 _ => ?_⟩
      have dm1 := dmBut D7 B8 dm1
      have dm2 := dmBut D7 B8 dm2
      have dm3 := dmBut D7 B8 dm3
      refine ⟨by show 4 ≤ sizeLine; decide, fun l hl => ?_⟩
      have sl := sNew (o := .lst [v1, v2, v3, v4]) hl
      refine ⟨_, rfl, l, v1, v2, v3, v4, _, _, _, _, rfl, upd_same, dm1.same sl, dm2.same sl, dm3.same sl, dm4.same sl, fun H9 S9 => ⟨_, rfl, iteNT ?_⟩⟩
      have D9 := (D8.new hl).same S9
      clear D4 D5 D6 D7 D8 B5 B6 B7 B8 sl S9 hl dm1 dm2 dm3 dm4
      refine ⟨_, rfl, d, c, _, rfl, D9, by decide, by decide, fun g1 H10 p1 q1 D10 B10 => ⟨_, _, rfl, rfl, ?_⟩⟩
      refine ⟨_, rfl, d, c, _, rfl, D10, by decide, by decide, fun g2 H11 p2 q2 D11 B11 => ?_⟩
      refine ⟨_, rfl, d, c, _, rfl, D11, by decide, by decide, fun g3 H12 p3 q3 D12 B12 => ?_⟩
      refine ⟨_, rfl, d, c, _, rfl, D12, by decide, by decide, fun g4 H13 p4 q4 D13 B13 => ?_⟩
      clear D9 D10 D11 D12 B10 B11 B12 B13
      refine ⟨by show 4 ≤ sizeLine; decide, fun gl hgl => ?_⟩
      have D14 := D13.new (o := .lst [.int (1 + g1), .int g2, .int g3, .int g4]) hgl
      refine ⟨_, rfl, gl, _, rfl, .inl (SqL.of upd_same), fun sp hsp => ?_⟩
      have D15 := D14.new (o := .lst [.int (1 + g1), .int g2, .int g3, .int g4]) hsp
      have ngs : gl ≠ sp := ne_of_none upd_same hsp
      have gl15 : (upd (upd H13 gl (.lst [.int (1 + g1), .int g2, .int g3, .int g4])) sp (.lst [.int (1 + g1), .int g2, .int g3, .int g4])) gl = some (.lst [.int (1 + g1), .int g2, .int g3, .int g4]) := by rw [upd_ne ngs]; exact upd_same
      refine ⟨_, rfl, d, c, _, rfl, D15, by decide, by decide, fun j H16 j0 j1 D16 B16 => ?_⟩
      have gl16 := butLst D15 B16 gl15
      have sp16 := butLst D15 B16 upd_same
      clear gl15 D15 B16 D14 D13 hsp hgl
      obtain ⟨i, rfl⟩ : ∃ i : Nat, j = i := ⟨j.toNat, by omega⟩
      have hi : i < 4 := by omega
      obtain ⟨z, hz, z0, z1⟩ := bound4 hi
      refine ⟨_, rfl, by show 4 ≤ sizeLine; decide, fun q hq => ⟨_, rfl, q, _, _, _, rfl, rfl, SqL.of upd_same, atI_nat hz, d, c, 0, z, rfl, D16.new hq, z0, z1, fun v n H17 dm D17 B17 fr => ?_⟩⟩
      have gl17 := butLst (D16.new hq) B17 (sNew hq _ _ gl16)
      have sp17 := butLst (D16.new hq) B17 (sNew hq _ _ sp16)
      refine ⟨_, rfl, _, rfl, sp, _, _, i, rfl, rfl, sp17, ixN4 hi, ?_⟩
      have dm : Dm K (upd H17 sp (.lst (([.int (1 + g1), .int g2, .int g3, .int g4] : List V).set i v))) v n := dm.mono fun a o hv e => ⟨o, (by
        rw [upd_ne (a := sp)]
        · exact e
        · intro e'
          have := fr _ hv
          rw [e', sNew hq _ _ sp16] at this
          cases this), .inr rfl⟩
      obtain ⟨a', b', c', d', m1, m2, m3, m4, e, da, db, dc, dd⟩ := spoil (K := K) (.int (1 + g1)) (.int g2) (.int g3) (.int g4) dm hi
      rw [e] at da db dc dd ⊢
      have gl18 : (upd H17 sp (.lst [a', b', c', d'])) gl = some (.lst [.int (1 + g1), .int g2, .int g3, .int g4]) := by rw [upd_ne ngs]; exact gl17
      have sp18 : (upd H17 sp (.lst [a', b', c', d'])) sp = some (.lst [a', b', c', d']) := upd_same
      clear dm gl17 sp17 gl16 sp16 B17 D17 D16 hq fr e
      refine ⟨_, rfl, gl, _, _, _, _, _, _, _, _, rfl, gl18, .int _, .int _, .int _, .int _, fun H19 S19 => ⟨_, rfl, iteNT ?_⟩⟩
      refine ⟨_, rfl, sp, a', b', c', d', _, _, _, _, rfl, S19 _ _ sp18, da.same S19, db.same S19, dc.same S19, dd.same S19, fun H20 S20 => ⟨_, rfl, iteNT ?_⟩⟩
      have gl20 := S20 _ _ (S19 _ _ gl18)
      have sp20 := S20 _ _ (S19 _ _ sp18)
      have da := (da.same S19).same S20
      have db := (db.same S19).same S20
      have dc := (dc.same S19).same S20
      have dd := (dd.same S19).same S20
      clear gl18 sp18 S19 S20
      have hw1 : cuWord (.int (1 + g1)) (.int g2) (.int g3) (.int g4) = none := cuWord_ok ⟨by omega, by omega⟩ ⟨by omega, by omega⟩ ⟨by omega, by omega⟩ ⟨by omega, by omega⟩
      refine ⟨_, rfl, _, _, _, _, rfl, rfl, SqL.of gl20, atI_nat (j := 0) rfl, _, rfl, _, _, _, _, rfl, rfl, SqL.of gl20, atI_nat (j := 1) rfl, _, rfl, _, _, _, _, rfl, rfl, SqL.of gl20, atI_nat (j := 2) rfl, _, rfl, _, _, _, _, rfl, rfl, SqL.of gl20, atI_nat (j := 3) rfl, rfl, rfl, mkCu hw1 fun x H21 S21 X21 => ?_⟩
      have gl21 := S21 _ _ gl20
      have sp21 := S21 _ _ sp20
      refine ⟨fun σ' H' => ∃ ov : Option V, σ' = [some (.ref a), some (.ref d), u2, u3, u4, u5, u6, u7, some (.ref l), some (.ref gl), some (.ref sp), some (.int i), some (.ref x), ov, none, none] ∧ Same H21 H', ?_, ?_⟩
      · refine ⟨_, rfl, sp, a', b', c', d', _, _, _, _, rfl, sp21, da.same S21, db.same S21, dc.same S21, dd.same S21, fun H22 S22 => ⟨rfl, _, rfl, ?_⟩⟩
        refine ite2 (fun g => ?_) (fun g => ⟨_, rfl, S22⟩)
        have hw2 : cuWord a' b' c' d' = none := by
          cases e : cuWord a' b' c' d' with
          | none => rfl
          | some s => rw [e] at g; cases of_decide_eq_true g
        obtain ⟨o1, o2, o3, o4⟩ := cuWord_none hw2
        obtain ⟨i1, rfl, _⟩ := isW_int o1
        obtain ⟨i2, rfl, _⟩ := isW_int o2
        obtain ⟨i3, rfl, _⟩ := isW_int o3
        obtain ⟨i4, rfl, _⟩ := isW_int o4
        have sp22 := S22 _ _ sp21
        refine ⟨_, rfl, _, _, _, _, rfl, rfl, SqL.of sp22, atI_nat (j := 0) rfl, _, rfl, _, _, _, _, rfl, rfl, SqL.of sp22, atI_nat (j := 1) rfl, _, rfl, _, _, _, _, rfl, rfl, SqL.of sp22, atI_nat (j := 2) rfl, _, rfl, _, _, _, _, rfl, rfl, SqL.of sp22, atI_nat (j := 3) rfl, rfl, rfl, mkCu hw2 fun y H23 S23 Y23 => ?_⟩
        have X23 := cuSame (S22.trans S23) X21
        have gl23 := (S22.trans S23) _ _ gl21
        have sp23 := (S22.trans S23) _ _ sp21
        refine ⟨_, rfl, _, rfl, ownEq T X23 Y23 fun H24 S24 => ⟨_, rfl, _, rfl, eqD_lst (ns := [1 + g1, g2, g3, g4]) (ms := [i1, i2, i3, i4]) (SqL.of (S24 _ _ gl23)) (SqL.of (S24 _ _ sp23)) ?_⟩⟩
        refine ⟨_, _, rfl, _, rfl, iteSelf ?_⟩
        refine ⟨_, rfl, _, rfl, ownEq T (cuSame S24 Y23) (cuSame S24 X23) fun H25 S25 => ⟨_, rfl, _, rfl, eqD_lst (ns := [1 + g1, g2, g3, g4]) (ms := [i1, i2, i3, i4]) (SqL.of (S25 _ _ (S24 _ _ gl23))) (SqL.of (S25 _ _ (S24 _ _ sp23))) ?_⟩⟩
        refine ⟨_, _, rfl, _, rfl, iteEq (decide_eq_decide.mpr eq_comm) ?_⟩
        exact ⟨_, rfl, ((S22.trans S23).trans S24).trans S25⟩
      · rintro σ' H' ⟨ov, rfl, S'⟩
        have gl22 := S' _ _ gl21
        have X22 := cuSame S' X21
        have hw3 : cuWord (.int 1) (.int 1) (.int 0) (.int 21) = none := rfl
        refine mkCu hw3 fun y H23 S23 Y23 => ?_
        obtain ⟨dy, hy⟩ := id Y23
        refine ⟨_, rfl, y, _, dy, _, _, rfl, hy, T.cl_Customs, T.na_Customs _ (by decide), rfl, ?_⟩
        refine ⟨_, rfl, y, _, dy, _, _, rfl, hy, T.cl_Customs, T.na_Customs _ (by decide), rfl, ?_⟩
        refine ⟨_, rfl, y, _, dy, _, _, rfl, hy, T.cl_Customs, T.na_Customs _ (by decide), rfl, ?_⟩
        refine ⟨_, rfl, y, _, dy, _, _, rfl, hy, T.cl_Customs, T.na_Customs _ (by decide), rfl, ?_⟩
        refine ⟨by show 4 ≤ sizeLine; decide, fun p hp => ⟨by show 4 ≤ sizeLine; decide, fun q hq => ?_⟩⟩
        refine neD_lst (ns := [1, 1, 0, 21]) (ms := [1, 1, 0, 21]) (SqL.of (sNew hq _ _ upd_same)) (SqL.of upd_same) ⟨_, rfl, iteNE rfl ?_⟩
        have S24 := (S23.trans (sNew hp)).trans (sNew (o := .lst [.int 1, .int 1, .int 0, .int 21]) hq)
        have gl24 := S24 _ _ gl22
        have X24 := cuSame S24 X22
        refine ⟨_, rfl, _, rfl, gl, _, rfl, .inl ⟨SqL.of gl24, fun t ht => ?_⟩⟩
        refine ownNo T (cuSame (sNew ht) X24) (.tup upd_same) ⟨_, _, rfl, rfl, _, rfl, iteNE rfl ?_⟩
        refine ⟨_, rfl, ownNo T (cuSame (sNew ht) X24) .non ⟨_, _, rfl, rfl, _, rfl, iteNE rfl ?_⟩⟩
        have gl25 := sNew ht (o := .tup [.int (1 + g1), .int g2, .int g3, .int g4]) _ _ gl24
        have hw4 : cuWord (.int (1 + g1)) (.int 1) (.int 0) (.int 21) = none := cuWord_ok ⟨by omega, by omega⟩ ⟨by decide, by decide⟩ ⟨by decide, by decide⟩ ⟨by decide, by decide⟩
        have hw5 : cuWord (.int (1 + g1)) (.int 1) (.int 0) (.int g4) = none := cuWord_ok ⟨by omega, by omega⟩ ⟨by decide, by decide⟩ ⟨by decide, by decide⟩ ⟨by omega, by omega⟩
        refine ⟨_, rfl, gl, _, _, _, rfl, rfl, SqL.of gl25, atI_nat (j := 0) rfl, mkCu hw4 fun z1 H26 S26 Z1 => ?_⟩
        obtain ⟨dz, hz1⟩ := id Z1
        refine ⟨z1, _, dz, _, _, rfl, hz1, T.cl_Customs, T.na_Customs _ (by decide), rfl, ?_⟩
        refine ⟨rfl, _, rfl, ?_⟩
        refine iteT ?_
        have gl26 := S26 _ _ gl25
        refine ⟨_, rfl, gl, _, _, _, rfl, rfl, SqL.of gl26, atI_nat (j := 0) rfl, _, rfl, gl, _, _, _, rfl, rfl, SqL.of gl26, atI_nat (j := 3) rfl, rfl, rfl, mkCu hw5 fun z2 H27 S27 Z2 => ?_⟩
        have gl27 := S27 _ _ gl26
        refine ⟨_, rfl, gl, _, _, _, rfl, rfl, SqL.of gl27, atI_nat (j := 0) rfl, _, rfl, gl, _, _, _, rfl, rfl, SqL.of gl27, atI_nat (j := 3) rfl, rfl, rfl, mkCu hw5 fun z3 H28 S28 Z3 => ?_⟩
        refine ownEq T (cuSame S28 Z2) Z3 fun H29 S29 => ?_
        refine ⟨_, _, rfl, rfl, ?_⟩
        have e : decide (decide ([1 + g1, 1, 0, g4] = [1 + g1, 1, 0, g4]) = true) = true := by simp
        rw [e]
        exact k _
end
end My
set_option Elab.async false
set_option linter.all false
set_option maxRecDepth 100000
set_option maxHeartbeats 8000000
namespace My
open PySem L2 Dw
theorem w_BadCustoms (P : Program) (w : World) : PySem.ErrL.SupW P w (defArgs s_BadCustoms_init) (defScope s_BadCustoms_init) "BadCustoms.__init__" ["what"] (fun _ => True) (.Constant (.str "customs") 0 ⟨7, 25, 7, 34⟩) [.Name "what" ⟨7, 36, 7, 40⟩] ⟨7, 8, 7, 13⟩ ⟨7, 8, 7, 15⟩ ⟨7, 8, 7, 24⟩ ⟨7, 8, 7, 41⟩ ⟨7, 8, 7, 41⟩ where
  hk := rfl
  co := rfl
  gen := rfl
  ks := rfl
  kc := rfl
  kse := rfl
  kf := (List.forall_mem_cons.mpr ⟨rfl, (fun _ h => by cases h)⟩)
  cell := by decide +kernel
  par := ⟨_, rfl, rfl⟩
  hi := fun _ _ _ _ => rfl
  hev := fun _ _ _ _ => ⟨_, rfl⟩
  hsw := fun _ _ _ _ => rfl
  hst := fun _ _ _ _ _ _ _ _ _ => rfl
  he := fun _ _ _ _ => rfl
  hpl := fun _ _ _ _ => rfl
  hargs := fun L fI cd cc A E us s1 mg mb m Q1 hok hm hl hs hn hg hb hbt h => match us, hl, hm with
    | [v], _, hm => PySem.ErrL.args_cn rfl rfl (by decide) L fI cd cc A E v s1 m Q1 (hm 0 _ rfl) hn h
def clOf (a_DeedError a_BadCustoms a_BadLives a_Customs : Addr) : String → Addr := fun s => if s = "DeedError" then a_DeedError else if s = "BadCustoms" then a_BadCustoms else if s = "BadLives" then a_BadLives else if s = "Customs" then a_Customs else 0
theorem txt_mk {P : Program} {w : World} {K : PySem.W.Frag} {h : Heap} {mg : Str → Option Value} (X : K.In h) (G : h.Ns mainGlobals mg) {t_LETTERS : Tok} {t_MOST : Tok} {t_MOST_YEAR : Tok} {t_LATE : Tok} {t_WIDEST : Tok} {a_DeedError : Addr} {a_BadCustoms : Addr} {a_BadLives : Addr} {a_Customs : Addr} {nm_BadCustoms : Str} {q_BadCustoms : Str} {N_BadCustoms : Addr} {bs_BadCustoms : List Value} {sn_BadCustoms : List Str} {sub_BadCustoms : List Value} {ab_BadCustoms : Bool} {col_BadCustoms : Option Bool} {dd_BadCustoms : Option Addr} {m0_BadCustoms : Option Value} {m1_BadCustoms : Option Value} {m2_BadCustoms : Option Value} {m3_BadCustoms : Option Value} {m5_BadCustoms : Option Value} {bm_BadCustoms : List Value} {fI_BadCustoms : Addr} {oc_BadCustoms : Value} {od_BadCustoms : Option Addr} {kV_BadCustoms : Value} {dc_BadCustoms : Value} {pm_BadCustoms : Value} {an_BadCustoms : Option Addr} {cda_BadCustoms : Addr} {ct_BadCustoms : Value} {sl_BadCustoms : Array (Option Value)} {cc_BadCustoms : Addr} {vs_BadCustoms : Array Value} {fl_BadCustoms : Str} {tf_BadCustoms : Tok} {ccl_BadCustoms : Value} {cdd_BadCustoms : Option Addr} {ccs_BadCustoms : Array (Option Value)} {ce_BadCustoms : Value} {cld_BadCustoms : Option Addr} {csl_BadCustoms : Array (Option Value)} {f_in_Customs : Addr} {od_in_Customs : Option Addr} {an_in_Customs : Option Addr} {sl_in_Customs : Array (Option Value)} {oc_in_Customs : Value} {dT_in_Customs : Addr} {dD_in_Customs : Addr} {oT_in_Customs : Obj} {dc_in_Customs : Value} {pm_in_Customs : Value} {cd_in_Customs : Value} {ct_in_Customs : Value} {nT_in_Customs : Nat} {dt0_in_Customs : Tok} {kt0_in_Customs : Tok} {kt1_in_Customs : Tok} {kt2_in_Customs : Tok} {f_me_Customs_as_tuple : Addr} {od_me_Customs_as_tuple : Option Addr} {an_me_Customs_as_tuple : Option Addr} {sl_me_Customs_as_tuple : Array (Option Value)} {oc_me_Customs_as_tuple : Value} {kV_me_Customs_as_tuple : Value} {dc_me_Customs_as_tuple : Value} {pm_me_Customs_as_tuple : Value} {cd_me_Customs_as_tuple : Value} {ct_me_Customs_as_tuple : Value} {f_me_Customs_eq : Addr} {od_me_Customs_eq : Option Addr} {an_me_Customs_eq : Option Addr} {sl_me_Customs_eq : Array (Option Value)} {oc_me_Customs_eq : Value} {kV_me_Customs_eq : Value} {dc_me_Customs_eq : Value} {pm_me_Customs_eq : Value} {cd_me_Customs_eq : Value} {ct_me_Customs_eq : Value} {f_fn_is_whole : Addr} {od_fn_is_whole : Option Addr} {an_fn_is_whole : Option Addr} {sl_fn_is_whole : Array (Option Value)} {oc_fn_is_whole : Value} {kV_fn_is_whole : Value} {dc_fn_is_whole : Value} {pm_fn_is_whole : Value} {cd_fn_is_whole : Value} {ct_fn_is_whole : Value} {f_fn_is_name : Addr} {od_fn_is_name : Option Addr} {an_fn_is_name : Option Addr} {sl_fn_is_name : Array (Option Value)} {oc_fn_is_name : Value} {kV_fn_is_name : Value} {dc_fn_is_name : Value} {pm_fn_is_name : Value} {cd_fn_is_name : Value} {ct_fn_is_name : Value} {f_fn_digits : Addr} {od_fn_digits : Option Addr} {an_fn_digits : Option Addr} {sl_fn_digits : Array (Option Value)} {oc_fn_digits : Value} {kV_fn_digits : Value} {dc_fn_digits : Value} {pm_fn_digits : Value} {cd_fn_digits : Value} {ct_fn_digits : Value} {f_fn_next : Addr} {od_fn_next : Option Addr} {an_fn_next : Option Addr} {sl_fn_next : Array (Option Value)} {oc_fn_next : Value} {kV_fn_next : Value} {dc_fn_next : Value} {pm_fn_next : Value} {cd_fn_next : Value} {ct_fn_next : Value} {f_fn_far : Addr} {od_fn_far : Option Addr} {an_fn_far : Option Addr} {sl_fn_far : Array (Option Value)} {oc_fn_far : Value} {kV_fn_far : Value} {dc_fn_far : Value} {pm_fn_far : Value} {cd_fn_far : Value} {ct_fn_far : Value} {f_fn_thing : Addr} {od_fn_thing : Option Addr} {an_fn_thing : Option Addr} {sl_fn_thing : Array (Option Value)} {oc_fn_thing : Value} {kV_fn_thing : Value} {dc_fn_thing : Value} {pm_fn_thing : Value} {cd_fn_thing : Value} {ct_fn_thing : Value} {f_fn_word : Addr} {od_fn_word : Option Addr} {an_fn_word : Option Addr} {sl_fn_word : Array (Option Value)} {oc_fn_word : Value} {kV_fn_word : Value} {dc_fn_word : Value} {pm_fn_word : Value} {cd_fn_word : Value} {ct_fn_word : Value} {f_fn_right : Addr} {od_fn_right : Option Addr} {an_fn_right : Option Addr} {sl_fn_right : Array (Option Value)} {oc_fn_right : Value} {kV_fn_right : Value} {dc_fn_right : Value} {pm_fn_right : Value} {cd_fn_right : Value} {ct_fn_right : Value} {f_fn_customs_words : Addr} {od_fn_customs_words : Option Addr} {an_fn_customs_words : Option Addr} {sl_fn_customs_words : Array (Option Value)} {oc_fn_customs_words : Value} {kV_fn_customs_words : Value} {dc_fn_customs_words : Value} {pm_fn_customs_words : Value} {cd_fn_customs_words : Value} {ct_fn_customs_words : Value} {f_fn_asked : Addr} {od_fn_asked : Option Addr} {an_fn_asked : Option Addr} {sl_fn_asked : Array (Option Value)} {oc_fn_asked : Value} {kV_fn_asked : Value} {dc_fn_asked : Value} {pm_fn_asked : Value} {cd_fn_asked : Value} {ct_fn_asked : Value} {f_fn_says : Addr} {od_fn_says : Option Addr} {an_fn_says : Option Addr} {sl_fn_says : Array (Option Value)} {oc_fn_says : Value} {kV_fn_says : Value} {dc_fn_says : Value} {pm_fn_says : Value} {cd_fn_says : Value} {ct_fn_says : Value}
    (z_len : PySem.W.nsIn K mainGlobals "len" = some none)
    (z_int : PySem.W.nsIn K mainGlobals "int" = some none)
    (z_str : PySem.W.nsIn K mainGlobals "str" = some none)
    (z_bool : PySem.W.nsIn K mainGlobals "bool" = some none)
    (z_list : PySem.W.nsIn K mainGlobals "list" = some none)
    (z_tuple : PySem.W.nsIn K mainGlobals "tuple" = some none)
    (z_isinstance : PySem.W.nsIn K mainGlobals "isinstance" = some none)
    (z_range : PySem.W.nsIn K mainGlobals "range" = some none)
    (z_all : PySem.W.nsIn K mainGlobals "all" = some none)
    (z_ValueError : PySem.W.nsIn K mainGlobals "ValueError" = some none)
    (z_super : PySem.W.nsIn K mainGlobals "super" = some none)
    (k_LETTERS : PySem.W.nsIn K mainGlobals "LETTERS" = some (some (.str "abcdefghijklmnopqrstuvwxyz" t_LETTERS)))
    (k_MOST : PySem.W.nsIn K mainGlobals "MOST" = some (some (.int 1000000 t_MOST)))
    (k_MOST_YEAR : PySem.W.nsIn K mainGlobals "MOST_YEAR" = some (some (.int 1000000000 t_MOST_YEAR)))
    (k_LATE : PySem.W.nsIn K mainGlobals "LATE" = some (some (.int 10000000000 t_LATE)))
    (k_WIDEST : PySem.W.nsIn K mainGlobals "WIDEST" = some (some (.int 1000 t_WIDEST)))
    (m_DeedError : PySem.W.nsIn K mainGlobals "DeedError" = some (some (.ref a_DeedError)))
    (m_BadCustoms : PySem.W.nsIn K mainGlobals "BadCustoms" = some (some (.ref a_BadCustoms)))
    (m_BadLives : PySem.W.nsIn K mainGlobals "BadLives" = some (some (.ref a_BadLives)))
    (m_Customs : PySem.W.nsIn K mainGlobals "Customs" = some (some (.ref a_Customs)))
    (i_BadCustoms : PySem.W.findIn K (.ref a_BadCustoms) "__init__" = some (some (.ref fI_BadCustoms)))
    (c1_BadCustoms : K.lookup a_BadCustoms = some (excClassObj nm_BadCustoms q_BadCustoms a_BadCustoms N_BadCustoms bs_BadCustoms bm_BadCustoms true sn_BadCustoms sub_BadCustoms ab_BadCustoms col_BadCustoms dd_BadCustoms m0_BadCustoms m1_BadCustoms m2_BadCustoms m3_BadCustoms m5_BadCustoms "ValueError.__new__"))
    (c2_BadCustoms : PySem.HandSPX.refsVE bm_BadCustoms = true)
    (f1_BadCustoms : K.lookup fI_BadCustoms = some ⟨oc_BadCustoms, od_BadCustoms, .func (PySem.W.ksFn "__init__" "BadCustoms.__init__" (defArgs s_BadCustoms_init) [PySem.ErrL.supS [.Constant (.str "customs") 0 ⟨7, 25, 7, 34⟩, .Name "what" ⟨7, 36, 7, 40⟩] ⟨7, 8, 7, 13⟩ ⟨7, 8, 7, 15⟩ ⟨7, 8, 7, 24⟩ ⟨7, 8, 7, 41⟩ ⟨7, 8, 7, 41⟩, PySem.ErrL.stoS "what" ⟨8, 8, 8, 12⟩ ⟨8, 8, 8, 17⟩ ⟨8, 20, 8, 24⟩ ⟨8, 8, 8, 24⟩] (defScope s_BadCustoms_init) .none kV_BadCustoms dc_BadCustoms pm_BadCustoms an_BadCustoms (.ref cda_BadCustoms) ct_BadCustoms cc_BadCustoms), sl_BadCustoms⟩)
    (f2_BadCustoms : PySem.W.codeIn K (.ref cda_BadCustoms) "BadCustoms.__init__" = true)
    (f3_BadCustoms : K.lookup cda_BadCustoms = some ⟨ccl_BadCustoms, cdd_BadCustoms, .fields vs_BadCustoms, ccs_BadCustoms⟩)
    (f4_BadCustoms : vs_BadCustoms[2]? = some (.str fl_BadCustoms tf_BadCustoms))
    (f5_BadCustoms : ((P.main.file : Str) == fl_BadCustoms) = true)
    (f6_BadCustoms : K.lookup cc_BadCustoms = some ⟨ce_BadCustoms, cld_BadCustoms, .cell (some (.ref a_BadCustoms)), csl_BadCustoms⟩)
    (g1_BadCustoms : PySem.W.mroIn K a_BadCustoms (.ref a_BadCustoms) = some true)
    (g2_BadCustoms : PySem.W.subIn K (.ref a_BadCustoms) (.type "ValueError") = some true)
    (g4_BadCustoms : PySem.W.ks_superIn K a_BadCustoms a_BadCustoms "__init__" = some (some (.builtin "ValueError.__init__")))
    (g5_BadCustoms : PySem.W.findIn K (.ref a_BadCustoms) "__setattr__" = some (some (.builtin "object.__setattr__")))
    (g6_BadCustoms : PySem.W.typeIn K (.ref fI_BadCustoms) = some (.type "function"))
    (e1_BadCustoms : PySem.W.keepIn K (.ref a_BadCustoms) = true)
    (e2_BadCustoms : PySem.W.subIn K (.ref a_BadCustoms) (.type "BaseException") = some true)
    (e3_BadCustoms : PySem.W.typeIn K (.ref a_BadCustoms) = some (.type "type"))
    (x1_BadCustoms : PySem.W.findIn K (.ref a_BadCustoms) "__getattribute__" = some (some (.builtin "BaseException.__getattribute__")))
    (x2_BadCustoms : PySem.W.findIn K (.ref a_BadCustoms) "__getattr__" = some none)
    (x4_BadCustoms : PySem.W.hasDictIn K a_BadCustoms = true)
    (x5_BadCustoms : PySem.W.findIn K (.ref a_BadCustoms) "__class__" = some (some (.builtin "object.__class__")))
    (x8_BadCustoms : PySem.W.mroIn K a_BadCustoms (.type "object") = some true)
    (y_BadCustoms_what : PySem.W.findIn K (.ref a_BadCustoms) "what" = some none)
    (s2_BadCustoms : PySem.W.subIn K (.ref a_BadCustoms) (.ref a_BadCustoms) = some true)
    (h_k_bc_de : PySem.W.kitOne K (.ref a_BadCustoms) (.ref a_DeedError) = some true)
    (h_k_bc_ve : PySem.W.kitOne K (.ref a_BadCustoms) (.type "ValueError") = some true)
    (h_k_bc_bl : PySem.W.kitOne K (.ref a_BadCustoms) (.ref a_BadLives) = some false)
    (p1_Customs : PySem.W.plainGet K a_Customs Str.empty = true)
    (p2_Customs : PySem.W.hasDictIn K a_Customs = true)
    (p3_Customs : PySem.W.plainOver K a_Customs = true)
    (p4_Customs : PySem.W.findIn K (.ref a_Customs) "__setattr__" = some (some (.builtin "object.__setattr__")))
    (q_Customs_parent_age : PySem.W.findIn K (.ref a_Customs) "parent_age" = some none)
    (q_Customs_years_after : PySem.W.findIn K (.ref a_Customs) "years_after" = some none)
    (q_Customs_wed_age : PySem.W.findIn K (.ref a_Customs) "wed_age" = some none)
    (q_Customs_limit : PySem.W.findIn K (.ref a_Customs) "limit" = some none)
    (y_Customs : PySem.W.findIn K (.ref a_Customs) "__class__" = some (some (.builtin "object.__class__")))
    (z3_Customs : PySem.W.mroIn K a_Customs (.type "object") = some true)
    (k_in_Cu_NoneType : PySem.W.kitOne K (.type "NoneType") (.ref a_Customs) = some false)
    (k_in_Cu_bool : PySem.W.kitOne K (.type "bool") (.ref a_Customs) = some false)
    (k_in_Cu_int : PySem.W.kitOne K (.type "int") (.ref a_Customs) = some false)
    (k_in_Cu_str : PySem.W.kitOne K (.type "str") (.ref a_Customs) = some false)
    (k_in_Cu_list : PySem.W.kitOne K (.type "list") (.ref a_Customs) = some false)
    (k_in_Cu_tuple : PySem.W.kitOne K (.type "tuple") (.ref a_Customs) = some false)
    (nf_Customs_NoneType : PySem.W.notFirst K a_Customs (.type "NoneType") = true)
    (nf_Customs_bool : PySem.W.notFirst K a_Customs (.type "bool") = true)
    (nf_Customs_int : PySem.W.notFirst K a_Customs (.type "int") = true)
    (nf_Customs_str : PySem.W.notFirst K a_Customs (.type "str") = true)
    (nf_Customs_list : PySem.W.notFirst K a_Customs (.type "list") = true)
    (nf_Customs_tuple : PySem.W.notFirst K a_Customs (.type "tuple") = true)
    (nf2_Customs : PySem.W.notFirst K a_Customs (.ref a_Customs) = true)
    (h_k_Cu_Cu : PySem.W.kitOne K (.ref a_Customs) (.ref a_Customs) = some true)
    (a_in_Customs : PySem.W.findIn K (.ref a_Customs) "__init__" = some (some (.ref f_in_Customs)))
    (i_in_Customs : PySem.W.isFn K (.ref f_in_Customs) = true)
    (mk_in_Customs : PySem.W.makesIn K a_Customs = true)
    (kc_in_Customs : PySem.W.keepIn K (.ref a_Customs) = true)
    (l_in_Customs : K.lookup f_in_Customs = some ⟨oc_in_Customs, od_in_Customs, .func (PySem.W.fnOf "__init__" "Customs.__init__" (defArgs s_Customs_init) (defBody s_Customs_init) (defScope s_Customs_init) (.ref dT_in_Customs) (.ref dD_in_Customs) dc_in_Customs pm_in_Customs an_in_Customs cd_in_Customs ct_in_Customs), sl_in_Customs⟩)
    (c_in_Customs : PySem.W.codeIn K cd_in_Customs "Customs.__init__" = true)
    (k_in_Customs : PySem.W.keepIn K (.ref f_in_Customs) = true)
    (lT_in_Customs : K.lookup dT_in_Customs = some oT_in_Customs)
    (oT_in_Customs : oT_in_Customs.data = .seq ([.int 1 dt0_in_Customs] : List Value).toArray nT_in_Customs)
    (kq0_in_Customs : PySem.W.nsIn K dD_in_Customs "years_after" = some (some (.int 1 kt0_in_Customs)))
    (kq1_in_Customs : PySem.W.nsIn K dD_in_Customs "wed_age" = some (some (.int 0 kt1_in_Customs)))
    (kq2_in_Customs : PySem.W.nsIn K dD_in_Customs "limit" = some (some (.int 21 kt2_in_Customs)))
    (a_me_Customs_as_tuple : PySem.W.findIn K (.ref a_Customs) "as_tuple" = some (some (.ref f_me_Customs_as_tuple)))
    (i_me_Customs_as_tuple : PySem.W.isFn K (.ref f_me_Customs_as_tuple) = true)
    (l_me_Customs_as_tuple : K.lookup f_me_Customs_as_tuple = some ⟨oc_me_Customs_as_tuple, od_me_Customs_as_tuple, .func (PySem.W.fnOf "as_tuple" "Customs.as_tuple" (defArgs s_Customs_as_tuple) (defBody s_Customs_as_tuple) (defScope s_Customs_as_tuple) .none kV_me_Customs_as_tuple dc_me_Customs_as_tuple pm_me_Customs_as_tuple an_me_Customs_as_tuple cd_me_Customs_as_tuple ct_me_Customs_as_tuple), sl_me_Customs_as_tuple⟩)
    (c_me_Customs_as_tuple : PySem.W.codeIn K cd_me_Customs_as_tuple "Customs.as_tuple" = true)
    (k_me_Customs_as_tuple : PySem.W.keepIn K (.ref f_me_Customs_as_tuple) = true)
    (a_me_Customs_eq : PySem.W.findIn K (.ref a_Customs) "__eq__" = some (some (.ref f_me_Customs_eq)))
    (i_me_Customs_eq : PySem.W.isFn K (.ref f_me_Customs_eq) = true)
    (l_me_Customs_eq : K.lookup f_me_Customs_eq = some ⟨oc_me_Customs_eq, od_me_Customs_eq, .func (PySem.W.fnOf "__eq__" "Customs.__eq__" (defArgs s_Customs_eq) (defBody s_Customs_eq) (defScope s_Customs_eq) .none kV_me_Customs_eq dc_me_Customs_eq pm_me_Customs_eq an_me_Customs_eq cd_me_Customs_eq ct_me_Customs_eq), sl_me_Customs_eq⟩)
    (c_me_Customs_eq : PySem.W.codeIn K cd_me_Customs_eq "Customs.__eq__" = true)
    (k_me_Customs_eq : PySem.W.keepIn K (.ref f_me_Customs_eq) = true)
    (a_fn_is_whole : PySem.W.nsIn K mainGlobals "is_whole" = some (some (.ref f_fn_is_whole)))
    (l_fn_is_whole : K.lookup f_fn_is_whole = some ⟨oc_fn_is_whole, od_fn_is_whole, .func (PySem.W.fnOf "is_whole" "is_whole" (defArgs s_is_whole) (defBody s_is_whole) (defScope s_is_whole) .none kV_fn_is_whole dc_fn_is_whole pm_fn_is_whole an_fn_is_whole cd_fn_is_whole ct_fn_is_whole), sl_fn_is_whole⟩)
    (c_fn_is_whole : PySem.W.codeIn K cd_fn_is_whole "is_whole" = true)
    (k_fn_is_whole : PySem.W.keepIn K (.ref f_fn_is_whole) = true)
    (a_fn_is_name : PySem.W.nsIn K mainGlobals "is_name" = some (some (.ref f_fn_is_name)))
    (l_fn_is_name : K.lookup f_fn_is_name = some ⟨oc_fn_is_name, od_fn_is_name, .func (PySem.W.fnOf "is_name" "is_name" (defArgs s_is_name) (defBody s_is_name) (defScope s_is_name) .none kV_fn_is_name dc_fn_is_name pm_fn_is_name an_fn_is_name cd_fn_is_name ct_fn_is_name), sl_fn_is_name⟩)
    (c_fn_is_name : PySem.W.codeIn K cd_fn_is_name "is_name" = true)
    (k_fn_is_name : PySem.W.keepIn K (.ref f_fn_is_name) = true)
    (a_fn_digits : PySem.W.nsIn K mainGlobals "_law_digits" = some (some (.ref f_fn_digits)))
    (l_fn_digits : K.lookup f_fn_digits = some ⟨oc_fn_digits, od_fn_digits, .func (PySem.W.fnOf "_law_digits" "_law_digits" (defArgs s_digits) (defBody s_digits) (defScope s_digits) .none kV_fn_digits dc_fn_digits pm_fn_digits an_fn_digits cd_fn_digits ct_fn_digits), sl_fn_digits⟩)
    (c_fn_digits : PySem.W.codeIn K cd_fn_digits "_law_digits" = true)
    (k_fn_digits : PySem.W.keepIn K (.ref f_fn_digits) = true)
    (a_fn_next : PySem.W.nsIn K mainGlobals "_law_next" = some (some (.ref f_fn_next)))
    (l_fn_next : K.lookup f_fn_next = some ⟨oc_fn_next, od_fn_next, .func (PySem.W.fnOf "_law_next" "_law_next" (defArgs s_next) (defBody s_next) (defScope s_next) .none kV_fn_next dc_fn_next pm_fn_next an_fn_next cd_fn_next ct_fn_next), sl_fn_next⟩)
    (c_fn_next : PySem.W.codeIn K cd_fn_next "_law_next" = true)
    (k_fn_next : PySem.W.keepIn K (.ref f_fn_next) = true)
    (a_fn_far : PySem.W.nsIn K mainGlobals "_law_far" = some (some (.ref f_fn_far)))
    (l_fn_far : K.lookup f_fn_far = some ⟨oc_fn_far, od_fn_far, .func (PySem.W.fnOf "_law_far" "_law_far" (defArgs s_far) (defBody s_far) (defScope s_far) .none kV_fn_far dc_fn_far pm_fn_far an_fn_far cd_fn_far ct_fn_far), sl_fn_far⟩)
    (c_fn_far : PySem.W.codeIn K cd_fn_far "_law_far" = true)
    (k_fn_far : PySem.W.keepIn K (.ref f_fn_far) = true)
    (a_fn_thing : PySem.W.nsIn K mainGlobals "_law_thing" = some (some (.ref f_fn_thing)))
    (l_fn_thing : K.lookup f_fn_thing = some ⟨oc_fn_thing, od_fn_thing, .func (PySem.W.fnOf "_law_thing" "_law_thing" (defArgs s_thing) (defBody s_thing) (defScope s_thing) .none kV_fn_thing dc_fn_thing pm_fn_thing an_fn_thing cd_fn_thing ct_fn_thing), sl_fn_thing⟩)
    (c_fn_thing : PySem.W.codeIn K cd_fn_thing "_law_thing" = true)
    (k_fn_thing : PySem.W.keepIn K (.ref f_fn_thing) = true)
    (a_fn_word : PySem.W.nsIn K mainGlobals "_law_word" = some (some (.ref f_fn_word)))
    (l_fn_word : K.lookup f_fn_word = some ⟨oc_fn_word, od_fn_word, .func (PySem.W.fnOf "_law_word" "_law_word" (defArgs s_word) (defBody s_word) (defScope s_word) .none kV_fn_word dc_fn_word pm_fn_word an_fn_word cd_fn_word ct_fn_word), sl_fn_word⟩)
    (c_fn_word : PySem.W.codeIn K cd_fn_word "_law_word" = true)
    (k_fn_word : PySem.W.keepIn K (.ref f_fn_word) = true)
    (a_fn_right : PySem.W.nsIn K mainGlobals "_law_right" = some (some (.ref f_fn_right)))
    (l_fn_right : K.lookup f_fn_right = some ⟨oc_fn_right, od_fn_right, .func (PySem.W.fnOf "_law_right" "_law_right" (defArgs s_right) (defBody s_right) (defScope s_right) .none kV_fn_right dc_fn_right pm_fn_right an_fn_right cd_fn_right ct_fn_right), sl_fn_right⟩)
    (c_fn_right : PySem.W.codeIn K cd_fn_right "_law_right" = true)
    (k_fn_right : PySem.W.keepIn K (.ref f_fn_right) = true)
    (a_fn_customs_words : PySem.W.nsIn K mainGlobals "_law_customs_words" = some (some (.ref f_fn_customs_words)))
    (l_fn_customs_words : K.lookup f_fn_customs_words = some ⟨oc_fn_customs_words, od_fn_customs_words, .func (PySem.W.fnOf "_law_customs_words" "_law_customs_words" (defArgs s_customs_words) (defBody s_customs_words) (defScope s_customs_words) .none kV_fn_customs_words dc_fn_customs_words pm_fn_customs_words an_fn_customs_words cd_fn_customs_words ct_fn_customs_words), sl_fn_customs_words⟩)
    (c_fn_customs_words : PySem.W.codeIn K cd_fn_customs_words "_law_customs_words" = true)
    (k_fn_customs_words : PySem.W.keepIn K (.ref f_fn_customs_words) = true)
    (a_fn_asked : PySem.W.nsIn K mainGlobals "_law_asked" = some (some (.ref f_fn_asked)))
    (l_fn_asked : K.lookup f_fn_asked = some ⟨oc_fn_asked, od_fn_asked, .func (PySem.W.fnOf "_law_asked" "_law_asked" (defArgs s_asked) (defBody s_asked) (defScope s_asked) .none kV_fn_asked dc_fn_asked pm_fn_asked an_fn_asked cd_fn_asked ct_fn_asked), sl_fn_asked⟩)
    (c_fn_asked : PySem.W.codeIn K cd_fn_asked "_law_asked" = true)
    (k_fn_asked : PySem.W.keepIn K (.ref f_fn_asked) = true)
    (a_fn_says : PySem.W.nsIn K mainGlobals "_law_says" = some (some (.ref f_fn_says)))
    (l_fn_says : K.lookup f_fn_says = some ⟨oc_fn_says, od_fn_says, .func (PySem.W.fnOf "_law_says" "_law_says" (defArgs s_says) (defBody s_says) (defScope s_says) .none kV_fn_says dc_fn_says pm_fn_says an_fn_says cd_fn_says ct_fn_says), sl_fn_says⟩)
    (c_fn_says : PySem.W.codeIn K cd_fn_says "_law_says" = true)
    (k_fn_says : PySem.W.keepIn K (.ref f_fn_says) = true)
    (opq : PySem.W.nsIn K cStatics "thirdparty.any" = some none) (stop : (P.main.scope.names.lookup ("super" : Str)).isSome = false)
    (zz1 : PySem.W.specialIn K (.builtin "object.__class__") "__get__" = some (some (.builtin "getset_descriptor.__get__"))) (zz2 : PySem.W.takesIn K (.builtin "object.__class__") = some true) :
    Txt P w K mg (clOf a_DeedError a_BadCustoms a_BadLives a_Customs) where
  n_len := PySem.W.mg_none_of X G z_len
  n_int := PySem.W.mg_none_of X G z_int
  n_str := PySem.W.mg_none_of X G z_str
  n_bool := PySem.W.mg_none_of X G z_bool
  n_list := PySem.W.mg_none_of X G z_list
  n_tuple := PySem.W.mg_none_of X G z_tuple
  n_isinstance := PySem.W.mg_none_of X G z_isinstance
  n_range := PySem.W.mg_none_of X G z_range
  n_all := PySem.W.mg_none_of X G z_all
  n_ValueError := PySem.W.mg_none_of X G z_ValueError
  n_super := PySem.W.mg_none_of X G z_super
  c_LETTERS := ⟨_, PySem.W.mg_of X G k_LETTERS, ⟨_, rfl⟩⟩
  c_MOST := ⟨_, PySem.W.mg_of X G k_MOST, ⟨_, rfl⟩⟩
  c_MOST_YEAR := ⟨_, PySem.W.mg_of X G k_MOST_YEAR, ⟨_, rfl⟩⟩
  c_LATE := ⟨_, PySem.W.mg_of X G k_LATE, ⟨_, rfl⟩⟩
  c_WIDEST := ⟨_, PySem.W.mg_of X G k_WIDEST, ⟨_, rfl⟩⟩
  m_DeedError := PySem.W.mg_of X G m_DeedError
  m_BadCustoms := PySem.W.mg_of X G m_BadCustoms
  m_BadLives := PySem.W.mg_of X G m_BadLives
  m_Customs := PySem.W.mg_of X G m_Customs
  e_BadCustoms := PySem.ErrL.makes1 (C := a_BadCustoms) (fI := fI_BadCustoms) ⟨⟨_, _, _, _, _, _, _, _, _, _, _, _, _, _, _, c1_BadCustoms, c2_BadCustoms⟩, ⟨_, _, _, _, _, _, _, _, _, _, _, _, _, _, _, _, _, _, _, f1_BadCustoms, f2_BadCustoms, f3_BadCustoms, f4_BadCustoms, f5_BadCustoms, f6_BadCustoms⟩, g1_BadCustoms, g2_BadCustoms, opq, g4_BadCustoms, g5_BadCustoms, i_BadCustoms, g6_BadCustoms, stop⟩ (w_BadCustoms P w) e1_BadCustoms e2_BadCustoms e3_BadCustoms y_BadCustoms_what (by decide) (by decide) (PySem.W.mg_none_of X G z_super) (PySem.W.mg_none_of X G z_str) (fun _ _ _ _ _ _ _ _ _ => rfl)
  x_BadCustoms := ⟨x1_BadCustoms, x2_BadCustoms, e2_BadCustoms, x4_BadCustoms, x5_BadCustoms, zz1, zz2, x8_BadCustoms⟩
  xf_BadCustoms_what := y_BadCustoms_what
  is_BadCustoms := PySem.W.exm_ref e2_BadCustoms x4_BadCustoms e3_BadCustoms s2_BadCustoms
  k_bc_de := h_k_bc_de
  k_bc_ve := h_k_bc_ve
  k_bc_bl := h_k_bc_bl
  cl_Customs := ⟨p1_Customs, p2_Customs, p3_Customs, p4_Customs⟩
  na_Customs := (List.forall_mem_cons.mpr ⟨q_Customs_parent_age, (List.forall_mem_cons.mpr ⟨q_Customs_years_after, (List.forall_mem_cons.mpr ⟨q_Customs_wed_age, (List.forall_mem_cons.mpr ⟨q_Customs_limit, (fun _ h => by cases h)⟩)⟩)⟩)⟩)
  y_Customs := y_Customs
  z3_Customs := z3_Customs
  k_in_Cu := (List.forall_mem_cons.mpr ⟨k_in_Cu_NoneType, (List.forall_mem_cons.mpr ⟨k_in_Cu_bool, (List.forall_mem_cons.mpr ⟨k_in_Cu_int, (List.forall_mem_cons.mpr ⟨k_in_Cu_str, (List.forall_mem_cons.mpr ⟨k_in_Cu_list, (List.forall_mem_cons.mpr ⟨k_in_Cu_tuple, (fun _ h => by cases h)⟩)⟩)⟩)⟩)⟩)⟩)
  nf_Customs := (List.forall_mem_cons.mpr ⟨nf_Customs_NoneType, (List.forall_mem_cons.mpr ⟨nf_Customs_bool, (List.forall_mem_cons.mpr ⟨nf_Customs_int, (List.forall_mem_cons.mpr ⟨nf_Customs_str, (List.forall_mem_cons.mpr ⟨nf_Customs_list, (List.forall_mem_cons.mpr ⟨nf_Customs_tuple, (fun _ h => by cases h)⟩)⟩)⟩)⟩)⟩)⟩)
  nf2_Customs := nf2_Customs
  k_Cu_Cu := h_k_Cu_Cu
  i_Customs := ⟨_, _, ⟨⟨_, _, _, _, _, _, _, _, _, _, rfl, l_in_Customs, c_in_Customs, .inr ⟨by decide, _, _, _, _, rfl, lT_in_Customs, oT_in_Customs, (.cons ⟨_, rfl⟩ .nil)⟩, .inr ⟨_, rfl, (List.forall_mem_cons.mpr ⟨⟨_, kq0_in_Customs, ⟨_, rfl⟩⟩, (List.forall_mem_cons.mpr ⟨⟨_, kq1_in_Customs, ⟨_, rfl⟩⟩, (List.forall_mem_cons.mpr ⟨⟨_, kq2_in_Customs, ⟨_, rfl⟩⟩, (fun _ h => by cases h)⟩)⟩)⟩)⟩⟩, k_in_Customs⟩, ⟨mk_in_Customs, a_in_Customs, i_in_Customs, kc_in_Customs⟩⟩
  d_as_tuple := ⟨_, _, fun_mk (st := s_Customs_as_tuple) l_me_Customs_as_tuple c_me_Customs_as_tuple k_me_Customs_as_tuple, ⟨a_me_Customs_as_tuple, i_me_Customs_as_tuple, k_me_Customs_as_tuple⟩⟩
  d_eq := ⟨_, _, fun_mk (st := s_Customs_eq) l_me_Customs_eq c_me_Customs_eq k_me_Customs_eq, ⟨a_me_Customs_eq, i_me_Customs_eq, k_me_Customs_eq⟩⟩
  d_is_whole := ⟨_, _, fun_mk (st := s_is_whole) l_fn_is_whole c_fn_is_whole k_fn_is_whole, PySem.W.mg_of X G a_fn_is_whole⟩
  d_is_name := ⟨_, _, fun_mk (st := s_is_name) l_fn_is_name c_fn_is_name k_fn_is_name, PySem.W.mg_of X G a_fn_is_name⟩
  d_digits := ⟨_, _, fun_mk (st := s_digits) l_fn_digits c_fn_digits k_fn_digits, PySem.W.mg_of X G a_fn_digits⟩
  d_next := ⟨_, _, fun_mk (st := s_next) l_fn_next c_fn_next k_fn_next, PySem.W.mg_of X G a_fn_next⟩
  d_far := ⟨_, _, fun_mk (st := s_far) l_fn_far c_fn_far k_fn_far, PySem.W.mg_of X G a_fn_far⟩
  d_thing := ⟨_, _, fun_mk (st := s_thing) l_fn_thing c_fn_thing k_fn_thing, PySem.W.mg_of X G a_fn_thing⟩
  d_word := ⟨_, _, fun_mk (st := s_word) l_fn_word c_fn_word k_fn_word, PySem.W.mg_of X G a_fn_word⟩
  d_right := ⟨_, _, fun_mk (st := s_right) l_fn_right c_fn_right k_fn_right, PySem.W.mg_of X G a_fn_right⟩
  d_customs_words := ⟨_, _, fun_mk (st := s_customs_words) l_fn_customs_words c_fn_customs_words k_fn_customs_words, PySem.W.mg_of X G a_fn_customs_words⟩
  d_asked := ⟨_, _, fun_mk (st := s_asked) l_fn_asked c_fn_asked k_fn_asked, PySem.W.mg_of X G a_fn_asked⟩
  d_says := ⟨_, _, fun_mk (st := s_says) l_fn_says c_fn_says k_fn_says, PySem.W.mg_of X G a_fn_says⟩
  z1 := zz1
  z2 := zz2
theorem law_end {l : PySem.W.OpenLaw} {w : World} {K : PySem.W.Frag} {h : Heap} {mg : Str → Option Value} {fa : Addr} {cl : String → Addr} (T : Txt l.prog w K mg cl) (X : K.In h) (G : h.Ns mainGlobals mg) (hfa : mg "law" = some (.ref fa))
    {od an : Option Addr} {sl : Array (Option Value)} {oc kV dc pm cd ct : Value} {f : Addr} (a : PySem.W.nsIn K mainGlobals "law" = some (some (.ref f)))
    (lk : K.lookup f = some ⟨oc, od, .func (PySem.W.fnOf "law" "law" (defArgs s_law) (defBody s_law) (defScope s_law) .none kV dc pm an cd ct), sl⟩) (c : PySem.W.codeIn K cd "law" = true) (k : PySem.W.keepIn K (.ref f) = true) :
    ∃ fd : FuncData, (∀ (s : Shared) (v : Value), BindsTo s fd ⟨[v], []⟩ [("_law_script", v)]) ∧ ∀ base : Heap, K.In base → base.Ns mainGlobals mg → FnOk l.prog w K mg base CX0 8 fa fd ["_law_script"] (spLaw K) := by
  have e := hfa.symm.trans (PySem.W.mg_of X G a)
  cases e
  exact ⟨PySem.W.fnOf "law" "law" (defArgs s_law) (defBody s_law) (defScope s_law) .none kV dc pm an cd ct, fun s v => .of_eq rfl, fun base _ _ => ok_law (fun_mk (st := s_law) lk c k) T⟩
theorem walk {l : PySem.W.OpenLaw} {q : Program} {loose : List Str} {XP : (Str → Option Value) → Heap → Prop} {YP : World → Heap → Prop} {d : DefRec} {K : Params → PySem.W.Frag} (hn : l.most = some 63) (hdf : d.params.defaults = [])
    (hY : ∀ (w : World) (h : Heap), YP w h → (K w.params).In h)
    (F : ∀ (w : World) (mg : Str → Option Value) (fa : Addr) (h : Heap), (K w.params).In h → h.Ns mainGlobals mg → mg d.name = some (.ref fa) →
      ∃ fd : FuncData, (∀ (s : Shared) (u : Value), BindsTo s fd ⟨[u], []⟩ [("_law_script", u)]) ∧ ∀ base : Heap, (K w.params).In base → base.Ns mainGlobals mg → FnOk l.prog w (K w.params) mg base CX0 8 fa fd ["_law_script"] (spLaw (K w.params))) :
    PySem.W.WalkO q loose XP YP l.row.toRowW d [] (fun f vs => PySem.call f vs) :=
  L2.walk_of (n := 63) (k := 8) (x := "_law_script") (CX := fun _ => CX0) (sp := fun w => spLaw (K w.params)) hn (by decide) hdf ⟨rfl, by decide, by decide⟩ hY F (fun _ _ a ns hl _ hS => ⟨a, ns, rfl, hS, hl, fun _ => rfl⟩) fun _ _ _ _ _ z => z
end My
open PySem PySem.W PyProof.Rows
set_option maxRecDepth 100000 in
set_option maxHeartbeats 0 in
theorem PySem.Challenge.cw_lastlife_k01_numbers_names_customs_holds : PySem.Challenge.rw_lastlife_k01_numbers_names_customs.Holds := by
  w_on; o_law; k_head; (case hw => w_witness2)
  k_fill
  refine My.walk (l := PySem.Challenge.rw_lastlife_k01_numbers_names_customs) rfl rfl (fun w h Y => PySem.W.kIn_of Y) ?F
  case F =>
    intro w mg fa h KX G hmg
    refine' My.law_end (My.txt_mk KX G ?z_len ?z_int ?z_str ?z_bool ?z_list ?z_tuple ?z_isinstance ?z_range ?z_all ?z_ValueError ?z_super ?k_LETTERS ?k_MOST ?k_MOST_YEAR ?k_LATE ?k_WIDEST ?m_DeedError ?m_BadCustoms ?m_BadLives ?m_Customs ?i_BadCustoms ?c1_BadCustoms ?c2_BadCustoms ?f1_BadCustoms ?f2_BadCustoms ?f3_BadCustoms ?f4_BadCustoms ?f5_BadCustoms ?f6_BadCustoms ?g1_BadCustoms ?g2_BadCustoms ?g4_BadCustoms ?g5_BadCustoms ?g6_BadCustoms ?e1_BadCustoms ?e2_BadCustoms ?e3_BadCustoms ?x1_BadCustoms ?x2_BadCustoms ?x4_BadCustoms ?x5_BadCustoms ?x8_BadCustoms ?y_BadCustoms_what ?s2_BadCustoms ?h_k_bc_de ?h_k_bc_ve ?h_k_bc_bl ?p1_Customs ?p2_Customs ?p3_Customs ?p4_Customs ?q_Customs_parent_age ?q_Customs_years_after ?q_Customs_wed_age ?q_Customs_limit ?y_Customs ?z3_Customs ?k_in_Cu_NoneType ?k_in_Cu_bool ?k_in_Cu_int ?k_in_Cu_str ?k_in_Cu_list ?k_in_Cu_tuple ?nf_Customs_NoneType ?nf_Customs_bool ?nf_Customs_int ?nf_Customs_str ?nf_Customs_list ?nf_Customs_tuple ?nf2_Customs ?h_k_Cu_Cu ?a_in_Customs ?i_in_Customs ?mk_in_Customs ?kc_in_Customs ?l_in_Customs ?c_in_Customs ?k_in_Customs ?lT_in_Customs ?oT_in_Customs ?kq0_in_Customs ?kq1_in_Customs ?kq2_in_Customs ?a_me_Customs_as_tuple ?i_me_Customs_as_tuple ?l_me_Customs_as_tuple ?c_me_Customs_as_tuple ?k_me_Customs_as_tuple ?a_me_Customs_eq ?i_me_Customs_eq ?l_me_Customs_eq ?c_me_Customs_eq ?k_me_Customs_eq ?a_fn_is_whole ?l_fn_is_whole ?c_fn_is_whole ?k_fn_is_whole ?a_fn_is_name ?l_fn_is_name ?c_fn_is_name ?k_fn_is_name ?a_fn_digits ?l_fn_digits ?c_fn_digits ?k_fn_digits ?a_fn_next ?l_fn_next ?c_fn_next ?k_fn_next ?a_fn_far ?l_fn_far ?c_fn_far ?k_fn_far ?a_fn_thing ?l_fn_thing ?c_fn_thing ?k_fn_thing ?a_fn_word ?l_fn_word ?c_fn_word ?k_fn_word ?a_fn_right ?l_fn_right ?c_fn_right ?k_fn_right ?a_fn_customs_words ?l_fn_customs_words ?c_fn_customs_words ?k_fn_customs_words ?a_fn_asked ?l_fn_asked ?c_fn_asked ?k_fn_asked ?a_fn_says ?l_fn_says ?c_fn_says ?k_fn_says ?opq ?stop ?zz1 ?zz2) KX G hmg ?a ?lk ?c ?k
    (case z_len => k_is)
    (case z_int => k_is)
    (case z_str => k_is)
    (case z_bool => k_is)
    (case z_list => k_is)
    (case z_tuple => k_is)
    (case z_isinstance => k_is)
    (case z_range => k_is)
    (case z_all => k_is)
    (case z_ValueError => k_is)
    (case z_super => k_is)
    (case k_LETTERS => k_is)
    (case k_MOST => k_is)
    (case k_MOST_YEAR => k_is)
    (case k_LATE => k_is)
    (case k_WIDEST => k_is)
    (case m_DeedError => k_is)
    (case m_BadCustoms => k_is)
    (case m_BadLives => k_is)
    (case m_Customs => k_is)
    (case i_BadCustoms => k_is)
    (case c1_BadCustoms => k_is)
    (case c2_BadCustoms => decide +kernel)
    (case f1_BadCustoms => k_is)
    (case f2_BadCustoms => k_is)
    (case f3_BadCustoms => k_is)
    (case f4_BadCustoms => rfl)
    (case f5_BadCustoms => decide +kernel)
    (case f6_BadCustoms => k_is)
    (case g1_BadCustoms => k_is)
    (case g2_BadCustoms => k_is)
    (case g4_BadCustoms => kernel_rfl)
    (case g5_BadCustoms => k_is)
    (case g6_BadCustoms => k_is)
    (case e1_BadCustoms => k_is)
    (case e2_BadCustoms => k_is)
    (case e3_BadCustoms => k_is)
    (case x1_BadCustoms => k_is)
    (case x2_BadCustoms => k_is)
    (case x4_BadCustoms => k_is)
    (case x5_BadCustoms => k_is)
    (case x8_BadCustoms => k_is)
    (case y_BadCustoms_what => k_is)
    (case s2_BadCustoms => first | k_is | kernel_rfl)
    (case h_k_bc_de => kernel_rfl)
    (case h_k_bc_ve => kernel_rfl)
    (case h_k_bc_bl => kernel_rfl)
    (case p1_Customs => k_is)
    (case p2_Customs => k_is)
    (case p3_Customs => k_is)
    (case p4_Customs => k_is)
    (case q_Customs_parent_age => k_is)
    (case q_Customs_years_after => k_is)
    (case q_Customs_wed_age => k_is)
    (case q_Customs_limit => k_is)
    (case y_Customs => k_is)
    (case z3_Customs => k_is)
    (case k_in_Cu_NoneType => kernel_rfl)
    (case k_in_Cu_bool => kernel_rfl)
    (case k_in_Cu_int => kernel_rfl)
    (case k_in_Cu_str => kernel_rfl)
    (case k_in_Cu_list => kernel_rfl)
    (case k_in_Cu_tuple => kernel_rfl)
    (case nf_Customs_NoneType => k_is)
    (case nf_Customs_bool => k_is)
    (case nf_Customs_int => k_is)
    (case nf_Customs_str => k_is)
    (case nf_Customs_list => k_is)
    (case nf_Customs_tuple => k_is)
    (case nf2_Customs => k_is)
    (case h_k_Cu_Cu => kernel_rfl)
    (case a_in_Customs => k_is)
    (case i_in_Customs => k_is)
    (case mk_in_Customs => k_is)
    (case kc_in_Customs => k_is)
    (case l_in_Customs => k_is)
    (case c_in_Customs => k_is)
    (case k_in_Customs => k_is)
    (case lT_in_Customs => k_is)
    (case oT_in_Customs => rfl)
    (case kq0_in_Customs => k_is)
    (case kq1_in_Customs => k_is)
    (case kq2_in_Customs => k_is)
    (case a_me_Customs_as_tuple => k_is)
    (case i_me_Customs_as_tuple => k_is)
    (case l_me_Customs_as_tuple => k_is)
    (case c_me_Customs_as_tuple => k_is)
    (case k_me_Customs_as_tuple => k_is)
    (case a_me_Customs_eq => k_is)
    (case i_me_Customs_eq => k_is)
    (case l_me_Customs_eq => k_is)
    (case c_me_Customs_eq => k_is)
    (case k_me_Customs_eq => k_is)
    (case a_fn_is_whole => k_is)
    (case l_fn_is_whole => k_is)
    (case c_fn_is_whole => k_is)
    (case k_fn_is_whole => k_is)
    (case a_fn_is_name => k_is)
    (case l_fn_is_name => k_is)
    (case c_fn_is_name => k_is)
    (case k_fn_is_name => k_is)
    (case a_fn_digits => k_is)
    (case l_fn_digits => k_is)
    (case c_fn_digits => k_is)
    (case k_fn_digits => k_is)
    (case a_fn_next => k_is)
    (case l_fn_next => k_is)
    (case c_fn_next => k_is)
    (case k_fn_next => k_is)
    (case a_fn_far => k_is)
    (case l_fn_far => k_is)
    (case c_fn_far => k_is)
    (case k_fn_far => k_is)
    (case a_fn_thing => k_is)
    (case l_fn_thing => k_is)
    (case c_fn_thing => k_is)
    (case k_fn_thing => k_is)
    (case a_fn_word => k_is)
    (case l_fn_word => k_is)
    (case c_fn_word => k_is)
    (case k_fn_word => k_is)
    (case a_fn_right => k_is)
    (case l_fn_right => k_is)
    (case c_fn_right => k_is)
    (case k_fn_right => k_is)
    (case a_fn_customs_words => k_is)
    (case l_fn_customs_words => k_is)
    (case c_fn_customs_words => k_is)
    (case k_fn_customs_words => k_is)
    (case a_fn_asked => k_is)
    (case l_fn_asked => k_is)
    (case c_fn_asked => k_is)
    (case k_fn_asked => k_is)
    (case a_fn_says => k_is)
    (case l_fn_says => k_is)
    (case c_fn_says => k_is)
    (case k_fn_says => k_is)
    (case opq => k_is); (case stop => decide +kernel); (case zz1 => k_is); (case zz2 => k_is); (case a => k_is); (case lk => k_is); (case c => k_is); (case k => k_is)
