import PyProof.Rows.All
import Wide.All
import OpenK.AllK
import Wide.FinOn
import HandS.ForMost
import HandS.ForExc
import HandS.ExcInit
import KE.KExcSuper
import HandS.IsInst
import HandS.ExcIs
import HandS.ExcField
import HandS.MakeKwOnly
import HandS.ExcOwn
import HandS.Codes
import HandS.Style
import HandS.Flow
import HandS.ClsMeth
import HandS.ExcValue
import HandS.Base
import HandS.Call
import HandS.Exc
import HandS.List
import KE.KStateDown
import HandS.Ends
import HandS.More
import HandS.Words
import HandS.WordsExc
import HandS.Defaults
import HandS.Head0
import HandS.Head1
import HandS.Head2
import HandS.HeadEnd
import HandS.HeadHook1
import HandS.HeadHook2
import PySem.Challenge.RW_lastlife_k00_errors_side_by_side
import PyProof.P3Eq
set_option Elab.async false
set_option linter.all false
set_option maxRecDepth 100000
set_option maxHeartbeats 4000000
namespace PySem
namespace ErrL
open PySem.W PySem.Calls PyProof.Rows PySem.HandSPX
/-! own errors whose first row calls the base's maker through super() -/
def supS (args : List Expr) (a1 a2 a3 a4 a5 : Pos) : Stmt :=
  .Expr (.Call (.Attribute (.Call (.Name "super" a1) [] [] a2) "__init__" a3) args [] a4) a5
def stoS (f : Str) (q1 q2 q3 q4 : Pos) : Stmt :=
  .Assign [.Attribute (.Name "self" q1) f q2] (.Name f q3) q4
/-- the facts about an error class at C whose maker stands at fI -/
structure SupC (prog : Program) (K : Frag) (C fI : Addr) (qual : Str) (params : Arguments) (body : List Stmt) (scope : Scope) : Prop where
  cls : ∃ nm q N bs bm sn sub ab col dd k0 k1 k2 k3 k5, K.lookup C = some (excClassObj nm q C N bs bm true sn sub ab col dd k0 k1 k2 k3 k5 "ValueError.__new__") ∧ refsVE bm = true
  fn : ∃ (oc : Value) (od : Option Addr) (kV doc pm : Value) (an : Option Addr) (cda : Addr) (ct : Value) (osl : Array (Option Value)) (cc : Addr) (vs : Array Value) (file : Str) (tf : Tok) (ccl : Value) (cdd : Option Addr) (ccs : Array (Option Value)) (cl : Value) (cld : Option Addr) (csl : Array (Option Value)),
    K.lookup fI = some ⟨oc, od, .func (ksFn "__init__" qual params body scope .none kV doc pm an (.ref cda) ct cc), osl⟩ ∧ codeIn K (.ref cda) qual = true ∧
    K.lookup cda = some ⟨ccl, cdd, .fields vs, ccs⟩ ∧ vs[2]? = some (.str file tf) ∧ ((prog.main.file : Str) == file) = true ∧
    K.lookup cc = some ⟨cl, cld, .cell (some (.ref C)), csl⟩
  self1 : mroIn K C (.ref C) = some true
  isVE : subIn K (.ref C) (.type "ValueError") = some true
  opq : nsIn K cStatics "thirdparty.any" = some none
  sup : ks_superIn K C C "__init__" = some (some (.builtin "ValueError.__init__"))
  sa : findIn K (.ref C) "__setattr__" = some (some (.builtin "object.__setattr__"))
  iC : findIn K (.ref C) "__init__" = some (some (.ref fI))
  tC : typeIn K (.ref fI) = some (.type "function")
  top : (prog.main.scope.names.lookup ("super" : Str)).isSome = false
/-- a method-wrapper of ValueError.__init__, bound to x, called -/
theorem call_mw {prog : Program} {w : World} {A : Around} {E : Value → Shared → Prop} {h : Heap} {g : Array GenState} {d : Drawn} {t : Nat} {os : OsState}
    {nm q : Str} {C N : Addr} {bs bm : List Value} {hdct : Bool} {sn : List Str} {sub : List Value} {ab : Bool} {col : Option Bool} {dd : Option Addr} {k0 k1 k2 k3 k5 : Option Value}
    {u e t0 : Addr} {rest : List Value} {Q : Value → Shared → Prop}
    (hC : h.get? C = some (excClassObj nm q C N bs bm hdct sn sub ab col dd k0 k1 k2 k3 k5 "ValueError.__new__")) (he : h.get? e = some (excO C t0)) (hu : h.get? u = some (kxs_mw "ValueError.__init__" e)) (hrest : rest.length ≤ sizeLine)
    (hq : ∀ h' t1, (∀ b o, b ≠ e → h.get? b = some o → h'.get? b = some o) → h'.get? e = some (excO C t1) → Q .none ⟨h', g, d, t, os⟩) :
    wpAny (model prog w) A (call (.ref u) rest) Q E ⟨h, g, d, t, os⟩ := by
  refine wpAny_call (codeAny_of_tree ?_)
  show wpAny _ A.in1 (callAny (.ref u) ⟨rest, []⟩) _ _ _
  simp only [callAny]
  refine wpAny_bind (wpAny_load hu ?_)
  refine KFB.if_so (by rfl) ?_
  refine wpAny_bind (check_bound_init F.excBase_ValueError.toExcCallFacts hC he rfl ?_)
  refine wpAny_bind (wpAny_pure (wpAny_pure ?_))
  refine ⟨plainId_quiet F.excBase_ValueError.init.plain _, codeAny_builtin F.excBase_ValueError.initEntry ?_⟩
  wp_walk
  refine hq _ h.objs.size (fun b o hb ho => ?_) ?_
  · rw [Heap.get?_update_other _ _ (Ne.symm hb)]
    exact Heap.get?_push_of_some _ ho
  · rw [Heap.get?_update_self _ (Heap.get?_push_of_some _ he) rfl]
    rfl

/-- what stands behind super().__init__(..): the exception has new args, all else is kept -/
theorem sup_first {prog : Program} {w : World} {A : Around} {E : Value → Shared → Prop} {K : Frag} {C fI : Addr} {qual : Str} {body : List Stmt} {scope : Scope} {mg mb : Str → Option Value}
    {ar : Arg} {x t0 L cda cc : Addr} {m : Str → Option Value} {e0 : Expr} {es : List Expr} {a1 a2 a3 a4 a5 : Pos} {s : Shared} {Q : Flow → Shared → Prop} {fd : FuncData} {oc ccl cl : Value} {od cdd cld : Option Addr} {osl ccs csl : Array (Option Value)} {vs : Array Value} {file : Str} {tf : Tok}
    {nm q : Str} {N : Addr} {bs bm : List Value} {sn : List Str} {sub : List Value} {ab : Bool} {col : Option Bool} {dd : Option Addr} {k0 k1 k2 k3 k5 : Option Value}
    (hC : K.lookup C = some (excClassObj nm q C N bs bm true sn sub ab col dd k0 k1 k2 k3 k5 "ValueError.__new__"))
    (X : K.In s.heap) (hg : s.heap.Ns mainGlobals mg) (hb : s.heap.Ns builtinsNs mb) (hbt : ∀ y : Str, y ≠ "__name__" → mb y = bootBuiltins y) (hsu : mg "super" = none)
    (hf : K.lookup fI = some ⟨oc, od, .func fd, osl⟩) (hp : (fd.params.posonlyargs ++ fd.params.args).head? = some ar)
    (hcode : K.lookup cda = some ⟨ccl, cdd, .fields vs, ccs⟩) (hvs : vs[2]? = some (.str file tf)) (hfile : ((prog.main.file : Str) == file) = true) (hcell : K.lookup cc = some ⟨cl, cld, .cell (some (.ref C)), csl⟩)
    (self1 : mroIn K C (.ref C) = some true) (isVE : subIn K (.ref C) (.type "ValueError") = some true) (opq : nsIn K cStatics "thirdparty.any" = some none) (sup : ks_superIn K C C "__init__" = some (some (.builtin "ValueError.__init__")))
    (htop : (prog.main.scope.names.lookup ("super" : Str)).isSome = false)
    (hns : s.heap.Ns L m) (hv : m ar.arg = some (.ref x)) (hx : s.heap.get? x = some (excO C t0))
    (hks : scope.names.lookup ("super" : Str) = some .globalImplicit) (hkc : scope.names.lookup ("__class__" : Str) = some .free) (hka : scope.names.lookup ar.arg = some .local) (hk : scope.kind = .function)
    (hargs : ∀ (s1 : Shared) (Q1 : List Value → Shared → Prop), s1.heap.Ns L m → s1.heap.Ns mainGlobals mg → s1.heap.Ns builtinsNs mb → (∀ us tk, us.length ≤ 10 → Q1 us { s1 with toks := tk }) →
      wpAny (model prog w) A (spliced (backTo a4 (starEach (e0 :: es) (ksEnv qual scope L fI (.ref cda) cc)))) Q1 E s1)
    (he : starEach (e0 :: es) (ksEnv qual scope L fI (.ref cda) cc) = (false, eval e0 (ksEnv qual scope L fI (.ref cda) cc)) :: starEach es (ksEnv qual scope L fI (.ref cda) cc))
    (hpl : (backTo a4 (starEach es (ksEnv qual scope L fI (.ref cda) cc))).any (·.1) = false)
    (hi : interactive (ksEnv qual scope L fI (.ref cda) cc) = false) {pl : Sem Bool}
    (hev : eval (.Call (.Attribute (.Call (.Name "super" a1) [] [] a2) "__init__" a3) (e0 :: es) [] a4) (ksEnv qual scope L fI (.ref cda) cc) = (do
      let ov ← attributeBase (.Call (.Name "super" a1) [] [] a2) "__init__" (ksEnv qual scope L fI (.ref cda) cc) (eval (.Call (.Name "super" a1) [] [] a2) (ksEnv qual scope L fI (.ref cda) cc))
      standAt a3.atName
      let (f, first) ← holding [ov] (getMethod ov "__init__" pl)
      callWith a4 f first (backTo a4 (starEach (e0 :: es) (ksEnv qual scope L fI (.ref cda) cc))) []))
    (hsw : swapsWith (.Call (.Attribute (.Call (.Name "super" a1) [] [] a2) "__init__" a3) (e0 :: es) [] a4) none a5.line (ksEnv qual scope L fI (.ref cda) cc) = pure false)
    (h : ∀ h' tk t1, (∀ b o, b ≠ x → s.heap.get? b = some o → h'.get? b = some o) → h'.get? x = some (excO C t1) → Q .next { s with heap := h', toks := tk }) :
    _root_.PySem.wpAt (model prog w) A (.func body (ksEnv qual scope L fI (.ref cda) cc)) (exec (supS (e0 :: es) a1 a2 a3 a4 a5) (ksEnv qual scope L fI (.ref cda) cc)) Q E s := by
  have hCc : clsIn K C = some { name := nm, bases := bs, mro := .ref C :: bm, ns := N, qualname := q, hasDict := true, slotNames := sn, subclasses := sub, abstract := ab, collection := col, hasDel := false } := by unfold clsIn; rw [hC] <;> rfl
  obtain ⟨hh, g, d, t, os⟩ := s
  have hCh := X _ _ hC
  have xC : x ≠ C := by
    rintro rfl
    rw [hCh] at hx
    cases hx
  unfold supS
  refine ks_wpAt_Expr_any (ks_wpAt_MethodCall ?_ hev) hi hsw
  refine ks_wpAt_super_base (env := ksEnv qual scope L fI (.ref cda) cc) hks hkc (by decide) rfl (X _ _ hf) rfl hp rfl (X _ _ hcode) rfl hvs hfile htop ?_
  refine ks_loadName_global hk hks (loadGlobal_builtin (env := ksEnv qual scope L fI (.ref cda) cc) hg hsu hb ((hbt _ (by decide +kernel)).trans (show bootBuiltins ("super" : Str) = some (.type "super") by decide +kernel)) ⟨rfl, ?_⟩)
  refine wpAny_loadName_free hk hkc rfl ⟨_, X _ _ hcell, rfl⟩ ?_
  refine wpAny_loadName_local hk hka hns hv ?_
  refine ks_wpAny_isType_cls hCh rfl ⟨rfl, ?_⟩
  refine ks_wpAny_call_super hCh rfl hx rfl (fun c e => ?_) (looks_mroIn X self1) (fun h1 e1 k1 => ?_)
  · cases e
  have X1 : K.In h1 := X.keeps k1
  have hx1 := k1 _ _ hx
  have hI : Looks (model prog w) h1 (isInstance (.ref x) (.type "ValueError")) true := (InstAt.type (od := none) ⟨hx1, rfl, rfl, trivial⟩).andThen (looks_subIn X1 isVE)
  have hsu2 := sup
  unfold ks_superIn at hsu2
  rw [hCc] at hsu2
  refine kxs_getMethod kxs_ValueError e1 (looks_opaque X1 opq) (l₀ := .ref C :: bm) ?_ rfl X1 hsu2 hI xC (by decide) ?_
  · exact fun A Q E s k q => wpAny_bind ((looks_clsIn X1 hCc) A _ E s k (wpAny_pure q))
  have k2 : ∀ b o, h1.get? b = some o → (h1.push (kxs_mw "ValueError.__init__" x)).get? b = some o := fun b o e => Heap.get?_push_of_some _ e
  have k12 : ∀ b o, hh.get? b = some o → (h1.push (kxs_mw "ValueError.__init__" x)).get? b = some o := fun b o e => k2 b o (k1 b o e)
  have mwn : (h1.push (kxs_mw "ValueError.__init__" x)).get? h1.objs.size = some (kxs_mw "ValueError.__init__" x) := Heap.get?_push_at rfl rfl
  rw [he]
  refine kxs_callWith (i := "ValueError.__init__") (x := x) (by show (false || (backTo a4 (starEach es (ksEnv qual scope L fI (.ref cda) cc))).any (·.1)) = false; rw [hpl]; rfl) ?_
  refine evalArgs_plain ?_
  have ha := hargs ⟨h1.push (kxs_mw "ValueError.__init__" x), g, d, t + 1, os⟩ (fun vs s₁ => KxsAt "ValueError.__init__" h1.objs.size x s₁.heap ∧ wpAny (model prog w) A (call (.ref h1.objs.size) ([] ++ vs)) (fun _ => Q .next) E s₁) (hns.keeps k12) (hg.keeps k12) (hb.keeps k12) (fun us tk hl => ?_)
  · rw [he] at ha
    exact ha
  refine ⟨mwn, ?_⟩
  refine call_mw ((X.keeps k12) _ _ hC) (k12 _ _ hx) mwn (Nat.le_trans hl (by rw [sizeLine_eq]; decide)) fun h' t1 k e => ?_
  exact h h' tk t1 (fun b o hb e => k b o hb (k12 b o e)) e

/-- what the text of the maker says: everything that hangs on its written scope -/
structure SupW (prog : Program) (w : World) (params : Arguments) (scope : Scope) (qual : Str) (fs : List Str) (ok : List Value → Prop) (e0 : Expr) (es : List Expr) (a1 a2 a3 a4 a5 : Pos) : Prop where
  hk : scope.kind = .function
  co : scope.isCoroutine = false
  gen : scope.isGenerator = false
  ks : scope.names.lookup ("super" : Str) = some .globalImplicit
  kc : scope.names.lookup ("__class__" : Str) = some .free
  kse : scope.names.lookup ("self" : Str) = some .local
  kf : ∀ f ∈ fs, scope.names.lookup f = some .local
  cell : ∀ y ∈ scope.names, y.2 ≠ .cell
  par : ∃ p, (params.posonlyargs ++ params.args).head? = some p ∧ p.arg = "self"
  hi : ∀ (L fI : Addr) (cd : Value) (cc : Addr), interactive (ksEnv qual scope L fI cd cc) = false
  hev : ∀ (L fI : Addr) (cd : Value) (cc : Addr), ∃ pl : Sem Bool, eval (.Call (.Attribute (.Call (.Name "super" a1) [] [] a2) "__init__" a3) (e0 :: es) [] a4) (ksEnv qual scope L fI cd cc) = (do
      let ov ← attributeBase (.Call (.Name "super" a1) [] [] a2) "__init__" (ksEnv qual scope L fI cd cc) (eval (.Call (.Name "super" a1) [] [] a2) (ksEnv qual scope L fI cd cc))
      standAt a3.atName
      let (f, first) ← holding [ov] (getMethod ov "__init__" pl)
      callWith a4 f first (backTo a4 (starEach (e0 :: es) (ksEnv qual scope L fI cd cc))) [])
  hsw : ∀ (L fI : Addr) (cd : Value) (cc : Addr), swapsWith (.Call (.Attribute (.Call (.Name "super" a1) [] [] a2) "__init__" a3) (e0 :: es) [] a4) none a5.line (ksEnv qual scope L fI cd cc) = pure false
  hst : ∀ (L fI : Addr) (cd : Value) (cc : Addr) (f : Str) (q1 q2 q3 q4 : Pos), swapsWith (.Name f q3) (some (.Attribute (.Name "self" q1) f q2)) q4.line (ksEnv qual scope L fI cd cc) = pure false
  he : ∀ (L fI : Addr) (cd : Value) (cc : Addr), starEach (e0 :: es) (ksEnv qual scope L fI cd cc) = (false, eval e0 (ksEnv qual scope L fI cd cc)) :: starEach es (ksEnv qual scope L fI cd cc)
  hpl : ∀ (L fI : Addr) (cd : Value) (cc : Addr), (backTo a4 (starEach es (ksEnv qual scope L fI cd cc))).any (·.1) = false
  hargs : ∀ (L fI : Addr) (cd : Value) (cc : Addr) (A : Around) (E : Value → Shared → Prop) (us : List Value) (s1 : Shared) (mg mb m : Str → Option Value) (Q1 : List Value → Shared → Prop), ok us → (∀ (i : Nat) (f : Str), fs[i]? = some f → m f = us[i]?) → us.length = fs.length → mg "str" = none → s1.heap.Ns L m → s1.heap.Ns mainGlobals mg → s1.heap.Ns builtinsNs mb →
      (∀ y : Str, y ≠ "__name__" → mb y = bootBuiltins y) → (∀ ws tk, ws.length ≤ 10 → Q1 ws { s1 with toks := tk }) →
      wpAny (model prog w) A (spliced (backTo a4 (starEach (e0 :: es) (ksEnv qual scope L fI cd cc)))) Q1 E s1
/-- what a maker leaves of a fresh exception at x: its dict holds the map -/
structure InitEnd (h h' : Heap) (x C dx : Addr) (mA : Str → Option Value) : Prop where
  keep : ∀ b o, b ≠ x → h.get? b = some o → h'.get? b = some o
  obj : ∃ t1, h'.get? x = some { cls := .ref C, dict := some dx, data := .fields #[.ref t1, .none, .none, .none, .bool false, .none] }
  dbig : h.objs.size ≤ dx
  dne : dx ≠ x
  ns : h'.Ns1 dx mA
theorem ldS {M : Model} {s : Shared} {env : Env} {m : Str → Option Value} {x : Str} {pos : Pos} {v : Value} {Q : Value → Shared → Prop} {A : Around} {E : Value → Shared → Prop} (hk : env.scope.kind = .function) (hl : env.kindOf x = some .local) (hn : s.heap.Ns env.locals m) (hv : m x = some v) (h : Q v s)
    (hd : (x == ("__debug__" : Str)) = false) : wpAny M A (eval (.Name x pos) env) Q E s := wpAny_Name (wpAny_loadName_local hk hl hn hv h) hd
section
variable {prog : Program} {w : World} {A : Around} {E : Value → Shared → Prop} {K : Frag} {C fI : Addr} {qual : Str} {params : Arguments} {body : List Stmt} {scope : Scope} {mg mb : Str → Option Value} {x t0 : Addr} {s : Shared} {R : Result → Shared → Prop}
    {f f1 f2 : Str} {ok : List Value → Prop} {e0 : Expr} {es : List Expr} {a1 a2 a3 a4 a5 q1 q2 q3 q4 r1 r2 r3 r4 : Pos}
theorem kin_but {h h' : Heap} (X : K.In h) (hx : K.lookup x = none) (k : ∀ b o, b ≠ x → h.get? b = some o → h'.get? b = some o) : K.In h' := fun a o e => k a o (fun z => by rw [z, hx] at e; cases e) (X a o e)
theorem ns_but {h h' : Heap} {L : Addr} {m : Str → Option Value} (n : L ≠ x) (hn : h.Ns L m) (k : ∀ b o, b ≠ x → h.get? b = some o → h'.get? b = some o) : h'.Ns L m := by
  obtain ⟨o, es, ep, ho, r⟩ := hn
  exact ⟨o, es, ep, k _ _ n ho, r⟩
/-- one field -/
theorem sup_init1 (T : SupC prog K C fI qual params [supS (e0 :: es) a1 a2 a3 a4 a5, stoS f q1 q2 q3 q4] scope) (W : SupW prog w params scope qual [f] ok e0 es a1 a2 a3 a4 a5) (hnf : findIn K (.ref C) f = some none) (hfd : (f == ("__debug__" : Str)) = false) (hfs : f ≠ "self") {v : Value} (hok : ok [v])
    (hb : ∀ (kV doc pm : Value) (an : Option Addr) (cdv ct : Value) (cc : Addr), bindArgs (ksFn "__init__" qual params [supS (e0 :: es) a1 a2 a3 a4 a5, stoS f q1 q2 q3 q4] scope .none kV doc pm an cdv ct cc) ⟨[.ref x, v], []⟩ = pure [(("self" : Str), Value.ref x), (f, v)])
    (X : K.In s.heap) (hlim : s.heap.NoLimit) (hg : s.heap.Ns mainGlobals mg) (hbn : s.heap.Ns builtinsNs mb) (hbt : ∀ y : Str, y ≠ "__name__" → mb y = bootBuiltins y) (hsu : mg "super" = none) (hstr : mg "str" = none)
    (hx : s.heap.get? x = some (excO C t0)) (hnx : K.lookup x = none) (hroom : A.depth < recursionLimit)
    (hq : ∀ h' tk dx, InitEnd s.heap h' x C dx (fun y => if y = f then some v else none) → R (.ok (.ret .none)) { s with heap := h', toks := tk }) :
    codeAny (model prog w) A (.call (.ref fI) ⟨[.ref x, v], []⟩) R s := by
  obtain ⟨nm, q, N, bs, bm, sn, sub, ab, col, dd, k0, k1, k2, k3, k5, hC, hbm⟩ := T.cls
  obtain ⟨oc, od, kV, doc, pm, an, cda, ct, osl, cc, vs, file, tf, ccl, cdd, ccs, cl, cld, csl, hf, hcd, hcode, hvs, hfile, hcell⟩ := T.fn
  obtain ⟨par, hp, hps⟩ := W.par
  have hcl : clsIn K C = some { name := nm, bases := bs, mro := .ref C :: bm, ns := N, qualname := q, hasDict := true, slotNames := sn, subclasses := sub, abstract := ab, collection := col, hasDel := false } := by unfold clsIn; rw [hC] <;> rfl
  refine ks_codeAny_call_defAt (fd := ksFn "__init__" qual params [supS (e0 :: es) a1 a2 a3 a4 a5, stoS f q1 q2 q3 q4] scope .none kV doc pm an (.ref cda) ct cc) (binds := [(("self" : Str), Value.ref x), (f, v)]) hroom (X _ _ hf) rfl hlim (codeRec_of X hcd) rfl (BindsTo.of_eq (hb ..)) W.cell ?_ (fun h₁ hn k₁ => ?_) W.co W.gen W.hk
  · intro y hy
    rcases List.mem_cons.mp hy with rfl | hy
    · exact W.kse
    · rcases List.mem_cons.mp hy with rfl | hy
      · exact W.kf f (List.mem_cons_self)
      · cases hy
  have hmf : (fun y => List.lookup y (List.reverse [(("self" : Str), Value.ref x), (f, v)])) f = some v := by
    show List.lookup f [(f, v), (("self" : Str), Value.ref x)] = some v
    simp [List.lookup]
  have hms : (fun y => List.lookup y (List.reverse [(("self" : Str), Value.ref x), (f, v)])) ("self" : Str) = some (Value.ref x) := by
    show List.lookup ("self" : Str) [(f, v), (("self" : Str), Value.ref x)] = some (.ref x)
    have e : (("self" : Str) == f) = false := by simpa using Ne.symm hfs
    simp [List.lookup, e]
  have X₁ : K.In h₁ := X.keeps k₁
  obtain ⟨pl, hev⟩ := W.hev s.heap.objs.size fI (.ref cda) cc
  show _root_.PySem.wpAt _ _ (.func _ (ksEnv qual scope s.heap.objs.size fI (.ref cda) cc)) (execs _ (ksEnv qual scope s.heap.objs.size fI (.ref cda) cc)) _ _ _
  refine ks_wpAt_execs_cons (sup_first hC X₁ (hg.keeps k₁) (hbn.keeps k₁) hbt hsu hf hp hcode hvs hfile hcell T.self1 T.isVE T.opq T.sup T.top hn (by rw [hps]; exact hms) (k₁ _ _ hx) W.ks W.kc (by rw [hps]; exact W.kse) W.hk ?_ (W.he ..) (W.hpl ..) (W.hi ..) hev (W.hsw ..) ?_)
  · intro s1 Q1 g1 g2 g3 g4
    refine W.hargs _ _ _ _ _ _ [v] s1 mg mb _ Q1 hok (fun i f' e => ?_) rfl hstr g1 g2 g3 hbt g4
    match i, e with
    | 0, e => cases e; exact hmf
  intro h₂ tk₂ t₁ k₂ hx₂
  refine wpAt_of_wpAny ?_
  have n₂ : s.heap.objs.size ≠ x := Nat.ne_of_gt (Heap.lt_size hx)
  have k12 : ∀ b o, b ≠ x → s.heap.get? b = some o → h₂.get? b = some o := fun b o hb e => k₂ b o hb (k₁ b o e)
  have X₂ : K.In h₂ := kin_but X₁ hnx k₂
  have hn₂ : h₂.Ns s.heap.objs.size _ := ns_but n₂ hn k₂
  show wpAny _ _ (execs _ _) _ _ _
  refine wpAny_execs_cons (plainObj_wpAny_Assign_Attribute ?_ (W.hst ..))
  refine ldS W.hk (W.kf f (List.mem_cons_self)) hn₂ hmf (ldS W.hk W.kse hn₂ hms ?_ (by decide)) hfd
  refine set_plain X₂ (ox := excO C t₁) (od := none) ⟨hx₂, rfl, rfl, trivial⟩ T.sa ?_
  refine exc_osa X₂ hx₂ hcl (show refsVE (.ref C :: bm) = true from hbm) rfl hnf (fun h₃ tk₃ dx k₃ dn dne hx₃ hn₃ => ?_)
  show wpAny _ _ (execs _ _) _ _ _
  refine wpAny_execs_nil (hq h₃ tk₃ dx ⟨fun b o hb e => k₃ b o hb (k12 b o hb e), ⟨_, hx₃⟩, ?_, dne, hn₃⟩)
  exact Nat.le_of_lt (Nat.lt_of_lt_of_le hn₂.lt dn)
/-- two fields -/
theorem sup_init2 (T : SupC prog K C fI qual params [supS (e0 :: es) a1 a2 a3 a4 a5, stoS f1 q1 q2 q3 q4, stoS f2 r1 r2 r3 r4] scope) (W : SupW prog w params scope qual [f1, f2] ok e0 es a1 a2 a3 a4 a5)
    (hnf1 : findIn K (.ref C) f1 = some none) (hnf2 : findIn K (.ref C) f2 = some none) (hfd1 : (f1 == ("__debug__" : Str)) = false) (hfd2 : (f2 == ("__debug__" : Str)) = false) (hfs1 : f1 ≠ "self") (hfs2 : f2 ≠ "self") (h12 : f1 ≠ f2) {v1 v2 : Value} (hok : ok [v1, v2])
    (hb : ∀ (kV doc pm : Value) (an : Option Addr) (cdv ct : Value) (cc : Addr), bindArgs (ksFn "__init__" qual params [supS (e0 :: es) a1 a2 a3 a4 a5, stoS f1 q1 q2 q3 q4, stoS f2 r1 r2 r3 r4] scope .none kV doc pm an cdv ct cc) ⟨[.ref x, v1, v2], []⟩ = pure [(("self" : Str), Value.ref x), (f1, v1), (f2, v2)])
    (X : K.In s.heap) (hlim : s.heap.NoLimit) (hg : s.heap.Ns mainGlobals mg) (hbn : s.heap.Ns builtinsNs mb) (hbt : ∀ y : Str, y ≠ "__name__" → mb y = bootBuiltins y) (hsu : mg "super" = none) (hstr : mg "str" = none)
    (hx : s.heap.get? x = some (excO C t0)) (hnx : K.lookup x = none) (hroom : A.depth < recursionLimit)
    (hq : ∀ h' tk dx, InitEnd s.heap h' x C dx (fun y => if y = f2 then some v2 else if y = f1 then some v1 else none) → R (.ok (.ret .none)) { s with heap := h', toks := tk }) :
    codeAny (model prog w) A (.call (.ref fI) ⟨[.ref x, v1, v2], []⟩) R s := by
  obtain ⟨nm, q, N, bs, bm, sn, sub, ab, col, dd, k0, k1, k2, k3, k5, hC, hbm⟩ := T.cls
  obtain ⟨oc, od, kV, doc, pm, an, cda, ct, osl, cc, vs, file, tf, ccl, cdd, ccs, cl, cld, csl, hf, hcd, hcode, hvs, hfile, hcell⟩ := T.fn
  obtain ⟨par, hp, hps⟩ := W.par
  have hcl : clsIn K C = some { name := nm, bases := bs, mro := .ref C :: bm, ns := N, qualname := q, hasDict := true, slotNames := sn, subclasses := sub, abstract := ab, collection := col, hasDel := false } := by unfold clsIn; rw [hC] <;> rfl
  have kf1 := W.kf f1 (List.mem_cons_self)
  have kf2 := W.kf f2 (List.mem_cons_of_mem _ (List.mem_cons_self))
  refine ks_codeAny_call_defAt (fd := ksFn "__init__" qual params [supS (e0 :: es) a1 a2 a3 a4 a5, stoS f1 q1 q2 q3 q4, stoS f2 r1 r2 r3 r4] scope .none kV doc pm an (.ref cda) ct cc) (binds := [(("self" : Str), Value.ref x), (f1, v1), (f2, v2)]) hroom (X _ _ hf) rfl hlim (codeRec_of X hcd) rfl (BindsTo.of_eq (hb ..)) W.cell ?_ (fun h₁ hn k₁ => ?_) W.co W.gen W.hk
  · intro y hy
    rcases List.mem_cons.mp hy with rfl | hy
    · exact W.kse
    rcases List.mem_cons.mp hy with rfl | hy
    · exact kf1
    rcases List.mem_cons.mp hy with rfl | hy
    · exact kf2
    · cases hy
  have e12 : (f1 == f2) = false := by simpa using h12
  have es1 : (("self" : Str) == f1) = false := by simpa using Ne.symm hfs1
  have es2 : (("self" : Str) == f2) = false := by simpa using Ne.symm hfs2
  have hmf1 : (fun y => List.lookup y (List.reverse [(("self" : Str), Value.ref x), (f1, v1), (f2, v2)])) f1 = some v1 := by
    show List.lookup f1 [(f2, v2), (f1, v1), (("self" : Str), Value.ref x)] = some v1
    simp [List.lookup, e12]
  have hmf2 : (fun y => List.lookup y (List.reverse [(("self" : Str), Value.ref x), (f1, v1), (f2, v2)])) f2 = some v2 := by
    show List.lookup f2 [(f2, v2), (f1, v1), (("self" : Str), Value.ref x)] = some v2
    simp [List.lookup]
  have hms : (fun y => List.lookup y (List.reverse [(("self" : Str), Value.ref x), (f1, v1), (f2, v2)])) ("self" : Str) = some (Value.ref x) := by
    show List.lookup ("self" : Str) [(f2, v2), (f1, v1), (("self" : Str), Value.ref x)] = some (.ref x)
    simp [List.lookup, es1, es2]
  have X₁ : K.In h₁ := X.keeps k₁
  obtain ⟨pl, hev⟩ := W.hev s.heap.objs.size fI (.ref cda) cc
  show _root_.PySem.wpAt _ _ (.func _ (ksEnv qual scope s.heap.objs.size fI (.ref cda) cc)) (execs _ (ksEnv qual scope s.heap.objs.size fI (.ref cda) cc)) _ _ _
  refine ks_wpAt_execs_cons (sup_first hC X₁ (hg.keeps k₁) (hbn.keeps k₁) hbt hsu hf hp hcode hvs hfile hcell T.self1 T.isVE T.opq T.sup T.top hn (by rw [hps]; exact hms) (k₁ _ _ hx) W.ks W.kc (by rw [hps]; exact W.kse) W.hk ?_ (W.he ..) (W.hpl ..) (W.hi ..) hev (W.hsw ..) ?_)
  · intro s1 Q1 g1 g2 g3 g4
    refine W.hargs _ _ _ _ _ _ [v1, v2] s1 mg mb _ Q1 hok (fun i f' e => ?_) rfl hstr g1 g2 g3 hbt g4
    match i, e with
    | 0, e => cases e; exact hmf1
    | 1, e => cases e; exact hmf2
  intro h₂ tk₂ t₁ k₂ hx₂
  refine wpAt_of_wpAny ?_
  have n₂ : s.heap.objs.size ≠ x := Nat.ne_of_gt (Heap.lt_size hx)
  have k12 : ∀ b o, b ≠ x → s.heap.get? b = some o → h₂.get? b = some o := fun b o hb e => k₂ b o hb (k₁ b o e)
  have X₂ : K.In h₂ := kin_but X₁ hnx k₂
  have hn₂ : h₂.Ns s.heap.objs.size _ := ns_but n₂ hn k₂
  show wpAny _ _ (execs _ _) _ _ _
  refine wpAny_execs_cons (plainObj_wpAny_Assign_Attribute ?_ (W.hst ..))
  refine ldS W.hk kf1 hn₂ hmf1 (ldS W.hk W.kse hn₂ hms ?_ (by decide)) hfd1
  refine set_plain X₂ (ox := excO C t₁) (od := none) ⟨hx₂, rfl, rfl, trivial⟩ T.sa ?_
  refine exc_osa X₂ hx₂ hcl (show refsVE (.ref C :: bm) = true from hbm) rfl hnf1 (fun h₃ tk₃ dx k₃ dn dne hx₃ hn₃ => ?_)
  have X₃ : K.In h₃ := kin_but X₂ hnx k₃
  have hLd : s.heap.objs.size ≠ dx := Nat.ne_of_lt (Nat.lt_of_lt_of_le hn₂.lt dn)
  have hn₃' : h₃.Ns s.heap.objs.size _ := ns_but n₂ hn₂ k₃
  obtain ⟨od3, ho3⟩ : ∃ o, h₃.get? dx = some o := by
    obtain ⟨o, _, _, e, _⟩ := hn₃
    exact ⟨o, e⟩
  show wpAny _ _ (execs _ _) _ _ _
  refine wpAny_execs_cons (plainObj_wpAny_Assign_Attribute ?_ (W.hst ..))
  refine ldS W.hk kf2 hn₃' hmf2 (ldS W.hk W.kse hn₃' hms ?_ (by decide)) hfd2
  refine set_plain X₃ (ox := { cls := .ref C, dict := some dx, data := .fields #[.ref t₁, .none, .none, .none, .bool false, .none] }) (od := some od3) ⟨hx₃, rfl, rfl, ho3⟩ T.sa ?_
  refine PySem.OEX.osa_old X₃ hx₃ hn₃ (nl := [f1]) (fun y hy => ?_) (by show 1 ≤ 1000; decide) hcl (show refsVE (.ref C :: bm) = true from hbm) rfl hnf2 (fun h₄ tk₄ k₄ hn₄ => ?_)
  · by_cases e : y = f1
    · rw [e]; exact List.mem_cons_self
    · exact absurd (if_neg e) hy
  show wpAny _ _ (execs _ _) _ _ _
  have hbig : s.heap.objs.size ≤ dx := Nat.le_of_lt (Nat.lt_of_lt_of_le hn₂.lt dn)
  refine wpAny_execs_nil (hq h₄ tk₄ dx ⟨fun b o hb e => k₄ b o (Nat.ne_of_lt (Nat.lt_of_lt_of_le (Heap.lt_size e) hbig)) (k₃ b o hb (k12 b o hb e)), ⟨_, k₄ _ _ (Ne.symm dne) hx₃⟩, hbig, dne, hn₄⟩)
end
/-- an error that is made -/
structure Made (h h' : Heap) (e C d : Addr) (mA : Str → Option Value) : Prop where
  keep : ∀ b o, h.get? b = some o → h'.get? b = some o
  new : h.objs.size ≤ e
  obj : ∃ t1 : Addr, h'.get? e = some { cls := .ref C, dict := some d, data := .fields #[.ref t1, .none, .none, .none, .bool false, .none] }
  dbig : h.objs.size ≤ d
  dne : d ≠ e
  ns : h'.Ns1 d mA
/-- the class at C makes errors of these fields -/
structure Makes (prog : Program) (w : World) (K : Frag) (mg : Str → Option Value) (C : Addr) (fs : List Str) (ok : List Value → Prop) : Prop where
  kC : keepIn K (.ref C) = true
  exC : subIn K (.ref C) (.type "BaseException") = some true
  tyC : typeIn K (.ref C) = some (.type "type")
  run : ∀ (A : Around) (s : Shared) (us : List Value) (mb : Str → Option Value) (R : Result → Shared → Prop), us.length = fs.length → ok us → K.In s.heap → s.heap.NoLimit → s.heap.Ns mainGlobals mg → s.heap.Ns builtinsNs mb → (∀ y : Str, y ≠ "__name__" → mb y = bootBuiltins y) →
    A.depth + 1 < recursionLimit → (∀ h' tk e d mA, (∀ f : Str, mA f = (fs.zip us).lookup f) → Made s.heap h' e C d mA → R (.ok (.ret (.ref e))) { s with heap := h', toks := tk }) → codeAny (model prog w) A (.call (.ref C) ⟨us, []⟩) R s
/-- from the maker to the class -/
theorem made_of {prog : Program} {w : World} {A : Around} {K : Frag} {C fI : Addr} {s : Shared} {us : List Value} {mA : Str → Option Value} {R : Result → Shared → Prop} {nm q : Str} {N : Addr} {bs bm : List Value} {sn : List Str} {sub : List Value} {ab : Bool} {col : Option Bool} {dd : Option Addr} {k0 k1 k2 k3 k5 : Option Value}
    (hC : K.lookup C = some (excClassObj nm q C N bs bm true sn sub ab col dd k0 k1 k2 k3 k5 "ValueError.__new__")) (hbm : refsVE bm = true) (iC : findIn K (.ref C) "__init__" = some (some (.ref fI))) (tC : typeIn K (.ref fI) = some (.type "function")) (hus : us.length ≤ 10)
    (X : K.In s.heap) (hlim : s.heap.NoLimit)
    (hin : ∀ (A' : Around) (s' : Shared) (x t0 : Addr) (R' : Result → Shared → Prop), A'.depth = A.depth + 1 → (∀ b o, s.heap.get? b = some o → s'.heap.get? b = some o) → s'.heap.get? x = some (excO C t0) → K.lookup x = none →
      (∀ h' tk dx, InitEnd s'.heap h' x C dx mA → R' (.ok (.ret .none)) { s' with heap := h', toks := tk }) → codeAny (model prog w) A' (.call (.ref fI) ⟨.ref x :: us, []⟩) R' s')
    (hq : ∀ h' tk e d, Made s.heap h' e C d mA → R (.ok (.ret (.ref e))) { s with heap := h', toks := tk }) :
    codeAny (model prog w) A (.call (.ref C) ⟨us, []⟩) R s := by
  obtain ⟨hp, g, dr, tk, os⟩ := s
  have k : ∀ b o, hp.get? b = some o → ((hp.push (kdv_tup us)).push (excO C hp.objs.size)).get? b = some o := fun b o e => Heap.get?_push_of_some _ (Heap.get?_push_of_some _ e)
  have hget : ((hp.push (kdv_tup us)).push (excO C hp.objs.size)).get? (hp.objs.size + 1) = some (excO C hp.objs.size) := by heap_get
  have hnx : K.lookup (hp.objs.size + 1) = none := by
    cases e : K.lookup (hp.objs.size + 1) with
    | none => rfl
    | some o =>
      have z : hp.get? (hp.objs.size + 1) = some o := X _ _ e
      exact absurd (Nat.lt_of_succ_lt (Heap.lt_size z)) (Nat.lt_irrefl _)
  refine call_own F.excBase_ValueError (fun X => refsVE_contains X bm hbm) (X _ _ hC) (looks_findIn X iC) (fun self => bind_fn X self tC) (Nat.le_trans hus (by rw [sizeLine_eq]; decide)) ?_
  refine hin (A.under (.builtin "type.__call__" ⟨.ref C :: us, []⟩)) ⟨(hp.push (kdv_tup us)).push (excO C hp.objs.size), g, dr, tk, os⟩ (hp.objs.size + 1) hp.objs.size _ rfl k hget hnx fun h' tk' dx ⟨k', hx, dn, dne, hns⟩ => ?_
  have old : ∀ b o, hp.get? b = some o → h'.get? b = some o := fun b o e => k' b o (Nat.ne_of_lt (Nat.lt_succ_of_lt (Heap.lt_size e))) (k b o e)
  have z : hp.objs.size + 1 + 1 ≤ dx := by
    first
      | (simpa only [Heap.size_push] using dn)
      | exact dn
      | (have q := dn; rw [Heap.size_push, Heap.size_push] at q; exact q)
  obtain ⟨t1, hx⟩ := hx
  exact ⟨rfl, hq h' tk' (hp.objs.size + 1) dx ⟨old, Nat.le_succ _, ⟨t1, hx⟩, Nat.le_trans (Nat.le_trans (Nat.le_succ _) (Nat.le_succ _)) z, dne, hns⟩⟩
section
variable {prog : Program} {w : World} {K : Frag} {C fI : Addr} {qual : Str} {params : Arguments} {scope : Scope} {mg : Str → Option Value} {f f1 f2 : Str} {ok : List Value → Prop} {e0 : Expr} {es : List Expr} {a1 a2 a3 a4 a5 q1 q2 q3 q4 r1 r2 r3 r4 : Pos}
theorem makes1 (T : SupC prog K C fI qual params [supS (e0 :: es) a1 a2 a3 a4 a5, stoS f q1 q2 q3 q4] scope) (W : SupW prog w params scope qual [f] ok e0 es a1 a2 a3 a4 a5) (kC : keepIn K (.ref C) = true) (exC : subIn K (.ref C) (.type "BaseException") = some true) (tyC : typeIn K (.ref C) = some (.type "type"))
    (hnf : findIn K (.ref C) f = some none) (hfd : (f == ("__debug__" : Str)) = false) (hfs : f ≠ "self") (hsu : mg "super" = none) (hstr : mg "str" = none)
    (hb : ∀ (x : Addr) (v : Value) (kV doc pm : Value) (an : Option Addr) (cdv ct : Value) (cc : Addr), bindArgs (ksFn "__init__" qual params [supS (e0 :: es) a1 a2 a3 a4 a5, stoS f q1 q2 q3 q4] scope .none kV doc pm an cdv ct cc) ⟨[.ref x, v], []⟩ = pure [(("self" : Str), Value.ref x), (f, v)]) :
    Makes prog w K mg C [f] ok where
  kC := kC
  exC := exC
  tyC := tyC
  run := fun A s us mb R hl hok X hlim hg hbn hbt hroom hq => by
    obtain ⟨nm, q, N, bs, bm, sn, sub, ab, col, dd, k0, k1, k2, k3, k5, hC, hbm⟩ := T.cls
    match us, hl with
    | [v], _ =>
      refine made_of (mA := fun y => if y = f then some v else none) hC hbm T.iC T.tC (by show 1 ≤ 10; decide) X hlim (fun A' s' x t0 R' hd k hx hnx h' => ?_) fun h' tk e d M => hq h' tk e d _ (fun g => ?_) M
      · exact sup_init1 T W hnf hfd hfs hok (hb x v) (X.keeps k) (hlim.keeps k) (hg.keeps k) (hbn.keeps k) hbt hsu hstr hx hnx (by rw [hd]; exact hroom) h'
      · by_cases e : g = f
        · subst e; simp [List.zip]
        · have e2 : (g == f) = false := by simpa using e
          simp [List.zip, List.lookup, e, e2]
theorem makes2 (T : SupC prog K C fI qual params [supS (e0 :: es) a1 a2 a3 a4 a5, stoS f1 q1 q2 q3 q4, stoS f2 r1 r2 r3 r4] scope) (W : SupW prog w params scope qual [f1, f2] ok e0 es a1 a2 a3 a4 a5) (kC : keepIn K (.ref C) = true) (exC : subIn K (.ref C) (.type "BaseException") = some true) (tyC : typeIn K (.ref C) = some (.type "type"))
    (hnf1 : findIn K (.ref C) f1 = some none) (hnf2 : findIn K (.ref C) f2 = some none) (hfd1 : (f1 == ("__debug__" : Str)) = false) (hfd2 : (f2 == ("__debug__" : Str)) = false) (hfs1 : f1 ≠ "self") (hfs2 : f2 ≠ "self") (h12 : f1 ≠ f2) (hsu : mg "super" = none) (hstr : mg "str" = none)
    (hb : ∀ (x : Addr) (v1 v2 : Value) (kV doc pm : Value) (an : Option Addr) (cdv ct : Value) (cc : Addr), bindArgs (ksFn "__init__" qual params [supS (e0 :: es) a1 a2 a3 a4 a5, stoS f1 q1 q2 q3 q4, stoS f2 r1 r2 r3 r4] scope .none kV doc pm an cdv ct cc) ⟨[.ref x, v1, v2], []⟩ = pure [(("self" : Str), Value.ref x), (f1, v1), (f2, v2)]) :
    Makes prog w K mg C [f1, f2] ok where
  kC := kC
  exC := exC
  tyC := tyC
  run := fun A s us mb R hl hok X hlim hg hbn hbt hroom hq => by
    obtain ⟨nm, q, N, bs, bm, sn, sub, ab, col, dd, k0, k1, k2, k3, k5, hC, hbm⟩ := T.cls
    match us, hl with
    | [v1, v2], _ =>
      refine made_of (mA := fun y => if y = f2 then some v2 else if y = f1 then some v1 else none) hC hbm T.iC T.tC (by show 2 ≤ 10; decide) X hlim (fun A' s' x t0 R' hd k hx hnx h' => ?_) fun h' tk e d M => hq h' tk e d _ (fun g => ?_) M
      · exact sup_init2 T W hnf1 hnf2 hfd1 hfd2 hfs1 hfs2 h12 hok (hb x v1 v2) (X.keeps k) (hlim.keeps k) (hg.keeps k) (hbn.keeps k) hbt hsu hstr hx hnx (by rw [hd]; exact hroom) h'
      · by_cases e : g = f2
        · subst e
          have e2 : (g == f1) = false := by simpa using Ne.symm h12
          simp [List.zip, List.lookup, e2]
        · have e2 : (g == f2) = false := by simpa using e
          by_cases e1 : g = f1
          · subst e1; simp [List.zip, List.lookup, e]
          · have e3 : (g == f1) = false := by simpa using e1
            simp [List.zip, List.lookup, e, e1, e2, e3]
end
end ErrL
end PySem

namespace L2
open PySem PySem.Spec PyProof.Rows
theorem relO_zip : ∀ {fs : List Str} {vs : List V} {us : List Value}, Vals vs us → ∀ f, RelO (List.lookup f (fs.zip vs)) (List.lookup f (fs.zip us))
  | [], vs, us, r, f => by simp [List.zip, RelO]
  | g :: fs, [], _, .nil, f => by simp [List.zip, RelO]
  | g :: fs, v :: vs, u :: us, .cons rv r, f => by
    by_cases e : f = g
    · subst e
      have q : RelO (some v) (some u) := rv
      simpa [List.zip, List.lookup] using q
    · have e2 : (f == g) = false := by simpa using e
      have ih := relO_zip (fs := fs) r f
      simpa [List.zip, List.lookup, e2] using ih
section
variable {X : Cx} {C : Addr} {fs : List Str} {ok : List Value → Prop}
/-- X(e, ..): a new error; okV says that the values may be written into its args -/
def tMkErr (C : Addr) (fs : List Str) (okV : List V → Prop) (ta : TA) : St → Hp → XK → Prop := fun σ H Q => ta σ H fun vs H1 => vs.length = fs.length ∧ okV vs ∧ ∀ d, H1 d = none → Q (.ref C) (some d) (upd H1 d (.xd (fs.zip vs)))
theorem pmk_err {x : Str} {e : Expr} {es : List Expr} {ta : TA} {p pos : Pos} {k : Nat} {okV : List V → Prop} (T : PySem.ErrL.Makes X.prog X.w X.K X.mg C fs ok) (hok : ∀ vs us, Vals vs us → okV vs → ok us) (gC : X.mg x = some (.ref C)) (hr : Room k X.A) (ha : PA X (e :: es) ta) (hg : Gl X x := by rfl)
    (hdb : (x == ("__debug__" : Str)) = false := by decide) (he : starEach (e :: es) X.env = (false, eval e X.env) :: starEach es X.env := by rfl) (hpl : (backTo pos (starEach es X.env)).any (·.1) = false := by rfl) :
    PMk X (.Call (.Name x p) (e :: es) [] pos) (tMkErr C fs okV ta) := by
  intro pins s σ H Q I h
  refine wpAny_Call_Name_kw (ld_glob I hg gC ?_ hdb)
  refine PySem.W.callWith_K (h₀ := X.base) I.ok.mod.kin T.kC (thn (ha.run pos pins s σ H _ I h) fun us s1 hh => ?_) he hpl
  obtain ⟨vs, H1, I1, r1, hl, hov, q1⟩ := hh
  refine ⟨I1.kIn, ?_⟩
  show wpAny _ _ (call (.ref C) us) _ _ _
  obtain ⟨mb, hmb, hbt⟩ := I1.mod.blt
  have hlim := I1.nolimit
  have hgl := I1.mod.glob.keeps I1.bk
  have hbl := hmb.keeps I1.bk
  have kin := I1.kIn
  obtain ⟨hp, g, dr, tk, os⟩ := s1
  refine wpAny_call (T.run _ _ us mb _ (by rw [← hl]; exact (Vals.length r1).symm) (hok vs us r1 hov) kin hlim hgl hbl hbt (by have := hr.dp; omega) fun h' tk' e d mA hmA M => ?_)
  show MkP X pins σ Q (.ref e) ⟨h', g, dr, tk', os⟩
  obtain ⟨t1, hoe⟩ := M.obj
  have hns := M.ns
  obtain ⟨G', g1, g2⟩ := restrict h' fun b => decide (b ≠ e)
  have gk : ∀ b, b ≠ e → G'.get? b = h'.get? b := fun b hb => g1 b (decide_eq_true hb)
  have ge : G'.get? e = none := g2 e (by simp)
  have old : ∀ b o, hp.get? b = some o → G'.get? b = some o := fun b o q => (gk b (Nat.ne_of_lt (Nat.lt_of_lt_of_le (Heap.lt_size q) M.new))).trans (M.keep b o q)
  have ob : ObjOk X.prog X.w (upd H1 d (.xd (fs.zip vs))) G' d (.xd (fs.zip vs)) :=
    ⟨_, hns.at (fun o q => (gk d M.dne).trans q), fun f => by rw [hmA]; exact relO_zip r1 f⟩
  have J : Inv X pins σ (upd H1 d (.xd (fs.zip vs))) ⟨G', g, dr, tk', os⟩ := I1.laid (t' := tk') old M.dbig ob
  refine ⟨e, _, _, ⟨G', g, dr, tk', os⟩, _, .ref C, some d, rfl, J, fun b o q => ?_, ge, hoe, ⟨rfl, rfl⟩, rfl, rfl, ?_, rfl, I1.bare, raises_own T.exC T.tyC, q1 d (I1.hok.fresh M.dbig)⟩
  · by_cases hb : b = e
    · have q' : G'.get? b = some o := q
      rw [hb, ge] at q'; cases q'
    · exact (gk b hb).symm.trans q
  · rw [upd_ne (Ne.symm M.dne)]
    exact I1.hok.fresh M.new
/-- raise X(e, ..) -/
def tRaiseErr (C : Addr) (fs : List Str) (okV : List V → Prop) (W : WX) (ta : TA) : TS := fun _ σ H => tMkErr C fs okV ta σ H fun cls d H' => W cls d σ H'
theorem ps_raiseErr {W : WX} {x : Str} {e : Expr} {es : List Expr} {ta : TA} {p pos pos2 : Pos} {k : Nat} {okV : List V → Prop} (hc : X.calm = true) (T : PySem.ErrL.Makes X.prog X.w X.K X.mg C fs ok) (hok : ∀ vs us, Vals vs us → okV vs → ok us) (gC : X.mg x = some (.ref C)) (hr : Room k X.A) (tk : Takes X W) (ha : PA X (e :: es) ta) (hg : Gl X x := by rfl)
    (hdb : (x == ("__debug__" : Str)) = false := by decide) (he : starEach (e :: es) X.env = (false, eval e X.env) :: starEach es X.env := by rfl) (hpl : (backTo pos (starEach es X.env)).any (·.1) = false := by rfl) :
    PS X (.Raise (some (.Call (.Name x p) (e :: es) [] pos)) none pos2) (tRaiseErr C fs okV W ta) := ps_raise hc tk (pmk_err T hok gC hr ha hg hdb he hpl)
end
end L2
set_option Elab.async false
set_option linter.all false
set_option maxRecDepth 100000
set_option maxHeartbeats 4000000
namespace PySem
namespace ErrL
open PySem.W PySem.Calls PyProof.Rows PySem.HandSPX
section
variable {prog : Program} {w : World} {params : Arguments} {scope : Scope} {qual : Str} {f f1 f2 : Str} {a1 a2 a3 a4 a5 p0 p1 p2 p3 : Pos} {j0 : Nat} {z : Str}
theorem args_c (hk : scope.kind = .function) (L fI : Addr) (cd : Value) (cc : Addr) (A : Around) (E : Value → Shared → Prop) (s1 : Shared) (Q1 : List Value → Shared → Prop) (h : ∀ (ws : List Value) tk, ws.length ≤ 10 → Q1 ws { s1 with toks := tk }) :
    wpAny (model prog w) A (spliced (backTo a4 (starEach [.Constant (.str z) j0 p0] (ksEnv qual scope L fI cd cc)))) Q1 E s1 := by
  show wpAny _ _ (spliced [(false, eval (.Constant (.str z) j0 p0) (ksEnv qual scope L fI cd cc))]) _ _ _
  exact spliced_cons (wpAny_Constant_str (spliced_nil (h _ _ (by show 1 ≤ 10; decide))))
theorem args_cn (hk : scope.kind = .function) (kf : scope.names.lookup f = some .local) (hfd : (f == ("__debug__" : Str)) = false) (L fI : Addr) (cd : Value) (cc : Addr) (A : Around) (E : Value → Shared → Prop) (v : Value) (s1 : Shared) (m : Str → Option Value) (Q1 : List Value → Shared → Prop)
    (hm : m f = some v) (hn : s1.heap.Ns L m) (h : ∀ (ws : List Value) tk, ws.length ≤ 10 → Q1 ws { s1 with toks := tk }) :
    wpAny (model prog w) A (spliced (backTo a4 (starEach [.Constant (.str z) j0 p0, .Name f p1] (ksEnv qual scope L fI cd cc)))) Q1 E s1 := by
  show wpAny _ _ (spliced [(false, eval (.Constant (.str z) j0 p0) (ksEnv qual scope L fI cd cc)), (false, eval (.Name f p1) (ksEnv qual scope L fI cd cc))]) _ _ _
  refine spliced_cons (wpAny_Constant_str (spliced_cons ?_))
  exact ldS hk kf hn hm (spliced_nil (h _ _ (by show 2 ≤ 10; decide))) hfd
theorem args_csn (hk : scope.kind = .function) (kf1 : scope.names.lookup f1 = some .local) (kf2 : scope.names.lookup f2 = some .local) (kstr : scope.names.lookup ("str" : Str) = some .globalImplicit) (hfd1 : (f1 == ("__debug__" : Str)) = false) (hfd2 : (f2 == ("__debug__" : Str)) = false)
    (L fI : Addr) (cd : Value) (cc : Addr) (A : Around) (E : Value → Shared → Prop) (i : Int) (t : Tok) (v2 : Value) (s1 : Shared) (m mg mb : Str → Option Value) (Q1 : List Value → Shared → Prop) (hi : i.natAbs.log2 < 1920)
    (hm1 : m f1 = some (.int i t)) (hm2 : m f2 = some v2) (hstr : mg "str" = none) (hn : s1.heap.Ns L m) (hg : s1.heap.Ns mainGlobals mg) (hb : s1.heap.Ns builtinsNs mb) (hbt : ∀ y : Str, y ≠ "__name__" → mb y = bootBuiltins y) (h : ∀ (ws : List Value) tk, ws.length ≤ 10 → Q1 ws { s1 with toks := tk })
    (he1 : starEach [.Name f1 p2] (ksEnv qual scope L fI cd cc) = (false, eval (.Name f1 p2) (ksEnv qual scope L fI cd cc)) :: starEach [] (ksEnv qual scope L fI cd cc)) :
    wpAny (model prog w) A (spliced (backTo a4 (starEach [.Constant (.str z) j0 p0, .Call (.Name "str" p1) [.Name f1 p2] [] p3, .Name f2 a5] (ksEnv qual scope L fI cd cc)))) Q1 E s1 := by
  show wpAny _ _ (spliced [(false, eval (.Constant (.str z) j0 p0) (ksEnv qual scope L fI cd cc)), (false, eval (.Call (.Name "str" p1) [.Name f1 p2] [] p3) (ksEnv qual scope L fI cd cc)), (false, eval (.Name f2 a5) (ksEnv qual scope L fI cd cc))]) _ _ _
  refine spliced_cons (wpAny_Constant_str (spliced_cons ?_))
  refine wpAny_Call_Name_kw ?_
  refine wpAny_Name ?_ (by decide)
  refine ks_loadName_global hk kstr (loadGlobal_builtin (env := ksEnv qual scope L fI cd cc) hg hstr hb ((hbt _ (by decide +kernel)).trans (show bootBuiltins ("str" : Str) = some (.type "str") by decide +kernel)) ?_)
  refine PyProof.Rows.callWith_type1 ?_ he1 rfl
  show wpAny _ _ (spliced [(false, eval (.Name f1 p2) (ksEnv qual scope L fI cd cc))]) _ _ _
  refine spliced_cons (ldS hk kf1 hn hm1 (spliced_nil ?_) hfd1)
  refine PySem.P.str_of_int hi (spliced_cons ?_)
  exact ldS hk kf2 hn hm2 (spliced_nil (h _ _ (by show 3 ≤ 10; decide))) hfd2
end
end ErrL
end PySem
set_option Elab.async false
set_option linter.all false
set_option maxRecDepth 100000
set_option maxHeartbeats 4000000
/-! isinstance of a caught error that has its own dict -/
namespace PySem.ErrL
open PySem PySem.W PySem.Spec PySem.Calls PyProof.Rows
section
variable {prog : Program} {w : World} {A : Around} {E : Value → Shared → Prop} {s : Shared} {K : Frag} {x D : Addr} {ox : Obj} {od : Option Obj}
theorem find_cls (hd : hasDictIn K D = true) (ha : findIn K (.ref D) "__class__" = some (some (.builtin "object.__class__"))) (hn : specialIn K (.builtin "object.__class__") "__get__" = some (some (.builtin "getset_descriptor.__get__"))) (ht : takesIn K (.builtin "object.__class__") = some true) :
    findObj K D od "__class__" = some (.bind (.builtin "getset_descriptor.__get__") (.builtin "object.__class__")) := by
  obtain ⟨cd, hc, _⟩ := any_some hd
  unfold findObj
  rw [hc, Option.bind_some, ha, Option.bind_some]
  simp [hn, ht]
/-- e.__class__, e an error with its dict -/
theorem cls_of (T : L2.ExcC K D) {Q : Option Value → Shared → Prop} (X : K.In s.heap) (I : InstAt s.heap x ox D od) (h : Q (some (.ref D)) { s with toks := s.toks + 1 }) : wpAny (model prog w) A (getAttr? (.ref x) "__class__") Q E s := by
  have hf := find_cls (od := od) T.hd T.ha T.hn T.ht
  obtain ⟨hp, g, d, t, os⟩ := s
  have ty := I.type (M := model prog w); have l1 := looks_findIn (M := model prog w) X T.hg; have l2 := looks_findIn (M := model prog w) X T.hk
  have l3 := looks_find (M := model prog w) X I hf; have sb : Looks (model prog w) hp (isInstance (.ref x) (.type "BaseException")) true := ty.andThen (looks_subIn X T.hs)
  have n2 : (Value.builtin "BaseException.__getattribute__" == Value.builtin "object.__getattribute__") = false := by decide +kernel
  have n1 : (onTheHeap (Value.ref D) && Value.builtin "BaseException.__getattribute__" == Value.builtin "object.__getattribute__") = false := (by rw [n2]; rfl)
  unfold getAttr? getAttrBy? getAttrBy
  refine wpAny_bind (wpAny_mkText (wpAny_bind (wpAny_attempt (wpAny_holding (wpAny_bind (ty.at (wpAny_bind (l1.at ?_))))))))
  show wpAny _ _ (if (onTheHeap (Value.ref D) && Value.builtin "BaseException.__getattribute__" == Value.builtin "object.__getattribute__") = true then _ else _) _ _ _
  rw [n1, if_neg Bool.false_ne_true]; unfold getAttrByItsOwn hookBefore
  refine wpAny_bind ?_
  rw [if_pos (show onTheHeap (Value.ref D) = true from rfl)]
  refine l2.at (wpAny_bind (wpAny_attempt (wpAny_holding ?_)))
  unfold callGetattribute
  rw [show (false && onTheHeap (Value.builtin "BaseException.__getattribute__")) = false from rfl, if_neg Bool.false_ne_true]; unfold boundAndCalled; rw [PySem.F.excAttr_ValueError.ga.bind (.ref x)]
  refine wpAny_bind (wpAny_pure ?_)
  show wpAny _ _ (call (.builtin "BaseException.__getattribute__") [.ref x, .str "__class__" t]) _ _ _
  refine wpAny_call (codeAny_call_builtin PySem.F.excAttr_ValueError.ga.plain PySem.F.entry_bexc_ga (@check_slot (model prog w) _ _ ⟨hp, g, d, t + 1, os⟩ "BaseException.__getattribute__" "BaseException" "__getattribute__" (.ref x) [.str "__class__" t] [] _ (by decide +kernel) (by decide +kernel) sb (PySem.F.args_bexc_ga (.ref x) (.str "__class__" t)) ?_))
  unfold Builtin.«object.__getattribute__»
  refine wpAny_bind (wpAny_of_eq (a := ((Value.ref x : Value), [Value.str "__class__" t])) (by first | rfl | (simp only [slotArgs]; rfl)) (wpAny_bind (wpAny_pure (wpAny_bind (ty.at (wpAny_bind (l3.at ?_)))))))
  show wpAny _ _ (holding [Value.builtin "object.__class__"] (call (.builtin "getset_descriptor.__get__") [.builtin "object.__class__", .ref x, .ref D]) >>= ret) _ _ _
  refine wpAny_bind (wpAny_holding (wpAny_call (class_get (s := ⟨hp, g, d, t + 1, os⟩) (ox := ox) (od := od) X I T.hm (wpAny_pure ?_))))
  show wpAny _ _ (handedOut (.ref D)) _ _ _
  rw [handedOut_of (v := .ref D) rfl]
  first
    | exact wpAny_pure (wpAny_pure h)
    | exact wpAny_pure h
    | exact wpAny_pure (wpAny_bind (wpAny_pure (wpAny_pure h)))
theorem kitx_err (T : L2.ExcC K D) : KitX K (.ref x) (.ref D) (fun h => InstAt h x ox D od) where
  ty := fun _ _ _ I => I.type
  it := fun M h X I => by
    obtain ⟨cd, hc, _⟩ := any_some T.hd
    unfold clsIn at hc
    split at hc
    · rename_i c' d' cd' sl' ho
      intro A' Q' E' s' k q; unfold isType loadHead; exact wpAny_bind (wpAny_loadPart (k _ _ (X _ _ ho)) (wpAny_pure q))
    · cases hc
  ne := (handS_kitx_exc (x := x) (ox := ox) T.hg T.hk T.hs T.hd T.ha T.hn T.ht T.hm).ne
  ca := fun X I k => cls_of T X I k
end
end PySem.ErrL
namespace L2
open PySem PySem.Spec PyProof.Rows
theorem ExcC.xf {K : PySem.W.Frag} {C : Addr} (T : ExcC K C) : XfC K C := ⟨T.hg, T.hk, T.hs, T.hd⟩
/-- isinstance(e, c), e the error that the suite holds, its dict at dd -/
def rIsErr (K : PySem.W.Frag) (cls : Value) (d : Option Addr) (a : Addr) : List V → Hp → VK → Prop := fun xs H Q => ∃ (c : V) (cv : Value) (b : Bool) (D dd : Addr) (fs : List (Str × V)), xs = [.ref a, c] ∧ cls = .ref D ∧ d = some dd ∧ H dd = some (.xd fs) ∧ ExcC K D ∧ ClsV c cv ∧ PySem.W.kitOne K (.ref D) cv = some b ∧ Q (.bl b) H
theorem call_isErr {X : Cx} {a : Addr} {cls : Value} {d : Option Addr} {oe : Obj} {pn : List (Addr × Obj)} (hz : Zc cls d oe) (hf : ∃ vs, oe.data = .fields vs) : CallR (X.suite a ((a, oe) :: pn)) (.builtin "isinstance") (rIsErr X.K cls d a) := by
  intro pins s σ H xs us Q I r h
  obtain ⟨c, cv, b, D, dd, fs, rfl, rfl, rfl, hdd, T, hcv, e, q⟩ := h
  obtain ⟨u1, u2, rfl, r1, r2⟩ := vals2 r
  obtain rfl : u1 = Value.ref a := r1
  have ec := hcv.eq r2
  subst ec
  obtain ⟨hget, _⟩ := I.pin (a, oe) (List.mem_append.mpr (.inl List.mem_cons_self))
  obtain ⟨vs, hv⟩ := hf
  obtain ⟨mA, hns, _⟩ := (show ObjOk X.prog X.w H s.heap dd (.xd fs) from I.hok dd _ hdd)
  obtain ⟨o', es, ep, ho, _⟩ := hns
  have J : PySem.W.InstAt s.heap a oe D (some o') := ⟨hget, hz.1, by unfold PySem.W.notCls; rw [hv] <;> rfl, by rw [hz.2]; exact ho⟩
  exact PySem.W.kia_one (PySem.ErrL.kitx_err T) I.kIn J e (fun z => nomatch z) fun tk => ⟨.bl b, H, I.kept (t' := tk) fun _ _ z => z, rfl, q⟩
theorem call_isErrK {X : Cx} {K : PySem.W.Frag} {a : Addr} {cls : Value} {d : Option Addr} {oe : Obj} {pn : List (Addr × Obj)} (h : X.K = K) (hz : Zc cls d oe) (hf : ∃ vs, oe.data = .fields vs) : CallR (X.suite a ((a, oe) :: pn)) (.builtin "isinstance") (rIsErr K cls d a) := h ▸ call_isErr hz hf
/-- .. with a dict or without -/
def rIsErr2 (K : PySem.W.Frag) (cls : Value) (d : Option Addr) (a : Addr) : List V → Hp → VK → Prop := fun xs H Q => ∃ (c : V) (cv : Value) (b : Bool) (D : Addr), xs = [.ref a, c] ∧ cls = .ref D ∧ (∀ dd, d = some dd → ∃ fs, H dd = some (.xd fs)) ∧ ExcC K D ∧ ClsV c cv ∧ PySem.W.kitOne K (.ref D) cv = some b ∧ Q (.bl b) H
theorem call_isErr2 {X : Cx} {a : Addr} {cls : Value} {d : Option Addr} {oe : Obj} {pn : List (Addr × Obj)} (hz : Zc cls d oe) (hf : ∃ vs, oe.data = .fields vs) : CallR (X.suite a ((a, oe) :: pn)) (.builtin "isinstance") (rIsErr2 X.K cls d a) := by
  intro pins s σ H xs us Q I r h
  obtain ⟨c, cv, b, D, rfl, rfl, hdd, T, hcv, e, q⟩ := h
  obtain ⟨u1, u2, rfl, r1, r2⟩ := vals2 r
  obtain rfl : u1 = Value.ref a := r1
  have ec := hcv.eq r2
  subst ec
  obtain ⟨hget, _⟩ := I.pin (a, oe) (List.mem_append.mpr (.inl List.mem_cons_self))
  obtain ⟨vs, hv⟩ := hf
  have J : ∃ od : Option Obj, PySem.W.InstAt s.heap a oe D od := by
    cases d with
    | none => exact ⟨none, hget, hz.1, by unfold PySem.W.notCls; rw [hv] <;> rfl, by rw [hz.2]; exact trivial⟩
    | some dd =>
      obtain ⟨fs, h⟩ := hdd dd rfl
      obtain ⟨mA, hns, _⟩ := (show ObjOk X.prog X.w H s.heap dd (.xd fs) from I.hok dd _ h)
      obtain ⟨o', es, ep, ho, _⟩ := hns
      exact ⟨some o', hget, hz.1, by unfold PySem.W.notCls; rw [hv] <;> rfl, by rw [hz.2]; exact ho⟩
  obtain ⟨od, J⟩ := J
  exact PySem.W.kia_one (PySem.ErrL.kitx_err T) I.kIn J e (fun z => nomatch z) fun tk => ⟨.bl b, H, I.kept (t' := tk) fun _ _ z => z, rfl, q⟩
theorem call_isErr2K {X : Cx} {K : PySem.W.Frag} {a : Addr} {cls : Value} {d : Option Addr} {oe : Obj} {pn : List (Addr × Obj)} (h : X.K = K) (hz : Zc cls d oe) (hf : ∃ vs, oe.data = .fields vs) : CallR (X.suite a ((a, oe) :: pn)) (.builtin "isinstance") (rIsErr2 K cls d a) := h ▸ call_isErr2 hz hf
end L2
set_option Elab.async false
set_option linter.all false
set_option maxRecDepth 100000
set_option maxHeartbeats 4000000
/-! the draws: an object of six entries -/
namespace Dw
open PySem L2
/-- the entries of the draws -/
def drK (c : Addr) (nx dg rs sd tn : Int) : List (Key × V) :=
  [(.inr "cells", .ref c), (.inr "next", .int nx), (.inr "digits", .int dg), (.inr "rest", .int rs), (.inr "seed", .int sd), (.inr "turn", .int tn)]
section
variable {c : Addr} {nx dg rs sd tn y : Int}
theorem g_cells : valV (drK c nx dg rs sd tn) (.inr "cells") = some (.ref c) := rfl
theorem g_next : valV (drK c nx dg rs sd tn) (.inr "next") = some (.int nx) := rfl
theorem g_digits : valV (drK c nx dg rs sd tn) (.inr "digits") = some (.int dg) := rfl
theorem g_rest : valV (drK c nx dg rs sd tn) (.inr "rest") = some (.int rs) := rfl
theorem g_seed : valV (drK c nx dg rs sd tn) (.inr "seed") = some (.int sd) := rfl
theorem g_turn : valV (drK c nx dg rs sd tn) (.inr "turn") = some (.int tn) := rfl
theorem p_next : putK (drK c nx dg rs sd tn) (.inr "next") (.int y) = drK c y dg rs sd tn := rfl
theorem p_digits : putK (drK c nx dg rs sd tn) (.inr "digits") (.int y) = drK c nx y rs sd tn := rfl
theorem p_rest : putK (drK c nx dg rs sd tn) (.inr "rest") (.int y) = drK c nx dg y sd tn := rfl
theorem p_seed : putK (drK c nx dg rs sd tn) (.inr "seed") (.int y) = drK c nx dg rs y tn := rfl
theorem p_turn : putK (drK c nx dg rs sd tn) (.inr "turn") (.int y) = drK c nx dg rs sd y := rfl
end
/-- the draws at d, their cells at c -/
def Dr (H : Hp) (d c : Addr) : Prop := d ≠ c ∧ ∃ (ns : List Int) (nx dg rs sd tn : Int), H d = some (.dK (drK c nx dg rs sd tn)) ∧ H c = some (.lst (ns.map V.int)) ∧ ns.length ≤ 63 ∧ 0 ≤ nx
theorem Dr.keep {H H' : Hp} {d c : Addr} (x : Dr H d c) (kd : ∀ o, H d = some o → H' d = some o) (kc : ∀ o, H c = some o → H' c = some o) : Dr H' d c := by
  obtain ⟨n, ns, nx, dg, rs, sd, tn, h1, h2, h3, h4⟩ := x
  exact ⟨n, ns, nx, dg, rs, sd, tn, kd _ h1, kc _ h2, h3, h4⟩
theorem Dr.same {H H' : Hp} {d c : Addr} (x : Dr H d c) (k : Same H H') : Dr H' d c := x.keep (k d) (k c)
theorem Dr.upd {H : Hp} {d c a : Addr} {o : HO} (x : Dr H d c) (h1 : d ≠ a) (h2 : c ≠ a) : Dr (upd H a o) d c := x.keep (fun o e => by rw [upd_ne h1]; exact e) (fun o e => by rw [upd_ne h2]; exact e)
theorem Dr.new {H : Hp} {d c a : Addr} {o : HO} (x : Dr H d c) (h : H a = none) : Dr (L2.upd H a o) d c := by
  obtain ⟨n, ns, nx, dg, rs, sd, tn, h1, h2, h3, h4⟩ := id x
  exact x.upd (ne_of_none h1 h) (ne_of_none h2 h)
theorem Dr.ne {H : Hp} {d c a : Addr} (x : Dr H d c) (h : H a = none) : d ≠ a ∧ c ≠ a := by
  obtain ⟨n, ns, nx, dg, rs, sd, tn, h1, h2, h3, h4⟩ := id x
  exact ⟨ne_of_none h1 h, ne_of_none h2 h⟩
/-- all but the object at d is as it was -/
def But (d : Addr) (H H' : Hp) : Prop := ∀ b o, H b = some o → b ≠ d → H' b = some o
theorem But.refl (d : Addr) (H : Hp) : But d H H := fun _ _ h _ => h
theorem But.trans {d : Addr} {H H1 H2 : Hp} (a : But d H H1) (b : But d H1 H2) : But d H H2 := fun c o h n => b c o (a c o h n) n
theorem But.of {d : Addr} {H H1 : Hp} (a : Same H H1) : But d H H1 := fun c o h _ => a c o h
theorem But.upd (d : Addr) (H : Hp) (o : HO) : But d H (L2.upd H d o) := fun c u h n => by rw [upd_ne n]; exact h
theorem But.free {d a : Addr} {H H1 : Hp} (x : But d H H1) (hd : ∀ o, H1 d = some o → True) (h : H1 a = none) (n : a ≠ d) : H a = none := by
  cases e : H a with
  | none => rfl
  | some o => rw [x a o e n] at h; cases h
/-- a draw: a number from 0 to many - 1; nothing but the draws changes -/
def spNext : Sp := fun vs H Q _ => ∃ (d c : Addr) (many : Int), vs = [.ref d, .int many] ∧ Dr H d c ∧ 1 ≤ many ∧ many < 1073741824 ∧
  ∀ (k : Int) (H' : Hp), 0 ≤ k → k < many → Dr H' d c → But d H H' → Q (.int k) H'
/-- the draws of a script -/
def spDigits (K : PySem.W.Frag) : Sp := fun vs H Q _ => ∃ (a : Addr) (ns : List Int) (many : V), vs = [.ref a, many] ∧ SqL K H a (ns.map V.int) ∧ ns.length ≤ 63 ∧
  ∀ (d c : Addr) (H' : Hp), H d = none → H c = none → Dr H' d c → Same H H' → Q (.ref d) H'
theorem dgs {H : Hp} {a : Addr} {kvs : List (Key × V)} {x : Str} {v : V} (e : H a = some (.dK kvs)) (h : valV kvs (.inr x) = some v) : DGet H a (.str x) (some v) := by
  have q := DGet.k (k := .inr x) e
  rw [h] at q
  exact q
theorem dps {H : Hp} {a : Addr} {kvs kvs' : List (Key × V)} {x : Str} {v : V} (e : H a = some (.dK kvs)) (h : putK kvs (.inr x) v = kvs') (hl : kvs.length < sizeLine) : DPut H a (.str x) v (upd H a (.dK kvs')) := by
  have q := DPut.k (k := .inr x) (v := v) e hl
  rw [h] at q
  exact q
theorem dpu {H : Hp} {a : Addr} {kvs kvs' : List (Key × V)} {x : Str} {v : V} (h : putK kvs (.inr x) v = kvs') (hl : kvs.length < sizeLine) : DPut (upd H a (.dK kvs)) a (.str x) v (upd H a (.dK kvs')) := by
  have q := dps (H := upd H a (.dK kvs)) (a := a) upd_same h hl
  rw [upd_upd] at q
  exact q
theorem dr_len {c : Addr} {nx dg rs sd tn : Int} : (drK c nx dg rs sd tn).length < sizeLine := by show 6 < sizeLine; decide
end Dw
set_option Elab.async false
set_option linter.all false
set_option maxRecDepth 100000
set_option maxHeartbeats 4000000
/-! new instances and methods whose error is wished for at the caller's slots -/
namespace L2
open PySem PySem.Spec PyProof.Rows
/-- C(..), C(.., k = v, ..), o.m(..): what is raised is wished for at σ -/
def tMakeS (C : Addr) (sp : Sp) (dvs : List V) (E : St → XK) (t : TA) : TE := fun σ H Q => t σ H fun vs H1 => ∀ x dx, H1 x = none → H1 dx = none → dx ≠ x →
  sp (.ref x :: (vs ++ dvs)) (upd (upd H1 dx (.own x)) x (.ins C dx [])) (fun v H2 => v = .non ∧ Q (.ref x) H2) (E σ)
def tMakeKS (C : Addr) (n m : Nat) (sp : Sp) (gV : List V → List V → List V) (E : St → XK) (t tk : TA) : TE := fun σ H Q => t σ H fun vs H1 => tk σ H1 fun zs H2 => vs.length = n ∧ zs.length = m ∧ ∀ x dx, H2 x = none → H2 dx = none → dx ≠ x →
  sp (gV (.ref x :: vs) zs) (upd (upd H2 dx (.own x)) x (.ins C dx [])) (fun v H3 => v = .non ∧ Q (.ref x) H3) (E σ)
def tMethSA (C : Addr) (m : Str) (sp : Sp) (dvs : List V) (E : St → XK) (ta : TE) (t : TA) : TE := fun σ H Q => ta σ H fun x H1 => ∃ a dx fs, x = .ref a ∧ H1 a = some (.ins C dx fs) ∧ fs.lookup m = none ∧
  t σ H1 fun vs H2 => sp (x :: (vs ++ dvs)) H2 Q (E σ)
section
variable {X : Cx} {CX : CXT} {k n : Nat} {f C : Addr} {fd : FuncData} {ps ks : List Str} {sp : Sp} {E : St → XK} {x m : Str} {p pos apos : Pos} {e o : Expr} {es : List Expr} {kws : List Keyword} {ta : TE} {t tk : TA} {ds : List Value} {dvs : List V} {g : List Value → List Value → List Value} {gV : List V → List V → List V}
theorem mk_back {pins : List (Addr × Obj)} {σ : St} {H : Hp} {s s' : Shared} {Q : VK} {r : Result} {E1 : XK} {a : Addr} (hx : PassesAt CX X σ E1) (I2 : Inv X pins σ H s)
    (hq : CR CX X.stack X.prog X.w H s (fun v H3 => v = .non ∧ Q (.ref a) H3) E1 r s') :
    PySem.W.InitBack a (fun r s' => match r with | .ok (.ret u) => EP X pins σ Q u s' | .ok _ => False | .error e => X.xe e s') r s' := by
  cases r with
  | error e => exact hx pins H s e s' I2 hq
  | ok fl =>
    cases fl with
    | ret u =>
      obtain ⟨v, H', I3, rv, ev, q3⟩ := I2.after hq
      subst ev
      exact ⟨rv, V.ref a, H', I3, rfl, q3⟩
    | next => exact hq.elim
    | brk => exact hq.elim
    | cont => exact hq.elim
theorem run_makeS {pins : List (Addr × Obj)} {σ : St} {H : Hp} {s : Shared} {Q : VK} {us : List Value} {vs : List V} (M : Mk X.K C f) (F : FnOk X.prog X.w X.K X.mg X.base CX k f fd ps sp) (hr : Room (k + 1) X.A) (hb : Binds X.K fd ps ds) (hd : Vals dvs ds)
    (hx : PassesAt CX X σ (E σ)) (I : Inv X pins σ H s) (r : Vals vs us)
    (h : ∀ x dx, H x = none → H dx = none → dx ≠ x → sp (.ref x :: (vs ++ dvs)) (upd (upd H dx (.own x)) x (.ins C dx [])) (fun v H2 => v = .non ∧ Q (.ref x) H2) (E σ)) :
    wpAny (model X.prog X.w) X.A (call (.ref C) us) (EP X pins σ Q) X.xe s := by
  have q0 := h (s.heap.objs.size + 1) s.heap.objs.size (I.hok.fresh (Nat.le_succ _)) (I.hok.fresh (Nat.le_refl _)) (Nat.ne_of_lt (Nat.lt_succ_self _))
  have J := Inv.made (C := C) I
  have rr : Vals (V.ref (s.heap.objs.size + 1) :: (vs ++ dvs)) (Value.ref (s.heap.objs.size + 1) :: (us ++ ds)) := .cons rfl (r.append hd)
  have hl : (Value.ref (s.heap.objs.size + 1) :: us ++ ds).length = ps.length := (rr.length.symm.trans (F.len _ _ _ _ q0))
  exact wpAny_call (make_map (f := f) I.kIn M.makes M.init (beq_iff_eq.mp M.fn) (codeAny_mono (F.run _ X.stack _ _ ⟨Value.ref (s.heap.objs.size + 1) :: us, []⟩ (Value.ref (s.heap.objs.size + 1) :: (us ++ ds)) _ _ (E σ) (hr.make C us [])
    (J.env0.make C us []) (hb _ (Value.ref (s.heap.objs.size + 1) :: us) J.kIn hl) rr q0) fun r s' q => mk_back hx J q))
theorem run_makeKS {pins : List (Addr × Obj)} {σ : St} {H : Hp} {s : Shared} {Q : VK} {us ws : List Value} {vs zs : List V} (M : Mk X.K C f) (F : FnOk X.prog X.w X.K X.mg X.base CX k f fd ps sp) (hr : Room (k + 1) X.A) (hb : KBn X.K fd ps (n + 1) ks g gV) (hx : PassesAt CX X σ (E σ))
    (I : Inv X pins σ H s) (r : Vals vs us) (rz : Vals zs ws) (l1 : vs.length = n) (l2 : zs.length = ks.length)
    (h : ∀ x dx, H x = none → H dx = none → dx ≠ x → sp (gV (.ref x :: vs) zs) (upd (upd H dx (.own x)) x (.ins C dx [])) (fun v H2 => v = .non ∧ Q (.ref x) H2) (E σ)) :
    wpAny (model X.prog X.w) X.A (call (.ref C) us (ks.zip ws)) (EP X pins σ Q) X.xe s := by
  have q0 := h (s.heap.objs.size + 1) s.heap.objs.size (I.hok.fresh (Nat.le_succ _)) (I.hok.fresh (Nat.le_refl _)) (Nat.ne_of_lt (Nat.lt_succ_self _))
  have J := Inv.made (C := C) I
  have rr := hb.rel (show Vals (V.ref (s.heap.objs.size + 1) :: vs) (Value.ref (s.heap.objs.size + 1) :: us) from .cons rfl r) rz
  have n1 : (Value.ref (s.heap.objs.size + 1) :: us).length = n + 1 := congrArg Nat.succ (r.length.symm.trans l1)
  exact wpAny_call (make_map (f := f) I.kIn M.makes M.init (beq_iff_eq.mp M.fn) (codeAny_mono (F.run _ X.stack _ _ ⟨Value.ref (s.heap.objs.size + 1) :: us, ks.zip ws⟩ (g (Value.ref (s.heap.objs.size + 1) :: us) ws) _ _ (E σ) (hr.make C us (ks.zip ws))
    (J.env0.make C us (ks.zip ws)) (hb.to _ (Value.ref (s.heap.objs.size + 1) :: us) ws J.kIn n1 (rz.length.symm.trans l2)) rr q0) fun r s' q => mk_back hx J q))
/-- C(e, ..) -/
theorem pe_makeS (M : Mk X.K C f) (F : FnOk X.prog X.w X.K X.mg X.base CX k f fd ps sp) (hr : Room (k + 1) X.A) (hg : Gl X x) (hm : X.mg x = some (.ref C)) (hb : Binds X.K fd ps ds) (hd : Vals dvs ds) (hx : ∀ σ, PassesAt CX X σ (E σ)) (ha : PA X (e :: es) t)
    (hdb : (x == ("__debug__" : Str)) = false := by decide) (he : starEach (e :: es) X.env = (false, eval e X.env) :: starEach es X.env := by rfl) (hpl : (backTo pos (starEach es X.env)).any (·.1) = false := by rfl) :
    PE X (.Call (.Name x p) (e :: es) [] pos) (tMakeS C sp dvs E t) := ⟨fun pins s σ H Q I h =>
  wpAny_Call_Name_kw (ld_glob I hg hm (PySem.W.callWith_K (h₀ := X.base) I.ok.mod.kin M.kp (thn (ha.run pos pins s σ H _ I h) fun us s1 ⟨vs, H1, I1, r, q⟩ => ⟨I1.kIn, run_makeS M F hr hb hd (hx σ) I1 r q⟩) he hpl) hdb)⟩
/-- C(e, .., k = v, ..) -/
theorem pe_makeKS (M : Mk X.K C f) (F : FnOk X.prog X.w X.K X.mg X.base CX k f fd ps sp) (hr : Room (k + 1) X.A) (hg : Gl X x) (hm : X.mg x = some (.ref C)) (hb : KBn X.K fd ps (n + 1) ks g gV) (hx : ∀ σ, PassesAt CX X σ (E σ)) (ha : PA X (e :: es) t) (hkw : PK X kws tk)
    (hall : (backToKw pos (keywordEach kws X.env)).all (·.1.isSome) = true := by rfl) (hks : (backToKw pos (keywordEach kws X.env)).filterMap (·.1) = ks := by rfl) (hdb : (x == ("__debug__" : Str)) = false := by decide)
    (he : starEach (e :: es) X.env = (false, eval e X.env) :: starEach es X.env := by rfl) (hpl : ((backTo pos (starEach (e :: es) X.env)).any (·.1) || (backToKw pos (keywordEach kws X.env)).any (·.1.isNone)) = false := by rfl) :
    PE X (.Call (.Name x p) (e :: es) kws pos) (tMakeKS C n ks.length sp gV E t tk) := ⟨fun pins s σ H Q I h =>
  wpAny_Call_Name_kw (ld_glob I hg hm (PySem.W.callWith_KW (h₀ := X.base) I.ok.mod.kin M.kp hall (thn (ha.run pos pins s σ H _ I h) fun us s1 ⟨vs, H1, I1, r, q⟩ =>
    thn (hkw.run pos pins s1 σ H1 _ I1 q) fun ws s2 ⟨zs, H2, I2, rz, l1, l2, q2⟩ => ⟨I2.kIn, by rw [hks]; exact run_makeKS M F hr hb (hx σ) I2 r rz l1 l2 q2⟩) hpl he) hdb)⟩
/-- o.m(e, ..) -/
theorem pe_methSA {pl : Sem Bool} (ho : PE X o ta) (c : Cls X.K C) (hm : Meth X.K C m f) (F : FnOk X.prog X.w X.K X.mg X.base CX k f fd ps sp) (hr : Room k X.A) (hb : Binds X.K fd ps []) (hx : ∀ σ, PassesAt CX X σ (E σ)) (ha : PA X (e :: es) t)
    (hst : starEach (e :: es) X.env = (false, eval e X.env) :: starEach es X.env := by rfl) (hpl : (backTo pos (starEach es X.env)).any (·.1) = false := by rfl)
    (ht : eval (.Call (.Attribute o m apos) (e :: es) [] pos) X.env = (do
      let v0 ← eval o X.env
      standAt apos.atName
      let (f1, first) ← holding [v0] (getMethod v0 m pl)
      callWith pos f1 first (backTo pos (starEach (e :: es) X.env)) (backToKw pos (keywordEach [] X.env))) := by rfl) :
    PE X (.Call (.Attribute o m apos) (e :: es) [] pos) (tMethSA C m sp [] E ta t) := by
  refine ⟨fun pins s σ H Q I h => PySem.W.methodCall_KW (pl := pl) (thn (ho.run pins s σ H _ I h) fun u s1 hh => ?_) ht⟩
  obtain ⟨x, H1, I1, rx, a, dx, fs, ex, ea, l, q⟩ := hh
  subst ex
  obtain rfl : u = Value.ref a := rx
  refine getmeth_ok I1 ea c hm l (PySem.W.callWith_K (first := [.ref a]) (h₀ := X.base) I.ok.mod.kin hm.kp (thn (ha.run pos pins s1 σ H1 _ I1 q) fun us s2 hh2 => ?_) hst hpl)
  obtain ⟨vs, H2, I2, r, q2⟩ := hh2
  rw [List.append_nil] at q2
  exact ⟨I2.kIn, run_fnS (us := .ref a :: us) (vs := .ref a :: vs) F hr hb (hx σ) I2 (.cons rfl r) q2⟩
end
end L2
set_option Elab.async false
set_option linter.all false
set_option maxRecDepth 100000
set_option maxHeartbeats 4000000
namespace L2
open PySem PySem.Spec PyProof.Rows
/-- a def of the text that keeps sp, as its callers need it -/
def Cal (P : Program) (w : World) (K : PySem.W.Frag) (mg : Str → Option Value) (base : Heap) (CX : CXT) (k : Nat) (x : Str) (ps : List Str) (sp : Sp) : Prop :=
  ∃ (f : Addr) (fd : FuncData), FnOk P w K mg base CX k f fd ps sp ∧ mg x = some (.ref f) ∧ PySem.W.keepIn K (.ref f) = true ∧ Binds K fd ps []
/-- a method of the class at C that keeps sp -/
def CalM (P : Program) (w : World) (K : PySem.W.Frag) (mg : Str → Option Value) (base : Heap) (CX : CXT) (k : Nat) (C : Addr) (m : Str) (ps : List Str) (sp : Sp) : Prop :=
  ∃ (f : Addr) (fd : FuncData), FnOk P w K mg base CX k f fd ps sp ∧ Meth K C m f ∧ Binds K fd ps []
/-- the class at C makes its instances by sp -/
def CalC (P : Program) (w : World) (K : PySem.W.Frag) (mg : Str → Option Value) (base : Heap) (CX : CXT) (k : Nat) (C : Addr) (ps : List Str) (sp : Sp) : Prop :=
  ∃ (f : Addr) (fd : FuncData), FnOk P w K mg base CX k f fd ps sp ∧ Mk K C f ∧ Binds K fd ps []
/-- where a def stands -/
def Def (K : PySem.W.Frag) (mg : Str → Option Value) (x : Str) (st : Stmt) : Prop := ∃ (f : Addr) (fd : FuncData), Fun K x x st f fd ∧ mg x = some (.ref f)
def DefM (K : PySem.W.Frag) (C : Addr) (m qual : Str) (st : Stmt) : Prop := ∃ (f : Addr) (fd : FuncData), Fun K m qual st f fd ∧ Meth K C m f
def DefC (K : PySem.W.Frag) (C : Addr) (qual : Str) (st : Stmt) : Prop := ∃ (f : Addr) (fd : FuncData), Fun K "__init__" qual st f fd ∧ Mk K C f
section
variable {X : Cx} {CX : CXT} {k : Nat} {ps : List Str} {sp : Sp} {x : Str} {p pos apos : Pos} {e o : Expr} {es : List Expr} {t : TA} {ta : TE} {v : V} {C : Addr} {m : Str}
theorem pe_cal (c : Cal X.prog X.w X.K X.mg X.base CX k x ps sp) (hr : Room k X.A) (ha : PA X (e :: es) t) (hx : Passes CX X E0 := by first | exact pass0 | exact passL) (hg : Gl X x := by rfl) (hdb : (x == ("__debug__" : Str)) = false := by decide) (he : starEach (e :: es) X.env = (false, eval e X.env) :: starEach es X.env := by rfl)
    (hpl : (backTo pos (starEach es X.env)).any (·.1) = false := by rfl) : PE X (.Call (.Name x p) (e :: es) [] pos) (tCall sp [] E0 t) := by
  obtain ⟨f, fd, h1, h2, h3, h4⟩ := c
  exact pe_call h1 hr hg h2 h3 h4 .nil hx ha hdb he hpl
theorem pe_cal0 (c : Cal X.prog X.w X.K X.mg X.base CX k x ps sp) (hr : Room k X.A) (hx : Passes CX X E0 := by first | exact pass0 | exact passL) (hg : Gl X x := by rfl) (hdb : (x == ("__debug__" : Str)) = false := by decide) : PE X (.Call (.Name x p) [] [] pos) (tCall sp [] E0 tNil) := by
  obtain ⟨f, fd, h1, h2, h3, h4⟩ := c
  exact pe_call0 h1 hr hg h2 h3 h4 .nil hx hdb
/-- f(e, ..) within a try: what it raises is wished for at the slots -/
theorem pe_calS {E : St → XK} (c : Cal X.prog X.w X.K X.mg X.base CX k x ps sp) (hr : Room k X.A) (hx : ∀ σ, PassesAt CX X σ (E σ)) (ha : PA X (e :: es) t) (hg : Gl X x := by rfl) (hdb : (x == ("__debug__" : Str)) = false := by decide) (he : starEach (e :: es) X.env = (false, eval e X.env) :: starEach es X.env := by rfl)
    (hpl : (backTo pos (starEach es X.env)).any (·.1) = false := by rfl) : PE X (.Call (.Name x p) (e :: es) [] pos) (tCallS sp E t) := by
  obtain ⟨f, fd, h1, h2, h3, h4⟩ := c
  exact pe_callS h1 hr hg h2 h3 h4 hx ha hdb he hpl
/-- C(e, ..) -/
theorem pe_mk (c : CalC X.prog X.w X.K X.mg X.base CX k C ps sp) (hm : X.mg x = some (.ref C)) (hr : Room (k + 1) X.A) (ha : PA X (e :: es) t) (hx : Passes CX X E0 := by first | exact pass0 | exact passL) (hg : Gl X x := by rfl) (hdb : (x == ("__debug__" : Str)) = false := by decide) (he : starEach (e :: es) X.env = (false, eval e X.env) :: starEach es X.env := by rfl)
    (hpl : (backTo pos (starEach es X.env)).any (·.1) = false := by rfl) : PE X (.Call (.Name x p) (e :: es) [] pos) (tMake C sp [] E0 t) := by
  obtain ⟨f, fd, h1, h2, h4⟩ := c
  exact pe_make h2 h1 hr hg hm h4 .nil hx ha hdb he hpl
theorem pe_mkS {E : St → XK} (c : CalC X.prog X.w X.K X.mg X.base CX k C ps sp) (hm : X.mg x = some (.ref C)) (hr : Room (k + 1) X.A) (hx : ∀ σ, PassesAt CX X σ (E σ)) (ha : PA X (e :: es) t) (hg : Gl X x := by rfl) (hdb : (x == ("__debug__" : Str)) = false := by decide) (he : starEach (e :: es) X.env = (false, eval e X.env) :: starEach es X.env := by rfl)
    (hpl : (backTo pos (starEach es X.env)).any (·.1) = false := by rfl) : PE X (.Call (.Name x p) (e :: es) [] pos) (tMakeS C sp [] E t) := by
  obtain ⟨f, fd, h1, h2, h4⟩ := c
  exact pe_makeS h2 h1 hr hg hm h4 .nil hx ha hdb he hpl
/-- o.m(e, ..), o.m() -/
theorem pe_mth {pl : Sem Bool} (cl : Cls X.K C) (c : CalM X.prog X.w X.K X.mg X.base CX k C m ps sp) (hr : Room k X.A) (ho : PE X o ta) (ha : PA X (e :: es) t) (hx : Passes CX X E0 := by first | exact pass0 | exact passL) (hst : starEach (e :: es) X.env = (false, eval e X.env) :: starEach es X.env := by rfl) (hpl : (backTo pos (starEach es X.env)).any (·.1) = false := by rfl)
    (ht : eval (.Call (.Attribute o m apos) (e :: es) [] pos) X.env = (do
      let v0 ← eval o X.env
      standAt apos.atName
      let (f1, first) ← holding [v0] (getMethod v0 m pl)
      callWith pos f1 first (backTo pos (starEach (e :: es) X.env)) (backToKw pos (keywordEach [] X.env))) := by rfl) : PE X (.Call (.Attribute o m apos) (e :: es) [] pos) (tMeth C m sp [] E0 ta t) := by
  obtain ⟨f, fd, h1, h2, h4⟩ := c
  exact pe_meth ho cl h2 h1 hr h4 .nil hx ha hst hpl ht
theorem pe_mth0 {pl : Sem Bool} (cl : Cls X.K C) (c : CalM X.prog X.w X.K X.mg X.base CX k C m ps sp) (hr : Room k X.A) (ho : PE X o ta) (hx : Passes CX X E0 := by first | exact pass0 | exact passL)
    (ht : eval (.Call (.Attribute o m apos) [] [] pos) X.env = (do
      let v0 ← eval o X.env
      standAt apos.atName
      let (f1, first) ← holding [v0] (getMethod v0 m pl)
      callWith pos f1 first (backTo pos (starEach [] X.env)) (backToKw pos (keywordEach [] X.env))) := by rfl) : PE X (.Call (.Attribute o m apos) [] [] pos) (tMeth C m sp [] E0 ta tNil) := by
  obtain ⟨f, fd, h1, h2, h4⟩ := c
  exact pe_meth0 ho cl h2 h1 hr h4 .nil hx ht
theorem pe_mthS {pl : Sem Bool} {E : St → XK} (cl : Cls X.K C) (c : CalM X.prog X.w X.K X.mg X.base CX k C m ps sp) (hr : Room k X.A) (ho : PE X o ta) (hx : ∀ σ, PassesAt CX X σ (E σ)) (ha : PA X (e :: es) t) (hst : starEach (e :: es) X.env = (false, eval e X.env) :: starEach es X.env := by rfl) (hpl : (backTo pos (starEach es X.env)).any (·.1) = false := by rfl)
    (ht : eval (.Call (.Attribute o m apos) (e :: es) [] pos) X.env = (do
      let v0 ← eval o X.env
      standAt apos.atName
      let (f1, first) ← holding [v0] (getMethod v0 m pl)
      callWith pos f1 first (backTo pos (starEach (e :: es) X.env)) (backToKw pos (keywordEach [] X.env))) := by rfl) : PE X (.Call (.Attribute o m apos) (e :: es) [] pos) (tMethSA C m sp [] E ta t) := by
  obtain ⟨f, fd, h1, h2, h4⟩ := c
  exact pe_methSA ho cl h2 h1 hr h4 hx ha hst hpl ht
end
/-- a module's constant -/
theorem pe_gl {X : Cx} {x : Str} {pos : Pos} {v : V} (h : ∃ u, X.mg x = some u ∧ RelV v u) (hg : Gl X x := by rfl) (hdb : (x == ("__debug__" : Str)) = false := by decide) : PE X (.Name x pos) (tC v) := by
  obtain ⟨u, hm, r⟩ := h
  exact pe_glob hg hm r hdb
/-- a built-in class as a value -/
theorem pe_ty {X : Cx} {x : Str} {pos : Pos} (n : String) (hm : X.mg x = none) (hg : Gl X x := by rfl) (hv : bootBuiltins x = some (.type n) := by decide +kernel) (hn : x ≠ "__name__" := by decide) (hd : (x == ("__debug__" : Str)) = false := by decide) : PE X (.Name x pos) (tC (.ty n)) :=
  pe_bltn hg hm hv rfl hn hd
/-- an own class as a value -/
theorem pe_cls {X : Cx} {x : Str} {pos : Pos} {C : Addr} (hm : X.mg x = some (.ref C)) (hg : Gl X x := by rfl) (hd : (x == ("__debug__" : Str)) = false := by decide) : PE X (.Name x pos) (tC (.ref C)) := pe_glob hg hm rfl hd
/-- a plain value and the name of its type -/
inductive Dm (K : PySem.W.Frag) (H : Hp) : V → String → Prop where
  | non : Dm K H .non "NoneType"
  | bl (b : Bool) : Dm K H (.bl b) "bool"
  | int (i : Int) : Dm K H (.int i) "int"
  | str (x : Str) (h : x.length ≤ sizeLine) : Dm K H (.str x) "str"
  | lst {a : Addr} {xs : List V} (e : H a = some (.lst xs)) : Dm K H (.ref a) "list"
  | tup {a : Addr} {xs : List V} (e : H a = some (.tup xs)) : Dm K H (.ref a) "tuple"
section
variable {K : PySem.W.Frag} {H H' : Hp} {v : V} {n : String}
theorem Dm.mono (d : Dm K H v n) (k : ∀ a o, v = .ref a → H a = some o → (∃ o', H' a = some o' ∧ ((∃ xs ys, o = .lst xs ∧ o' = .lst ys) ∨ o' = o))) : Dm K H' v n := by
  cases d with
  | non => exact .non
  | bl b => exact .bl b
  | int i => exact .int i
  | str x h => exact .str x h
  | lst e =>
    obtain ⟨o', h1, h2⟩ := k _ _ rfl e
    rcases h2 with ⟨xs, ys, _, h3⟩ | h3
    · subst h3; exact .lst h1
    · subst h3; exact .lst h1
  | tup e =>
    obtain ⟨o', h1, h2⟩ := k _ _ rfl e
    rcases h2 with ⟨xs, ys, h3, _⟩ | h3
    · cases h3
    · subst h3; exact .tup h1
theorem Dm.same (d : Dm K H v n) (k : Same H H') : Dm K H' v n := d.mono fun a o _ e => ⟨o, k a o e, .inr rfl⟩
theorem Dm.ty (d : Dm K H v n) : TyX K H v (.type n) := by
  cases d with
  | non => exact .base .non
  | bl b => exact .base (.bl b)
  | int i => exact .base (.int i)
  | str x h => exact .base (.str x)
  | lst e => exact .base (.lst e)
  | tup e => exact .base (.tup e)
end
theorem sNew {H : Hp} {p : Addr} {o : HO} (h : H p = none) : Same H (upd H p o) := fun b u e => by rw [upd_ne (ne_of_none e h)]; exact e
/-! the same rules, the written part named -/
section
variable {X : Cx} {K : PySem.W.Frag}
theorem ix_listK (h : X.K = K) : IxR X (rIxL K) := h ▸ ix_list
theorem ix_tupK (h : X.K = K) : IxR X (rIxT K) := h ▸ ix_tup
theorem call_isiK' (h : X.K = K) : CallR X (.builtin "isinstance") (rIsi K) := h ▸ call_isi
theorem call_isiTK (h : X.K = K) : CallR X (.builtin "isinstance") (rIsiT K) := h ▸ call_isiT
theorem sl_listK (h : X.K = K) : SlR X (rSlL K) := h ▸ sl_list
end
/-- a comprehension over a text -/
theorem lc_str {x : Str} {g : TG} {tt : TT} {te : TE} {vs : List Nat} {σ : St} {H1 : Hp} {D : Addr} {Qd : Hp → Prop} (Pv : Nat → Hp → Prop) (h0 : Pv 0 (upd H1 D (.lst [])))
    (hs : ∀ i c H, x.cps[i]? = some c → Pv i H → g (.str ⟨#[c]⟩) (wipe σ vs) H fun σ2 H2 => wipe σ2 vs = wipe σ vs ∧ tt σ2 H2 fun b H3 =>
      if b = true then te σ2 H3 fun y H4 => ∃ acc, H4 D = some (.lst acc) ∧ acc.length < sizeLine ∧ Pv (i + 1) (upd H4 D (.lst (acc ++ [y]))) else Pv (i + 1) H3) (hd : ∀ H, Pv x.cps.size H → Qd H) :
    ∃ W : Nat → Nat → Hp → Prop, (∃ m, W 0 m (upd H1 D (.lst []))) ∧ ∀ i m H, W i m H →
      ((Its x).stop i H ∧ Qd H) ∨ ((Its x).go i H ∧ ∃ Nx : Hp → Prop, (∀ H', Nx H' → ∃ m', m' < m ∧ W (i + 1) m' H') ∧ ∀ y H', (Its x).yld i H y H' → g y (wipe σ vs) H' fun σ2 H2 => wipe σ2 vs = wipe σ vs ∧ tt σ2 H2 fun b H3 =>
        if b = true then te σ2 H3 fun y H4 => ∃ acc, H4 D = some (.lst acc) ∧ acc.length < sizeLine ∧ Nx (upd H4 D (.lst (acc ++ [y]))) else Nx H3) := by
  refine ⟨fun i m H => m = x.cps.size - i ∧ i ≤ x.cps.size ∧ Pv i H, ⟨x.cps.size, by simp, Nat.zero_le _, h0⟩, ?_⟩
  rintro i m H ⟨rfl, hi, p⟩
  by_cases hlt : i < x.cps.size
  · refine .inr ⟨hlt, Pv (i + 1), fun H' p' => ⟨x.cps.size - (i + 1), by omega, rfl, by omega, p'⟩, ?_⟩
    rintro y H' ⟨rfl, c, hc, rfl⟩
    exact hs i c H' hc p
  · have e : i = x.cps.size := by omega
    subst e
    exact .inl ⟨Nat.le_refl _, hd H p⟩
/-- a for over a text -/
theorem for_strT {x : Str} {g : TG} {tb : TS} {D : Ends} {σ : St} {H : Hp} (Pv : Nat → St → Hp → Prop) (h0 : Pv 0 σ H)
    (hs : ∀ i c σ H, x.cps[i]? = some c → Pv i σ H → g (.str ⟨#[c]⟩) σ H fun σ2 H2 => tb { D with nx := Pv (i + 1), ct := Pv (i + 1), bk := D.nx } σ2 H2) (hd : ∀ σ H, Pv x.cps.size σ H → D.nx σ H) :
    ∃ W : Nat → Nat → St → Hp → Prop, (∃ m, W 0 m σ H) ∧ ∀ i m σ H, W i m σ H →
      ((Its x).stop i H ∧ D.nx σ H) ∨ ((Its x).go i H ∧ ∃ N : St → Hp → Prop, (∀ σ' H', N σ' H' → ∃ m', m' < m ∧ W (i + 1) m' σ' H') ∧ ∀ y H', (Its x).yld i H y H' → g y σ H' fun σ2 H2 => tb { D with nx := N, ct := N, bk := D.nx } σ2 H2) := by
  refine ⟨fun i m σ H => m = x.cps.size - i ∧ i ≤ x.cps.size ∧ Pv i σ H, ⟨x.cps.size, by simp, Nat.zero_le _, h0⟩, ?_⟩
  rintro i m σ H ⟨rfl, hi, p⟩
  by_cases hlt : i < x.cps.size
  · refine .inr ⟨hlt, Pv (i + 1), fun σ' H' p' => ⟨x.cps.size - (i + 1), by omega, rfl, by omega, p'⟩, ?_⟩
    rintro y H' ⟨rfl, c, hc, rfl⟩
    exact hs i c σ H' hc p
  · have e : i = x.cps.size := by omega
    subst e
    exact .inl ⟨Nat.le_refl _, hd σ H p⟩
end L2
set_option Elab.async false
set_option linter.all false
set_option maxRecDepth 100000
set_option maxHeartbeats 4000000
/-! own errors held as values -/
namespace L2
open PySem PySem.Spec PyProof.Rows
section
variable {X : Cx} {C : Addr} {fs : List Str} {ok : List Value → Prop} {x : Str} {e : Expr} {es : List Expr} {ta : TA} {p p1 p2 pos : Pos}
/-- X(e, ..), a value: the error and its dict -/
def tErV (C : Addr) (fs : List Str) (okV : List V → Prop) (ta : TA) : TE := fun σ H Q => ta σ H fun vs H1 => vs.length = fs.length ∧ okV vs ∧ ∀ a d, H1 a = none → H1 d = none → d ≠ a → Q (.ref a) (upd (upd H1 d (exd d (fs.zip vs))) a (exo a C (some d)))
theorem pe_erV {k : Nat} {okV : List V → Prop} (T : PySem.ErrL.Makes X.prog X.w X.K X.mg C fs ok) (hok : ∀ vs us, Vals vs us → okV vs → ok us) (gC : X.mg x = some (.ref C)) (hr : Room k X.A) (ha : PA X (e :: es) ta) (hg : Gl X x := by rfl)
    (hdb : (x == ("__debug__" : Str)) = false := by decide) (he : starEach (e :: es) X.env = (false, eval e X.env) :: starEach es X.env := by rfl) (hpl : (backTo pos (starEach es X.env)).any (·.1) = false := by rfl) :
    PE X (.Call (.Name x p) (e :: es) [] pos) (tErV C fs okV ta) := by
  refine ⟨fun pins s σ H Q I h => ?_⟩
  refine wpAny_Call_Name_kw (ld_glob I hg gC ?_ hdb)
  refine PySem.W.callWith_K (h₀ := X.base) I.ok.mod.kin T.kC (thn (ha.run pos pins s σ H _ I h) fun us s1 hh => ?_) he hpl
  obtain ⟨vs, H1, I1, r1, hl, hov, q1⟩ := hh
  refine ⟨I1.kIn, ?_⟩
  show wpAny _ _ (call (.ref C) us) _ _ _
  obtain ⟨mb, hmb, hbt⟩ := I1.mod.blt
  have hlim := I1.nolimit
  have hgl := I1.mod.glob.keeps I1.bk
  have hbl := hmb.keeps I1.bk
  have kin := I1.kIn
  obtain ⟨hp, g, dr, tk, os⟩ := s1
  refine wpAny_call (T.run _ _ us mb _ (by rw [← hl]; exact (Vals.length r1).symm) (hok vs us r1 hov) kin hlim hgl hbl hbt (by have := hr.dp; omega) fun h' tk' a d mA hmA M => ?_)
  obtain ⟨t1, hoe⟩ := M.obj
  have ha0 : hp.get? a = none := Heap.get?_none_of_le M.new
  have hd0 : hp.get? d = none := Heap.get?_none_of_le M.dbig
  have na : H1 a = none := I1.hok.fresh M.new
  have nd : H1 d = none := I1.hok.fresh M.dbig
  have rel : ∀ f, RelO ((fs.zip vs).lookup f) (mA f) := fun f => by rw [hmA]; exact relO_zip r1 f
  have U : Un X.fs [] H1 (upd (upd H1 d (exd d (fs.zip vs))) a (exo a C (some d))) hp h' := {
    keep := fun b u q _ _ _ => M.keep b u q
    slot := fun b u q _ _ _ => ⟨u.slots, M.keep b u q⟩
    free := fun b u q n _ => by rw [upd_ne (fun z => by rw [z, ha0] at q; cases q), upd_ne (fun z => by rw [z, hd0] at q; cases q)]; exact n
    there := fun b u q _ => ⟨u, M.keep b u q⟩
    tups := fun b xs q => by rw [upd_ne (ne_of_none q na), upd_ne (ne_of_none q nd)]; exact q
    frzs := fun b u xs q => by rw [upd_ne (ne_of_none q na), upd_ne (ne_of_none q nd)]; exact q
    tbls := fun b ps q => ⟨#[], by rw [upd_ne (ne_of_none q na), upd_ne (ne_of_none q nd), q]; simp⟩ }
  have hok2 : HOk X.prog X.w (upd (upd H1 d (exd d (fs.zip vs))) a (exo a C (some d))) h' := fun b u q => by
    by_cases hb : b = a
    · subst hb
      rw [upd_same] at q
      cases q
      exact exo_ok hoe
    · rw [upd_ne hb] at q
      by_cases hb2 : b = d
      · subst hb2
        rw [upd_same] at q
        cases q
        exact exd_ok M.ns rel
      · rw [upd_ne hb2] at q
        exact (I1.hok b u q).stay (fun c v _ z => M.keep c v z) (fun c z => by rw [upd_ne (ne_of_none z na), upd_ne (ne_of_none z nd)]; exact z) fun c xs z => by rw [upd_ne (ne_of_none z na), upd_ne (ne_of_none z nd)]; exact z
  exact ⟨.ref a, _, I1.un (t' := tk') U hok2, rfl, q1 a d na nd M.dne⟩
/-- X(e, ..), a value, X's own __init__ walked -/
def tOeV (C : Addr) (sp : Sp) (dvs : List V) (ta : TA) : TE := fun σ H Q => ta σ H fun vs H1 => vs.length ≤ 1000 ∧ ∀ a, H1 a = none → sp (.ref a :: (vs ++ dvs)) (upd H1 a (exo a C none)) (fun v H2 => v = .non ∧ Q (.ref a) H2) (fun _ _ _ => False)
theorem run_oeV {CX : CXT} {fI : Addr} {k : Nat} {fd : FuncData} {ps : List Str} {sp : Sp} {ds : List Value} {dvs : List V} {pins : List (Addr × Obj)} {σ : St} {H1 : Hp} {s1 : Shared} {Q : VK} {us : List Value} {vs : List V} (T : OexC X.K C) (iC : PySem.W.findIn X.K (.ref C) "__init__" = some (some (.ref fI))) (tI : PySem.W.typeIn X.K (.ref fI) = some (.type "function"))
    (F1 : FnOk X.prog X.w X.K X.mg X.base CX k fI fd ps sp) (hr : Room (k + 1) X.A) (hb : Binds X.K fd ps ds) (hd : Vals dvs ds) (hx : Passes CX X (fun _ _ _ => False)) (I1 : Inv X pins σ H1 s1) (r1 : Vals vs us) (hz : vs.length ≤ 1000)
    (q1 : ∀ a, H1 a = none → sp (.ref a :: (vs ++ dvs)) (upd H1 a (exo a C none)) (fun v H2 => v = .non ∧ Q (.ref a) H2) (fun _ _ _ => False)) : wpAny (model X.prog X.w) X.A (call (.ref C) us) (EP X pins σ Q) X.xe s1 := by
  obtain ⟨nm, q, N, bs, bm, sn, sub, ab, col, dd, k0, k1, k2, k3, k5, hC, hbm⟩ := T.cls
  obtain ⟨hp, g, dr, tk, os⟩ := s1
  have hsz : hp.objs.size ≤ hp.objs.size + 1 := Nat.le_succ _
  have hn : H1 (hp.objs.size + 1) = none := I1.hok.fresh hsz
  have hq := q1 (hp.objs.size + 1) hn
  have kk : ∀ b o, hp.get? b = some o → ((hp.push (PySem.W.kdv_tup us)).push (PySem.HandSPX.excO C hp.objs.size)).get? b = some o := fun b o e => Heap.get?_push_of_some _ (Heap.get?_push_of_some _ e)
  have hget : ((hp.push (PySem.W.kdv_tup us)).push (PySem.HandSPX.excO C hp.objs.size)).get? (hp.objs.size + 1) = some (PySem.HandSPX.excO C hp.objs.size) := by heap_get
  have I2 : Inv X pins σ (upd H1 (hp.objs.size + 1) (exo (hp.objs.size + 1) C none)) ⟨(hp.push (PySem.W.kdv_tup us)).push (PySem.HandSPX.excO C hp.objs.size), g, dr, tk, os⟩ :=
    I1.laid (t' := tk) (a := hp.objs.size + 1) (o := exo (hp.objs.size + 1) C none) (h' := (hp.push (PySem.W.kdv_tup us)).push (PySem.HandSPX.excO C hp.objs.size)) kk hsz (exo_ok hget)
  have r2 : Vals (V.ref (hp.objs.size + 1) :: (vs ++ dvs)) (Value.ref (hp.objs.size + 1) :: (us ++ ds)) := .cons rfl (r1.append hd)
  have hl : (Value.ref (hp.objs.size + 1) :: us ++ ds).length = ps.length := by
    have e := r2.length
    rw [F1.len _ _ _ _ hq] at e
    exact e.symm
  have hus : us.length ≤ sizeLine := by
    rw [← Paired.length r1, sizeLine_eq]
    omega
  refine wpAny_call (PySem.HandSPX.call_own F.excBase_ValueError (fun Y => PySem.HandSPX.refsVE_contains Y bm hbm) (I1.kIn _ _ hC) (PySem.W.looks_findIn I1.kIn iC) (fun self => PySem.W.bind_fn I1.kIn self tI) hus
    (codeAny_mono (F1.run _ X.stack _ _ ⟨Value.ref (hp.objs.size + 1) :: us, []⟩ (Value.ref (hp.objs.size + 1) :: (us ++ ds)) _ _ (fun _ _ _ => False) (hr.make C us []) (I2.env0.make C us []) (hb _ (Value.ref (hp.objs.size + 1) :: us) I2.kIn hl) r2 hq) fun r s' hq' => ?_))
  cases r with
  | error er => exact hx pins σ _ _ er s' I2 hq'
  | ok fl =>
    cases fl with
    | ret u =>
      obtain ⟨v, H2, J, rv, ev, q2⟩ := I2.after hq'
      subst ev
      exact ⟨rv, .ref (hp.objs.size + 1), H2, J, rfl, q2⟩
    | next => exact False.elim hq'
    | brk => exact False.elim hq'
    | cont => exact False.elim hq'
theorem pe_oeV {CX : CXT} {fI : Addr} {k : Nat} {fd : FuncData} {ps : List Str} {sp : Sp} {ds : List Value} {dvs : List V} (T : OexC X.K C) (iC : PySem.W.findIn X.K (.ref C) "__init__" = some (some (.ref fI))) (tI : PySem.W.typeIn X.K (.ref fI) = some (.type "function"))
    (F1 : FnOk X.prog X.w X.K X.mg X.base CX k fI fd ps sp) (hr : Room (k + 1) X.A) (hb : Binds X.K fd ps ds) (hd : Vals dvs ds) (hx : Passes CX X (fun _ _ _ => False)) (hm : X.mg x = some (.ref C)) (ha : PA X (e :: es) ta) (hg : Gl X x := by rfl)
    (hdb : (x == ("__debug__" : Str)) = false := by decide) (he : starEach (e :: es) X.env = (false, eval e X.env) :: starEach es X.env := by rfl) (hpl : (backTo pos (starEach es X.env)).any (·.1) = false := by rfl) :
    PE X (.Call (.Name x p) (e :: es) [] pos) (tOeV C sp dvs ta) := by
  refine ⟨fun pins s σ H Q I h => ?_⟩
  refine wpAny_Call_Name_kw (ld_glob I hg hm ?_ hdb)
  refine PySem.W.callWith_K (h₀ := X.base) I.ok.mod.kin T.kC (thn (ha.run pos pins s σ H _ I h) fun us s1 ⟨vs, H1, I1, r1, hz, q1⟩ => ⟨I1.kIn, ?_⟩) he hpl
  exact run_oeV T iC tI F1 hr hb hd hx I1 r1 hz q1
theorem pe_oeV0 {CX : CXT} {fI : Addr} {k : Nat} {fd : FuncData} {ps : List Str} {sp : Sp} {ds : List Value} {dvs : List V} (T : OexC X.K C) (iC : PySem.W.findIn X.K (.ref C) "__init__" = some (some (.ref fI))) (tI : PySem.W.typeIn X.K (.ref fI) = some (.type "function"))
    (F1 : FnOk X.prog X.w X.K X.mg X.base CX k fI fd ps sp) (hr : Room (k + 1) X.A) (hb : Binds X.K fd ps ds) (hd : Vals dvs ds) (hx : Passes CX X (fun _ _ _ => False)) (hm : X.mg x = some (.ref C)) (hg : Gl X x := by rfl)
    (hdb : (x == ("__debug__" : Str)) = false := by decide) : PE X (.Call (.Name x p) [] [] pos) (tOeV C sp dvs tNil) := by
  refine ⟨fun pins s σ H Q I h => ?_⟩
  refine wpAny_Call_Name_kw (ld_glob I hg hm ?_ hdb)
  exact PySem.W.callWith_K0 I.kIn T.kC (run_oeV (us := []) T iC tI F1 hr hb hd hx I .nil h.1 h.2)
/-- X(), a value, X a class without a text of its own -/
theorem pe_exV0 {bmB : List Value} {B newId initId : String} (F : ExcBaseFacts B newId initId bmB) (q : PySem.W.excIn X.K C bmB newId = true) (gC : X.mg x = some (.ref C)) (kC : PySem.W.keepIn X.K (.ref C) = true) (hg : Gl X x := by rfl) (hdb : (x == ("__debug__" : Str)) = false := by decide) :
    PE X (.Call (.Name x p) [] [] pos) (fun σ H Q => ∀ a, H a = none → Q (.ref a) (upd H a (exo a C none))) := by
  refine ⟨fun pins s σ H Q I h => ?_⟩
  refine wpAny_Call_Name_kw (ld_glob I hg gC ?_ hdb)
  refine PySem.W.callWith_K0 I.kIn kC ?_
  show wpAny _ _ (call (.ref C) []) _ _ _
  obtain ⟨bm, N, nm, qn, bs, hdct, sn, sub, ab, col, dd, k0, k1, k2, k3, k5, mN, hC, hN, hni, T⟩ := exc_obj I.kIn q
  refine wpAny_call_exc_subT F T hC hN hni (fun h' a hm => ?_) (by show 0 ≤ sizeLine; omega)
  have hn : H a = none := I.hok.gone hm.new
  obtain ⟨t, ht, _, _⟩ := hm.there
  exact ⟨.ref a, upd H a (exo a C none), I.laidN hm.keeps hm.new hn (exo_ok ht), rfl, h a hn⟩
/-- raise X() -/
theorem pmk_ex0 {bmB : List Value} {B newId initId : String} (F : ExcBaseFacts B newId initId bmB) (q : PySem.W.excIn X.K C bmB newId = true) (gC : X.mg x = some (.ref C)) (kC : PySem.W.keepIn X.K (.ref C) = true) (r : Raises X (.ref C)) (hg : Gl X x := by rfl) (hdb : (x == ("__debug__" : Str)) = false := by decide) :
    PMk X (.Call (.Name x p) [] [] pos) (fun _ H Q => Q (.ref C) none H) := by
  intro pins s σ H Q I h
  refine wpAny_Call_Name_kw (ld_glob I hg gC ?_ hdb)
  refine PySem.W.callWith_K0 I.kIn kC ?_
  show wpAny _ _ (call (.ref C) []) _ _ _
  obtain ⟨bm, N, nm, qn, bs, hdct, sn, sub, ab, col, dd, k0, k1, k2, k3, k5, mN, hC, hN, hni, T⟩ := exc_obj I.kIn q
  refine wpAny_call_exc_subT F T hC hN hni (fun h' e hm => ?_) (by show 0 ≤ sizeLine; omega)
  exact mk_of I hm r h (I.hok.gone hm.new)
/-- B.__init__(self, ..), B an own class that leaves it to ValueError -/
theorem pe_deinit {pl : Sem Bool} {B : Addr} {mc : Value} (r : ClX.CRead X.K B mc) (vV : PySem.W.findCls X.K (.ref B) mc "__init__" = some (.val (.builtin "ValueError.__init__"))) (hm : X.mg x = some (.ref B)) (ha : PA X (e :: es) ta)
    (hc : eval (.Call (.Attribute (.Name x p1) "__init__" p2) (e :: es) [] pos) X.env = (do
      let ov ← eval (.Name x p1) X.env
      standAt p2.atName
      let (f, first) ← holding [ov] (getMethod ov "__init__" pl)
      callWith pos f first (backTo pos (starEach (e :: es) X.env)) (backToKw pos (keywordEach [] X.env))) := by rfl) (hg : Gl X x := by rfl) (hdb : (x == ("__debug__" : Str)) = false := by decide)
    (he : starEach (e :: es) X.env = (false, eval e X.env) :: starEach es X.env := by rfl) (hpl : (backTo pos (starEach es X.env)).any (·.1) = false := by rfl) :
    PE X (.Call (.Attribute (.Name x p1) "__init__" p2) (e :: es) [] pos) (tVeI X.K ta) := by
  refine ⟨fun pins s σ H Q I h => ?_⟩
  refine PySem.W.methodCall_KW (ld_glob I hg hm ?_ hdb) hc
  refine PySem.W.method_cls I.kIn r.ga (PySem.W.cls_value I.kIn r.rd vV (by rfl) ?_)
  show wpAny _ _ (callWith pos (Value.builtin "ValueError.__init__") [] (backTo pos (starEach (e :: es) X.env)) []) _ _ _
  refine PyProof.Rows.callWith_method1 (thn (ha.run pos pins _ σ H _ (I.tok _) h) fun us s1 ⟨vs, H1, I1, r1, a, C, ws, ev, hl, T, ea, q⟩ => ?_) he hpl
  subst ev
  cases r1 with
  | @cons _ u0 _ ur ra rw' =>
    obtain rfl : u0 = Value.ref a := ra
    have hlen : ur.length ≤ sizeLine := by
      rw [← Paired.length rw', sizeLine_eq]
      omega
    exact oinit_ok T I1 ea hlen fun s' J => ⟨.non, H1, J, rfl, q⟩
/-- e.f, e an error that is a value -/
def tFldE (K : PySem.W.Frag) (f : Str) (te : TE) : TE := fun σ H Q => te σ H fun x H1 => ∃ (a C d : Addr) (fs : List (Str × V)) (v : V), x = .ref a ∧ H1 a = some (exo a C (some d)) ∧ H1 d = some (exd d fs) ∧ XfC K C ∧ PySem.W.findIn K (.ref C) f = some none ∧ fs.lookup f = some v ∧ Q v H1
theorem pe_fldE {o : Expr} {te : TE} {n : Str} (he : PE X o te) (hb : attributeBase o n X.env (eval o X.env) = eval o X.env := by rfl) : PE X (.Attribute o n pos) (tFldE X.K n te) := by
  refine ⟨fun pins s σ H Q I h => ?_⟩
  refine attr_of hb (thn (he.run pins s σ H _ I h) fun u s1 hh => ?_)
  obtain ⟨x, H1, I1, rx, a, C, d, fs, v, ex, ea, ed, T, hno, l, q⟩ := hh
  subst ex
  obtain rfl : u = Value.ref a := rx
  obtain ⟨t1, ho⟩ := exo_at I1.hok ea
  obtain ⟨mA, hns, hr⟩ := exd_at I1.hok ed
  obtain ⟨od, hod, hl⟩ := lookIn_ns hns
  obtain ⟨u, hu, ru⟩ := RelO.some_of (v := v) (o := mA n) (by rw [← l]; exact hr n)
  have J : PySem.W.InstAt s1.heap a { cls := .ref C, dict := some d, data := .fields #[.ref t1, .none, .none, .none, .bool false, .none] } C (some od) := ⟨ho, rfl, rfl, hod⟩
  exact HandSPX.exc_get I1.kIn J T.ga T.gg T.exC (PySem.W.findObj_own T.hdC hno rfl (by rw [hl, hu])) (handed_of ru) ⟨v, H1, I1.tok _, ru, q⟩
/-- isinstance(e, c), e an error that is a value -/
def rIsEv (K : PySem.W.Frag) : List V → Hp → VK → Prop := fun xs H Q => ∃ (a C : Addr) (d : Option Addr) (c : V) (cv : Value) (b : Bool), xs = [.ref a, c] ∧ H a = some (exo a C d) ∧ (∀ dd, d = some dd → ∃ fs, H dd = some (exd dd fs)) ∧ ExcC K C ∧ ClsV c cv ∧ PySem.W.kitOne K (.ref C) cv = some b ∧ Q (.bl b) H
theorem call_isEv : CallR X (.builtin "isinstance") (rIsEv X.K) := by
  intro pins s σ H xs us Q I r h
  obtain ⟨a, C, d, c, cv, b, rfl, ea, hd, T, hcv, e, q⟩ := h
  obtain ⟨u1, u2, rfl, r1, r2⟩ := vals2 r
  obtain rfl : u1 = Value.ref a := r1
  have ec := hcv.eq r2
  subst ec
  obtain ⟨t1, ho⟩ := exo_at I.hok ea
  have hod : ∃ od : Option Obj, PySem.W.InstAt s.heap a { cls := .ref C, dict := d, data := .fields #[.ref t1, .none, .none, .none, .bool false, .none] } C od := by
    cases d with
    | none => exact ⟨none, ho, rfl, rfl, trivial⟩
    | some dd =>
      obtain ⟨fs, ed⟩ := hd dd rfl
      obtain ⟨mA, hns, hr⟩ := exd_at I.hok ed
      obtain ⟨od, hod, hl⟩ := lookIn_ns hns
      exact ⟨some od, ho, rfl, rfl, hod⟩
  obtain ⟨od, J⟩ := hod
  exact PySem.W.kia_one (PySem.ErrL.kitx_err T) I.kIn J e (fun z => nomatch z) fun tk => ⟨.bl b, H, I.kept (t' := tk) fun _ _ z => z, rfl, q⟩
/-- the class at C makes its errors by a maker that is walked -/
def CalO (P : Program) (w : World) (K : PySem.W.Frag) (mg : Str → Option Value) (base : Heap) (k : Nat) (C : Addr) (ps : List Str) (sp : Sp) : Prop :=
  OexC K C ∧ ∃ (f : Addr) (fd : FuncData), FnOk P w K mg base CX0 k f fd ps sp ∧ PySem.W.findIn K (.ref C) "__init__" = some (some (.ref f)) ∧ PySem.W.typeIn K (.ref f) = some (.type "function") ∧ Binds K fd ps []
theorem pe_calO {k : Nat} {ps : List Str} {sp : Sp} (c : CalO X.prog X.w X.K X.mg X.base k C ps sp) (hm : X.mg x = some (.ref C)) (hr : Room (k + 1) X.A) (ha : PA X (e :: es) ta) (hx : Passes CX0 X (fun _ _ _ => False) := by first | exact pass0 | exact passL) (hg : Gl X x := by rfl)
    (hdb : (x == ("__debug__" : Str)) = false := by decide) (he : starEach (e :: es) X.env = (false, eval e X.env) :: starEach es X.env := by rfl) (hpl : (backTo pos (starEach es X.env)).any (·.1) = false := by rfl) :
    PE X (.Call (.Name x p) (e :: es) [] pos) (tOeV C sp [] ta) := by
  obtain ⟨T, f, fd, h1, h2, h3, h4⟩ := c
  exact pe_oeV T h2 h3 h1 hr h4 .nil hx hm ha hg hdb he hpl
theorem pe_calO0 {k : Nat} {ps : List Str} {sp : Sp} (c : CalO X.prog X.w X.K X.mg X.base k C ps sp) (hm : X.mg x = some (.ref C)) (hr : Room (k + 1) X.A) (hx : Passes CX0 X (fun _ _ _ => False) := by first | exact pass0 | exact passL) (hg : Gl X x := by rfl)
    (hdb : (x == ("__debug__" : Str)) = false := by decide) : PE X (.Call (.Name x p) [] [] pos) (tOeV C sp [] tNil) := by
  obtain ⟨T, f, fd, h1, h2, h3, h4⟩ := c
  exact pe_oeV0 T h2 h3 h1 hr h4 .nil hx hm hg hdb
end
/-! ### what stands of an error that is a value -/
/-- e is an error of the class at C -/
def ErV (H : Hp) (e C : Addr) : Prop := ∃ d : Option Addr, H e = some (exo e C d) ∧ ∀ dd, d = some dd → ∃ fs, H dd = some (exd dd fs)
/-- .. with these fields -/
def ErF (H : Hp) (e C : Addr) (g : List (Str × V)) : Prop := ∃ (d : Addr) (fs : List (Str × V)), H e = some (exo e C (some d)) ∧ H d = some (exd d fs) ∧ ∀ f v, g.lookup f = some v → fs.lookup f = some v
section
variable {K : PySem.W.Frag} {H H' : Hp} {e C : Addr} {g : List (Str × V)}
theorem ErF.v (x : ErF H e C g) : ErV H e C := by
  obtain ⟨d, fs, h1, h2, _⟩ := x
  exact ⟨some d, h1, fun dd q => by cases q; exact ⟨fs, h2⟩⟩
theorem ErV.same (x : ErV H e C) (S : Same H H') : ErV H' e C := by
  obtain ⟨d, h1, h2⟩ := x
  refine ⟨d, S _ _ h1, fun dd q => ?_⟩
  obtain ⟨fs, h⟩ := h2 dd q
  exact ⟨fs, S _ _ h⟩
theorem ErF.same (x : ErF H e C g) (S : Same H H') : ErF H' e C g := by
  obtain ⟨d, fs, h1, h2, h3⟩ := x
  exact ⟨d, fs, S _ _ h1, S _ _ h2, h3⟩
/-- X(e, ..) by super().__init__ -/
theorem erV_ok {fs : List Str} {okV : List V → Prop} {vs : List V} {Q : Addr → Hp → Prop} (hl : vs.length = fs.length) (hv : okV vs) (k : ∀ a H', Same H H' → ErF H' a C (fs.zip vs) → Q a H') :
    vs.length = fs.length ∧ okV vs ∧ ∀ a d, H a = none → H d = none → d ≠ a → Q a (upd (upd H d (exd d (fs.zip vs))) a (exo a C (some d))) := by
  refine ⟨hl, hv, fun a d na nd ne => k a _ ?_ ⟨d, fs.zip vs, upd_same, by rw [upd_ne ne]; exact upd_same, fun _ _ z => z⟩⟩
  exact (sNew nd).trans (sNew (by rw [upd_ne (Ne.symm ne)]; exact na))
/-- X() by a maker that is walked, or by none -/
theorem fldE_ok {f : Str} {v : V} {Q : VK} (x : ErF H e C g) (T : XfC K C) (hno : PySem.W.findIn K (.ref C) f = some none) (l : g.lookup f = some v) (k : Q v H) :
    ∃ (a C' d : Addr) (fs : List (Str × V)) (v' : V), V.ref e = .ref a ∧ H a = some (exo a C' (some d)) ∧ H d = some (exd d fs) ∧ XfC K C' ∧ PySem.W.findIn K (.ref C') f = some none ∧ fs.lookup f = some v' ∧ Q v' H := by
  obtain ⟨d, fs, h1, h2, h3⟩ := x
  exact ⟨e, C, d, fs, v, rfl, h1, h2, T, hno, h3 f v l, k⟩
theorem isE_ok {c : V} {cv : Value} {b : Bool} {Q : VK} (x : ErV H e C) (T : ExcC K C) (hc : ClsV c cv) (hk : PySem.W.kitOne K (.ref C) cv = some b) (k : Q (.bl b) H) : rIsEv K [.ref e, c] H Q := by
  obtain ⟨d, h1, h2⟩ := x
  exact ⟨e, C, d, c, cv, b, rfl, h1, h2, T, hc, hk, k⟩
/-- the promise of a maker that is walked: what it makes of a new error -/
def spIni (C : Addr) (fs : List Str) : Sp := fun vs H Q _ => ∃ (a : Addr) (us : List V), vs = .ref a :: us ∧ us.length = fs.length ∧ H a = some (exo a C none) ∧
  (fs = [] → Q .non H) ∧ ∀ dx H', H dx = none → dx ≠ a → (∀ b o, H b = some o → b ≠ a → H' b = some o) → H' a = some (exo a C (some dx)) → H' dx = some (exd dx (fs.zip us).reverse) → Q .non H'
theorem oeV_ok {fs : List Str} {vs : List V} {Q : Addr → Hp → Prop} (hl : vs.length = fs.length) (hz : vs.length ≤ 1000) (hn : fs ≠ []) (hd : ∀ f v, (fs.zip vs).lookup f = some v → (fs.zip vs).reverse.lookup f = some v) (k : ∀ a H', Same H H' → ErF H' a C (fs.zip vs) → Q a H') :
    vs.length ≤ 1000 ∧ ∀ a, H a = none → spIni C fs (.ref a :: (vs ++ [])) (upd H a (exo a C none)) (fun v H2 => v = .non ∧ Q a H2) (fun _ _ _ => False) := by
  refine ⟨hz, fun a na => ⟨a, vs, by rw [List.append_nil], hl, upd_same, fun z => absurd z hn, fun dx H' nd ne kp h1 h2 => ⟨rfl, k a H' (fun b o q => ?_) ⟨dx, _, h1, h2, hd⟩⟩⟩⟩
  have nb : b ≠ a := ne_of_none q na
  exact kp b o (by rw [upd_ne nb]; exact q) nb
theorem oeV0_ok {Q : Addr → Hp → Prop} (k : ∀ a H', Same H H' → ErV H' a C → Q a H') :
    ([] : List V).length ≤ 1000 ∧ ∀ a, H a = none → spIni C [] (.ref a :: ([] ++ [])) (upd H a (exo a C none)) (fun v H2 => v = .non ∧ Q a H2) (fun _ _ _ => False) :=
  ⟨by decide, fun a na => ⟨a, [], rfl, rfl, upd_same, fun _ => ⟨rfl, k a _ (sNew na) ⟨none, upd_same, fun dd q => by cases q⟩⟩, fun dx H' nd ne kp h1 h2 => ⟨rfl, k a H' (fun b o q => kp b o (by rw [upd_ne (ne_of_none q na)]; exact q) (ne_of_none q na)) ⟨some dx, h1, fun dd q => by cases q; exact ⟨_, h2⟩⟩⟩⟩⟩
theorem exV0_ok {Q : Addr → Hp → Prop} (k : ∀ a H', Same H H' → ErV H' a C → Q a H') : ∀ a, H a = none → Q a (upd H a (exo a C none)) :=
  fun a na => k a _ (sNew na) ⟨none, upd_same, fun dd q => by cases q⟩
end
end L2
set_option Elab.async false
set_option linter.all false
set_option maxRecDepth 100000
/-! several clauses «except X as n», the name alike in all -/
namespace L2
open PySem PySem.Spec PyProof.Rows
/-- the ends of a suite that holds a name at slot i: the name is gone behind it -/
def endsAs (i : Nat) (D : Ends) : Ends where
  nx := fun τ G => D.nx (τ.set i none) G
  rt := D.rt
  bk := fun τ G => D.bk (τ.set i none) G
  ct := fun τ G => D.ct (τ.set i none) G
/-- what the clauses wish, one behind the other -/
def wAsM (K : PySem.W.Frag) (i : Nat) (Wo : WX) (D : Ends) : List (Value × (Addr → Value → Option Addr → TS)) → WX
  | [] => Wo
  | (c, ts) :: r => fun cls d τ G => ∃ t, PySem.W.exmOne K cls c = some t ∧ (t = true → ∀ a, G a = none → ts a cls d (endsAs i D) (τ.set i (some (.ref a))) G) ∧ (t = false → wAsM K i Wo D r cls d τ G)
/-- the clauses, written -/
inductive ClsAs (X : Cx) (n : Str) : List ExceptHandler → List (Value × (Addr → Value → Option Addr → TS)) → Prop
  | nil : ClsAs X n [] []
  | cons {x : Str} {c : Value} {ts : Addr → Value → Option Addr → TS} {b0 : Stmt} {rest : List Stmt} {p q : Pos} {hs : List ExceptHandler} {l : List (Value × (Addr → Value → Option Addr → TS))} (hc : Names X x c)
      (hsu : ∀ (a : Addr) (oe : Obj) (cls : Value) (d : Option Addr) (pn : List (Addr × Obj)), Zc cls d oe → (∃ vs, oe.data = .fields vs) → PSs (X.suite a ((a, oe) :: pn)) (b0 :: rest) (ts a cls d)) (more : ClsAs X n hs l) :
      ClsAs X n (.ExceptHandler (some (.Name x p)) (some n) (b0 :: rest) q :: hs) ((c, ts) :: l)
section
variable {X : Cx} {n : Str} {i : Nat} {body : List Stmt} {c0 : ExceptHandler} {cs : List ExceptHandler} {l : List (Value × (Addr → Value → Option Addr → TS))} {pos : Pos} {tb : WX → TS} {Wo : WX}
theorem ps_try_asM (hst : X.stack = X.env :: X.outer) (hfr : X.env.frame = some X.env.locals) (hN : X.N.Nodup) (hi : X.N[i]? = some n) (hln : X.env.kindOf n = some .local) (tk : Takes X Wo)
    (hb : ∀ (W : WX) (pn : List (Addr × Obj)) (xe : Value → Shared → Prop), Takes (X.tr pn xe) W → PassesOwn (model X.prog X.w) X.A X.env xe → PSs (X.tr pn xe) body (tb W))
    (hh : ClsAs X n (c0 :: cs) l) : PS X (.Try body (c0 :: cs) [] [] pos) (fun D τ G => tb (wAsM X.K i Wo D l) D τ G) := by
  refine ⟨fun pins s τ G D I wish => ?_⟩
  have good := I.ok
  have frames : X.A.frames = some (X.env :: X.outer) := by rw [good.frames, hst]
  have loc : Loc X.env.scope n := .inl hln
  refine wpAny_Try_except (wpAny_mono ((hb (wAsM X.K i Wo D l) (X.pn ++ pins) (fun e s1 => wpAny (model X.prog X.w) X.A (noteFrame e X.env) (fun _ s2 => wpAny (model X.prog X.w) X.A (setFlight e none) (fun _ s3 =>
    wpAny (model X.prog X.w) X.A (handleBy e X.env (c0 :: cs)) (SP X pins D) X.xe s3) X.xe s2) X.xe s1) (fun u s1 caught => ?_) PassesOwn.looking).run [] s τ G D (I.toTry _) wish) (fun r s1 came => ?_) (fun e s1 z => z))
  · obtain ⟨a, B, sI, pinsI, τ1, G1, cls, d, rfl, J0, nb, up, sky, na, os, ag, w⟩ := caught
    have J : Inv X pins τ1 G1 sI := J0.ofTry good
    have skyX : Sky B (X.env :: X.outer) a (Zc cls d) X.env.locals s1.heap := by rw [← hst]; exact sky
    show wpAny _ X.A (noteFrame (.ref a) X.env) _ _ _
    refine Sky.land Zc.steady frames hfr skyX fun hp fl upL => ?_
    have J1 : Inv X pins τ1 G1 { s1 with heap := hp } := J.landed nb fl.1 (up.trans upL) os ag
    obtain ⟨oe, vs, hoe, hz, hdat⟩ := fl.there
    have notin : a ∉ frs (X.env :: X.outer) := fun hm => by
      obtain ⟨_, ob, eb, nf⟩ := fl.2.2.1.mem hm
      rw [hoe] at eb
      cases eb
      exact nf _ hdat
    have nL : a ≠ X.env.locals := fun z => notin (List.mem_filterMap.mpr ⟨X.env, List.mem_cons_self, by rw [hfr, z]⟩)
    have nF : a ∉ X.fs := fun hm => by
      obtain ⟨e, he, z⟩ := List.mem_filterMap.mp hm
      exact notin (List.mem_filterMap.mpr ⟨e, List.mem_cons_of_mem _ he, z⟩)
    have S1 := J1.suite hoe hdat na nL nF
    suffices go : ∀ {hs : List ExceptHandler} {ll : List (Value × (Addr → Value → Option Addr → TS))}, ClsAs X n hs ll → wAsM X.K i Wo D ll cls d τ1 G1 → wpAny (model X.prog X.w) X.A (handleBy (.ref a) X.env hs) (SP X pins D) X.xe { s1 with heap := hp } from go hh w
    intro hs ll hk
    induction hk with
    | nil =>
      intro out
      refine wpAny_handleBy_nil ?_
      obtain ⟨_, _, _, oe2, vs2, T, oT, tt, e2, _, d2, v2, _⟩ := id fl
      have fin : wpAny (model X.prog X.w) X.A (setFlight (.ref a) X.env.frame) (fun _ s4 => wpAny (model X.prog X.w) X.A (throw (.ref a) : Sem Flow) (SP X pins D) X.xe s4) X.xe { s1 with heap := hp } := by
        rw [hfr]
        refine HandSPX.setFlight_upZ fl fun h4 sk up4 => wpAny_throw (tk _ _ ?_)
        exact ⟨a, B, sI, pins, τ1, G1, cls, d, rfl, J, nb, (up.trans upL).trans up4, .inr (.inr (by rw [hst]; exact sk)), na, os, ag, out⟩
      unfold PySem.passOn
      refine wpAny_bind (wpAny_field e2 d2 v2 ?_)
      rw [if_neg (by simp)]
      first
        | exact wpAny_bind (wpAny_pure (wpAny_bind fin))
        | exact wpAny_bind fin
    | @cons x c ts b0 rest p q hs2 l2 hc hsu more ih =>
      intro out
      obtain ⟨t, ht, yes, no⟩ := out
      refine wpAny_handleBy_cons (codeAny_handlers_test ?_) (by intro z; cases z)
      have LM := PySem.W.exm_one (M := model X.prog X.w) J1.kIn (show PySem.W.Looks (model X.prog X.w) hp (typeOf (.ref a)) cls from fun _ _ _ _ k z => wpAny_typeOf_ref (k _ _ hoe) (by rw [hz.1]; exact z)) ht
      have ask : ∀ {Q : Value → Shared → Prop} {E : Value → Shared → Prop}, Q c { s1 with heap := hp } → wpAny (model X.prog X.w) (X.A.mark (some (.ref a))) (eval (.Name x p) X.env) Q E { s1 with heap := hp } := fun {Q E} z => by
        obtain ⟨hg, hdbg, hm | ⟨hm, hv, hnn⟩⟩ := hc
        · exact ld_glob (X := X.suite a ((a, oe) :: (X.pn ++ pins))) S1 hg hm z hdbg
        · exact ld_blt (X := X.suite a ((a, oe) :: (X.pn ++ pins))) S1 hg hm hv z hnn hdbg
      refine ask (LM.here ?_)
      cases t with
      | false => exact (show wpAny _ X.A (handleBy (.ref a) X.env hs2) _ _ _ from ih (no rfl))
      | true =>
        refine codeAny_handlers_suite_as (HandSPX.lands_againZ fl fun hp2 fl2 up2 => ?_)
        have J2 : Inv X pins τ1 G1 { s1 with heap := hp2 } := J.landed nb fl2.1 ((up.trans upL).trans up2) os ag
        obtain ⟨oe2, vs2, hoe2, hz2, hdat2⟩ := fl2.there
        refine store_ok (X := X.suite a ((a, oe2) :: (X.pn ++ pins))) (v := .ref a) (J2.suite hoe2 hdat2 na nL nF) hN hi loc rfl (fun s5 S5 => ?_) (.inr hln)
        refine wpAny_mono ((hsu a oe2 cls d (X.pn ++ pins) hz2 ⟨_, hdat2⟩).run [] s5 _ G1 _ S5 (yes rfl a na)) (fun r s6 came => ?_) (fun _ _ z => False.elim z)
        have gone : ∀ {τ6 : St} {G6 : Hp} {Q : Shared → Prop}, Inv (X.suite a ((a, oe2) :: (X.pn ++ pins))) [] τ6 G6 s6 → (∀ s7, Inv X pins (τ6.set i none) G6 s7 → Q s7) →
            wpAny (model X.prog X.w) X.A (do bindName X.env n .none; unbindBehindTheSuite X.env n q) (fun _ s7 => Q s7) X.xe s6 := fun S6 z => gone_ok (S6.unsuite good) hN hi hln z
        cases r with
        | next => obtain ⟨_, _, S6, w6⟩ := came; exact gone S6 fun _ J7 => ⟨_, _, J7, w6⟩
        | brk => obtain ⟨_, _, S6, w6⟩ := came; exact gone S6 fun _ J7 => ⟨_, _, J7, w6⟩
        | cont => obtain ⟨_, _, S6, w6⟩ := came; exact gone S6 fun _ J7 => ⟨_, _, J7, w6⟩
        | ret u => obtain ⟨_, _, _, S6, r6, w6⟩ := came; exact gone S6 fun _ J7 => ⟨_, _, _, J7, r6, w6⟩
  · cases r with
    | next => obtain ⟨_, _, J2, w2⟩ := came; exact wpAny_execs_nil ⟨_, _, J2.ofTry good, w2⟩
    | brk => obtain ⟨_, _, J2, w2⟩ := came; exact ⟨_, _, J2.ofTry good, w2⟩
    | cont => obtain ⟨_, _, J2, w2⟩ := came; exact ⟨_, _, J2.ofTry good, w2⟩
    | ret u => obtain ⟨_, _, _, J2, r2, w2⟩ := came; exact ⟨_, _, _, J2.ofTry good, r2, w2⟩
theorem ps_try_as2 {x1 x2 : Str} {c1 c2 : Value} {b1 b2 : Stmt} {r1 r2 : List Stmt} {p1 p2 q1 q2 : Pos} {ts1 ts2 : Addr → Value → Option Addr → TS} (hst : X.stack = X.env :: X.outer) (hfr : X.env.frame = some X.env.locals) (hN : X.N.Nodup) (hi : X.N[i]? = some n) (hln : X.env.kindOf n = some .local)
    (hc1 : Names X x1 c1) (hc2 : Names X x2 c2) (tk : Takes X Wo)
    (hb : ∀ (W : WX) (pn : List (Addr × Obj)) (xe : Value → Shared → Prop), Takes (X.tr pn xe) W → PassesOwn (model X.prog X.w) X.A X.env xe → PSs (X.tr pn xe) body (tb W))
    (h1 : ∀ (a : Addr) (oe : Obj) (cls : Value) (d : Option Addr) (pn : List (Addr × Obj)), Zc cls d oe → (∃ vs, oe.data = .fields vs) → PSs (X.suite a ((a, oe) :: pn)) (b1 :: r1) (ts1 a cls d))
    (h2 : ∀ (a : Addr) (oe : Obj) (cls : Value) (d : Option Addr) (pn : List (Addr × Obj)), Zc cls d oe → (∃ vs, oe.data = .fields vs) → PSs (X.suite a ((a, oe) :: pn)) (b2 :: r2) (ts2 a cls d)) :
    PS X (.Try body [.ExceptHandler (some (.Name x1 p1)) (some n) (b1 :: r1) q1, .ExceptHandler (some (.Name x2 p2)) (some n) (b2 :: r2) q2] [] [] pos) (fun D τ G => tb (wAsM X.K i Wo D [(c1, ts1), (c2, ts2)]) D τ G) :=
  ps_try_asM hst hfr hN hi hln tk hb (.cons hc1 h1 (.cons hc2 h2 .nil))
end
section
variable {X : Cx} {o e : Expr} {to : TE} {t : TA} {apos cpos : Pos}
/-- o.append(e) -/
theorem pe_app1 (ho : PE X o to) (ha : PA X [e] t) (hbase : attributeBase o "append" X.env (eval o X.env) = eval o X.env := by rfl)
    (hfew : ((backTo cpos (starEach [e] X.env)).all (fun x => !x.1) && (backToKw cpos (keywordEach [] X.env)).all (fun x => x.1.isSome) && decide ([e].length + ([] : List Keyword).length + (if ([] : List Keyword).isEmpty then 0 else 1) < 30)) = true := by rfl)
    (hline : (apos.endLine == cpos.line) = true := by rfl) (hs : starEach [e] X.env = (false, eval e X.env) :: starEach [] X.env := by rfl) (hplain : (backTo cpos (starEach [] X.env)).any (·.1) = false := by rfl) :
    PE X (.Call (.Attribute o "append" apos) [e] [] cpos) (tBM X.K "list" rAppend to t) := pe_bm PySem.F.plainAttrs_list PySem.F.slot_list_append PySem.F.type_list_append mt_append ho ha hbase hfew hline hs hplain
end
end L2
set_option Elab.async false
set_option linter.all false
set_option maxRecDepth 100000
set_option maxHeartbeats 4000000
/-! a head by one run: own errors' makers, any Bool of the written part -/
namespace HeM
open PySem PySem.Spec PyProof.Rows L2 He
/-! ### looks that answer true or false -/
/-- the object of an own error class -/
def ecB (K : PySem.W.Frag) (C : Addr) : Bool := match K.lookup C with
  | some ⟨.type "type", _, .cls cd, sl⟩ => (match cd.mro, sl.toList with
    | .ref C' :: bm, [_, _, _, _, some (.builtin n), _] => C' == C && (n == "ValueError.__new__" && (!cd.hasDel && (cd.hasDict && PySem.HandSPX.refsVE bm)))
    | _, _ => false)
  | _ => false
theorem ecB_ok {K : PySem.W.Frag} {C : Addr} (q : ecB K C = true) :
    ∃ nm q N bs bm sn sub ab col dd k0 k1 k2 k3 k5, K.lookup C = some (excClassObj nm q C N bs bm true sn sub ab col dd k0 k1 k2 k3 k5 "ValueError.__new__") ∧ PySem.HandSPX.refsVE bm = true := by
  unfold ecB at q
  split at q
  · rename_i dd cd sl ho
    split at q
    · rename_i C' bm k0 k1 k2 k3 n k5 hm hs
      simp only [Bool.and_eq_true, beq_iff_eq, Bool.not_eq_true'] at q
      obtain ⟨rfl, rfl, hdel, hdict, ht⟩ := q
      obtain ⟨nm, bs, mro, ns, qn, hd, sn, sub, ab, col, del⟩ := cd
      dsimp only at hm hdel hdict
      subst hm hdel hdict
      have hsl : sl = #[k0, k1, k2, k3, some (.builtin "ValueError.__new__"), k5] := by
        obtain ⟨l⟩ := sl
        simp only at hs
        rw [hs]
      subst hsl
      exact ⟨nm, qn, ns, bs, bm, sn, sub, ab, col, dd, k0, k1, k2, k3, k5, ho, ht⟩
    · cases q
  · cases q
/-- isinstance may be asked of its errors -/
def xcB (K : PySem.W.Frag) (D : Addr) : Bool :=
  eqO (PySem.W.findIn K (.ref D) "__getattribute__") (some (some (.builtin "BaseException.__getattribute__"))) && (eqO (PySem.W.findIn K (.ref D) "__getattr__") (some none) && (decide (PySem.W.subIn K (.ref D) (.type "BaseException") = some true) && (PySem.W.hasDictIn K D &&
    (eqO (PySem.W.findIn K (.ref D) "__class__") (some (some (.builtin "object.__class__"))) && decide (PySem.W.mroIn K D (.type "object") = some true)))))
def zB (K : PySem.W.Frag) : Bool := eqO (PySem.W.specialIn K (.builtin "object.__class__") "__get__") (some (some (.builtin "getset_descriptor.__get__"))) && decide (PySem.W.takesIn K (.builtin "object.__class__") = some true)
theorem xcB_ok {K : PySem.W.Frag} {D : Addr} (h : xcB K D = true) (z : zB K = true) : ExcC K D := by
  obtain ⟨h1, h⟩ := ba h
  obtain ⟨h2, h⟩ := ba h
  obtain ⟨h3, h⟩ := ba h
  obtain ⟨h4, h⟩ := ba h
  obtain ⟨h5, h6⟩ := ba h
  obtain ⟨z1, z2⟩ := ba z
  exact ⟨eqO_ok h1, eqO_ok h2, of_decide_eq_true h3, h4, eqO_ok h5, eqO_ok z1, of_decide_eq_true z2, of_decide_eq_true h6⟩
/-- its errors may be made -/
def oxB (K : PySem.W.Frag) (C : Addr) : Bool := ecB K C && (eqO (PySem.W.findIn K (.ref C) "__setattr__") (some (some (.builtin "object.__setattr__"))) && (decide (PySem.W.subIn K (.ref C) (.type "BaseException") = some true) && (decide (PySem.W.typeIn K (.ref C) = some (.type "type")) && PySem.W.keepIn K (.ref C))))
theorem oxB_ok {K : PySem.W.Frag} {C : Addr} (h : oxB K C = true) : OexC K C := by
  obtain ⟨h1, h⟩ := ba h
  obtain ⟨h2, h⟩ := ba h
  obtain ⟨h3, h⟩ := ba h
  obtain ⟨h4, h5⟩ := ba h
  exact ⟨ecB_ok h1, eqO_ok h2, of_decide_eq_true h3, of_decide_eq_true h4, h5⟩
/-- the maker stands in the class itself -/
def inB (K : PySem.W.Frag) (C : Str) : Bool := eqO (PySem.W.findIn K (.ref (ga K C)) "__init__") (some (some (.ref (ma K (ga K C) "__init__")))) && decide (PySem.W.typeIn K (.ref (ma K (ga K C) "__init__")) = some (.type "function"))
/-- found in the class as a value that it has -/
def valIs : Option PySem.W.CFound → Value → Bool
  | some (.val u), v => decide (u = v)
  | _, _ => false
theorem valIs_ok {o : Option PySem.W.CFound} {v : Value} (h : valIs o v = true) : o = some (.val v) := by
  cases o with
  | none => cases h
  | some f =>
    cases f with
    | val u => rw [of_decide_eq_true (show decide (u = v) = true from h)]
    | get _ _ _ _ => cases h
/-! ### makers that call super -/
structure IniD where
  C : Str
  qual : Str
  params : Arguments
  body : List Stmt
  scope : Scope
abbrev IniW : Type := Option (Str × Str × Arguments × FuncBody × Scope × Addr × Addr)
def iniW (K : PySem.W.Frag) (d : IniD) : IniW := match K.lookup (ma K (ga K d.C) "__init__") with
  | some ⟨_, _, .func fd, _⟩ => some (fd.name, fd.qualname, fd.params, fd.body, fd.scope, fd.globals, fd.builtins)
  | _ => none
def IniD.val (d : IniD) : IniW := some ("__init__", d.qual, d.params, .stmts d.body, d.scope, mainGlobals, builtinsNs)
/-- its function object: no defaults, one cell -/
def fnB (file : Str) (K : PySem.W.Frag) (C : Addr) (q : Str) : Option Obj → Bool
  | some ⟨_, _, .func fd, _⟩ => (match fd.closure, fd.defaults, fd.code with
    | [(x, cc)], .none, .ref cda => decide (x = "__class__") && (PySem.W.codeIn K (.ref cda) q && ((match K.lookup cda with
      | some ⟨_, _, .fields vs, _⟩ => (match (vs[2]? : Option Value) with
        | some (Value.str f _) => file == f
        | _ => false)
      | _ => false) && (match K.lookup cc with
      | some ⟨_, _, .cell (some (.ref C')), _⟩ => C' == C
      | _ => false)))
    | _, _, _ => false)
  | _ => false
def iniB (file : Str) (K : PySem.W.Frag) (d : IniD) : Bool :=
  oxB K (ga K d.C) && (inB K d.C && (decide (PySem.W.mroIn K (ga K d.C) (.ref (ga K d.C)) = some true) && (decide (PySem.W.subIn K (.ref (ga K d.C)) (.type "ValueError") = some true) &&
    (decide (PySem.W.ks_superIn K (ga K d.C) (ga K d.C) "__init__" = some (some (.builtin "ValueError.__init__"))) && fnB file K (ga K d.C) d.qual (K.lookup (ma K (ga K d.C) "__init__"))))))
theorem iniB_ok {P : Program} {K : PySem.W.Frag} {d : IniD} (e : iniW K d = d.val) (h : iniB P.main.file K d = true) (opq : PySem.W.nsIn K cStatics "thirdparty.any" = some none) (top : (P.main.scope.names.lookup ("super" : Str)).isSome = false) :
    PySem.ErrL.SupC P K (ga K d.C) (ma K (ga K d.C) "__init__") d.qual d.params d.body d.scope := by
  obtain ⟨h1, h⟩ := ba h
  obtain ⟨h2, h⟩ := ba h
  obtain ⟨h3, h⟩ := ba h
  obtain ⟨h4, h⟩ := ba h
  obtain ⟨h5, h6⟩ := ba h
  obtain ⟨i1, i2⟩ := ba h2
  have T := oxB_ok h1
  unfold iniW at e
  refine ⟨T.cls, ?_, of_decide_eq_true h3, of_decide_eq_true h4, opq, of_decide_eq_true h5, T.sa, eqO_ok i1, of_decide_eq_true i2, top⟩
  cases q : K.lookup (ma K (ga K d.C) "__init__") with
  | none =>
    rw [q] at e
    cases e
  | some o =>
    obtain ⟨oc, od, dt, osl⟩ := o
    rw [q] at e h6
    cases dt with
    | func fd =>
      obtain ⟨n1, n2, n3, n4, n5, n6, n7, n8, n9, n10, n11, n12, n13, n14, n15⟩ := fd
      have e2 : (some (n1, n2, n3, n4, n5, n6, n15) : IniW) = some (("__init__" : Str), d.qual, d.params, FuncBody.stmts d.body, d.scope, mainGlobals, builtinsNs) := e
      simp only [Option.some.injEq, Prod.mk.injEq] at e2
      obtain ⟨g1, g2, g3, g4, g5, g6, g7⟩ := e2
      subst g1 g2 g3 g4 g5 g6 g7
      unfold fnB at h6
      dsimp only at h6
      split at h6
      · rename_i x cc cda
        obtain ⟨r1, h6⟩ := ba h6
        obtain ⟨r2, h6⟩ := ba h6
        obtain ⟨r3, r4⟩ := ba h6
        obtain rfl := of_decide_eq_true r1
        split at r3
        · rename_i ccl cdd vs ccs hl
          split at r3
          · rename_i f tf hv
            split at r4
            · rename_i cl cld C' csl hc
              obtain rfl : C' = ga K d.C := beq_iff_eq.mp r4
              exact ⟨oc, od, n9, n10, n11, n12, cda, n14, osl, cc, vs, f, tf, ccl, cdd, ccs, cl, cld, csl, rfl, r2, hl, hv, r3, hc⟩
            · cases r4
          · cases r3
        · cases r3
      · cases h6
    | _ => cases e
/-! ### the Hook -/
/-- what the names of the module reach in n steps, and the table of third parties -/
def asM (g : Addr → Option Obj) : Nat → List Addr
  | 0 => [mainGlobals, cStatics]
  | n + 1 => growD g (asM g n)
abbrev AlM : Type := AlD × (List IniW × Bool)
def obsM (file : Str) (fa : List Fa) (fn : List DefD) (ini : List IniD) (ex : PySem.W.Frag → Bool) (K : PySem.W.Frag) : AlM := (obsD fa fn K, (ini.map fun d => iniW K d, (ini.all fun d => iniB file K d) && ex K))
def valM (fn : List DefD) (ini : List IniD) : AlM := (valD fn, (ini.map IniD.val, true))
def obsMG (file : Str) (n : Nat) (fa : List Fa) (fn : List DefD) (ini : List IniD) (ex : PySem.W.Frag → Bool) (g : Addr → Option Obj) : AlM := obsM file fa fn ini ex (frG g (asM g n))
/-- what is told -/
structure SaysM (file : Str) (fa : List Fa) (fn : List DefD) (ini : List IniD) (ex : PySem.W.Frag → Bool) (K : PySem.W.Frag) : Prop where
  d : SaysD fa fn K
  w : ini.map (fun d => iniW K d) = ini.map IniD.val
  b : ∀ d ∈ ini, iniB file K d = true
  x : ex K = true
theorem saysM_of {file : Str} {fa : List Fa} {fn : List DefD} {ini : List IniD} {ex : PySem.W.Frag → Bool} {K : PySem.W.Frag} (e : obsM file fa fn ini ex K = valM fn ini) : SaysM file fa fn ini ex K := by
  have e1 : obsD fa fn K = valD fn := congrArg (fun z : AlM => z.1) e
  have e2 : ini.map (fun d => iniW K d) = ini.map IniD.val := congrArg (fun z : AlM => z.2.1) e
  have e3 : ((ini.all fun d => iniB file K d) && ex K) = true := congrArg (fun z : AlM => z.2.2) e
  obtain ⟨h1, h2⟩ := ba e3
  exact ⟨e1, e2, List.all_eq_true.mp h1, h2⟩
theorem SaysM.ini {P : Program} {fa : List Fa} {fn : List DefD} {ini : List IniD} {ex : PySem.W.Frag → Bool} {K : PySem.W.Frag} (c : SaysM P.main.file fa fn ini ex K) (i : Nat) {d : IniD} (opq : PySem.W.nsIn K cStatics "thirdparty.any" = some none) (top : (P.main.scope.names.lookup ("super" : Str)).isSome = false) (h : ini[i]? = some d := by rfl) :
    PySem.ErrL.SupC P K (ga K d.C) (ma K (ga K d.C) "__init__") d.qual d.params d.body d.scope := by
  have e2 : (ini.map fun d => iniW K d)[i]? = (ini.map IniD.val)[i]? := by rw [c.w]
  rw [List.getElem?_map, List.getElem?_map, h] at e2
  exact iniB_ok (Option.some.inj e2) (c.b d (List.mem_of_getElem? h)) opq top
theorem SaysM.ox {file : Str} {fa : List Fa} {fn : List DefD} {ini : List IniD} {ex : PySem.W.Frag → Bool} {K : PySem.W.Frag} (c : SaysM file fa fn ini ex K) (i : Nat) {d : IniD} (h : ini[i]? = some d := by rfl) : OexC K (ga K d.C) :=
  oxB_ok (ba (c.b d (List.mem_of_getElem? h))).1
theorem SaysM.ex_at {file : Str} {fa : List Fa} {fn : List DefD} {ini : List IniD} {L : List (PySem.W.Frag → Bool)} {K : PySem.W.Frag} (c : SaysM file fa fn ini (fun K => L.all fun b => b K) K) (i : Nat) {b : PySem.W.Frag → Bool} (h : L[i]? = some b := by rfl) : b K = true :=
  List.all_eq_true.mp c.x b (List.mem_of_getElem? h)
theorem inB_ok {K : PySem.W.Frag} {C : Str} (h : inB K C = true) : PySem.W.findIn K (.ref (ga K C)) "__init__" = some (some (.ref (ma K (ga K C) "__init__"))) ∧ PySem.W.typeIn K (.ref (ma K (ga K C) "__init__")) = some (.type "function") := by
  obtain ⟨h1, h2⟩ := ba h
  exact ⟨eqO_ok h1, of_decide_eq_true h2⟩
def hookM (file : Str) (n : Nat) (fa : List Fa) (fn : List DefD) (ini : List IniD) (ex : PySem.W.Frag → Bool) : PySem.W.Hook where
  α := AlM
  obs := fun s => obsMG file n fa fn ini ex s.heap.get?
  val := fun _ => valM fn ini
  says := fun _ h => ∃ K : PySem.W.Frag, K.In h ∧ SaysM file fa fn ini ex K
  of := fun _ _ e => ⟨_, frG_in, saysM_of e⟩
  keeps := fun _ _ _ ⟨K, hK, c⟩ k => ⟨K, PySem.W.Frag.In.keeps hK k, c⟩
theorem obsMG_eq {file : Str} {n : Nat} {fa : List Fa} {fn : List DefD} {ini : List IniD} {ex : PySem.W.Frag → Bool} {g : Addr → Option Obj} {s : Shared} (h : ∀ a, g a = s.heap.get? a) : obsMG file n fa fn ini ex g = (hookM file n fa fn ini ex).obs s := by
  have e : g = s.heap.get? := funext h
  rw [e] <;> rfl
end HeM
namespace L2
open PySem PySem.Spec PyProof.Rows
theorem fun_of {K : PySem.W.Frag} {x qual : Str} {st : Stmt} {f : Addr} {fd : FuncData} (F : FunD K x qual (defArgs st) (defBody st) (defScope st) [] [] f fd) : Fun K x qual st f fd := by
  obtain ⟨oc, od, dV, kV, doc, pm, an, cdv, ct, osl, rfl, lk, hcd, hD, hK⟩ := F.ex
  rcases hD with ⟨_, rfl⟩ | ⟨e, _⟩
  · exact ⟨⟨oc, od, kV, doc, pm, an, cdv, ct, osl, rfl, lk, hcd⟩, F.kp⟩
  · exact absurd rfl e
theorem Fun.bindsA1 {K : PySem.W.Frag} {x qual y : Str} {st : Stmt} {f : Addr} {fd : FuncData} (F : Fun K x qual st f fd)
    (h : ∀ (kV doc pm : Value) (an : Option Addr) (cdv ct : Value) (us : List Value), us.length = [y].length → bindArgs (PySem.W.fnOf x qual (defArgs st) (defBody st) (defScope st) .none kV doc pm an cdv ct) ⟨us, []⟩ = pure ([y].zip us)) (s : Shared) (v : Value) : BindsTo s fd ⟨[v], []⟩ [(y, v)] := by
  obtain ⟨oc, od, kV, doc, pm, an, cdv, ct, osl, rfl, lk, hcd⟩ := F.ex
  exact .of_eq (h kV doc pm an cdv ct [v] rfl)
end L2
set_option Elab.async false
set_option linter.all false
set_option maxRecDepth 100000
set_option maxHeartbeats 8000000
namespace My
open PySem L2 Dw
open C8 (pss_cut tCut)
def top (i : Nat) : Stmt := PySem.Challenge.pw_lastlife_k00_errors_side_by_side.main.body.getD i (.Pass ⟨0, 0, 0, 0⟩)
abbrev s_BadCustoms_init : Stmt := inClass (top 2) 0
abbrev s_BadLives_init : Stmt := inClass (top 3) 0
abbrev s_BadRecord_init : Stmt := inClass (top 4) 0
abbrev s_NoLife_init : Stmt := inClass (top 6) 0
abbrev s_NoPerson_init : Stmt := inClass (top 7) 0
abbrev s_BadKin_init : Stmt := inClass (top 9) 0
abbrev s_BadDate_init : Stmt := inClass (top 10) 0
abbrev s_BadTaker_init : Stmt := inClass (top 11) 0
abbrev s_BadCondition_init : Stmt := inClass (top 12) 0
abbrev s_BadGift_init : Stmt := inClass (top 13) 0
abbrev s_BadDeed_init : Stmt := inClass (top 14) 0
abbrev s_NoGift_init : Stmt := inClass (top 15) 0
abbrev s_BadYear_init : Stmt := inClass (top 16) 0
abbrev s_BadSystem_init : Stmt := inClass (top 17) 0
theorem sc_BadSystem_init : FnScope ["self", "index", "what"] ["self", "index", "what"] (defScope s_BadSystem_init) := ⟨rfl, rfl, rfl, by decide +kernel, rfl, by decide +kernel, by decide +kernel⟩
abbrev s_BadTimes_init : Stmt := inClass (top 18) 0
theorem sc_BadTimes_init : FnScope ["self"] ["self"] (defScope s_BadTimes_init) := ⟨rfl, rfl, rfl, by decide +kernel, rfl, by decide +kernel, by decide +kernel⟩
abbrev s_OtherCount_init : Stmt := inClass (top 19) 0
theorem sc_OtherCount_init : FnScope ["self"] ["self"] (defScope s_OtherCount_init) := ⟨rfl, rfl, rfl, by decide +kernel, rfl, by decide +kernel, by decide +kernel⟩
abbrev s_NoInstant_init : Stmt := inClass (top 20) 0
theorem sc_NoInstant_init : FnScope ["self", "instant"] ["self", "instant"] (defScope s_NoInstant_init) := ⟨rfl, rfl, rfl, by decide +kernel, rfl, by decide +kernel, by decide +kernel⟩
abbrev s_NoTimes_init : Stmt := inClass (top 21) 0
theorem sc_NoTimes_init : FnScope ["self", "path"] ["self", "path"] (defScope s_NoTimes_init) := ⟨rfl, rfl, rfl, by decide +kernel, rfl, by decide +kernel, by decide +kernel⟩
abbrev s_BadFormula_init : Stmt := inClass (top 22) 0
theorem sc_BadFormula_init : FnScope ["self", "what"] ["self", "what"] (defScope s_BadFormula_init) := ⟨rfl, rfl, rfl, by decide +kernel, rfl, by decide +kernel, by decide +kernel⟩
abbrev s_BadText_init : Stmt := inClass (top 23) 0
theorem sc_BadText_init : FnScope ["self", "row", "what"] ["self", "row", "what"] (defScope s_BadText_init) := ⟨rfl, rfl, rfl, by decide +kernel, rfl, by decide +kernel, by decide +kernel⟩
abbrev s_BadMeasuring_init : Stmt := inClass (top 24) 0
abbrev s_BadYears_init : Stmt := inClass (top 25) 0
abbrev s_NotAClass_init : Stmt := inClass (top 26) 0
theorem sc_NotAClass_init : FnScope ["self", "name"] ["self", "name"] (defScope s_NotAClass_init) := ⟨rfl, rfl, rfl, by decide +kernel, rfl, by decide +kernel, by decide +kernel⟩
abbrev s_BadCause_init : Stmt := inClass (top 27) 0
theorem sc_BadCause_init : FnScope ["self", "cause"] ["self", "cause"] (defScope s_BadCause_init) := ⟨rfl, rfl, rfl, by decide +kernel, rfl, by decide +kernel, by decide +kernel⟩
abbrev s_BadCustom_init : Stmt := inClass (top 28) 0
theorem sc_BadCustom_init : FnScope ["self", "custom"] ["self", "custom"] (defScope s_BadCustom_init) := ⟨rfl, rfl, rfl, by decide +kernel, rfl, by decide +kernel, by decide +kernel⟩
abbrev s_BadLater_init : Stmt := inClass (top 29) 0
theorem sc_BadLater_init : FnScope ["self", "later"] ["self", "later"] (defScope s_BadLater_init) := ⟨rfl, rfl, rfl, by decide +kernel, rfl, by decide +kernel, by decide +kernel⟩
abbrev s_NotMember_init : Stmt := inClass (top 30) 0
theorem sc_NotMember_init : FnScope ["self", "name"] ["self", "name"] (defScope s_NotMember_init) := ⟨rfl, rfl, rfl, by decide +kernel, rfl, by decide +kernel, by decide +kernel⟩
abbrev s_NoRoom_init : Stmt := inClass (top 31) 0
theorem sc_NoRoom_init : FnScope ["self", "name"] ["self", "name"] (defScope s_NoRoom_init) := ⟨rfl, rfl, rfl, by decide +kernel, rfl, by decide +kernel, by decide +kernel⟩
abbrev s_BadWatch_init : Stmt := inClass (top 32) 0
abbrev s_NotTrue_init : Stmt := inClass (top 33) 0
abbrev s_BadCase_init : Stmt := inClass (top 34) 0
abbrev s_BadChange_init : Stmt := inClass (top 35) 0
abbrev s_BadPool_init : Stmt := inClass (top 36) 0
abbrev s_digits : Stmt := top 38
theorem sc_digits : FnScope ["_law_script", "_law_many", "_law_seed", "_law_cell"] ["_law_script", "_law_many"] (defScope s_digits) := ⟨rfl, rfl, rfl, by decide +kernel, rfl, by decide +kernel, by decide +kernel⟩
abbrev s_next : Stmt := top 39
theorem sc_next : FnScope ["_law_draws", "_law_many", "_law_cell", "_law_digit"] ["_law_draws", "_law_many"] (defScope s_next) := ⟨rfl, rfl, rfl, by decide +kernel, rfl, by decide +kernel, by decide +kernel⟩
abbrev s_word : Stmt := top 40
theorem sc_word : FnScope ["_law_draws", "_law_word_here", "_law_turn"] ["_law_draws"] (defScope s_word) := ⟨rfl, rfl, rfl, by decide +kernel, rfl, by decide +kernel, by decide +kernel⟩
abbrev s_first : Stmt := top 41
theorem sc_first : FnScope ["_law_at", "_law_word_here", "_law_name", "_law_a", "_law_b", "_law_c", "_law_d", "_law_e", "_law_f", "_law_g", "_law_h", "_law_i", "_law_j", "_law_k", "_law_m", "_law_found"] ["_law_at", "_law_word_here", "_law_name"] (defScope s_first) := ⟨rfl, rfl, rfl, by decide +kernel, rfl, by decide +kernel, by decide +kernel⟩
abbrev s_second : Stmt := top 42
theorem sc_second : FnScope ["_law_at", "_law_word_here", "_law_name", "_law_a", "_law_b", "_law_c", "_law_d", "_law_e", "_law_f", "_law_g", "_law_h", "_law_found"] ["_law_at", "_law_word_here", "_law_name"] (defScope s_second) := ⟨rfl, rfl, rfl, by decide +kernel, rfl, by decide +kernel, by decide +kernel⟩
abbrev s_third : Stmt := top 43
theorem sc_third : FnScope ["_law_at", "_law_word_here", "_law_name", "_law_a", "_law_b", "_law_c", "_law_d", "_law_e", "_law_f", "_law_g", "_law_h", "_law_i", "_law_j", "_law_k", "_law_found"] ["_law_at", "_law_word_here", "_law_name"] (defScope s_third) := ⟨rfl, rfl, rfl, by decide +kernel, rfl, by decide +kernel, by decide +kernel⟩
abbrev s_classes : Stmt := top 44
theorem sc_classes : FnScope ["_law_e", "_law_found"] ["_law_e"] (defScope s_classes) := ⟨rfl, rfl, rfl, by decide +kernel, rfl, by decide +kernel, by decide +kernel⟩
abbrev s_raised : Stmt := top 45
theorem sc_raised : FnScope ["_law_at", "_law_word_here", "_law_name", "_law_told", "_law_e"] ["_law_at", "_law_word_here", "_law_name"] (defScope s_raised) := ⟨rfl, rfl, rfl, by decide +kernel, rfl, by decide +kernel, by decide +kernel⟩
abbrev s_law : Stmt := top 46
theorem sc_law : FnScope ["_law_script", "_law_draws", "_law_at", "_law_word_here", "_law_name", "_law_made", "_law_k", "_law_error", "_law_told", "_law_due", "_law_base", "_law_other"] ["_law_script"] (defScope s_law) := ⟨rfl, rfl, rfl, by decide +kernel, rfl, by decide +kernel, by decide +kernel⟩
def c35 : List String := ["BadCustoms", "BadLives", "BadRecord", "NoRow", "NoLife", "NoPerson", "OtherLives", "BadKin", "BadDate", "BadTaker", "BadCondition", "BadGift", "BadDeed", "NoGift", "BadYear", "BadSystem", "BadTimes", "OtherCount", "NoInstant", "NoTimes", "BadFormula", "BadText", "BadMeasuring", "BadYears", "NotAClass", "BadCause", "BadCustom", "BadLater", "NotMember", "NoRoom", "BadWatch", "NotTrue", "BadCase", "BadChange", "BadPool"]
def c36 : List String := "DeedError" :: c35
def cf : List (String × String) := [("BadCustoms", "what"), ("BadLives", "index"), ("BadLives", "what"), ("BadRecord", "index"), ("BadRecord", "what"), ("NoLife", "name"), ("NoPerson", "name"), ("BadKin", "what"), ("BadDate", "what"), ("BadTaker", "what"), ("BadCondition", "what"), ("BadGift", "what"), ("BadDeed", "index"), ("BadDeed", "what"), ("NoGift", "name"), ("BadYear", "year"), ("BadSystem", "index"), ("BadSystem", "what"), ("NoInstant", "instant"), ("NoTimes", "path"), ("BadFormula", "what"), ("BadText", "row"), ("BadText", "what"), ("BadMeasuring", "what"), ("BadYears", "years"), ("NotAClass", "name"), ("BadCause", "cause"), ("BadCustom", "custom"), ("BadLater", "later"), ("NotMember", "name"), ("NoRoom", "name"), ("BadWatch", "what"), ("NotTrue", "what"), ("NotTrue", "row"), ("BadCase", "what"), ("BadChange", "index"), ("BadChange", "what"), ("BadPool", "what"), ("BadPool", "index")]
def okI : List Value → Prop := fun us => ∀ v, us[0]? = some v → ∃ i t, v = .int i t ∧ i.natAbs.log2 < 1920
def okVI : List V → Prop := fun vs => ∃ i r, vs = .int i :: r ∧ i.natAbs.log2 < 1920
theorem okVI_ok : ∀ vs us, Vals vs us → okVI vs → okI us := fun vs us r ⟨i, rest, e, h⟩ v hv => by
  subst e
  cases r with
  | cons ra rb =>
    obtain ⟨t, rfl⟩ := ra
    cases hv
    exact ⟨i, t, rfl, h⟩
/-- what the top has written -/
structure Txt (P : Program) (w : World) (K : PySem.W.Frag) (mg : Str → Option Value) (cl : String → Addr) : Prop where
  n_len : mg "len" = none
  n_int : mg "int" = none
  n_str : mg "str" = none
  n_list : mg "list" = none
  n_isinstance : mg "isinstance" = none
  n_range : mg "range" = none
  n_ValueError : mg "ValueError" = none
  n_super : mg "super" = none
  m_DeedError : mg "DeedError" = some (.ref (cl "DeedError"))
  m_BadCustoms : mg "BadCustoms" = some (.ref (cl "BadCustoms"))
  m_BadLives : mg "BadLives" = some (.ref (cl "BadLives"))
  m_BadRecord : mg "BadRecord" = some (.ref (cl "BadRecord"))
  m_NoRow : mg "NoRow" = some (.ref (cl "NoRow"))
  m_NoLife : mg "NoLife" = some (.ref (cl "NoLife"))
  m_NoPerson : mg "NoPerson" = some (.ref (cl "NoPerson"))
  m_OtherLives : mg "OtherLives" = some (.ref (cl "OtherLives"))
  m_BadKin : mg "BadKin" = some (.ref (cl "BadKin"))
  m_BadDate : mg "BadDate" = some (.ref (cl "BadDate"))
  m_BadTaker : mg "BadTaker" = some (.ref (cl "BadTaker"))
  m_BadCondition : mg "BadCondition" = some (.ref (cl "BadCondition"))
  m_BadGift : mg "BadGift" = some (.ref (cl "BadGift"))
  m_BadDeed : mg "BadDeed" = some (.ref (cl "BadDeed"))
  m_NoGift : mg "NoGift" = some (.ref (cl "NoGift"))
  m_BadYear : mg "BadYear" = some (.ref (cl "BadYear"))
  m_BadSystem : mg "BadSystem" = some (.ref (cl "BadSystem"))
  m_BadTimes : mg "BadTimes" = some (.ref (cl "BadTimes"))
  m_OtherCount : mg "OtherCount" = some (.ref (cl "OtherCount"))
  m_NoInstant : mg "NoInstant" = some (.ref (cl "NoInstant"))
  m_NoTimes : mg "NoTimes" = some (.ref (cl "NoTimes"))
  m_BadFormula : mg "BadFormula" = some (.ref (cl "BadFormula"))
  m_BadText : mg "BadText" = some (.ref (cl "BadText"))
  m_BadMeasuring : mg "BadMeasuring" = some (.ref (cl "BadMeasuring"))
  m_BadYears : mg "BadYears" = some (.ref (cl "BadYears"))
  m_NotAClass : mg "NotAClass" = some (.ref (cl "NotAClass"))
  m_BadCause : mg "BadCause" = some (.ref (cl "BadCause"))
  m_BadCustom : mg "BadCustom" = some (.ref (cl "BadCustom"))
  m_BadLater : mg "BadLater" = some (.ref (cl "BadLater"))
  m_NotMember : mg "NotMember" = some (.ref (cl "NotMember"))
  m_NoRoom : mg "NoRoom" = some (.ref (cl "NoRoom"))
  m_BadWatch : mg "BadWatch" = some (.ref (cl "BadWatch"))
  m_NotTrue : mg "NotTrue" = some (.ref (cl "NotTrue"))
  m_BadCase : mg "BadCase" = some (.ref (cl "BadCase"))
  m_BadChange : mg "BadChange" = some (.ref (cl "BadChange"))
  m_BadPool : mg "BadPool" = some (.ref (cl "BadPool"))
  e_BadCustoms : PySem.ErrL.Makes P w K mg (cl "BadCustoms") ["what"] (fun _ => True)
  e_BadLives : PySem.ErrL.Makes P w K mg (cl "BadLives") ["index", "what"] okI
  e_BadRecord : PySem.ErrL.Makes P w K mg (cl "BadRecord") ["index", "what"] okI
  e_NoLife : PySem.ErrL.Makes P w K mg (cl "NoLife") ["name"] (fun _ => True)
  e_NoPerson : PySem.ErrL.Makes P w K mg (cl "NoPerson") ["name"] (fun _ => True)
  e_BadKin : PySem.ErrL.Makes P w K mg (cl "BadKin") ["what"] (fun _ => True)
  e_BadDate : PySem.ErrL.Makes P w K mg (cl "BadDate") ["what"] (fun _ => True)
  e_BadTaker : PySem.ErrL.Makes P w K mg (cl "BadTaker") ["what"] (fun _ => True)
  e_BadCondition : PySem.ErrL.Makes P w K mg (cl "BadCondition") ["what"] (fun _ => True)
  e_BadGift : PySem.ErrL.Makes P w K mg (cl "BadGift") ["what"] (fun _ => True)
  e_BadDeed : PySem.ErrL.Makes P w K mg (cl "BadDeed") ["index", "what"] okI
  e_NoGift : PySem.ErrL.Makes P w K mg (cl "NoGift") ["name"] (fun _ => True)
  e_BadYear : PySem.ErrL.Makes P w K mg (cl "BadYear") ["year"] (fun _ => True)
  e_BadMeasuring : PySem.ErrL.Makes P w K mg (cl "BadMeasuring") ["what"] (fun _ => True)
  e_BadYears : PySem.ErrL.Makes P w K mg (cl "BadYears") ["years"] (fun _ => True)
  e_BadWatch : PySem.ErrL.Makes P w K mg (cl "BadWatch") ["what"] (fun _ => True)
  e_NotTrue : PySem.ErrL.Makes P w K mg (cl "NotTrue") ["what", "row"] (fun _ => True)
  e_BadCase : PySem.ErrL.Makes P w K mg (cl "BadCase") ["what"] (fun _ => True)
  e_BadChange : PySem.ErrL.Makes P w K mg (cl "BadChange") ["index", "what"] okI
  e_BadPool : PySem.ErrL.Makes P w K mg (cl "BadPool") ["what", "index"] (fun _ => True)
  o_BadSystem : OexC K (cl "BadSystem")
  i_BadSystem : ∃ (f : Addr) (fd : FuncData), Fun K "__init__" "BadSystem.__init__" s_BadSystem_init f fd ∧ PySem.W.findIn K (.ref (cl "BadSystem")) "__init__" = some (some (.ref f)) ∧ PySem.W.typeIn K (.ref f) = some (.type "function")
  o_BadTimes : OexC K (cl "BadTimes")
  i_BadTimes : ∃ (f : Addr) (fd : FuncData), Fun K "__init__" "BadTimes.__init__" s_BadTimes_init f fd ∧ PySem.W.findIn K (.ref (cl "BadTimes")) "__init__" = some (some (.ref f)) ∧ PySem.W.typeIn K (.ref f) = some (.type "function")
  o_OtherCount : OexC K (cl "OtherCount")
  i_OtherCount : ∃ (f : Addr) (fd : FuncData), Fun K "__init__" "OtherCount.__init__" s_OtherCount_init f fd ∧ PySem.W.findIn K (.ref (cl "OtherCount")) "__init__" = some (some (.ref f)) ∧ PySem.W.typeIn K (.ref f) = some (.type "function")
  o_NoInstant : OexC K (cl "NoInstant")
  i_NoInstant : ∃ (f : Addr) (fd : FuncData), Fun K "__init__" "NoInstant.__init__" s_NoInstant_init f fd ∧ PySem.W.findIn K (.ref (cl "NoInstant")) "__init__" = some (some (.ref f)) ∧ PySem.W.typeIn K (.ref f) = some (.type "function")
  o_NoTimes : OexC K (cl "NoTimes")
  i_NoTimes : ∃ (f : Addr) (fd : FuncData), Fun K "__init__" "NoTimes.__init__" s_NoTimes_init f fd ∧ PySem.W.findIn K (.ref (cl "NoTimes")) "__init__" = some (some (.ref f)) ∧ PySem.W.typeIn K (.ref f) = some (.type "function")
  o_BadFormula : OexC K (cl "BadFormula")
  i_BadFormula : ∃ (f : Addr) (fd : FuncData), Fun K "__init__" "BadFormula.__init__" s_BadFormula_init f fd ∧ PySem.W.findIn K (.ref (cl "BadFormula")) "__init__" = some (some (.ref f)) ∧ PySem.W.typeIn K (.ref f) = some (.type "function")
  o_BadText : OexC K (cl "BadText")
  i_BadText : ∃ (f : Addr) (fd : FuncData), Fun K "__init__" "BadText.__init__" s_BadText_init f fd ∧ PySem.W.findIn K (.ref (cl "BadText")) "__init__" = some (some (.ref f)) ∧ PySem.W.typeIn K (.ref f) = some (.type "function")
  o_NotAClass : OexC K (cl "NotAClass")
  i_NotAClass : ∃ (f : Addr) (fd : FuncData), Fun K "__init__" "NotAClass.__init__" s_NotAClass_init f fd ∧ PySem.W.findIn K (.ref (cl "NotAClass")) "__init__" = some (some (.ref f)) ∧ PySem.W.typeIn K (.ref f) = some (.type "function")
  o_BadCause : OexC K (cl "BadCause")
  i_BadCause : ∃ (f : Addr) (fd : FuncData), Fun K "__init__" "BadCause.__init__" s_BadCause_init f fd ∧ PySem.W.findIn K (.ref (cl "BadCause")) "__init__" = some (some (.ref f)) ∧ PySem.W.typeIn K (.ref f) = some (.type "function")
  o_BadCustom : OexC K (cl "BadCustom")
  i_BadCustom : ∃ (f : Addr) (fd : FuncData), Fun K "__init__" "BadCustom.__init__" s_BadCustom_init f fd ∧ PySem.W.findIn K (.ref (cl "BadCustom")) "__init__" = some (some (.ref f)) ∧ PySem.W.typeIn K (.ref f) = some (.type "function")
  o_BadLater : OexC K (cl "BadLater")
  i_BadLater : ∃ (f : Addr) (fd : FuncData), Fun K "__init__" "BadLater.__init__" s_BadLater_init f fd ∧ PySem.W.findIn K (.ref (cl "BadLater")) "__init__" = some (some (.ref f)) ∧ PySem.W.typeIn K (.ref f) = some (.type "function")
  o_NotMember : OexC K (cl "NotMember")
  i_NotMember : ∃ (f : Addr) (fd : FuncData), Fun K "__init__" "NotMember.__init__" s_NotMember_init f fd ∧ PySem.W.findIn K (.ref (cl "NotMember")) "__init__" = some (some (.ref f)) ∧ PySem.W.typeIn K (.ref f) = some (.type "function")
  o_NoRoom : OexC K (cl "NoRoom")
  i_NoRoom : ∃ (f : Addr) (fd : FuncData), Fun K "__init__" "NoRoom.__init__" s_NoRoom_init f fd ∧ PySem.W.findIn K (.ref (cl "NoRoom")) "__init__" = some (some (.ref f)) ∧ PySem.W.typeIn K (.ref f) = some (.type "function")
  xf_BadSystem_index : PySem.W.findIn K (.ref (cl "BadSystem")) "index" = some none
  xf_BadSystem_what : PySem.W.findIn K (.ref (cl "BadSystem")) "what" = some none
  xf_NoInstant_instant : PySem.W.findIn K (.ref (cl "NoInstant")) "instant" = some none
  xf_NoTimes_path : PySem.W.findIn K (.ref (cl "NoTimes")) "path" = some none
  xf_BadFormula_what : PySem.W.findIn K (.ref (cl "BadFormula")) "what" = some none
  xf_BadText_row : PySem.W.findIn K (.ref (cl "BadText")) "row" = some none
  xf_BadText_what : PySem.W.findIn K (.ref (cl "BadText")) "what" = some none
  xf_NotAClass_name : PySem.W.findIn K (.ref (cl "NotAClass")) "name" = some none
  xf_BadCause_cause : PySem.W.findIn K (.ref (cl "BadCause")) "cause" = some none
  xf_BadCustom_custom : PySem.W.findIn K (.ref (cl "BadCustom")) "custom" = some none
  xf_BadLater_later : PySem.W.findIn K (.ref (cl "BadLater")) "later" = some none
  xf_NotMember_name : PySem.W.findIn K (.ref (cl "NotMember")) "name" = some none
  xf_NoRoom_name : PySem.W.findIn K (.ref (cl "NoRoom")) "name" = some none
  p_NoRow : PySem.W.excIn K (cl "NoRow") He.veBase "ValueError.__new__" = true
  pk_NoRow : PySem.W.keepIn K (.ref (cl "NoRow")) = true
  p_OtherLives : PySem.W.excIn K (cl "OtherLives") He.veBase "ValueError.__new__" = true
  pk_OtherLives : PySem.W.keepIn K (.ref (cl "OtherLives")) = true
  p_DeedError : PySem.W.excIn K (cl "DeedError") He.veBase "ValueError.__new__" = true
  pk_DeedError : PySem.W.keepIn K (.ref (cl "DeedError")) = true
  x_ : ∀ c ∈ c36, ExcC K (cl c)
  xf_ : ∀ q ∈ cf, PySem.W.findIn K (.ref (cl q.1)) (Str.ofString q.2) = some none
  kit : ∀ c ∈ c36, ∀ d ∈ c35, PySem.W.kitOne K (.ref (cl c)) (.ref (cl d)) = some (decide (c = d))
  kitd : ∀ c ∈ c36, PySem.W.kitOne K (.ref (cl c)) (.ref (cl "DeedError")) = some true
  kitv : ∀ c ∈ c36, PySem.W.kitOne K (.ref (cl c)) (.type "ValueError") = some true
  cr : ClX.CRead K (cl "DeedError") (.type "type")
  vi : PySem.W.findCls K (.ref (cl "DeedError")) (.type "type") "__init__" = some (.val (.builtin "ValueError.__init__"))
  r_ : ∀ c ∈ c36, PySem.W.subIn K (.ref (cl c)) (.type "BaseException") = some true ∧ PySem.W.typeIn K (.ref (cl c)) = some (.type "type")
  q_BL_BR : PySem.W.exmOne K (.ref (cl "BadLives")) (.ref (cl "BadRecord")) = some false
  q_BL_DE : PySem.W.exmOne K (.ref (cl "BadLives")) (.ref (cl "DeedError")) = some true
  q_NP_NL : PySem.W.exmOne K (.ref (cl "NoPerson")) (.ref (cl "NoLife")) = some false
  q_NP_DE : PySem.W.exmOne K (.ref (cl "NoPerson")) (.ref (cl "DeedError")) = some true
  q_NR_OL : PySem.W.exmOne K (.ref (cl "NoRow")) (.ref (cl "OtherLives")) = some false
  q_NR_DE : PySem.W.exmOne K (.ref (cl "NoRow")) (.ref (cl "DeedError")) = some true
  d_digits : Def K mg "_law_digits" s_digits
  d_next : Def K mg "_law_next" s_next
  d_word : Def K mg "_law_word" s_word
  d_first : Def K mg "_law_first" s_first
  d_second : Def K mg "_law_second" s_second
  d_third : Def K mg "_law_third" s_third
  d_classes : Def K mg "_law_classes" s_classes
  d_raised : Def K mg "_law_raised" s_raised
  d_law : Def K mg "law" s_law
  z1 : PySem.W.specialIn K (.builtin "object.__class__") "__get__" = some (some (.builtin "getset_descriptor.__get__"))
  z2 : PySem.W.takesIn K (.builtin "object.__class__") = some true
def letters : List Nat := ("abcdefghijklmnopqrstuvwxyz" : Str).cps.toList
/-! data stay -/
theorem sqlS {K : PySem.W.Frag} {H H' : Hp} (S : Same H H') {a : Addr} {xs : List V} (h : SqL K H a xs) : SqL K H' a xs := by
  rcases h with (h | ⟨o, h⟩) | h
  · exact .inl (.inl (S _ _ h))
  · exact .inl (.inr ⟨o, S _ _ h⟩)
  · exact .inr h
theorem sqtS {K : PySem.W.Frag} {H H' : Hp} (S : Same H H') {a : Addr} {xs : List V} (h : SqT K H a xs) : SqT K H' a xs := by
  rcases h with (h | ⟨o, h⟩) | h
  · exact .inl (.inl (S _ _ h))
  · exact .inl (.inr ⟨o, S _ _ h⟩)
  · exact .inr h
mutual
theorem dpS {K : PySem.W.Frag} {H H' : Hp} (S : Same H H') : ∀ {v : V} {d : PyData}, Dp K H v d → Dp K H' v d
  | _, _, .non => .non
  | _, _, .bl b => .bl b
  | _, _, .int i => .int i
  | _, _, .str x => .str x
  | _, _, .lst h r => .lst (sqlS S h) (dpSA S r)
  | _, _, .tup h r => .tup (sqtS S h) (dpSA S r)
theorem dpSA {K : PySem.W.Frag} {H H' : Hp} (S : Same H H') : ∀ {vs : List V} {ds : List PyData}, DpAll K H vs ds → DpAll K H' vs ds
  | _, _, .nil => .nil
  | _, _, .cons h r => .cons (dpS S h) (dpSA S r)
end
def sOk (x : Str) : Prop := ∀ c ∈ x.cps.toList, c < 123
theorem sOk_of {x : Str} (h : sOk x) : PyData.strOk x = true := by
  unfold PyData.strOk
  rw [Array.all_eq_true']
  intro c hc
  have := h c (by simpa using hc)
  simp
  omega
theorem sOk_app {x y : Str} (h : sOk x) (g : sOk y) : sOk (x ++ y) := by
  intro c hc
  have e : (x ++ y).cps = x.cps ++ y.cps := rfl
  rw [e, Array.toList_append, List.mem_append] at hc
  rcases hc with hc | hc
  · exact h c hc
  · exact g c hc
theorem sOk_one {c : Nat} (h : c < 123) : sOk ⟨#[c]⟩ := by
  intro d hd
  simp at hd
  omega
theorem letters_lt : ∀ c ∈ letters, c < 123 := by decide +kernel
theorem sOk_nil : sOk "" := by
  intro c hc
  have : ("" : Str).cps.toList = [] := by decide
  rw [this] at hc
  cases hc
theorem sh1 {x : Str} (h : PyData.strOk x = true) : SeqAt.shaped (.list [.str x]) = true := by simp [SeqAt.shaped, PyData.canLay0, PyData.canLayAll0, PyData.depth, PyData.depthAll, h]
theorem sh2 {x : Str} {n : Int} (h : PyData.strOk x = true) : SeqAt.shaped (.list [.int n, .str x]) = true := by simp [SeqAt.shaped, PyData.canLay0, PyData.canLayAll0, PyData.depth, PyData.depthAll, h]
theorem sh3 {x y : Str} {n : Int} (h : PyData.strOk x = true) (g : PyData.strOk y = true) : SeqAt.shaped (.list [.str x, .tuple [.str "died", .int n, .str y]]) = true := by
  have e : PyData.strOk "died" = true := by decide +kernel
  simp [SeqAt.shaped, PyData.canLay0, PyData.canLayAll0, PyData.depth, PyData.depthAll, h, g, e]
theorem sh4 {x : Str} {n : Int} (h : PyData.strOk x = true) : SeqAt.shaped (.list [.str x, .int n]) = true := by simp [SeqAt.shaped, PyData.canLay0, PyData.canLayAll0, PyData.depth, PyData.depthAll, h]
theorem sz {α : Type} {l : List α} (h : l.length ≤ 1000) : l.length ≤ sizeLine := Nat.le_trans h (by decide)
theorem sz2 {a b : Nat} (h : a + b ≤ 1000) : a + b ≤ sizeLine := Nat.le_trans h (by decide)
/-- an error, what it holds, what is due -/
def Trip (K : PySem.W.Frag) (H : Hp) (v : V) (C : Addr) : Prop := ∃ (t e : Addr) (a b : V) (D : PyData), v = .ref t ∧ H t = some (.tup [.ref e, a, b]) ∧ ErV H e C ∧ Dp K H a D ∧ Dp K H b D ∧ SeqAt.shaped D = true
theorem tripS {K : PySem.W.Frag} {H H' : Hp} {v : V} {C : Addr} (S : Same H H') (x : Trip K H v C) : Trip K H' v C := by
  obtain ⟨t, e, a, b, D, h1, h2, h3, h4, h5, h6⟩ := x
  exact ⟨t, e, a, b, D, h1, S _ _ h2, h3.same S, dpS S h4, dpS S h5, h6⟩
def Trips (K : PySem.W.Frag) (H : Hp) (cl : String → Addr) : List V → List String → Prop
  | [], [] => True
  | v :: vs, c :: cs => Trip K H v (cl c) ∧ Trips K H cl vs cs
  | _, _ => False
theorem tripsS {K : PySem.W.Frag} {H H' : Hp} {cl : String → Addr} (S : Same H H') : ∀ {vs : List V} {cs : List String}, Trips K H cl vs cs → Trips K H' cl vs cs
  | [], [], _ => trivial
  | _ :: _, _ :: _, h => ⟨tripS S h.1, tripsS S h.2⟩
theorem trips_app {K : PySem.W.Frag} {H : Hp} {cl : String → Addr} : ∀ {vs us : List V} {cs ds : List String}, Trips K H cl vs cs → Trips K H cl us ds → Trips K H cl (vs ++ us) (cs ++ ds)
  | [], _, [], _, _, h => h
  | _ :: _, _, _ :: _, _, h, g => ⟨h.1, trips_app h.2 g⟩
theorem trips_at {K : PySem.W.Frag} {H : Hp} {cl : String → Addr} : ∀ {vs : List V} {cs : List String} (i : Nat), Trips K H cl vs cs → (h : i < cs.length) → ∃ v, vs[i]? = some v ∧ Trip K H v (cl cs[i])
  | _, [], _, _, hi => absurd hi (Nat.not_lt_zero _)
  | [], _ :: _, _, h, _ => h.elim
  | v :: _, _ :: _, 0, h, _ => ⟨v, rfl, h.1⟩
  | _ :: vs, _ :: cs, i + 1, h, hi => by
    obtain ⟨v, h1, h2⟩ := trips_at i h.2 (Nat.lt_of_succ_lt_succ hi)
    exact ⟨v, by simpa using h1, by simpa using h2⟩
theorem trips_len {K : PySem.W.Frag} {H : Hp} {cl : String → Addr} : ∀ {vs : List V} {cs : List String}, Trips K H cl vs cs → vs.length = cs.length
  | [], [], _ => rfl
  | _ :: _, _ :: _, h => by simp [trips_len h.2]
/-- the arguments of the three makers of errors -/
def spMk (K : PySem.W.Frag) (cl : String → Addr) (cs : List String) : Sp := fun vs H Q _ => ∃ (n : Int) (x y : Str), vs = [.int n, .str x, .str y] ∧ n.natAbs.log2 < 1920 ∧ PyData.strOk x = true ∧ PyData.strOk y = true ∧ ∀ (l : Addr) (us : List V) (H' : Hp), Same H H' → H' l = some (.lst us) → Trips K H' cl us cs → Q (.ref l) H'
end My
set_option Elab.async false
set_option linter.all false
set_option maxRecDepth 100000
set_option maxHeartbeats 8000000
namespace My
open PySem L2 Dw
open C8 (pss_cut tCut)
section
variable {P : Program} {w : World} {K : PySem.W.Frag} {mg : Str → Option Value} {base : Heap} {cl : String → Addr}
def spDigitsI (K : PySem.W.Frag) : Sp := fun vs H Q _ => ∃ (a : Addr) (ns : List Int) (m : Int), vs = [.ref a, .int m] ∧ SqL K H a (ns.map V.int) ∧ ns.length ≤ 63 ∧
  ∀ (d c : Addr) (H' : Hp), H d = none → H c = none → Dr H' d c → Same H H' → Q (.ref d) H'
theorem ok_next {f : Addr} {fd : FuncData} (F : Fun K "_law_next" "_law_next" s_next f fd) (T : Txt P w K mg cl) : FnOk P w K mg base CX0 1 f fd ["_law_draws", "_law_many"] spNext := by
  refine F.ok sc_next (fun vs H Q E h => ?_) (fun cdv A outer s H vs Q E hr h => ?_)
  · obtain ⟨d, c, many, rfl, _⟩ := h
    rfl
  · obtain ⟨d, c, many, rfl, D, hm0, hm1, k⟩ := h
    have hu := hu_of hr
    refine ⟨_, (pss_cons (ps_dput hu (pv 0) pe_str (pe_op op_add (pe_dget hu (pv 0) pe_str (fun _ _ => rfl)) pe_int) rfl)
        (pss_cut (ps_if (PW.pt (pw_and (pt_cmpR op_eq (pe_dget hu (pv 0) pe_str (fun _ _ => rfl)) pe_int (nomark _)) (pw_and1 (pt_cmpR op_lt (pe_dget hu (pv 0) pe_str (fun _ _ => rfl)) (pe_callB call_len_seq (by rfl) T.n_len PySem.boot_len (pa_cons (pe_dget hu (pv 0) pe_str (fun _ _ => rfl)) pa_nil)) (nomark _)))))
          (pss_cons (ps_set (i := 2) sc_next.nd rfl (Or.inl rfl) (pe_callTy call_int1 (by rfl) T.n_int (by decide +kernel) (pa_cons (pe_ix ix_list (pe_dget hu (pv 0) pe_str (fun _ _ => rfl)) (pe_dget hu (pv 0) pe_str (fun _ _ => rfl)) (fun _ _ => rfl)) pa_nil)))
            (pss_cons (ps_dput hu (pv 0) pe_str (pe_op op_add (pe_dget hu (pv 0) pe_str (fun _ _ => rfl)) pe_int) rfl)
            (pss_one (ps_if (pt_cmpR op_ge (pv 2) (pe_op op_pow pe_int pe_int) (nomark _))
              (pss_cons (ps_dput hu (pv 0) pe_str (pe_op op_sub (pv 2) (pe_op op_pow pe_int pe_int)) rfl)
                (pss_one (ps_dput hu (pv 0) pe_str pe_int rfl))) (pss_one (ps_dput hu (pv 0) pe_str (pe_op op_mod (pe_callTy call_int1 (by rfl) T.n_int (by decide +kernel) (pa_cons (pe_op op_add (pe_op op_add (pe_op op_mul (pe_dget hu (pv 0) pe_str (fun _ _ => rfl)) pe_int) (pe_op op_mod (pv 2) pe_int)) pe_int) pa_nil)) pe_int) rfl)))))) pss_nil)
        (pss_cons (ps_if (pt_cmpR op_gt (pe_dget hu (pv 0) pe_str (fun _ _ => rfl)) pe_int (nomark _))
          (pss_cons (ps_dput hu (pv 0) pe_str (pe_op op_sub (pe_dget hu (pv 0) pe_str (fun _ _ => rfl)) pe_int) rfl)
            (pss_cons (ps_set (i := 3) sc_next.nd rfl (Or.inl rfl) (pe_op op_mod (pe_callTy call_int1 (by rfl) T.n_int (by decide +kernel) (pa_cons (pe_dget hu (pv 0) pe_str (fun _ _ => rfl)) pa_nil)) (pv 1)))
            (pss_cons (ps_dput hu (pv 0) pe_str (pe_op op_fdiv (pe_dget hu (pv 0) pe_str (fun _ _ => rfl)) (pv 1)) rfl)
            (pss_one (ps_ret (pv 3)))))) pss_nil)
        (pss_cons (ps_dput hu (pv 0) pe_str (pe_op op_mod (pe_callTy call_int1 (by rfl) T.n_int (by decide +kernel) (pa_cons (pe_op op_add (pe_op op_add (pe_op op_mul (pe_dget hu (pv 0) pe_str (fun _ _ => rfl)) pe_int) (pe_op op_mul pe_int (pe_dget hu (pv 0) pe_str (fun _ _ => rfl)))) pe_int) pa_nil)) pe_int) rfl)
        (pss_one (ps_ret (pe_op op_mod (pe_op op_fdiv (pe_op op_mod (pe_callTy call_int1 (by rfl) T.n_int (by decide +kernel) (pa_cons (pe_op op_mul (pe_dget hu (pv 0) pe_str (fun _ _ => rfl)) pe_int) pa_nil)) pe_int) pe_int) (pv 1)))))))), ?_⟩
    obtain ⟨ndc, ns, nx, dg, rs, sd, tn, hd, hc, hl, hn⟩ := D
    -- the count of the turns
    refine ⟨_, rfl, _, _, rfl, dgs hd g_turn, _, _, rfl, rfl, _, rfl, _, _, rfl, dps hd p_turn dr_len, ?_⟩
    generalize htn : tn + 1 = tn1
    have hc1 : ∀ o, (upd H d o) c = some (.lst (ns.map V.int)) := fun o => by rw [upd_ne (Ne.symm ndc)]; exact hc
    refine ⟨fun σ' H' => ∃ (nx dg rs sd : Int) (v : Option V), 0 ≤ nx ∧ σ' = [some (.ref d), some (.int many), v, none] ∧ H' = upd H d (.dK (drK c nx dg rs sd tn1)), ?_, ?_⟩
    · refine ⟨_, rfl, _, _, rfl, dgs upd_same g_digits, rfl, _, rfl, ?_⟩
      refine ite2 (fun h0 => ?_) (fun h0 => ?_)
      · refine ⟨_, rfl, _, _, rfl, dgs upd_same g_next, _, rfl, _, _, rfl, dgs upd_same g_cells, _, _, rfl, .inl (SqL.of (hc1 _)), _, _, rfl, rfl, _, rfl, ?_⟩
        refine ite2 (fun h1 => ?_) (fun h1 => ?_)
        · have h1 : nx < (ns.length : Int) := by simpa using h1
          obtain ⟨z, hz⟩ : ∃ z, ns[nx.toNat]? = some z := ⟨_, List.getElem?_eq_getElem (by omega)⟩
          have hz2 : (ns.map V.int)[nx.toNat]? = some (.int z) := by rw [List.getElem?_map, hz]; rfl
          refine ⟨_, rfl, _, _, rfl, dgs upd_same g_cells, _, rfl, _, _, rfl, dgs upd_same g_next, _, _, _, _, rfl, rfl, SqL.of (hc1 _), at_of (by omega) hz2, .inl ⟨_, rfl, ?_⟩⟩
          refine ⟨_, rfl, _, _, rfl, dgs upd_same g_next, _, _, rfl, rfl, _, rfl, _, _, rfl, dpu p_next dr_len, ?_⟩
          refine ⟨_, rfl, _, _, rfl, rfl, ⟨by decide, by decide, by decide⟩, _, _, rfl, rfl, _, rfl, ?_⟩
          refine ite2 (fun h2 => ?_) (fun h2 => ?_)
          · refine ⟨_, rfl, _, _, rfl, rfl, ⟨by decide, by decide, by decide⟩, _, _, rfl, rfl, _, rfl, _, _, rfl, dpu p_rest dr_len, ?_⟩
            exact ⟨_, rfl, _, _, rfl, dpu p_digits dr_len, _, _, _, _, _, by omega, rfl, rfl⟩
          · refine ⟨_, rfl, _, _, rfl, dgs upd_same g_seed, _, _, rfl, rfl, .inr ⟨by decide, by decide⟩, _, rfl, _, _, rfl, rfl, (by show (0 : Int) < _; decide), _, _, rfl, rfl, _, _, rfl, rfl, .inl ⟨_, rfl, _, _, rfl, rfl, (by show (0 : Int) < _; decide), ?_⟩⟩
            exact ⟨_, rfl, _, _, rfl, dpu p_seed dr_len, _, _, _, _, _, by omega, rfl, rfl⟩
        · exact ⟨nx, dg, rs, sd, none, hn, rfl, rfl⟩
      · exact iteF ⟨nx, dg, rs, sd, none, hn, rfl, rfl⟩
    · rintro σ' H' ⟨nx, dg, rs, sd, v2, hn, rfl, rfl⟩
      have fin : ∀ kvs, But d H (upd H d kvs) := fun kvs => But.upd d H kvs
      refine ⟨_, rfl, _, _, rfl, dgs upd_same g_digits, _, _, rfl, rfl, _, rfl, ?_⟩
      refine ite2 (fun h0 => ?_) (fun h0 => ?_)
      · refine ⟨_, rfl, _, _, rfl, dgs upd_same g_digits, _, _, rfl, rfl, _, rfl, _, _, rfl, dpu p_digits dr_len, ?_⟩
        refine ⟨_, rfl, _, _, rfl, dgs upd_same g_rest, .inl ⟨_, rfl, _, rfl, _, _, rfl, rfl, by show 0 < many; omega, ?_⟩⟩
        refine ⟨_, rfl, _, _, rfl, dgs upd_same g_rest, _, rfl, _, _, rfl, rfl, ⟨by omega, by omega⟩, _, rfl, _, _, rfl, dpu p_rest dr_len, ?_⟩
        exact ⟨_, rfl, k _ _ (Int.emod_nonneg _ (by omega)) (Int.emod_lt_of_pos _ (by omega)) ⟨ndc, ns, _, _, _, _, _, upd_same, hc1 _, hl, hn⟩ (fin _)⟩
      · refine ⟨_, rfl, _, _, rfl, dgs upd_same g_seed, _, _, rfl, rfl, .inr ⟨by decide, by decide⟩, _, rfl, _, _, rfl, dgs upd_same g_turn, _, _, rfl, rfl, .inl ⟨by decide, by decide⟩, _, _, rfl, rfl, _, _, rfl, rfl, .inl ⟨_, rfl, _, _, rfl, rfl, (by show (0 : Int) < _; decide), ?_⟩⟩
        refine ⟨_, rfl, _, _, rfl, dpu p_seed dr_len, ?_⟩
        refine ⟨_, rfl, _, _, rfl, dgs upd_same g_seed, _, _, rfl, rfl, .inr ⟨by decide, by decide⟩, .inl ⟨_, rfl, _, _, rfl, rfl, (by show (0 : Int) < _; decide), _, _, rfl, rfl, ⟨by decide, by decide⟩, _, rfl, _, _, rfl, rfl, by show 0 < many; omega, ?_⟩⟩
        exact k _ _ (Int.emod_nonneg _ (by omega)) (Int.emod_lt_of_pos _ (by omega)) ⟨ndc, ns, _, _, _, _, _, upd_same, hc1 _, hl, hn⟩ (fin _)
theorem cal_next (T : Txt P w K mg cl) : Cal P w K mg base CX0 1 "_law_next" ["_law_draws", "_law_many"] spNext := by
  obtain ⟨f, fd, F, m⟩ := T.d_next
  exact ⟨f, fd, ok_next F T, m, F.kp, F.binds fun _ _ _ _ _ _ us hl => match us, hl with | [_, _], _ => rfl⟩
theorem ok_digits {f : Addr} {fd : FuncData} (F : Fun K "_law_digits" "_law_digits" s_digits f fd) (T : Txt P w K mg cl) : FnOk P w K mg base CX0 1 f fd ["_law_script", "_law_many"] (spDigitsI K) := by
  refine F.ok sc_digits (fun vs H Q E h => ?_) (fun cdv A outer s H vs Q E hr h => ?_)
  · obtain ⟨a, ns, m, rfl, _⟩ := h
    rfl
  · obtain ⟨a, ns, m, rfl, hS, hl, k⟩ := h
    refine ⟨_, (pss_cons (ps_set (i := 2) sc_digits.nd rfl (Or.inl rfl) (pv 1))
        (pss_cons (ps_for PassesOwn.never rfl (pi_list (pv 0)) (pg_name (i := 3) sc_digits.nd rfl (Or.inl rfl))
          (pss_one (ps_set (i := 2) sc_digits.nd rfl (Or.inl rfl) (pe_op op_mod (pe_callTy call_int1 (by rfl) T.n_int (by decide +kernel) (pa_cons (pe_op op_add (pe_op op_add (pe_op op_mul (pv 2) pe_int) (pe_op op_mod (pe_callTy call_int1 (by rfl) T.n_int (by decide +kernel) (pa_cons (pv 3) pa_nil)) pe_int)) pe_int) pa_nil)) pe_int))))
        (pss_one (ps_ret (pe_disp (pps_cons pe_str (pe_callTy call_list_of (by rfl) T.n_list (by decide +kernel) (pa_cons (pv 0) pa_nil)) (pps_cons pe_str pe_int (pps_cons pe_str pe_int (pps_cons pe_str pe_int (pps_cons pe_str (pv 2) (pps_cons pe_str pe_int pps_nil)))))) (by rfl) (by rfl) (fun z => by cases z) (by decide)))))), ?_⟩
    refine ⟨_, rfl, _, rfl, a, rfl, ⟨_, hS⟩, for_list (K := K) (a := a) (xs := ns.map V.int) (fun i σ H' => H' = H ∧ ∃ (sd : Int) (v : Option V), σ = [some (.ref a), some (.int m), some (.int sd), v]) ⟨rfl, _, _, rfl⟩ (fun i σ H' _ q => by rw [q.1]; exact hS) ?_ ?_⟩
    · rintro i y σ H' hi ⟨rfl, sd, v, rfl⟩
      obtain ⟨z, rfl⟩ : ∃ z, y = V.int z := by
        rw [List.getElem?_map] at hi
        cases e : ns[i]? with
        | none => rw [e] at hi; cases hi
        | some z => rw [e] at hi; exact ⟨z, (Option.some.inj hi).symm⟩
      refine ⟨_, rfl, _, _, rfl, rfl, .inr ⟨by decide, by decide⟩, _, rfl, .inl ⟨_, rfl, _, _, rfl, rfl, (by show (0 : Int) < _; decide), _, _, rfl, rfl, _, _, rfl, rfl, .inl ⟨_, rfl, _, _, rfl, rfl, (by show (0 : Int) < _; decide), ?_⟩⟩⟩
      exact ⟨rfl, _, _, rfl⟩
    · rintro σ H' ⟨rfl, sd, v, rfl⟩
      refine fun p hp => ⟨_, rfl, a, _, rfl, .inl ((Same.seq (fun b o e => by rw [upd_ne (ne_of_none e hp)]; exact e) hS)), fun l hl' => ?_⟩
      have npl : p ≠ l := ne_of_none upd_same hl'
      have hl0 : H' l = none := by
        have q := hl'
        rw [upd_ne (Ne.symm npl)] at q
        exact q
      have fin := k p l (upd (upd (upd H' p (.dK [])) l (.lst (ns.map V.int))) p (.dK (drK l 0 0 0 sd 0))) hp hl0 ⟨npl, ns, 0, 0, 0, sd, 0, upd_same, by rw [upd_ne (Ne.symm npl), upd_same], hl, Int.le_refl _⟩
        (fun b o e => by rw [upd_ne (ne_of_none e hp), upd_ne (ne_of_none e hl0), upd_ne (ne_of_none e hp)]; exact e)
      exact ⟨_, rfl, by rw [upd_ne npl]; exact upd_same, drK l 0 0 0 sd 0, rfl, by show 6 ≤ 15; decide, fin⟩
theorem cal_digits (T : Txt P w K mg cl) : Cal P w K mg base CX0 1 "_law_digits" ["_law_script", "_law_many"] (spDigitsI K) := by
  obtain ⟨f, fd, F, m⟩ := T.d_digits
  exact ⟨f, fd, ok_digits F T, m, F.kp, F.binds fun _ _ _ _ _ _ us hl => match us, hl with | [_, _], _ => rfl⟩
def spWord8 : Sp := fun vs H Q _ => ∃ (d c : Addr), vs = [.ref d] ∧ Dr H d c ∧ ∀ (x : Str) (H' : Hp), x.length ≤ 8 → PyData.strOk x = true → Dr H' d c → But d H H' → Q (.str x) H'
theorem ok_word {f : Addr} {fd : FuncData} (F : Fun K "_law_word" "_law_word" s_word f fd) (T : Txt P w K mg cl) : FnOk P w K mg base CX0 2 f fd ["_law_draws"] spWord8 := by
  refine F.ok sc_word (fun vs H Q E h => ?_) (fun cdv A outer s H vs Q E hr h => ?_)
  · obtain ⟨d, c, rfl, _⟩ := h
    rfl
  · obtain ⟨d, c, rfl, D, k⟩ := h
    have C_next : Cal P w K mg base CX0 1 "_law_next" _ spNext := cal_next T
    refine ⟨_, (pss_cons (ps_set (i := 1) sc_word.nd rfl (Or.inl rfl) pe_str)
        (pss_cons (ps_for PassesOwn.never rfl (pi_range1 rfl T.n_range (pa_cons (pe_op op_add pe_int (pe_cal C_next (hr.mono (by decide)) (pa_cons (pv 0) (pa_cons pe_int pa_nil)))) pa_nil)) (pg_name (i := 2) sc_word.nd rfl (Or.inl rfl))
          (pss_one (ps_set (i := 1) sc_word.nd rfl (Or.inl rfl) (pe_op op_add_str (pv 1) (pe_ix ix_str pe_str (pe_cal C_next (hr.mono (by decide)) (pa_cons (pv 0) (pa_cons pe_int pa_nil))) (fun _ _ => rfl))))))
        (pss_one (ps_ret (pv 1))))), ?_⟩
    refine ⟨_, rfl, d, c, _, rfl, D, by decide, by decide, fun j H1 j0 j1 D1 B1 => ?_⟩
    refine ⟨_, _, rfl, rfl, _, rfl, by omega, by omega, for_range (n := (1 + j).toNat) (fun i σ H' => ∃ (x : Str) (v : Option V), σ = [some (.ref d), some (.str x), v] ∧ x.length = i ∧ sOk x ∧ Dr H' d c ∧ But d H H') ⟨"", _, rfl, rfl, sOk_nil, D1, B1⟩ ?_ ?_⟩
    · rintro i σ H' hi ⟨x, v, rfl, hx, hs, D', B⟩
      refine ⟨_, rfl, _, rfl, d, c, _, rfl, D', by decide, by decide, fun a H2 a0 a1 D2 B2 => ?_⟩
      obtain ⟨m, rfl⟩ : ∃ m : Nat, a = (m : Int) := ⟨a.toNat, by omega⟩
      have hm : m < letters.length := by show m < 26; omega
      refine ⟨_, _, letters[m], rfl, rfl, by decide, atI_nat (List.getElem?_eq_getElem hm), _, _, rfl, rfl, Nat.le_of_lt (small1000 ?_), x ++ ⟨#[letters[m]]⟩, _, rfl, ?_, sOk_app hs (sOk_one (letters_lt _ (List.getElem_mem hm))), D2, B.trans B2⟩
      · show x.length + 1 ≤ 1000
        omega
      · rw [Str.length_append, hx]
        rfl
    · rintro σ H' ⟨x, v, rfl, hx, hs, D', B⟩
      exact ⟨_, rfl, k x H' (by omega) (sOk_of hs) D' B⟩
theorem cal_word (T : Txt P w K mg cl) : Cal P w K mg base CX0 2 "_law_word" ["_law_draws"] spWord8 := by
  obtain ⟨f, fd, F, m⟩ := T.d_word
  exact ⟨f, fd, ok_word F T, m, F.kp, F.binds fun _ _ _ _ _ _ us hl => match us, hl with | [_], _ => rfl⟩
end
end My
set_option Elab.async false
set_option linter.all false
set_option maxRecDepth 100000
set_option maxHeartbeats 8000000
namespace My
open PySem L2 Dw
open C8 (pss_cut tCut)
section
variable {P : Program} {w : World} {K : PySem.W.Frag} {mg : Str → Option Value} {base : Heap} {cl : String → Addr}
theorem oki_BadSystem {f : Addr} {fd : FuncData} (F : Fun K "__init__" "BadSystem.__init__" s_BadSystem_init f fd) (T : Txt P w K mg cl) : FnOk P w K mg base CX0 1 f fd ["self", "index", "what"] (spIni (cl "BadSystem") ["index", "what"]) := by
  refine F.ok sc_BadSystem_init (fun vs H Q E h => ?_) (fun cdv A outer s H vs Q E hr h => ?_)
  · obtain ⟨a, us, rfl, hl, _⟩ := h
    rw [List.length_cons, hl]
    rfl
  · obtain ⟨a, us, rfl, hl, ha, h0, k⟩ := h
    match us, hl with
    | [u0, u1], _ =>
      refine ⟨_, (pss_cons (ps_expr (pe_deinit T.cr T.vi T.m_DeedError (pa_cons (pv 0) (pa_cons pe_str pa_nil))))
        (pss_cons (ps_ost (pv 0) (pv 1))
        (pss_one (ps_ost (pv 0) (pv 2))))), ?_⟩
      refine ⟨_, rfl, a, cl "BadSystem", [.str _], rfl, by decide, T.o_BadSystem, ha, ?_⟩
      refine ⟨_, rfl, _, rfl, a, cl "BadSystem", rfl, T.o_BadSystem, T.xf_BadSystem_index, .inl ⟨ha, fun dx nd ne => ?_⟩⟩
      refine ⟨_, rfl, _, rfl, a, cl "BadSystem", rfl, T.o_BadSystem, T.xf_BadSystem_what, .inr ⟨dx, _, upd_same, by rw [upd_ne ne]; exact upd_same, by show 1 ≤ 900; decide, ?_⟩⟩
      exact k dx _ nd ne (fun b o q nb => by rw [upd_ne (ne_of_none q nd), upd_ne nb, upd_ne (ne_of_none q nd)]; exact q) (by rw [upd_ne (Ne.symm ne)]; exact upd_same) upd_same
theorem ini_BadSystem (T : Txt P w K mg cl) : CalO P w K mg base 1 (cl "BadSystem") ["self", "index", "what"] (spIni (cl "BadSystem") ["index", "what"]) := by
  obtain ⟨f, fd, F, h1, h2⟩ := T.i_BadSystem
  exact ⟨T.o_BadSystem, f, fd, oki_BadSystem F T, h1, h2, F.binds fun _ _ _ _ _ _ us hl => match us, hl with | [_, _, _], _ => rfl⟩
theorem oki_BadTimes {f : Addr} {fd : FuncData} (F : Fun K "__init__" "BadTimes.__init__" s_BadTimes_init f fd) (T : Txt P w K mg cl) : FnOk P w K mg base CX0 1 f fd ["self"] (spIni (cl "BadTimes") []) := by
  refine F.ok sc_BadTimes_init (fun vs H Q E h => ?_) (fun cdv A outer s H vs Q E hr h => ?_)
  · obtain ⟨a, us, rfl, hl, _⟩ := h
    rw [List.length_cons, hl]
    rfl
  · obtain ⟨a, us, rfl, hl, ha, h0, k⟩ := h
    match us, hl with
    | [], _ =>
      refine ⟨_, (pss_one (ps_expr (pe_deinit T.cr T.vi T.m_DeedError (pa_cons (pv 0) (pa_cons pe_str pa_nil))))), ?_⟩
      refine ⟨_, rfl, a, cl "BadTimes", [.str _], rfl, by decide, T.o_BadTimes, ha, ?_⟩
      exact h0 rfl
theorem ini_BadTimes (T : Txt P w K mg cl) : CalO P w K mg base 1 (cl "BadTimes") ["self"] (spIni (cl "BadTimes") []) := by
  obtain ⟨f, fd, F, h1, h2⟩ := T.i_BadTimes
  exact ⟨T.o_BadTimes, f, fd, oki_BadTimes F T, h1, h2, F.binds fun _ _ _ _ _ _ us hl => match us, hl with | [_], _ => rfl⟩
theorem oki_OtherCount {f : Addr} {fd : FuncData} (F : Fun K "__init__" "OtherCount.__init__" s_OtherCount_init f fd) (T : Txt P w K mg cl) : FnOk P w K mg base CX0 1 f fd ["self"] (spIni (cl "OtherCount") []) := by
  refine F.ok sc_OtherCount_init (fun vs H Q E h => ?_) (fun cdv A outer s H vs Q E hr h => ?_)
  · obtain ⟨a, us, rfl, hl, _⟩ := h
    rw [List.length_cons, hl]
    rfl
  · obtain ⟨a, us, rfl, hl, ha, h0, k⟩ := h
    match us, hl with
    | [], _ =>
      refine ⟨_, (pss_one (ps_expr (pe_deinit T.cr T.vi T.m_DeedError (pa_cons (pv 0) (pa_cons pe_str pa_nil))))), ?_⟩
      refine ⟨_, rfl, a, cl "OtherCount", [.str _], rfl, by decide, T.o_OtherCount, ha, ?_⟩
      exact h0 rfl
theorem ini_OtherCount (T : Txt P w K mg cl) : CalO P w K mg base 1 (cl "OtherCount") ["self"] (spIni (cl "OtherCount") []) := by
  obtain ⟨f, fd, F, h1, h2⟩ := T.i_OtherCount
  exact ⟨T.o_OtherCount, f, fd, oki_OtherCount F T, h1, h2, F.binds fun _ _ _ _ _ _ us hl => match us, hl with | [_], _ => rfl⟩
theorem oki_NoInstant {f : Addr} {fd : FuncData} (F : Fun K "__init__" "NoInstant.__init__" s_NoInstant_init f fd) (T : Txt P w K mg cl) : FnOk P w K mg base CX0 1 f fd ["self", "instant"] (spIni (cl "NoInstant") ["instant"]) := by
  refine F.ok sc_NoInstant_init (fun vs H Q E h => ?_) (fun cdv A outer s H vs Q E hr h => ?_)
  · obtain ⟨a, us, rfl, hl, _⟩ := h
    rw [List.length_cons, hl]
    rfl
  · obtain ⟨a, us, rfl, hl, ha, h0, k⟩ := h
    match us, hl with
    | [u0], _ =>
      refine ⟨_, (pss_cons (ps_expr (pe_deinit T.cr T.vi T.m_DeedError (pa_cons (pv 0) (pa_cons pe_str pa_nil))))
        (pss_one (ps_ost (pv 0) (pv 1)))), ?_⟩
      refine ⟨_, rfl, a, cl "NoInstant", [.str _], rfl, by decide, T.o_NoInstant, ha, ?_⟩
      refine ⟨_, rfl, _, rfl, a, cl "NoInstant", rfl, T.o_NoInstant, T.xf_NoInstant_instant, .inl ⟨ha, fun dx nd ne => ?_⟩⟩
      exact k dx _ nd ne (fun b o q nb => by rw [upd_ne nb, upd_ne (ne_of_none q nd)]; exact q) upd_same (by rw [upd_ne ne]; exact upd_same)
theorem ini_NoInstant (T : Txt P w K mg cl) : CalO P w K mg base 1 (cl "NoInstant") ["self", "instant"] (spIni (cl "NoInstant") ["instant"]) := by
  obtain ⟨f, fd, F, h1, h2⟩ := T.i_NoInstant
  exact ⟨T.o_NoInstant, f, fd, oki_NoInstant F T, h1, h2, F.binds fun _ _ _ _ _ _ us hl => match us, hl with | [_, _], _ => rfl⟩
theorem oki_NoTimes {f : Addr} {fd : FuncData} (F : Fun K "__init__" "NoTimes.__init__" s_NoTimes_init f fd) (T : Txt P w K mg cl) : FnOk P w K mg base CX0 1 f fd ["self", "path"] (spIni (cl "NoTimes") ["path"]) := by
  refine F.ok sc_NoTimes_init (fun vs H Q E h => ?_) (fun cdv A outer s H vs Q E hr h => ?_)
  · obtain ⟨a, us, rfl, hl, _⟩ := h
    rw [List.length_cons, hl]
    rfl
  · obtain ⟨a, us, rfl, hl, ha, h0, k⟩ := h
    match us, hl with
    | [u0], _ =>
      refine ⟨_, (pss_cons (ps_expr (pe_deinit T.cr T.vi T.m_DeedError (pa_cons (pv 0) (pa_cons pe_str pa_nil))))
        (pss_one (ps_ost (pv 0) (pv 1)))), ?_⟩
      refine ⟨_, rfl, a, cl "NoTimes", [.str _], rfl, by decide, T.o_NoTimes, ha, ?_⟩
      refine ⟨_, rfl, _, rfl, a, cl "NoTimes", rfl, T.o_NoTimes, T.xf_NoTimes_path, .inl ⟨ha, fun dx nd ne => ?_⟩⟩
      exact k dx _ nd ne (fun b o q nb => by rw [upd_ne nb, upd_ne (ne_of_none q nd)]; exact q) upd_same (by rw [upd_ne ne]; exact upd_same)
theorem ini_NoTimes (T : Txt P w K mg cl) : CalO P w K mg base 1 (cl "NoTimes") ["self", "path"] (spIni (cl "NoTimes") ["path"]) := by
  obtain ⟨f, fd, F, h1, h2⟩ := T.i_NoTimes
  exact ⟨T.o_NoTimes, f, fd, oki_NoTimes F T, h1, h2, F.binds fun _ _ _ _ _ _ us hl => match us, hl with | [_, _], _ => rfl⟩
theorem oki_BadFormula {f : Addr} {fd : FuncData} (F : Fun K "__init__" "BadFormula.__init__" s_BadFormula_init f fd) (T : Txt P w K mg cl) : FnOk P w K mg base CX0 1 f fd ["self", "what"] (spIni (cl "BadFormula") ["what"]) := by
  refine F.ok sc_BadFormula_init (fun vs H Q E h => ?_) (fun cdv A outer s H vs Q E hr h => ?_)
  · obtain ⟨a, us, rfl, hl, _⟩ := h
    rw [List.length_cons, hl]
    rfl
  · obtain ⟨a, us, rfl, hl, ha, h0, k⟩ := h
    match us, hl with
    | [u0], _ =>
      refine ⟨_, (pss_cons (ps_expr (pe_deinit T.cr T.vi T.m_DeedError (pa_cons (pv 0) (pa_cons pe_str pa_nil))))
        (pss_one (ps_ost (pv 0) (pv 1)))), ?_⟩
      refine ⟨_, rfl, a, cl "BadFormula", [.str _], rfl, by decide, T.o_BadFormula, ha, ?_⟩
      refine ⟨_, rfl, _, rfl, a, cl "BadFormula", rfl, T.o_BadFormula, T.xf_BadFormula_what, .inl ⟨ha, fun dx nd ne => ?_⟩⟩
      exact k dx _ nd ne (fun b o q nb => by rw [upd_ne nb, upd_ne (ne_of_none q nd)]; exact q) upd_same (by rw [upd_ne ne]; exact upd_same)
theorem ini_BadFormula (T : Txt P w K mg cl) : CalO P w K mg base 1 (cl "BadFormula") ["self", "what"] (spIni (cl "BadFormula") ["what"]) := by
  obtain ⟨f, fd, F, h1, h2⟩ := T.i_BadFormula
  exact ⟨T.o_BadFormula, f, fd, oki_BadFormula F T, h1, h2, F.binds fun _ _ _ _ _ _ us hl => match us, hl with | [_, _], _ => rfl⟩
theorem oki_BadText {f : Addr} {fd : FuncData} (F : Fun K "__init__" "BadText.__init__" s_BadText_init f fd) (T : Txt P w K mg cl) : FnOk P w K mg base CX0 1 f fd ["self", "row", "what"] (spIni (cl "BadText") ["row", "what"]) := by
  refine F.ok sc_BadText_init (fun vs H Q E h => ?_) (fun cdv A outer s H vs Q E hr h => ?_)
  · obtain ⟨a, us, rfl, hl, _⟩ := h
    rw [List.length_cons, hl]
    rfl
  · obtain ⟨a, us, rfl, hl, ha, h0, k⟩ := h
    match us, hl with
    | [u0, u1], _ =>
      refine ⟨_, (pss_cons (ps_expr (pe_deinit T.cr T.vi T.m_DeedError (pa_cons (pv 0) (pa_cons pe_str pa_nil))))
        (pss_cons (ps_ost (pv 0) (pv 1))
        (pss_one (ps_ost (pv 0) (pv 2))))), ?_⟩
      refine ⟨_, rfl, a, cl "BadText", [.str _], rfl, by decide, T.o_BadText, ha, ?_⟩
      refine ⟨_, rfl, _, rfl, a, cl "BadText", rfl, T.o_BadText, T.xf_BadText_row, .inl ⟨ha, fun dx nd ne => ?_⟩⟩
      refine ⟨_, rfl, _, rfl, a, cl "BadText", rfl, T.o_BadText, T.xf_BadText_what, .inr ⟨dx, _, upd_same, by rw [upd_ne ne]; exact upd_same, by show 1 ≤ 900; decide, ?_⟩⟩
      exact k dx _ nd ne (fun b o q nb => by rw [upd_ne (ne_of_none q nd), upd_ne nb, upd_ne (ne_of_none q nd)]; exact q) (by rw [upd_ne (Ne.symm ne)]; exact upd_same) upd_same
theorem ini_BadText (T : Txt P w K mg cl) : CalO P w K mg base 1 (cl "BadText") ["self", "row", "what"] (spIni (cl "BadText") ["row", "what"]) := by
  obtain ⟨f, fd, F, h1, h2⟩ := T.i_BadText
  exact ⟨T.o_BadText, f, fd, oki_BadText F T, h1, h2, F.binds fun _ _ _ _ _ _ us hl => match us, hl with | [_, _, _], _ => rfl⟩
theorem oki_NotAClass {f : Addr} {fd : FuncData} (F : Fun K "__init__" "NotAClass.__init__" s_NotAClass_init f fd) (T : Txt P w K mg cl) : FnOk P w K mg base CX0 1 f fd ["self", "name"] (spIni (cl "NotAClass") ["name"]) := by
  refine F.ok sc_NotAClass_init (fun vs H Q E h => ?_) (fun cdv A outer s H vs Q E hr h => ?_)
  · obtain ⟨a, us, rfl, hl, _⟩ := h
    rw [List.length_cons, hl]
    rfl
  · obtain ⟨a, us, rfl, hl, ha, h0, k⟩ := h
    match us, hl with
    | [u0], _ =>
      refine ⟨_, (pss_one (ps_ost (pv 0) (pv 1))), ?_⟩
      refine ⟨_, rfl, _, rfl, a, cl "NotAClass", rfl, T.o_NotAClass, T.xf_NotAClass_name, .inl ⟨ha, fun dx nd ne => ?_⟩⟩
      exact k dx _ nd ne (fun b o q nb => by rw [upd_ne nb, upd_ne (ne_of_none q nd)]; exact q) upd_same (by rw [upd_ne ne]; exact upd_same)
theorem ini_NotAClass (T : Txt P w K mg cl) : CalO P w K mg base 1 (cl "NotAClass") ["self", "name"] (spIni (cl "NotAClass") ["name"]) := by
  obtain ⟨f, fd, F, h1, h2⟩ := T.i_NotAClass
  exact ⟨T.o_NotAClass, f, fd, oki_NotAClass F T, h1, h2, F.binds fun _ _ _ _ _ _ us hl => match us, hl with | [_, _], _ => rfl⟩
theorem oki_BadCause {f : Addr} {fd : FuncData} (F : Fun K "__init__" "BadCause.__init__" s_BadCause_init f fd) (T : Txt P w K mg cl) : FnOk P w K mg base CX0 1 f fd ["self", "cause"] (spIni (cl "BadCause") ["cause"]) := by
  refine F.ok sc_BadCause_init (fun vs H Q E h => ?_) (fun cdv A outer s H vs Q E hr h => ?_)
  · obtain ⟨a, us, rfl, hl, _⟩ := h
    rw [List.length_cons, hl]
    rfl
  · obtain ⟨a, us, rfl, hl, ha, h0, k⟩ := h
    match us, hl with
    | [u0], _ =>
      refine ⟨_, (pss_one (ps_ost (pv 0) (pv 1))), ?_⟩
      refine ⟨_, rfl, _, rfl, a, cl "BadCause", rfl, T.o_BadCause, T.xf_BadCause_cause, .inl ⟨ha, fun dx nd ne => ?_⟩⟩
      exact k dx _ nd ne (fun b o q nb => by rw [upd_ne nb, upd_ne (ne_of_none q nd)]; exact q) upd_same (by rw [upd_ne ne]; exact upd_same)
theorem ini_BadCause (T : Txt P w K mg cl) : CalO P w K mg base 1 (cl "BadCause") ["self", "cause"] (spIni (cl "BadCause") ["cause"]) := by
  obtain ⟨f, fd, F, h1, h2⟩ := T.i_BadCause
  exact ⟨T.o_BadCause, f, fd, oki_BadCause F T, h1, h2, F.binds fun _ _ _ _ _ _ us hl => match us, hl with | [_, _], _ => rfl⟩
theorem oki_BadCustom {f : Addr} {fd : FuncData} (F : Fun K "__init__" "BadCustom.__init__" s_BadCustom_init f fd) (T : Txt P w K mg cl) : FnOk P w K mg base CX0 1 f fd ["self", "custom"] (spIni (cl "BadCustom") ["custom"]) := by
  refine F.ok sc_BadCustom_init (fun vs H Q E h => ?_) (fun cdv A outer s H vs Q E hr h => ?_)
  · obtain ⟨a, us, rfl, hl, _⟩ := h
    rw [List.length_cons, hl]
    rfl
  · obtain ⟨a, us, rfl, hl, ha, h0, k⟩ := h
    match us, hl with
    | [u0], _ =>
      refine ⟨_, (pss_one (ps_ost (pv 0) (pv 1))), ?_⟩
      refine ⟨_, rfl, _, rfl, a, cl "BadCustom", rfl, T.o_BadCustom, T.xf_BadCustom_custom, .inl ⟨ha, fun dx nd ne => ?_⟩⟩
      exact k dx _ nd ne (fun b o q nb => by rw [upd_ne nb, upd_ne (ne_of_none q nd)]; exact q) upd_same (by rw [upd_ne ne]; exact upd_same)
theorem ini_BadCustom (T : Txt P w K mg cl) : CalO P w K mg base 1 (cl "BadCustom") ["self", "custom"] (spIni (cl "BadCustom") ["custom"]) := by
  obtain ⟨f, fd, F, h1, h2⟩ := T.i_BadCustom
  exact ⟨T.o_BadCustom, f, fd, oki_BadCustom F T, h1, h2, F.binds fun _ _ _ _ _ _ us hl => match us, hl with | [_, _], _ => rfl⟩
theorem oki_BadLater {f : Addr} {fd : FuncData} (F : Fun K "__init__" "BadLater.__init__" s_BadLater_init f fd) (T : Txt P w K mg cl) : FnOk P w K mg base CX0 1 f fd ["self", "later"] (spIni (cl "BadLater") ["later"]) := by
  refine F.ok sc_BadLater_init (fun vs H Q E h => ?_) (fun cdv A outer s H vs Q E hr h => ?_)
  · obtain ⟨a, us, rfl, hl, _⟩ := h
    rw [List.length_cons, hl]
    rfl
  · obtain ⟨a, us, rfl, hl, ha, h0, k⟩ := h
    match us, hl with
    | [u0], _ =>
      refine ⟨_, (pss_one (ps_ost (pv 0) (pv 1))), ?_⟩
      refine ⟨_, rfl, _, rfl, a, cl "BadLater", rfl, T.o_BadLater, T.xf_BadLater_later, .inl ⟨ha, fun dx nd ne => ?_⟩⟩
      exact k dx _ nd ne (fun b o q nb => by rw [upd_ne nb, upd_ne (ne_of_none q nd)]; exact q) upd_same (by rw [upd_ne ne]; exact upd_same)
theorem ini_BadLater (T : Txt P w K mg cl) : CalO P w K mg base 1 (cl "BadLater") ["self", "later"] (spIni (cl "BadLater") ["later"]) := by
  obtain ⟨f, fd, F, h1, h2⟩ := T.i_BadLater
  exact ⟨T.o_BadLater, f, fd, oki_BadLater F T, h1, h2, F.binds fun _ _ _ _ _ _ us hl => match us, hl with | [_, _], _ => rfl⟩
theorem oki_NotMember {f : Addr} {fd : FuncData} (F : Fun K "__init__" "NotMember.__init__" s_NotMember_init f fd) (T : Txt P w K mg cl) : FnOk P w K mg base CX0 1 f fd ["self", "name"] (spIni (cl "NotMember") ["name"]) := by
  refine F.ok sc_NotMember_init (fun vs H Q E h => ?_) (fun cdv A outer s H vs Q E hr h => ?_)
  · obtain ⟨a, us, rfl, hl, _⟩ := h
    rw [List.length_cons, hl]
    rfl
  · obtain ⟨a, us, rfl, hl, ha, h0, k⟩ := h
    match us, hl with
    | [u0], _ =>
      refine ⟨_, (pss_one (ps_ost (pv 0) (pv 1))), ?_⟩
      refine ⟨_, rfl, _, rfl, a, cl "NotMember", rfl, T.o_NotMember, T.xf_NotMember_name, .inl ⟨ha, fun dx nd ne => ?_⟩⟩
      exact k dx _ nd ne (fun b o q nb => by rw [upd_ne nb, upd_ne (ne_of_none q nd)]; exact q) upd_same (by rw [upd_ne ne]; exact upd_same)
theorem ini_NotMember (T : Txt P w K mg cl) : CalO P w K mg base 1 (cl "NotMember") ["self", "name"] (spIni (cl "NotMember") ["name"]) := by
  obtain ⟨f, fd, F, h1, h2⟩ := T.i_NotMember
  exact ⟨T.o_NotMember, f, fd, oki_NotMember F T, h1, h2, F.binds fun _ _ _ _ _ _ us hl => match us, hl with | [_, _], _ => rfl⟩
theorem oki_NoRoom {f : Addr} {fd : FuncData} (F : Fun K "__init__" "NoRoom.__init__" s_NoRoom_init f fd) (T : Txt P w K mg cl) : FnOk P w K mg base CX0 1 f fd ["self", "name"] (spIni (cl "NoRoom") ["name"]) := by
  refine F.ok sc_NoRoom_init (fun vs H Q E h => ?_) (fun cdv A outer s H vs Q E hr h => ?_)
  · obtain ⟨a, us, rfl, hl, _⟩ := h
    rw [List.length_cons, hl]
    rfl
  · obtain ⟨a, us, rfl, hl, ha, h0, k⟩ := h
    match us, hl with
    | [u0], _ =>
      refine ⟨_, (pss_one (ps_ost (pv 0) (pv 1))), ?_⟩
      refine ⟨_, rfl, _, rfl, a, cl "NoRoom", rfl, T.o_NoRoom, T.xf_NoRoom_name, .inl ⟨ha, fun dx nd ne => ?_⟩⟩
      exact k dx _ nd ne (fun b o q nb => by rw [upd_ne nb, upd_ne (ne_of_none q nd)]; exact q) upd_same (by rw [upd_ne ne]; exact upd_same)
theorem ini_NoRoom (T : Txt P w K mg cl) : CalO P w K mg base 1 (cl "NoRoom") ["self", "name"] (spIni (cl "NoRoom") ["name"]) := by
  obtain ⟨f, fd, F, h1, h2⟩ := T.i_NoRoom
  exact ⟨T.o_NoRoom, f, fd, oki_NoRoom F T, h1, h2, F.binds fun _ _ _ _ _ _ us hl => match us, hl with | [_, _], _ => rfl⟩
end
end My
set_option Elab.async false
set_option linter.all false
set_option maxRecDepth 100000
set_option maxHeartbeats 8000000
namespace My
open PySem L2 Dw
open C8 (pss_cut tCut)
theorem lookup_rev : ∀ {fs : List Str} {vs : List V}, fs.Nodup → ∀ f v, (fs.zip vs).lookup f = some v → (fs.zip vs).reverse.lookup f = some v := fun {fs vs} hd f v h => by
  induction fs generalizing vs with
  | nil => simp at h
  | cons g fs ih =>
    cases vs with
    | nil => simp at h
    | cons u vs =>
      obtain ⟨hg, hd⟩ := List.nodup_cons.mp hd
      rw [List.zip_cons_cons, List.reverse_cons, List.lookup_append]
      by_cases q : f = g
      · subst q
        have e : (fs.zip vs).reverse.lookup f = none := by
          rw [List.lookup_eq_none_iff]
          intro p hp
          have : p.1 ∈ fs := (List.of_mem_zip (List.mem_reverse.mp hp)).1
          simp only [bne_iff_ne, beq_eq_false_iff_ne, ne_eq, Bool.not_eq_true, bne]
          simpa using fun z => hg (by rw [z]; exact this)
        rw [e]
        simpa [List.lookup] using h
      · have q2 : (f == g) = false := by simpa using q
        simp only [List.zip_cons_cons, List.lookup, q2] at h
        rw [ih hd h]
        rfl
section
variable {K : PySem.W.Frag} {cl : String → Addr} {σ : St} {H : Hp}
/-- an error with data in its fields -/
def ErD (K : PySem.W.Frag) (H : Hp) (e C : Addr) (gd : List (Str × PyData)) : Prop := ErV H e C ∧ ∀ f D, gd.lookup f = some D → ∃ (d : Addr) (fs : List (Str × V)) (v : V), H e = some (exo e C (some d)) ∧ H d = some (exd d fs) ∧ fs.lookup f = some v ∧ Dp K H v D
theorem erdS {H' : Hp} {e C : Addr} {gd : List (Str × PyData)} (S : Same H H') (x : ErD K H e C gd) : ErD K H' e C gd := by
  refine ⟨x.1.same S, fun f D l => ?_⟩
  obtain ⟨d, fs, v, h1, h2, h3, h4⟩ := x.2 f D l
  exact ⟨d, fs, v, S _ _ h1, S _ _ h2, h3, dpS S h4⟩
/-- te gives, in every later heap, a datum; data; an error; one entry; entries; a list of entries -/
def UD (K : PySem.W.Frag) (te : TE) (σ : St) (H : Hp) (D : PyData) : Prop := ∀ H1, Same H H1 → ∀ Q : VK, (∀ v H2, Same H1 H2 → Dp K H2 v D → Q v H2) → te σ H1 Q
def UA (K : PySem.W.Frag) (ta : TA) (σ : St) (H : Hp) (Ds : List PyData) : Prop := ∀ H1, Same H H1 → ∀ Q : List V → Hp → Prop, (∀ vs H2, Same H1 H2 → DpAll K H2 vs Ds → vs.length = Ds.length → Q vs H2) → ta σ H1 Q
def UE (K : PySem.W.Frag) (te : TE) (σ : St) (H : Hp) (C : Addr) (gd : List (Str × PyData)) : Prop := ∀ H1, Same H H1 → ∀ Q : VK, (∀ e H2, Same H1 H2 → ErD K H2 e C gd → Q (.ref e) H2) → te σ H1 Q
def UT (K : PySem.W.Frag) (te : TE) (σ : St) (H : Hp) (C : Addr) : Prop := ∀ H1, Same H H1 → ∀ Q : VK, (∀ v H2, Same H1 H2 → Trip K H2 v C → Q v H2) → te σ H1 Q
def UTs (K : PySem.W.Frag) (cl : String → Addr) (ta : TA) (σ : St) (H : Hp) (cs : List String) : Prop := ∀ H1, Same H H1 → ∀ Q : List V → Hp → Prop, (∀ vs H2, Same H1 H2 → Trips K H2 cl vs cs → Q vs H2) → ta σ H1 Q
def UL (K : PySem.W.Frag) (cl : String → Addr) (te : TE) (σ : St) (H : Hp) (cs : List String) : Prop := ∀ H1, Same H H1 → ∀ Q : VK, (∀ l us H2, Same H1 H2 → H2 l = some (.lst us) → Trips K H2 cl us cs → Q (.ref l) H2) → te σ H1 Q
theorem ud_var {i : Nat} {v : V} {D : PyData} (h : σ[i]? = some (some v)) (d : Dp K H v D) : UD K (tVar i) σ H D := fun H1 S Q k => ⟨v, h, k v H1 (Same.refl _) (dpS S d)⟩
theorem ud_int (n : Int) : UD K (tC (.int n)) σ H (.int n) := fun H1 S Q k => k _ H1 (Same.refl _) (.int n)
theorem ud_str (x : Str) : UD K (tC (.str x)) σ H (.str x) := fun H1 S Q k => k _ H1 (Same.refl _) (.str x)
theorem ud_neg {te : TE} {n : Int} (h : UD K te σ H (.int n)) : UD K (tUn (rU fun i => .int (-i)) te) σ H (.int (-n)) := fun H1 S Q k => h H1 S _ fun v H2 S2 d => by
  cases d
  exact ⟨n, rfl, k _ H2 S2 (.int (-n))⟩
theorem ua_nil : UA K tNil σ H [] := fun H1 S Q k => k [] H1 (Same.refl _) .nil rfl
theorem ua_cons {te : TE} {ta : TA} {D : PyData} {Ds : List PyData} (h : UD K te σ H D) (g : UA K ta σ H Ds) : UA K (tCons te ta) σ H (D :: Ds) := fun H1 S Q k => h H1 S _ fun v H2 S2 d => g H2 (S.trans S2) _ fun vs H3 S3 ds hl => k (v :: vs) H3 (S2.trans S3) (.cons (dpS S3 d) ds) (by simp [hl])
theorem ud_tup {ta : TA} {Ds : List PyData} (h : UA K ta σ H Ds) (hl : Ds.length ≤ sizeLine) : UD K (tTup ta) σ H (.tuple Ds) := fun H1 S Q k => h H1 S _ fun vs H2 S2 ds hl2 => ⟨by rw [hl2]; exact hl, fun p hp => k _ _ (S2.trans (sNew hp)) (.tup (SqT.of upd_same) (dpSA (sNew hp) ds))⟩
theorem ud_lst {ta : TA} {Ds : List PyData} (h : UA K ta σ H Ds) (hl : Ds.length ≤ sizeLine) : UD K (tLst ta) σ H (.list Ds) := fun H1 S Q k => h H1 S _ fun vs H2 S2 ds hl2 => ⟨by rw [hl2]; exact hl, fun p hp => k _ _ (S2.trans (sNew hp)) (.lst (SqL.of upd_same) (dpSA (sNew hp) ds))⟩
theorem ud_fld {i : Nat} {f : Str} {e C : Addr} {gd : List (Str × PyData)} {D : PyData} (h : σ[i]? = some (some (.ref e))) (x : ErD K H e C gd) (T : XfC K C) (hno : PySem.W.findIn K (.ref C) f = some none) (l : gd.lookup f = some D) : UD K (tFldE K f (tVar i)) σ H D := fun H1 S Q k => by
  obtain ⟨d, fs, v, h1, h2, h3, h4⟩ := x.2 f D l
  exact ⟨_, h, e, C, d, fs, v, rfl, S _ _ h1, S _ _ h2, T, hno, h3, k v H1 (Same.refl _) (dpS S h4)⟩
/-- the fields of a new error -/
theorem erd_of {e C : Addr} {fs : List Str} {vs : List V} {Ds : List PyData} (hl : vs.length = fs.length) (x : ErF H e C (fs.zip vs)) (ds : DpAll K H vs Ds) (key : ∀ (f : Str) (D : PyData), (fs.zip Ds).lookup f = some D → ∃ v, (fs.zip vs).lookup f = some v ∧ Dp K H v D) : ErD K H e C (fs.zip Ds) := by
  refine ⟨x.v, fun f D l => ?_⟩
  obtain ⟨d, gs, h1, h2, h3⟩ := x
  obtain ⟨v, h4, h5⟩ := key f D l
  exact ⟨d, gs, v, h1, h2, h3 f v h4, h5⟩
theorem zip_key : ∀ {fs : List Str} {vs : List V} {Ds : List PyData}, DpAll K H vs Ds → ∀ (f : Str) (D : PyData), (fs.zip Ds).lookup f = some D → ∃ v, (fs.zip vs).lookup f = some v ∧ Dp K H v D
  | [], _, _, _, f, D, l => by simp at l
  | _ :: _, _, _, .nil, f, D, l => by simp at l
  | g :: fs, v :: vs, E :: Ds, .cons h r, f, D, l => by
    by_cases q : f = g
    · subst q
      simp [List.lookup] at l
      subst l
      exact ⟨v, by simp [List.lookup], h⟩
    · have q2 : (f == g) = false := by simpa using q
      simp only [List.zip_cons_cons, List.lookup, q2] at l ⊢
      exact zip_key r f D l
theorem ue_sup {C : Addr} {fs : List Str} {okV : List V → Prop} {ta : TA} {Ds : List PyData} (h : UA K ta σ H Ds) (hl : Ds.length = fs.length) (hok : ∀ vs H', DpAll K H' vs Ds → okV vs) : UE K (tErV C fs okV ta) σ H C (fs.zip Ds) := fun H1 S Q k => h H1 S _ fun vs H2 S2 ds hl2 => by
  refine ⟨hl2.trans hl, hok vs H2 ds, fun a d na nd ne => ?_⟩
  have S3 : Same H2 (upd (upd H2 d (exd d (fs.zip vs))) a (exo a C (some d))) := (sNew nd).trans (sNew (by rw [upd_ne (Ne.symm ne)]; exact na))
  have ds3 := dpSA S3 ds
  exact k a _ (S2.trans S3) (erd_of (hl2.trans hl) ⟨d, fs.zip vs, upd_same, by rw [upd_ne ne]; exact upd_same, fun _ _ z => z⟩ ds3 (zip_key ds3))
theorem ue_oe {C : Addr} {fs : List Str} {ta : TA} {Ds : List PyData} (h : UA K ta σ H Ds) (hl : Ds.length = fs.length) (hz : fs.length ≤ 1000) (hn : fs ≠ []) (hd : fs.Nodup) : UE K (tOeV C (spIni C fs) [] ta) σ H C (fs.zip Ds) := fun H1 S Q k => h H1 S _ fun vs H2 S2 ds hl2 => by
  refine oeV_ok (Q := fun a => Q (.ref a)) (hl2.trans hl) (by omega) hn (lookup_rev hd) fun a H' S3 E => ?_
  have ds3 := dpSA S3 ds
  exact k a H' (S2.trans S3) (erd_of (hl2.trans hl) E ds3 (zip_key ds3))
theorem ue_oe0 {C : Addr} : UE K (tOeV C (spIni C []) [] tNil) σ H C [] := fun H1 S Q k => oeV0_ok (Q := fun a => Q (.ref a)) fun a H' S3 E => k a H' S3 ⟨E, fun f D l => by cases l⟩
theorem ue_ex0 {C : Addr} : UE K (fun σ H Q => ∀ a, H a = none → Q (.ref a) (upd H a (exo a C none))) σ H C [] := fun H1 S Q k => exV0_ok (Q := fun a => Q (.ref a)) fun a H' S3 E => k a H' S3 ⟨E, fun f D l => by cases l⟩
theorem ut_tup {i : Nat} {tl tr : TE} {e C : Addr} {D : PyData} (h : σ[i]? = some (some (.ref e))) (x : ErV H e C) (hl : UD K tl σ H D) (hr : UD K tr σ H D) (hs : SeqAt.shaped D = true) : UT K (tTup (tCons (tVar i) (tCons tl (tCons tr tNil)))) σ H C := fun H1 S Q k =>
  ⟨_, h, hl H1 S _ fun a H2 S2 d2 => hr H2 (S.trans S2) _ fun b H3 S3 d3 => ⟨by show 3 ≤ sizeLine; decide, fun t ht => k _ _ ((S2.trans S3).trans (sNew ht)) ⟨t, e, a, b, D, rfl, upd_same, x.same (S.trans ((S2.trans S3).trans (sNew ht))), dpS (S3.trans (sNew ht)) d2, dpS (sNew ht) d3, hs⟩⟩⟩
theorem ut_mk {te tl tr : TE} {C : Addr} {gd : List (Str × PyData)} {D : PyData} (x : UE K te σ H C gd) (hl : UD K tl σ H D) (hr : UD K tr σ H D) (hs : SeqAt.shaped D = true) : UT K (tTup (tCons te (tCons tl (tCons tr tNil)))) σ H C := fun H1 S Q k =>
  x H1 S _ fun e H0 S0 x => hl H0 (S.trans S0) _ fun a H2 S2 d2 => hr H2 ((S.trans S0).trans S2) _ fun b H3 S3 d3 => ⟨by show 3 ≤ sizeLine; decide, fun t ht => k _ _ (((S0.trans S2).trans S3).trans (sNew ht)) ⟨t, e, a, b, D, rfl, upd_same, x.1.same ((S2.trans S3).trans (sNew ht)), dpS (S3.trans (sNew ht)) d2, dpS (sNew ht) d3, hs⟩⟩
theorem uts_nil : UTs K cl tNil σ H [] := fun H1 S Q k => k [] H1 (Same.refl _) trivial
theorem uts_cons {te : TE} {ta : TA} {c : String} {cs : List String} (h : UT K te σ H (cl c)) (g : UTs K cl ta σ H cs) : UTs K cl (tCons te ta) σ H (c :: cs) := fun H1 S Q k => h H1 S _ fun v H2 S2 d => g H2 (S.trans S2) _ fun vs H3 S3 ds => k (v :: vs) H3 (S2.trans S3) ⟨tripS S3 d, ds⟩
theorem ul_lst {ta : TA} {cs : List String} (h : UTs K cl ta σ H cs) (hl : cs.length ≤ sizeLine) : UL K cl (tLst ta) σ H cs := fun H1 S Q k => h H1 S _ fun vs H2 S2 ds => ⟨by rw [trips_len ds]; exact hl, fun p hp => k p vs _ (S2.trans (sNew hp)) upd_same (tripsS (sNew hp) ds)⟩
theorem ul_cat {i : Nat} {te : TE} {l : Addr} {us : List V} {cs ds : List String} (h : σ[i]? = some (some (.ref l))) (hl : H l = some (.lst us)) (ht : Trips K H cl us cs) (g : UL K cl te σ H ds) (hz : cs.length + ds.length ≤ sizeLine) : UL K cl (tOp rCat (tVar i) te) σ H (cs ++ ds) := fun H1 S Q k =>
  ⟨_, h, g H1 S _ fun m ws H2 S2 hm hw => ⟨l, m, us, ws, rfl, rfl, S2 _ _ (S _ _ hl), hm, by rw [trips_len ht, trips_len hw]; exact hz, fun p hp => k p _ _ (S2.trans (sNew hp)) upd_same (trips_app (tripsS ((S.trans S2).trans (sNew hp)) ht) (tripsS (sNew hp) hw))⟩⟩
/-! statements -/
theorem seq_l {te : TE} {i : Nat} {u : TS} {D : Ends} {cs : List String} (τ : Addr → St) (hs : ∀ l, σ.set i (some (.ref l)) = τ l) (h : UL K cl te σ H cs) (k : ∀ l us H2, Same H H2 → H2 l = some (.lst us) → Trips K H2 cl us cs → u D (τ l) H2) : tSeq (tAsg te (gName i)) u D σ H := h H (Same.refl _) _ fun l us H2 S hl ht => (show u D (σ.set i (some (.ref l))) H2 by rw [hs]; exact k l us H2 S hl ht)
theorem seq_4 {t1 t2 t3 t4 : TE} {i1 i2 i3 i4 : Nat} {u : TS} {D : Ends} {C1 C2 C3 C4 : Addr} {g1 g2 g3 g4 : List (Str × PyData)} (τ : Addr → Addr → Addr → Addr → St) (hs : ∀ a b c d, (((σ.set i1 (some (.ref a))).set i2 (some (.ref b))).set i3 (some (.ref c))).set i4 (some (.ref d)) = τ a b c d) (h1 : UE K t1 σ H C1 g1) (h2 : UE K t2 σ H C2 g2) (h3 : UE K t3 σ H C3 g3) (h4 : UE K t4 σ H C4 g4)
    (k : ∀ a b c d H2, Same H H2 → ErD K H2 a C1 g1 → ErD K H2 b C2 g2 → ErD K H2 c C3 g3 → ErD K H2 d C4 g4 → u D (τ a b c d) H2) :
    tSeq (tAsg (tTup (tCons t1 (tCons t2 (tCons t3 (tCons t4 tNil))))) (gTup K 4 (gCons (gName i1) (gCons (gName i2) (gCons (gName i3) (gCons (gName i4) gNil)))))) u D σ H :=
  h1 H (Same.refl _) _ fun a H1 S1 E1 => h2 H1 S1 _ fun b H2 S2 E2 => h3 H2 (S1.trans S2) _ fun c H3 S3 E3 => h4 H3 ((S1.trans S2).trans S3) _ fun d H4 S4 E4 => ⟨by show 4 ≤ sizeLine; decide, fun t ht =>
    ⟨t, _, rfl, SqT.of upd_same, rfl, _, _, rfl, _, _, rfl, _, _, rfl, _, _, rfl, rfl, (show u D ((((σ.set i1 (some (.ref a))).set i2 (some (.ref b))).set i3 (some (.ref c))).set i4 (some (.ref d))) _ by rw [hs]; exact k a b c d _ ((((S1.trans S2).trans S3).trans S4).trans (sNew ht)) (erdS (((S2.trans S3).trans S4).trans (sNew ht)) E1) (erdS ((S3.trans S4).trans (sNew ht)) E2) (erdS (S4.trans (sNew ht)) E3) (erdS (sNew ht) E4))⟩⟩
theorem seq_3 {t1 t2 t3 : TE} {i1 i2 i3 : Nat} {u : TS} {D : Ends} {C1 C2 C3 : Addr} {g1 g2 g3 : List (Str × PyData)} (τ : Addr → Addr → Addr → St) (hs : ∀ a b c, ((σ.set i1 (some (.ref a))).set i2 (some (.ref b))).set i3 (some (.ref c)) = τ a b c) (h1 : UE K t1 σ H C1 g1) (h2 : UE K t2 σ H C2 g2) (h3 : UE K t3 σ H C3 g3)
    (k : ∀ a b c H2, Same H H2 → ErD K H2 a C1 g1 → ErD K H2 b C2 g2 → ErD K H2 c C3 g3 → u D (τ a b c) H2) :
    tSeq (tPar3 i1 i2 i3 (tCons t1 (tCons t2 (tCons t3 tNil)))) u D σ H :=
  h1 H (Same.refl _) _ fun a H1 S1 E1 => h2 H1 S1 _ fun b H2 S2 E2 => h3 H2 (S1.trans S2) _ fun c H3 S3 E3 => ⟨_, _, _, rfl, (show u D (((σ.set i1 (some (.ref a))).set i2 (some (.ref b))).set i3 (some (.ref c))) H3 by rw [hs]; exact k a b c H3 ((S1.trans S2).trans S3) (erdS (S2.trans S3) E1) (erdS S3 E2) E3)⟩
theorem ret_l {te : TE} {D : Ends} {cs : List String} (h : UL K cl te σ H cs) (k : ∀ l us H2, Same H H2 → H2 l = some (.lst us) → Trips K H2 cl us cs → D.rt (.ref l) H2) : tRet te D σ H := h H (Same.refl _) _ fun l us H2 S hl ht => k l us H2 S hl ht
theorem okv_csn {n : Int} {r : List PyData} (h : n.natAbs.log2 < 1920) : ∀ vs H', DpAll K H' vs (.int n :: r) → okVI vs := fun vs H' ds => by
  cases ds with
  | cons d _ =>
    cases d
    exact ⟨n, _, rfl, h⟩
end
end My
set_option Elab.async false
set_option linter.all false
set_option maxRecDepth 100000
set_option maxHeartbeats 8000000
namespace My
open PySem L2 Dw
open C8 (pss_cut tCut)
section
variable {P : Program} {w : World} {K : PySem.W.Frag} {mg : Str → Option Value} {base : Heap} {cl : String → Addr}
def cs_first : List String := ["BadCustoms", "BadLives", "BadRecord", "NoRow", "NoLife", "NoPerson", "OtherLives", "BadKin", "BadDate", "BadTaker", "BadCondition", "BadGift", "BadDeed", "NoGift"]
theorem ok_first {f : Addr} {fd : FuncData} (F : Fun K "_law_first" "_law_first" s_first f fd) (T : Txt P w K mg cl) : FnOk P w K mg base CX0 3 f fd ["_law_at", "_law_word_here", "_law_name"] (spMk K cl cs_first) := by
  refine F.ok sc_first (fun vs H Q E h => ?_) (fun cdv A outer s H vs Q E hr h => ?_)
  · obtain ⟨n, x, y, rfl, _⟩ := h
    rfl
  · obtain ⟨n, x, y, rfl, hn, hx, hy, k⟩ := h
    refine ⟨_, (pss_cons (ps_asg (pe_tup (pa_cons (pe_erV (k := 1) (okV := fun _ => True) T.e_BadCustoms (fun _ _ _ _ => trivial) T.m_BadCustoms (hr.mono (by decide)) (pa_cons (pv 1) pa_nil)) (pa_cons (pe_erV (k := 1) (okV := okVI) T.e_BadLives okVI_ok T.m_BadLives (hr.mono (by decide)) (pa_cons (pv 0) (pa_cons (pv 1) pa_nil))) (pa_cons (pe_erV (k := 1) (okV := okVI) T.e_BadRecord okVI_ok T.m_BadRecord (hr.mono (by decide)) (pa_cons (pv 0) (pa_cons (pv 1) pa_nil))) (pa_cons (pe_erV (k := 1) (okV := fun _ => True) T.e_NoLife (fun _ _ _ _ => trivial) T.m_NoLife (hr.mono (by decide)) (pa_cons (pv 2) pa_nil)) pa_nil))))) (pg_tup rfl (pgs_cons (pg_name (i := 3) sc_first.nd rfl (Or.inl rfl)) (pgs_cons (pg_name (i := 4) sc_first.nd rfl (Or.inl rfl)) (pgs_cons (pg_name (i := 5) sc_first.nd rfl (Or.inl rfl)) (pgs_cons (pg_name (i := 6) sc_first.nd rfl (Or.inl rfl)) pgs_nil))))))
        (pss_cons (ps_asg (pe_tup (pa_cons (pe_erV (k := 1) (okV := fun _ => True) T.e_NoPerson (fun _ _ _ _ => trivial) T.m_NoPerson (hr.mono (by decide)) (pa_cons (pv 2) pa_nil)) (pa_cons (pe_erV (k := 1) (okV := fun _ => True) T.e_BadKin (fun _ _ _ _ => trivial) T.m_BadKin (hr.mono (by decide)) (pa_cons (pv 1) pa_nil)) (pa_cons (pe_erV (k := 1) (okV := fun _ => True) T.e_BadDate (fun _ _ _ _ => trivial) T.m_BadDate (hr.mono (by decide)) (pa_cons (pv 1) pa_nil)) (pa_cons (pe_erV (k := 1) (okV := fun _ => True) T.e_BadTaker (fun _ _ _ _ => trivial) T.m_BadTaker (hr.mono (by decide)) (pa_cons (pv 1) pa_nil)) pa_nil))))) (pg_tup rfl (pgs_cons (pg_name (i := 7) sc_first.nd rfl (Or.inl rfl)) (pgs_cons (pg_name (i := 8) sc_first.nd rfl (Or.inl rfl)) (pgs_cons (pg_name (i := 9) sc_first.nd rfl (Or.inl rfl)) (pgs_cons (pg_name (i := 10) sc_first.nd rfl (Or.inl rfl)) pgs_nil))))))
        (pss_cons (ps_asg (pe_tup (pa_cons (pe_erV (k := 1) (okV := fun _ => True) T.e_BadCondition (fun _ _ _ _ => trivial) T.m_BadCondition (hr.mono (by decide)) (pa_cons (pv 1) pa_nil)) (pa_cons (pe_erV (k := 1) (okV := fun _ => True) T.e_BadGift (fun _ _ _ _ => trivial) T.m_BadGift (hr.mono (by decide)) (pa_cons (pv 1) pa_nil)) (pa_cons (pe_erV (k := 1) (okV := okVI) T.e_BadDeed okVI_ok T.m_BadDeed (hr.mono (by decide)) (pa_cons (pv 0) (pa_cons (pv 1) pa_nil))) (pa_cons (pe_erV (k := 1) (okV := fun _ => True) T.e_NoGift (fun _ _ _ _ => trivial) T.m_NoGift (hr.mono (by decide)) (pa_cons (pv 2) pa_nil)) pa_nil))))) (pg_tup rfl (pgs_cons (pg_name (i := 11) sc_first.nd rfl (Or.inl rfl)) (pgs_cons (pg_name (i := 12) sc_first.nd rfl (Or.inl rfl)) (pgs_cons (pg_name (i := 13) sc_first.nd rfl (Or.inl rfl)) (pgs_cons (pg_name (i := 14) sc_first.nd rfl (Or.inl rfl)) pgs_nil))))))
        (pss_cons (ps_set (i := 15) sc_first.nd rfl (Or.inl rfl) (pe_lst (pa_cons (pe_tup (pa_cons (pv 3) (pa_cons (pe_lst (pa_cons (pe_fldE (pv 3)) pa_nil)) (pa_cons (pe_lst (pa_cons (pv 1) pa_nil)) pa_nil)))) (pa_cons (pe_tup (pa_cons (pv 4) (pa_cons (pe_lst (pa_cons (pe_fldE (pv 4)) (pa_cons (pe_fldE (pv 4)) pa_nil))) (pa_cons (pe_lst (pa_cons (pv 0) (pa_cons (pv 1) pa_nil))) pa_nil)))) (pa_cons (pe_tup (pa_cons (pv 5) (pa_cons (pe_lst (pa_cons (pe_fldE (pv 5)) (pa_cons (pe_fldE (pv 5)) pa_nil))) (pa_cons (pe_lst (pa_cons (pv 0) (pa_cons (pv 1) pa_nil))) pa_nil)))) pa_nil)))))
        (pss_cons (ps_set (i := 15) sc_first.nd rfl (Or.inl rfl) (pe_op op_cat (pv 15) (pe_lst (pa_cons (pe_tup (pa_cons (pe_exV0 (bmB := He.veBase) PySem.F.excBase_ValueError T.p_NoRow T.m_NoRow T.pk_NoRow) (pa_cons (pe_lst pa_nil) (pa_cons (pe_lst pa_nil) pa_nil)))) (pa_cons (pe_tup (pa_cons (pv 6) (pa_cons (pe_lst (pa_cons (pe_fldE (pv 6)) pa_nil)) (pa_cons (pe_lst (pa_cons (pv 2) pa_nil)) pa_nil)))) (pa_cons (pe_tup (pa_cons (pv 7) (pa_cons (pe_lst (pa_cons (pe_fldE (pv 7)) pa_nil)) (pa_cons (pe_lst (pa_cons (pv 2) pa_nil)) pa_nil)))) (pa_cons (pe_tup (pa_cons (pe_exV0 (bmB := He.veBase) PySem.F.excBase_ValueError T.p_OtherLives T.m_OtherLives T.pk_OtherLives) (pa_cons (pe_lst pa_nil) (pa_cons (pe_lst pa_nil) pa_nil)))) pa_nil)))))))
        (pss_cons (ps_set (i := 15) sc_first.nd rfl (Or.inl rfl) (pe_op op_cat (pv 15) (pe_lst (pa_cons (pe_tup (pa_cons (pv 8) (pa_cons (pe_lst (pa_cons (pe_fldE (pv 8)) pa_nil)) (pa_cons (pe_lst (pa_cons (pv 1) pa_nil)) pa_nil)))) (pa_cons (pe_tup (pa_cons (pv 9) (pa_cons (pe_lst (pa_cons (pe_fldE (pv 9)) pa_nil)) (pa_cons (pe_lst (pa_cons (pv 1) pa_nil)) pa_nil)))) (pa_cons (pe_tup (pa_cons (pv 10) (pa_cons (pe_lst (pa_cons (pe_fldE (pv 10)) pa_nil)) (pa_cons (pe_lst (pa_cons (pv 1) pa_nil)) pa_nil)))) (pa_cons (pe_tup (pa_cons (pv 11) (pa_cons (pe_lst (pa_cons (pe_fldE (pv 11)) pa_nil)) (pa_cons (pe_lst (pa_cons (pv 1) pa_nil)) pa_nil)))) pa_nil)))))))
        (pss_one (ps_ret (pe_op op_cat (pv 15) (pe_lst (pa_cons (pe_tup (pa_cons (pv 12) (pa_cons (pe_lst (pa_cons (pe_fldE (pv 12)) pa_nil)) (pa_cons (pe_lst (pa_cons (pv 1) pa_nil)) pa_nil)))) (pa_cons (pe_tup (pa_cons (pv 13) (pa_cons (pe_lst (pa_cons (pe_fldE (pv 13)) (pa_cons (pe_fldE (pv 13)) pa_nil))) (pa_cons (pe_lst (pa_cons (pv 0) (pa_cons (pv 1) pa_nil))) pa_nil)))) (pa_cons (pe_tup (pa_cons (pv 14) (pa_cons (pe_lst (pa_cons (pe_fldE (pv 14)) pa_nil)) (pa_cons (pe_lst (pa_cons (pv 2) pa_nil)) pa_nil)))) pa_nil))))))))))))), ?_⟩
    refine seq_4 (K := K) (fun ea eb ec ed => [some (.int n), some (.str x), some (.str y), some (.ref ea), some (.ref eb), some (.ref ec), some (.ref ed), none, none, none, none, none, none, none, none, none]) (fun _ _ _ _ => rfl) (C1 := cl "BadCustoms")  (C2 := cl "BadLives")  (C3 := cl "BadRecord")  (C4 := cl "NoLife") (ue_sup (fs := ["what"]) (Ds := [(.str x)]) (ua_cons (ud_var rfl (.str x)) ua_nil) rfl (fun _ _ _ => trivial)) (ue_sup (fs := ["index", "what"]) (Ds := [(.int n), (.str x)]) (ua_cons (ud_var rfl (.int n)) (ua_cons (ud_var rfl (.str x)) ua_nil)) rfl (okv_csn hn)) (ue_sup (fs := ["index", "what"]) (Ds := [(.int n), (.str x)]) (ua_cons (ud_var rfl (.int n)) (ua_cons (ud_var rfl (.str x)) ua_nil)) rfl (okv_csn hn)) (ue_sup (fs := ["name"]) (Ds := [(.str y)]) (ua_cons (ud_var rfl (.str y)) ua_nil) rfl (fun _ _ _ => trivial)) fun ea eb ec ed H1 S1 Ea Eb Ec Ed => ?_
    refine seq_4 (K := K) (fun ee ef eg eh => [some (.int n), some (.str x), some (.str y), some (.ref ea), some (.ref eb), some (.ref ec), some (.ref ed), some (.ref ee), some (.ref ef), some (.ref eg), some (.ref eh), none, none, none, none, none]) (fun _ _ _ _ => rfl) (C1 := cl "NoPerson")  (C2 := cl "BadKin")  (C3 := cl "BadDate")  (C4 := cl "BadTaker") (ue_sup (fs := ["name"]) (Ds := [(.str y)]) (ua_cons (ud_var rfl (.str y)) ua_nil) rfl (fun _ _ _ => trivial)) (ue_sup (fs := ["what"]) (Ds := [(.str x)]) (ua_cons (ud_var rfl (.str x)) ua_nil) rfl (fun _ _ _ => trivial)) (ue_sup (fs := ["what"]) (Ds := [(.str x)]) (ua_cons (ud_var rfl (.str x)) ua_nil) rfl (fun _ _ _ => trivial)) (ue_sup (fs := ["what"]) (Ds := [(.str x)]) (ua_cons (ud_var rfl (.str x)) ua_nil) rfl (fun _ _ _ => trivial)) fun ee ef eg eh H2 S2 Ee Ef Eg Eh => ?_
    have Ea := erdS S2 Ea
    have Eb := erdS S2 Eb
    have Ec := erdS S2 Ec
    have Ed := erdS S2 Ed
    refine seq_4 (K := K) (fun ei ej ek em => [some (.int n), some (.str x), some (.str y), some (.ref ea), some (.ref eb), some (.ref ec), some (.ref ed), some (.ref ee), some (.ref ef), some (.ref eg), some (.ref eh), some (.ref ei), some (.ref ej), some (.ref ek), some (.ref em), none]) (fun _ _ _ _ => rfl) (C1 := cl "BadCondition")  (C2 := cl "BadGift")  (C3 := cl "BadDeed")  (C4 := cl "NoGift") (ue_sup (fs := ["what"]) (Ds := [(.str x)]) (ua_cons (ud_var rfl (.str x)) ua_nil) rfl (fun _ _ _ => trivial)) (ue_sup (fs := ["what"]) (Ds := [(.str x)]) (ua_cons (ud_var rfl (.str x)) ua_nil) rfl (fun _ _ _ => trivial)) (ue_sup (fs := ["index", "what"]) (Ds := [(.int n), (.str x)]) (ua_cons (ud_var rfl (.int n)) (ua_cons (ud_var rfl (.str x)) ua_nil)) rfl (okv_csn hn)) (ue_sup (fs := ["name"]) (Ds := [(.str y)]) (ua_cons (ud_var rfl (.str y)) ua_nil) rfl (fun _ _ _ => trivial)) fun ei ej ek em H3 S3 Ei Ej Ek Em => ?_
    have Ea := erdS S3 Ea
    have Eb := erdS S3 Eb
    have Ec := erdS S3 Ec
    have Ed := erdS S3 Ed
    have Ee := erdS S3 Ee
    have Ef := erdS S3 Ef
    have Eg := erdS S3 Eg
    have Eh := erdS S3 Eh
    refine seq_l (K := K) (cl := cl) (cs := (["BadCustoms", "BadLives", "BadRecord"] : List String)) (fun l4 => [some (.int n), some (.str x), some (.str y), some (.ref ea), some (.ref eb), some (.ref ec), some (.ref ed), some (.ref ee), some (.ref ef), some (.ref eg), some (.ref eh), some (.ref ei), some (.ref ej), some (.ref ek), some (.ref em), some (.ref l4)]) (fun _ => rfl) ?_ ?_
    · exact (ul_lst (uts_cons (ut_tup (D := (.list [(.str x)])) rfl Ea.1 (ud_lst (ua_cons (ud_fld rfl Ea (T.x_ "BadCustoms" (by decide +kernel)).xf (T.xf_ ("BadCustoms", "what") (by decide +kernel)) rfl) ua_nil) (sz (Nat.le_of_ble_eq_true rfl))) (ud_lst (ua_cons (ud_var rfl (.str x)) ua_nil) (sz (Nat.le_of_ble_eq_true rfl))) (sh1 hx))
        (uts_cons (ut_tup (D := (.list [(.int n), (.str x)])) rfl Eb.1 (ud_lst (ua_cons (ud_fld rfl Eb (T.x_ "BadLives" (by decide +kernel)).xf (T.xf_ ("BadLives", "index") (by decide +kernel)) rfl) (ua_cons (ud_fld rfl Eb (T.x_ "BadLives" (by decide +kernel)).xf (T.xf_ ("BadLives", "what") (by decide +kernel)) rfl) ua_nil)) (sz (Nat.le_of_ble_eq_true rfl))) (ud_lst (ua_cons (ud_var rfl (.int n)) (ua_cons (ud_var rfl (.str x)) ua_nil)) (sz (Nat.le_of_ble_eq_true rfl))) (sh2 hx))
        (uts_cons (ut_tup (D := (.list [(.int n), (.str x)])) rfl Ec.1 (ud_lst (ua_cons (ud_fld rfl Ec (T.x_ "BadRecord" (by decide +kernel)).xf (T.xf_ ("BadRecord", "index") (by decide +kernel)) rfl) (ua_cons (ud_fld rfl Ec (T.x_ "BadRecord" (by decide +kernel)).xf (T.xf_ ("BadRecord", "what") (by decide +kernel)) rfl) ua_nil)) (sz (Nat.le_of_ble_eq_true rfl))) (ud_lst (ua_cons (ud_var rfl (.int n)) (ua_cons (ud_var rfl (.str x)) ua_nil)) (sz (Nat.le_of_ble_eq_true rfl))) (sh2 hx))
        uts_nil))) (sz (Nat.le_of_ble_eq_true rfl)))
    intro l4 us4 H4 S4 L4 U4
    have Ea := erdS S4 Ea
    have Eb := erdS S4 Eb
    have Ec := erdS S4 Ec
    have Ed := erdS S4 Ed
    have Ee := erdS S4 Ee
    have Ef := erdS S4 Ef
    have Eg := erdS S4 Eg
    have Eh := erdS S4 Eh
    have Ei := erdS S4 Ei
    have Ej := erdS S4 Ej
    have Ek := erdS S4 Ek
    have Em := erdS S4 Em
    refine seq_l (K := K) (cl := cl) (cs := (["BadCustoms", "BadLives", "BadRecord"] : List String) ++ (["NoRow", "NoLife", "NoPerson", "OtherLives"] : List String)) (fun l5 => [some (.int n), some (.str x), some (.str y), some (.ref ea), some (.ref eb), some (.ref ec), some (.ref ed), some (.ref ee), some (.ref ef), some (.ref eg), some (.ref eh), some (.ref ei), some (.ref ej), some (.ref ek), some (.ref em), some (.ref l5)]) (fun _ => rfl) ?_ ?_
    · exact ul_cat rfl L4 U4 (ul_lst (uts_cons (ut_mk (D := (.list [])) (C := cl "NoRow") ue_ex0 (ud_lst ua_nil (sz (Nat.le_of_ble_eq_true rfl))) (ud_lst ua_nil (sz (Nat.le_of_ble_eq_true rfl))) rfl)
        (uts_cons (ut_tup (D := (.list [(.str y)])) rfl Ed.1 (ud_lst (ua_cons (ud_fld rfl Ed (T.x_ "NoLife" (by decide +kernel)).xf (T.xf_ ("NoLife", "name") (by decide +kernel)) rfl) ua_nil) (sz (Nat.le_of_ble_eq_true rfl))) (ud_lst (ua_cons (ud_var rfl (.str y)) ua_nil) (sz (Nat.le_of_ble_eq_true rfl))) (sh1 hy))
        (uts_cons (ut_tup (D := (.list [(.str y)])) rfl Ee.1 (ud_lst (ua_cons (ud_fld rfl Ee (T.x_ "NoPerson" (by decide +kernel)).xf (T.xf_ ("NoPerson", "name") (by decide +kernel)) rfl) ua_nil) (sz (Nat.le_of_ble_eq_true rfl))) (ud_lst (ua_cons (ud_var rfl (.str y)) ua_nil) (sz (Nat.le_of_ble_eq_true rfl))) (sh1 hy))
        (uts_cons (ut_mk (D := (.list [])) (C := cl "OtherLives") ue_ex0 (ud_lst ua_nil (sz (Nat.le_of_ble_eq_true rfl))) (ud_lst ua_nil (sz (Nat.le_of_ble_eq_true rfl))) rfl)
        uts_nil)))) (sz (Nat.le_of_ble_eq_true rfl))) (sz2 (Nat.le_of_ble_eq_true rfl))
    intro l5 us5 H5 S5 L5 U5
    have U5 : Trips K H5 cl us5 (["BadCustoms", "BadLives", "BadRecord", "NoRow", "NoLife", "NoPerson", "OtherLives"] : List String) := U5
    have Ea := erdS S5 Ea
    have Eb := erdS S5 Eb
    have Ec := erdS S5 Ec
    have Ed := erdS S5 Ed
    have Ee := erdS S5 Ee
    have Ef := erdS S5 Ef
    have Eg := erdS S5 Eg
    have Eh := erdS S5 Eh
    have Ei := erdS S5 Ei
    have Ej := erdS S5 Ej
    have Ek := erdS S5 Ek
    have Em := erdS S5 Em
    refine seq_l (K := K) (cl := cl) (cs := (["BadCustoms", "BadLives", "BadRecord", "NoRow", "NoLife", "NoPerson", "OtherLives"] : List String) ++ (["BadKin", "BadDate", "BadTaker", "BadCondition"] : List String)) (fun l6 => [some (.int n), some (.str x), some (.str y), some (.ref ea), some (.ref eb), some (.ref ec), some (.ref ed), some (.ref ee), some (.ref ef), some (.ref eg), some (.ref eh), some (.ref ei), some (.ref ej), some (.ref ek), some (.ref em), some (.ref l6)]) (fun _ => rfl) ?_ ?_
    · exact ul_cat rfl L5 U5 (ul_lst (uts_cons (ut_tup (D := (.list [(.str x)])) rfl Ef.1 (ud_lst (ua_cons (ud_fld rfl Ef (T.x_ "BadKin" (by decide +kernel)).xf (T.xf_ ("BadKin", "what") (by decide +kernel)) rfl) ua_nil) (sz (Nat.le_of_ble_eq_true rfl))) (ud_lst (ua_cons (ud_var rfl (.str x)) ua_nil) (sz (Nat.le_of_ble_eq_true rfl))) (sh1 hx))
        (uts_cons (ut_tup (D := (.list [(.str x)])) rfl Eg.1 (ud_lst (ua_cons (ud_fld rfl Eg (T.x_ "BadDate" (by decide +kernel)).xf (T.xf_ ("BadDate", "what") (by decide +kernel)) rfl) ua_nil) (sz (Nat.le_of_ble_eq_true rfl))) (ud_lst (ua_cons (ud_var rfl (.str x)) ua_nil) (sz (Nat.le_of_ble_eq_true rfl))) (sh1 hx))
        (uts_cons (ut_tup (D := (.list [(.str x)])) rfl Eh.1 (ud_lst (ua_cons (ud_fld rfl Eh (T.x_ "BadTaker" (by decide +kernel)).xf (T.xf_ ("BadTaker", "what") (by decide +kernel)) rfl) ua_nil) (sz (Nat.le_of_ble_eq_true rfl))) (ud_lst (ua_cons (ud_var rfl (.str x)) ua_nil) (sz (Nat.le_of_ble_eq_true rfl))) (sh1 hx))
        (uts_cons (ut_tup (D := (.list [(.str x)])) rfl Ei.1 (ud_lst (ua_cons (ud_fld rfl Ei (T.x_ "BadCondition" (by decide +kernel)).xf (T.xf_ ("BadCondition", "what") (by decide +kernel)) rfl) ua_nil) (sz (Nat.le_of_ble_eq_true rfl))) (ud_lst (ua_cons (ud_var rfl (.str x)) ua_nil) (sz (Nat.le_of_ble_eq_true rfl))) (sh1 hx))
        uts_nil)))) (sz (Nat.le_of_ble_eq_true rfl))) (sz2 (Nat.le_of_ble_eq_true rfl))
    intro l6 us6 H6 S6 L6 U6
    have U6 : Trips K H6 cl us6 (["BadCustoms", "BadLives", "BadRecord", "NoRow", "NoLife", "NoPerson", "OtherLives", "BadKin", "BadDate", "BadTaker", "BadCondition"] : List String) := U6
    have Ea := erdS S6 Ea
    have Eb := erdS S6 Eb
    have Ec := erdS S6 Ec
    have Ed := erdS S6 Ed
    have Ee := erdS S6 Ee
    have Ef := erdS S6 Ef
    have Eg := erdS S6 Eg
    have Eh := erdS S6 Eh
    have Ei := erdS S6 Ei
    have Ej := erdS S6 Ej
    have Ek := erdS S6 Ek
    have Em := erdS S6 Em
    refine ret_l (K := K) (cl := cl) (cs := (["BadCustoms", "BadLives", "BadRecord", "NoRow", "NoLife", "NoPerson", "OtherLives", "BadKin", "BadDate", "BadTaker", "BadCondition"] : List String) ++ (["BadGift", "BadDeed", "NoGift"] : List String)) ?_ ?_
    · exact ul_cat rfl L6 U6 (ul_lst (uts_cons (ut_tup (D := (.list [(.str x)])) rfl Ej.1 (ud_lst (ua_cons (ud_fld rfl Ej (T.x_ "BadGift" (by decide +kernel)).xf (T.xf_ ("BadGift", "what") (by decide +kernel)) rfl) ua_nil) (sz (Nat.le_of_ble_eq_true rfl))) (ud_lst (ua_cons (ud_var rfl (.str x)) ua_nil) (sz (Nat.le_of_ble_eq_true rfl))) (sh1 hx))
        (uts_cons (ut_tup (D := (.list [(.int n), (.str x)])) rfl Ek.1 (ud_lst (ua_cons (ud_fld rfl Ek (T.x_ "BadDeed" (by decide +kernel)).xf (T.xf_ ("BadDeed", "index") (by decide +kernel)) rfl) (ua_cons (ud_fld rfl Ek (T.x_ "BadDeed" (by decide +kernel)).xf (T.xf_ ("BadDeed", "what") (by decide +kernel)) rfl) ua_nil)) (sz (Nat.le_of_ble_eq_true rfl))) (ud_lst (ua_cons (ud_var rfl (.int n)) (ua_cons (ud_var rfl (.str x)) ua_nil)) (sz (Nat.le_of_ble_eq_true rfl))) (sh2 hx))
        (uts_cons (ut_tup (D := (.list [(.str y)])) rfl Em.1 (ud_lst (ua_cons (ud_fld rfl Em (T.x_ "NoGift" (by decide +kernel)).xf (T.xf_ ("NoGift", "name") (by decide +kernel)) rfl) ua_nil) (sz (Nat.le_of_ble_eq_true rfl))) (ud_lst (ua_cons (ud_var rfl (.str y)) ua_nil) (sz (Nat.le_of_ble_eq_true rfl))) (sh1 hy))
        uts_nil))) (sz (Nat.le_of_ble_eq_true rfl))) (sz2 (Nat.le_of_ble_eq_true rfl))
    exact fun l us H2 S L U => k l us H2 ((((((S1.trans S2).trans S3).trans S4).trans S5).trans S6).trans S) L U
theorem cal_first (T : Txt P w K mg cl) : Cal P w K mg base CX0 3 "_law_first" ["_law_at", "_law_word_here", "_law_name"] (spMk K cl cs_first) := by
  obtain ⟨f, fd, F, m⟩ := T.d_first
  exact ⟨f, fd, ok_first F T, m, F.kp, F.binds fun _ _ _ _ _ _ us hl => match us, hl with | [_, _, _], _ => rfl⟩
def cs_second : List String := ["BadYear", "BadSystem", "BadTimes", "OtherCount", "NoInstant", "NoTimes", "BadFormula", "BadText", "BadMeasuring", "BadYears"]
theorem ok_second {f : Addr} {fd : FuncData} (F : Fun K "_law_second" "_law_second" s_second f fd) (T : Txt P w K mg cl) : FnOk P w K mg base CX0 3 f fd ["_law_at", "_law_word_here", "_law_name"] (spMk K cl cs_second) := by
  refine F.ok sc_second (fun vs H Q E h => ?_) (fun cdv A outer s H vs Q E hr h => ?_)
  · obtain ⟨n, x, y, rfl, _⟩ := h
    rfl
  · obtain ⟨n, x, y, rfl, hn, hx, hy, k⟩ := h
    refine ⟨_, (pss_cons (ps_asg (pe_tup (pa_cons (pe_erV (k := 1) (okV := fun _ => True) T.e_BadYear (fun _ _ _ _ => trivial) T.m_BadYear (hr.mono (by decide)) (pa_cons (pe_un un_neg (pv 0)) pa_nil)) (pa_cons (pe_calO (ini_BadSystem (base := base) T) T.m_BadSystem (hr.mono (by decide)) (pa_cons (pv 0) (pa_cons (pv 1) pa_nil))) (pa_cons (pe_calO (ini_NoInstant (base := base) T) T.m_NoInstant (hr.mono (by decide)) (pa_cons (pv 0) pa_nil)) (pa_cons (pe_calO (ini_NoTimes (base := base) T) T.m_NoTimes (hr.mono (by decide)) (pa_cons (pe_tup (pa_cons (pv 0) (pa_cons pe_int pa_nil))) pa_nil)) pa_nil))))) (pg_tup rfl (pgs_cons (pg_name (i := 3) sc_second.nd rfl (Or.inl rfl)) (pgs_cons (pg_name (i := 4) sc_second.nd rfl (Or.inl rfl)) (pgs_cons (pg_name (i := 5) sc_second.nd rfl (Or.inl rfl)) (pgs_cons (pg_name (i := 6) sc_second.nd rfl (Or.inl rfl)) pgs_nil))))))
        (pss_cons (ps_asg (pe_tup (pa_cons (pe_calO (ini_BadFormula (base := base) T) T.m_BadFormula (hr.mono (by decide)) (pa_cons (pv 1) pa_nil)) (pa_cons (pe_calO (ini_BadText (base := base) T) T.m_BadText (hr.mono (by decide)) (pa_cons (pv 0) (pa_cons (pv 1) pa_nil))) (pa_cons (pe_erV (k := 1) (okV := fun _ => True) T.e_BadMeasuring (fun _ _ _ _ => trivial) T.m_BadMeasuring (hr.mono (by decide)) (pa_cons (pv 1) pa_nil)) (pa_cons (pe_erV (k := 1) (okV := fun _ => True) T.e_BadYears (fun _ _ _ _ => trivial) T.m_BadYears (hr.mono (by decide)) (pa_cons (pv 0) pa_nil)) pa_nil))))) (pg_tup rfl (pgs_cons (pg_name (i := 7) sc_second.nd rfl (Or.inl rfl)) (pgs_cons (pg_name (i := 8) sc_second.nd rfl (Or.inl rfl)) (pgs_cons (pg_name (i := 9) sc_second.nd rfl (Or.inl rfl)) (pgs_cons (pg_name (i := 10) sc_second.nd rfl (Or.inl rfl)) pgs_nil))))))
        (pss_cons (ps_set (i := 11) sc_second.nd rfl (Or.inl rfl) (pe_lst (pa_cons (pe_tup (pa_cons (pv 3) (pa_cons (pe_lst (pa_cons (pe_fldE (pv 3)) pa_nil)) (pa_cons (pe_lst (pa_cons (pe_un un_neg (pv 0)) pa_nil)) pa_nil)))) (pa_cons (pe_tup (pa_cons (pv 4) (pa_cons (pe_lst (pa_cons (pe_fldE (pv 4)) (pa_cons (pe_fldE (pv 4)) pa_nil))) (pa_cons (pe_lst (pa_cons (pv 0) (pa_cons (pv 1) pa_nil))) pa_nil)))) (pa_cons (pe_tup (pa_cons (pe_calO0 (ini_BadTimes (base := base) T) T.m_BadTimes (hr.mono (by decide))) (pa_cons (pe_lst pa_nil) (pa_cons (pe_lst pa_nil) pa_nil)))) (pa_cons (pe_tup (pa_cons (pe_calO0 (ini_OtherCount (base := base) T) T.m_OtherCount (hr.mono (by decide))) (pa_cons (pe_lst pa_nil) (pa_cons (pe_lst pa_nil) pa_nil)))) pa_nil))))))
        (pss_cons (ps_set (i := 11) sc_second.nd rfl (Or.inl rfl) (pe_op op_cat (pv 11) (pe_lst (pa_cons (pe_tup (pa_cons (pv 5) (pa_cons (pe_lst (pa_cons (pe_fldE (pv 5)) pa_nil)) (pa_cons (pe_lst (pa_cons (pv 0) pa_nil)) pa_nil)))) (pa_cons (pe_tup (pa_cons (pv 6) (pa_cons (pe_lst (pa_cons (pe_fldE (pv 6)) pa_nil)) (pa_cons (pe_lst (pa_cons (pe_tup (pa_cons (pv 0) (pa_cons pe_int pa_nil))) pa_nil)) pa_nil)))) (pa_cons (pe_tup (pa_cons (pv 7) (pa_cons (pe_lst (pa_cons (pe_fldE (pv 7)) pa_nil)) (pa_cons (pe_lst (pa_cons (pv 1) pa_nil)) pa_nil)))) pa_nil))))))
        (pss_one (ps_ret (pe_op op_cat (pv 11) (pe_lst (pa_cons (pe_tup (pa_cons (pv 8) (pa_cons (pe_lst (pa_cons (pe_fldE (pv 8)) (pa_cons (pe_fldE (pv 8)) pa_nil))) (pa_cons (pe_lst (pa_cons (pv 0) (pa_cons (pv 1) pa_nil))) pa_nil)))) (pa_cons (pe_tup (pa_cons (pv 9) (pa_cons (pe_lst (pa_cons (pe_fldE (pv 9)) pa_nil)) (pa_cons (pe_lst (pa_cons (pv 1) pa_nil)) pa_nil)))) (pa_cons (pe_tup (pa_cons (pv 10) (pa_cons (pe_lst (pa_cons (pe_fldE (pv 10)) pa_nil)) (pa_cons (pe_lst (pa_cons (pv 0) pa_nil)) pa_nil)))) pa_nil))))))))))), ?_⟩
    refine seq_4 (K := K) (fun ea eb ec ed => [some (.int n), some (.str x), some (.str y), some (.ref ea), some (.ref eb), some (.ref ec), some (.ref ed), none, none, none, none, none]) (fun _ _ _ _ => rfl) (C1 := cl "BadYear")  (C2 := cl "BadSystem")  (C3 := cl "NoInstant")  (C4 := cl "NoTimes") (ue_sup (fs := ["year"]) (Ds := [(.int (-n))]) (ua_cons (ud_neg (ud_var rfl (.int n))) ua_nil) rfl (fun _ _ _ => trivial)) (ue_oe (fs := ["index", "what"]) (Ds := [(.int n), (.str x)]) (ua_cons (ud_var rfl (.int n)) (ua_cons (ud_var rfl (.str x)) ua_nil)) rfl (by decide) (by decide) (by decide)) (ue_oe (fs := ["instant"]) (Ds := [(.int n)]) (ua_cons (ud_var rfl (.int n)) ua_nil) rfl (by decide) (by decide) (by decide)) (ue_oe (fs := ["path"]) (Ds := [(.tuple [(.int n), (.int 0)])]) (ua_cons (ud_tup (ua_cons (ud_var rfl (.int n)) (ua_cons (ud_int 0) ua_nil)) (sz (Nat.le_of_ble_eq_true rfl))) ua_nil) rfl (by decide) (by decide) (by decide)) fun ea eb ec ed H1 S1 Ea Eb Ec Ed => ?_
    refine seq_4 (K := K) (fun ee ef eg eh => [some (.int n), some (.str x), some (.str y), some (.ref ea), some (.ref eb), some (.ref ec), some (.ref ed), some (.ref ee), some (.ref ef), some (.ref eg), some (.ref eh), none]) (fun _ _ _ _ => rfl) (C1 := cl "BadFormula")  (C2 := cl "BadText")  (C3 := cl "BadMeasuring")  (C4 := cl "BadYears") (ue_oe (fs := ["what"]) (Ds := [(.str x)]) (ua_cons (ud_var rfl (.str x)) ua_nil) rfl (by decide) (by decide) (by decide)) (ue_oe (fs := ["row", "what"]) (Ds := [(.int n), (.str x)]) (ua_cons (ud_var rfl (.int n)) (ua_cons (ud_var rfl (.str x)) ua_nil)) rfl (by decide) (by decide) (by decide)) (ue_sup (fs := ["what"]) (Ds := [(.str x)]) (ua_cons (ud_var rfl (.str x)) ua_nil) rfl (fun _ _ _ => trivial)) (ue_sup (fs := ["years"]) (Ds := [(.int n)]) (ua_cons (ud_var rfl (.int n)) ua_nil) rfl (fun _ _ _ => trivial)) fun ee ef eg eh H2 S2 Ee Ef Eg Eh => ?_
    have Ea := erdS S2 Ea
    have Eb := erdS S2 Eb
    have Ec := erdS S2 Ec
    have Ed := erdS S2 Ed
    refine seq_l (K := K) (cl := cl) (cs := (["BadYear", "BadSystem", "BadTimes", "OtherCount"] : List String)) (fun l3 => [some (.int n), some (.str x), some (.str y), some (.ref ea), some (.ref eb), some (.ref ec), some (.ref ed), some (.ref ee), some (.ref ef), some (.ref eg), some (.ref eh), some (.ref l3)]) (fun _ => rfl) ?_ ?_
    · exact (ul_lst (uts_cons (ut_tup (D := (.list [(.int (-n))])) rfl Ea.1 (ud_lst (ua_cons (ud_fld rfl Ea (T.x_ "BadYear" (by decide +kernel)).xf (T.xf_ ("BadYear", "year") (by decide +kernel)) rfl) ua_nil) (sz (Nat.le_of_ble_eq_true rfl))) (ud_lst (ua_cons (ud_neg (ud_var rfl (.int n))) ua_nil) (sz (Nat.le_of_ble_eq_true rfl))) rfl)
        (uts_cons (ut_tup (D := (.list [(.int n), (.str x)])) rfl Eb.1 (ud_lst (ua_cons (ud_fld rfl Eb (T.x_ "BadSystem" (by decide +kernel)).xf (T.xf_ ("BadSystem", "index") (by decide +kernel)) rfl) (ua_cons (ud_fld rfl Eb (T.x_ "BadSystem" (by decide +kernel)).xf (T.xf_ ("BadSystem", "what") (by decide +kernel)) rfl) ua_nil)) (sz (Nat.le_of_ble_eq_true rfl))) (ud_lst (ua_cons (ud_var rfl (.int n)) (ua_cons (ud_var rfl (.str x)) ua_nil)) (sz (Nat.le_of_ble_eq_true rfl))) (sh2 hx))
        (uts_cons (ut_mk (D := (.list [])) (C := cl "BadTimes") ue_oe0 (ud_lst ua_nil (sz (Nat.le_of_ble_eq_true rfl))) (ud_lst ua_nil (sz (Nat.le_of_ble_eq_true rfl))) rfl)
        (uts_cons (ut_mk (D := (.list [])) (C := cl "OtherCount") ue_oe0 (ud_lst ua_nil (sz (Nat.le_of_ble_eq_true rfl))) (ud_lst ua_nil (sz (Nat.le_of_ble_eq_true rfl))) rfl)
        uts_nil)))) (sz (Nat.le_of_ble_eq_true rfl)))
    intro l3 us3 H3 S3 L3 U3
    have Ea := erdS S3 Ea
    have Eb := erdS S3 Eb
    have Ec := erdS S3 Ec
    have Ed := erdS S3 Ed
    have Ee := erdS S3 Ee
    have Ef := erdS S3 Ef
    have Eg := erdS S3 Eg
    have Eh := erdS S3 Eh
    refine seq_l (K := K) (cl := cl) (cs := (["BadYear", "BadSystem", "BadTimes", "OtherCount"] : List String) ++ (["NoInstant", "NoTimes", "BadFormula"] : List String)) (fun l4 => [some (.int n), some (.str x), some (.str y), some (.ref ea), some (.ref eb), some (.ref ec), some (.ref ed), some (.ref ee), some (.ref ef), some (.ref eg), some (.ref eh), some (.ref l4)]) (fun _ => rfl) ?_ ?_
    · exact ul_cat rfl L3 U3 (ul_lst (uts_cons (ut_tup (D := (.list [(.int n)])) rfl Ec.1 (ud_lst (ua_cons (ud_fld rfl Ec (T.x_ "NoInstant" (by decide +kernel)).xf (T.xf_ ("NoInstant", "instant") (by decide +kernel)) rfl) ua_nil) (sz (Nat.le_of_ble_eq_true rfl))) (ud_lst (ua_cons (ud_var rfl (.int n)) ua_nil) (sz (Nat.le_of_ble_eq_true rfl))) rfl)
        (uts_cons (ut_tup (D := (.list [(.tuple [(.int n), (.int 0)])])) rfl Ed.1 (ud_lst (ua_cons (ud_fld rfl Ed (T.x_ "NoTimes" (by decide +kernel)).xf (T.xf_ ("NoTimes", "path") (by decide +kernel)) rfl) ua_nil) (sz (Nat.le_of_ble_eq_true rfl))) (ud_lst (ua_cons (ud_tup (ua_cons (ud_var rfl (.int n)) (ua_cons (ud_int 0) ua_nil)) (sz (Nat.le_of_ble_eq_true rfl))) ua_nil) (sz (Nat.le_of_ble_eq_true rfl))) rfl)
        (uts_cons (ut_tup (D := (.list [(.str x)])) rfl Ee.1 (ud_lst (ua_cons (ud_fld rfl Ee (T.x_ "BadFormula" (by decide +kernel)).xf (T.xf_ ("BadFormula", "what") (by decide +kernel)) rfl) ua_nil) (sz (Nat.le_of_ble_eq_true rfl))) (ud_lst (ua_cons (ud_var rfl (.str x)) ua_nil) (sz (Nat.le_of_ble_eq_true rfl))) (sh1 hx))
        uts_nil))) (sz (Nat.le_of_ble_eq_true rfl))) (sz2 (Nat.le_of_ble_eq_true rfl))
    intro l4 us4 H4 S4 L4 U4
    have U4 : Trips K H4 cl us4 (["BadYear", "BadSystem", "BadTimes", "OtherCount", "NoInstant", "NoTimes", "BadFormula"] : List String) := U4
    have Ea := erdS S4 Ea
    have Eb := erdS S4 Eb
    have Ec := erdS S4 Ec
    have Ed := erdS S4 Ed
    have Ee := erdS S4 Ee
    have Ef := erdS S4 Ef
    have Eg := erdS S4 Eg
    have Eh := erdS S4 Eh
    refine ret_l (K := K) (cl := cl) (cs := (["BadYear", "BadSystem", "BadTimes", "OtherCount", "NoInstant", "NoTimes", "BadFormula"] : List String) ++ (["BadText", "BadMeasuring", "BadYears"] : List String)) ?_ ?_
    · exact ul_cat rfl L4 U4 (ul_lst (uts_cons (ut_tup (D := (.list [(.int n), (.str x)])) rfl Ef.1 (ud_lst (ua_cons (ud_fld rfl Ef (T.x_ "BadText" (by decide +kernel)).xf (T.xf_ ("BadText", "row") (by decide +kernel)) rfl) (ua_cons (ud_fld rfl Ef (T.x_ "BadText" (by decide +kernel)).xf (T.xf_ ("BadText", "what") (by decide +kernel)) rfl) ua_nil)) (sz (Nat.le_of_ble_eq_true rfl))) (ud_lst (ua_cons (ud_var rfl (.int n)) (ua_cons (ud_var rfl (.str x)) ua_nil)) (sz (Nat.le_of_ble_eq_true rfl))) (sh2 hx))
        (uts_cons (ut_tup (D := (.list [(.str x)])) rfl Eg.1 (ud_lst (ua_cons (ud_fld rfl Eg (T.x_ "BadMeasuring" (by decide +kernel)).xf (T.xf_ ("BadMeasuring", "what") (by decide +kernel)) rfl) ua_nil) (sz (Nat.le_of_ble_eq_true rfl))) (ud_lst (ua_cons (ud_var rfl (.str x)) ua_nil) (sz (Nat.le_of_ble_eq_true rfl))) (sh1 hx))
        (uts_cons (ut_tup (D := (.list [(.int n)])) rfl Eh.1 (ud_lst (ua_cons (ud_fld rfl Eh (T.x_ "BadYears" (by decide +kernel)).xf (T.xf_ ("BadYears", "years") (by decide +kernel)) rfl) ua_nil) (sz (Nat.le_of_ble_eq_true rfl))) (ud_lst (ua_cons (ud_var rfl (.int n)) ua_nil) (sz (Nat.le_of_ble_eq_true rfl))) rfl)
        uts_nil))) (sz (Nat.le_of_ble_eq_true rfl))) (sz2 (Nat.le_of_ble_eq_true rfl))
    exact fun l us H2 S L U => k l us H2 ((((S1.trans S2).trans S3).trans S4).trans S) L U
theorem cal_second (T : Txt P w K mg cl) : Cal P w K mg base CX0 3 "_law_second" ["_law_at", "_law_word_here", "_law_name"] (spMk K cl cs_second) := by
  obtain ⟨f, fd, F, m⟩ := T.d_second
  exact ⟨f, fd, ok_second F T, m, F.kp, F.binds fun _ _ _ _ _ _ us hl => match us, hl with | [_, _, _], _ => rfl⟩
def cs_third : List String := ["NotAClass", "BadCause", "BadCustom", "BadLater", "NotMember", "NoRoom", "BadWatch", "NotTrue", "BadCase", "BadChange", "BadPool"]
theorem ok_third {f : Addr} {fd : FuncData} (F : Fun K "_law_third" "_law_third" s_third f fd) (T : Txt P w K mg cl) : FnOk P w K mg base CX0 3 f fd ["_law_at", "_law_word_here", "_law_name"] (spMk K cl cs_third) := by
  refine F.ok sc_third (fun vs H Q E h => ?_) (fun cdv A outer s H vs Q E hr h => ?_)
  · obtain ⟨n, x, y, rfl, _⟩ := h
    rfl
  · obtain ⟨n, x, y, rfl, hn, hx, hy, k⟩ := h
    refine ⟨_, (pss_cons (ps_asg (pe_tup (pa_cons (pe_calO (ini_NotAClass (base := base) T) T.m_NotAClass (hr.mono (by decide)) (pa_cons (pv 2) pa_nil)) (pa_cons (pe_calO (ini_BadCause (base := base) T) T.m_BadCause (hr.mono (by decide)) (pa_cons (pv 1) pa_nil)) (pa_cons (pe_calO (ini_BadCustom (base := base) T) T.m_BadCustom (hr.mono (by decide)) (pa_cons (pv 1) pa_nil)) (pa_cons (pe_calO (ini_BadLater (base := base) T) T.m_BadLater (hr.mono (by decide)) (pa_cons (pv 1) pa_nil)) pa_nil))))) (pg_tup rfl (pgs_cons (pg_name (i := 3) sc_third.nd rfl (Or.inl rfl)) (pgs_cons (pg_name (i := 4) sc_third.nd rfl (Or.inl rfl)) (pgs_cons (pg_name (i := 5) sc_third.nd rfl (Or.inl rfl)) (pgs_cons (pg_name (i := 6) sc_third.nd rfl (Or.inl rfl)) pgs_nil))))))
        (pss_cons (ps_asg (pe_tup (pa_cons (pe_calO (ini_NotMember (base := base) T) T.m_NotMember (hr.mono (by decide)) (pa_cons (pv 2) pa_nil)) (pa_cons (pe_calO (ini_NoRoom (base := base) T) T.m_NoRoom (hr.mono (by decide)) (pa_cons (pv 2) pa_nil)) (pa_cons (pe_erV (k := 1) (okV := fun _ => True) T.e_BadWatch (fun _ _ _ _ => trivial) T.m_BadWatch (hr.mono (by decide)) (pa_cons (pv 1) pa_nil)) (pa_cons (pe_erV (k := 1) (okV := fun _ => True) T.e_NotTrue (fun _ _ _ _ => trivial) T.m_NotTrue (hr.mono (by decide)) (pa_cons (pv 1) (pa_cons (pe_tup (pa_cons pe_str (pa_cons (pv 0) (pa_cons (pv 2) pa_nil)))) pa_nil))) pa_nil))))) (pg_tup rfl (pgs_cons (pg_name (i := 7) sc_third.nd rfl (Or.inl rfl)) (pgs_cons (pg_name (i := 8) sc_third.nd rfl (Or.inl rfl)) (pgs_cons (pg_name (i := 9) sc_third.nd rfl (Or.inl rfl)) (pgs_cons (pg_name (i := 10) sc_third.nd rfl (Or.inl rfl)) pgs_nil))))))
        (pss_cons (ps_par3 (i := 11) (j := 12) (l := 13) rfl sc_third.nd rfl rfl rfl (by decide) (by decide) (by decide) rfl rfl rfl (pa_cons (pe_erV (k := 1) (okV := fun _ => True) T.e_BadCase (fun _ _ _ _ => trivial) T.m_BadCase (hr.mono (by decide)) (pa_cons (pv 1) pa_nil)) (pa_cons (pe_erV (k := 1) (okV := okVI) T.e_BadChange okVI_ok T.m_BadChange (hr.mono (by decide)) (pa_cons (pv 0) (pa_cons (pv 1) pa_nil))) (pa_cons (pe_erV (k := 1) (okV := fun _ => True) T.e_BadPool (fun _ _ _ _ => trivial) T.m_BadPool (hr.mono (by decide)) (pa_cons (pv 1) (pa_cons (pv 0) pa_nil))) pa_nil))) (by rfl))
        (pss_cons (ps_set (i := 14) sc_third.nd rfl (Or.inl rfl) (pe_lst (pa_cons (pe_tup (pa_cons (pv 3) (pa_cons (pe_lst (pa_cons (pe_fldE (pv 3)) pa_nil)) (pa_cons (pe_lst (pa_cons (pv 2) pa_nil)) pa_nil)))) (pa_cons (pe_tup (pa_cons (pv 4) (pa_cons (pe_lst (pa_cons (pe_fldE (pv 4)) pa_nil)) (pa_cons (pe_lst (pa_cons (pv 1) pa_nil)) pa_nil)))) (pa_cons (pe_tup (pa_cons (pv 5) (pa_cons (pe_lst (pa_cons (pe_fldE (pv 5)) pa_nil)) (pa_cons (pe_lst (pa_cons (pv 1) pa_nil)) pa_nil)))) (pa_cons (pe_tup (pa_cons (pv 6) (pa_cons (pe_lst (pa_cons (pe_fldE (pv 6)) pa_nil)) (pa_cons (pe_lst (pa_cons (pv 1) pa_nil)) pa_nil)))) pa_nil))))))
        (pss_cons (ps_set (i := 14) sc_third.nd rfl (Or.inl rfl) (pe_op op_cat (pv 14) (pe_lst (pa_cons (pe_tup (pa_cons (pv 7) (pa_cons (pe_lst (pa_cons (pe_fldE (pv 7)) pa_nil)) (pa_cons (pe_lst (pa_cons (pv 2) pa_nil)) pa_nil)))) (pa_cons (pe_tup (pa_cons (pv 8) (pa_cons (pe_lst (pa_cons (pe_fldE (pv 8)) pa_nil)) (pa_cons (pe_lst (pa_cons (pv 2) pa_nil)) pa_nil)))) (pa_cons (pe_tup (pa_cons (pv 9) (pa_cons (pe_lst (pa_cons (pe_fldE (pv 9)) pa_nil)) (pa_cons (pe_lst (pa_cons (pv 1) pa_nil)) pa_nil)))) pa_nil))))))
        (pss_cons (ps_set (i := 14) sc_third.nd rfl (Or.inl rfl) (pe_op op_cat (pv 14) (pe_lst (pa_cons (pe_tup (pa_cons (pv 10) (pa_cons (pe_lst (pa_cons (pe_fldE (pv 10)) (pa_cons (pe_fldE (pv 10)) pa_nil))) (pa_cons (pe_lst (pa_cons (pv 1) (pa_cons (pe_tup (pa_cons pe_str (pa_cons (pv 0) (pa_cons (pv 2) pa_nil)))) pa_nil))) pa_nil)))) (pa_cons (pe_tup (pa_cons (pv 11) (pa_cons (pe_lst (pa_cons (pe_fldE (pv 11)) pa_nil)) (pa_cons (pe_lst (pa_cons (pv 1) pa_nil)) pa_nil)))) pa_nil)))))
        (pss_one (ps_ret (pe_op op_cat (pv 14) (pe_lst (pa_cons (pe_tup (pa_cons (pv 12) (pa_cons (pe_lst (pa_cons (pe_fldE (pv 12)) (pa_cons (pe_fldE (pv 12)) pa_nil))) (pa_cons (pe_lst (pa_cons (pv 0) (pa_cons (pv 1) pa_nil))) pa_nil)))) (pa_cons (pe_tup (pa_cons (pv 13) (pa_cons (pe_lst (pa_cons (pe_fldE (pv 13)) (pa_cons (pe_fldE (pv 13)) pa_nil))) (pa_cons (pe_lst (pa_cons (pv 1) (pa_cons (pv 0) pa_nil))) pa_nil)))) pa_nil)))))))))))), ?_⟩
    refine seq_4 (K := K) (fun ea eb ec ed => [some (.int n), some (.str x), some (.str y), some (.ref ea), some (.ref eb), some (.ref ec), some (.ref ed), none, none, none, none, none, none, none, none]) (fun _ _ _ _ => rfl) (C1 := cl "NotAClass")  (C2 := cl "BadCause")  (C3 := cl "BadCustom")  (C4 := cl "BadLater") (ue_oe (fs := ["name"]) (Ds := [(.str y)]) (ua_cons (ud_var rfl (.str y)) ua_nil) rfl (by decide) (by decide) (by decide)) (ue_oe (fs := ["cause"]) (Ds := [(.str x)]) (ua_cons (ud_var rfl (.str x)) ua_nil) rfl (by decide) (by decide) (by decide)) (ue_oe (fs := ["custom"]) (Ds := [(.str x)]) (ua_cons (ud_var rfl (.str x)) ua_nil) rfl (by decide) (by decide) (by decide)) (ue_oe (fs := ["later"]) (Ds := [(.str x)]) (ua_cons (ud_var rfl (.str x)) ua_nil) rfl (by decide) (by decide) (by decide)) fun ea eb ec ed H1 S1 Ea Eb Ec Ed => ?_
    refine seq_4 (K := K) (fun ee ef eg eh => [some (.int n), some (.str x), some (.str y), some (.ref ea), some (.ref eb), some (.ref ec), some (.ref ed), some (.ref ee), some (.ref ef), some (.ref eg), some (.ref eh), none, none, none, none]) (fun _ _ _ _ => rfl) (C1 := cl "NotMember")  (C2 := cl "NoRoom")  (C3 := cl "BadWatch")  (C4 := cl "NotTrue") (ue_oe (fs := ["name"]) (Ds := [(.str y)]) (ua_cons (ud_var rfl (.str y)) ua_nil) rfl (by decide) (by decide) (by decide)) (ue_oe (fs := ["name"]) (Ds := [(.str y)]) (ua_cons (ud_var rfl (.str y)) ua_nil) rfl (by decide) (by decide) (by decide)) (ue_sup (fs := ["what"]) (Ds := [(.str x)]) (ua_cons (ud_var rfl (.str x)) ua_nil) rfl (fun _ _ _ => trivial)) (ue_sup (fs := ["what", "row"]) (Ds := [(.str x), (.tuple [(.str "died"), (.int n), (.str y)])]) (ua_cons (ud_var rfl (.str x)) (ua_cons (ud_tup (ua_cons (ud_str "died") (ua_cons (ud_var rfl (.int n)) (ua_cons (ud_var rfl (.str y)) ua_nil))) (sz (Nat.le_of_ble_eq_true rfl))) ua_nil)) rfl (fun _ _ _ => trivial)) fun ee ef eg eh H2 S2 Ee Ef Eg Eh => ?_
    have Ea := erdS S2 Ea
    have Eb := erdS S2 Eb
    have Ec := erdS S2 Ec
    have Ed := erdS S2 Ed
    refine seq_3 (K := K) (fun ei ej ek => [some (.int n), some (.str x), some (.str y), some (.ref ea), some (.ref eb), some (.ref ec), some (.ref ed), some (.ref ee), some (.ref ef), some (.ref eg), some (.ref eh), some (.ref ei), some (.ref ej), some (.ref ek), none]) (fun _ _ _ => rfl) (C1 := cl "BadCase")  (C2 := cl "BadChange")  (C3 := cl "BadPool") (ue_sup (fs := ["what"]) (Ds := [(.str x)]) (ua_cons (ud_var rfl (.str x)) ua_nil) rfl (fun _ _ _ => trivial)) (ue_sup (fs := ["index", "what"]) (Ds := [(.int n), (.str x)]) (ua_cons (ud_var rfl (.int n)) (ua_cons (ud_var rfl (.str x)) ua_nil)) rfl (okv_csn hn)) (ue_sup (fs := ["what", "index"]) (Ds := [(.str x), (.int n)]) (ua_cons (ud_var rfl (.str x)) (ua_cons (ud_var rfl (.int n)) ua_nil)) rfl (fun _ _ _ => trivial)) fun ei ej ek H3 S3 Ei Ej Ek => ?_
    have Ea := erdS S3 Ea
    have Eb := erdS S3 Eb
    have Ec := erdS S3 Ec
    have Ed := erdS S3 Ed
    have Ee := erdS S3 Ee
    have Ef := erdS S3 Ef
    have Eg := erdS S3 Eg
    have Eh := erdS S3 Eh
    refine seq_l (K := K) (cl := cl) (cs := (["NotAClass", "BadCause", "BadCustom", "BadLater"] : List String)) (fun l4 => [some (.int n), some (.str x), some (.str y), some (.ref ea), some (.ref eb), some (.ref ec), some (.ref ed), some (.ref ee), some (.ref ef), some (.ref eg), some (.ref eh), some (.ref ei), some (.ref ej), some (.ref ek), some (.ref l4)]) (fun _ => rfl) ?_ ?_
    · exact (ul_lst (uts_cons (ut_tup (D := (.list [(.str y)])) rfl Ea.1 (ud_lst (ua_cons (ud_fld rfl Ea (T.x_ "NotAClass" (by decide +kernel)).xf (T.xf_ ("NotAClass", "name") (by decide +kernel)) rfl) ua_nil) (sz (Nat.le_of_ble_eq_true rfl))) (ud_lst (ua_cons (ud_var rfl (.str y)) ua_nil) (sz (Nat.le_of_ble_eq_true rfl))) (sh1 hy))
        (uts_cons (ut_tup (D := (.list [(.str x)])) rfl Eb.1 (ud_lst (ua_cons (ud_fld rfl Eb (T.x_ "BadCause" (by decide +kernel)).xf (T.xf_ ("BadCause", "cause") (by decide +kernel)) rfl) ua_nil) (sz (Nat.le_of_ble_eq_true rfl))) (ud_lst (ua_cons (ud_var rfl (.str x)) ua_nil) (sz (Nat.le_of_ble_eq_true rfl))) (sh1 hx))
        (uts_cons (ut_tup (D := (.list [(.str x)])) rfl Ec.1 (ud_lst (ua_cons (ud_fld rfl Ec (T.x_ "BadCustom" (by decide +kernel)).xf (T.xf_ ("BadCustom", "custom") (by decide +kernel)) rfl) ua_nil) (sz (Nat.le_of_ble_eq_true rfl))) (ud_lst (ua_cons (ud_var rfl (.str x)) ua_nil) (sz (Nat.le_of_ble_eq_true rfl))) (sh1 hx))
        (uts_cons (ut_tup (D := (.list [(.str x)])) rfl Ed.1 (ud_lst (ua_cons (ud_fld rfl Ed (T.x_ "BadLater" (by decide +kernel)).xf (T.xf_ ("BadLater", "later") (by decide +kernel)) rfl) ua_nil) (sz (Nat.le_of_ble_eq_true rfl))) (ud_lst (ua_cons (ud_var rfl (.str x)) ua_nil) (sz (Nat.le_of_ble_eq_true rfl))) (sh1 hx))
        uts_nil)))) (sz (Nat.le_of_ble_eq_true rfl)))
    intro l4 us4 H4 S4 L4 U4
    have Ea := erdS S4 Ea
    have Eb := erdS S4 Eb
    have Ec := erdS S4 Ec
    have Ed := erdS S4 Ed
    have Ee := erdS S4 Ee
    have Ef := erdS S4 Ef
    have Eg := erdS S4 Eg
    have Eh := erdS S4 Eh
    have Ei := erdS S4 Ei
    have Ej := erdS S4 Ej
    have Ek := erdS S4 Ek
    refine seq_l (K := K) (cl := cl) (cs := (["NotAClass", "BadCause", "BadCustom", "BadLater"] : List String) ++ (["NotMember", "NoRoom", "BadWatch"] : List String)) (fun l5 => [some (.int n), some (.str x), some (.str y), some (.ref ea), some (.ref eb), some (.ref ec), some (.ref ed), some (.ref ee), some (.ref ef), some (.ref eg), some (.ref eh), some (.ref ei), some (.ref ej), some (.ref ek), some (.ref l5)]) (fun _ => rfl) ?_ ?_
    · exact ul_cat rfl L4 U4 (ul_lst (uts_cons (ut_tup (D := (.list [(.str y)])) rfl Ee.1 (ud_lst (ua_cons (ud_fld rfl Ee (T.x_ "NotMember" (by decide +kernel)).xf (T.xf_ ("NotMember", "name") (by decide +kernel)) rfl) ua_nil) (sz (Nat.le_of_ble_eq_true rfl))) (ud_lst (ua_cons (ud_var rfl (.str y)) ua_nil) (sz (Nat.le_of_ble_eq_true rfl))) (sh1 hy))
        (uts_cons (ut_tup (D := (.list [(.str y)])) rfl Ef.1 (ud_lst (ua_cons (ud_fld rfl Ef (T.x_ "NoRoom" (by decide +kernel)).xf (T.xf_ ("NoRoom", "name") (by decide +kernel)) rfl) ua_nil) (sz (Nat.le_of_ble_eq_true rfl))) (ud_lst (ua_cons (ud_var rfl (.str y)) ua_nil) (sz (Nat.le_of_ble_eq_true rfl))) (sh1 hy))
        (uts_cons (ut_tup (D := (.list [(.str x)])) rfl Eg.1 (ud_lst (ua_cons (ud_fld rfl Eg (T.x_ "BadWatch" (by decide +kernel)).xf (T.xf_ ("BadWatch", "what") (by decide +kernel)) rfl) ua_nil) (sz (Nat.le_of_ble_eq_true rfl))) (ud_lst (ua_cons (ud_var rfl (.str x)) ua_nil) (sz (Nat.le_of_ble_eq_true rfl))) (sh1 hx))
        uts_nil))) (sz (Nat.le_of_ble_eq_true rfl))) (sz2 (Nat.le_of_ble_eq_true rfl))
    intro l5 us5 H5 S5 L5 U5
    have U5 : Trips K H5 cl us5 (["NotAClass", "BadCause", "BadCustom", "BadLater", "NotMember", "NoRoom", "BadWatch"] : List String) := U5
    have Ea := erdS S5 Ea
    have Eb := erdS S5 Eb
    have Ec := erdS S5 Ec
    have Ed := erdS S5 Ed
    have Ee := erdS S5 Ee
    have Ef := erdS S5 Ef
    have Eg := erdS S5 Eg
    have Eh := erdS S5 Eh
    have Ei := erdS S5 Ei
    have Ej := erdS S5 Ej
    have Ek := erdS S5 Ek
    refine seq_l (K := K) (cl := cl) (cs := (["NotAClass", "BadCause", "BadCustom", "BadLater", "NotMember", "NoRoom", "BadWatch"] : List String) ++ (["NotTrue", "BadCase"] : List String)) (fun l6 => [some (.int n), some (.str x), some (.str y), some (.ref ea), some (.ref eb), some (.ref ec), some (.ref ed), some (.ref ee), some (.ref ef), some (.ref eg), some (.ref eh), some (.ref ei), some (.ref ej), some (.ref ek), some (.ref l6)]) (fun _ => rfl) ?_ ?_
    · exact ul_cat rfl L5 U5 (ul_lst (uts_cons (ut_tup (D := (.list [(.str x), (.tuple [(.str "died"), (.int n), (.str y)])])) rfl Eh.1 (ud_lst (ua_cons (ud_fld rfl Eh (T.x_ "NotTrue" (by decide +kernel)).xf (T.xf_ ("NotTrue", "what") (by decide +kernel)) rfl) (ua_cons (ud_fld rfl Eh (T.x_ "NotTrue" (by decide +kernel)).xf (T.xf_ ("NotTrue", "row") (by decide +kernel)) rfl) ua_nil)) (sz (Nat.le_of_ble_eq_true rfl))) (ud_lst (ua_cons (ud_var rfl (.str x)) (ua_cons (ud_tup (ua_cons (ud_str "died") (ua_cons (ud_var rfl (.int n)) (ua_cons (ud_var rfl (.str y)) ua_nil))) (sz (Nat.le_of_ble_eq_true rfl))) ua_nil)) (sz (Nat.le_of_ble_eq_true rfl))) (sh3 hx hy))
        (uts_cons (ut_tup (D := (.list [(.str x)])) rfl Ei.1 (ud_lst (ua_cons (ud_fld rfl Ei (T.x_ "BadCase" (by decide +kernel)).xf (T.xf_ ("BadCase", "what") (by decide +kernel)) rfl) ua_nil) (sz (Nat.le_of_ble_eq_true rfl))) (ud_lst (ua_cons (ud_var rfl (.str x)) ua_nil) (sz (Nat.le_of_ble_eq_true rfl))) (sh1 hx))
        uts_nil)) (sz (Nat.le_of_ble_eq_true rfl))) (sz2 (Nat.le_of_ble_eq_true rfl))
    intro l6 us6 H6 S6 L6 U6
    have U6 : Trips K H6 cl us6 (["NotAClass", "BadCause", "BadCustom", "BadLater", "NotMember", "NoRoom", "BadWatch", "NotTrue", "BadCase"] : List String) := U6
    have Ea := erdS S6 Ea
    have Eb := erdS S6 Eb
    have Ec := erdS S6 Ec
    have Ed := erdS S6 Ed
    have Ee := erdS S6 Ee
    have Ef := erdS S6 Ef
    have Eg := erdS S6 Eg
    have Eh := erdS S6 Eh
    have Ei := erdS S6 Ei
    have Ej := erdS S6 Ej
    have Ek := erdS S6 Ek
    refine ret_l (K := K) (cl := cl) (cs := (["NotAClass", "BadCause", "BadCustom", "BadLater", "NotMember", "NoRoom", "BadWatch", "NotTrue", "BadCase"] : List String) ++ (["BadChange", "BadPool"] : List String)) ?_ ?_
    · exact ul_cat rfl L6 U6 (ul_lst (uts_cons (ut_tup (D := (.list [(.int n), (.str x)])) rfl Ej.1 (ud_lst (ua_cons (ud_fld rfl Ej (T.x_ "BadChange" (by decide +kernel)).xf (T.xf_ ("BadChange", "index") (by decide +kernel)) rfl) (ua_cons (ud_fld rfl Ej (T.x_ "BadChange" (by decide +kernel)).xf (T.xf_ ("BadChange", "what") (by decide +kernel)) rfl) ua_nil)) (sz (Nat.le_of_ble_eq_true rfl))) (ud_lst (ua_cons (ud_var rfl (.int n)) (ua_cons (ud_var rfl (.str x)) ua_nil)) (sz (Nat.le_of_ble_eq_true rfl))) (sh2 hx))
        (uts_cons (ut_tup (D := (.list [(.str x), (.int n)])) rfl Ek.1 (ud_lst (ua_cons (ud_fld rfl Ek (T.x_ "BadPool" (by decide +kernel)).xf (T.xf_ ("BadPool", "what") (by decide +kernel)) rfl) (ua_cons (ud_fld rfl Ek (T.x_ "BadPool" (by decide +kernel)).xf (T.xf_ ("BadPool", "index") (by decide +kernel)) rfl) ua_nil)) (sz (Nat.le_of_ble_eq_true rfl))) (ud_lst (ua_cons (ud_var rfl (.str x)) (ua_cons (ud_var rfl (.int n)) ua_nil)) (sz (Nat.le_of_ble_eq_true rfl))) (sh4 hx))
        uts_nil)) (sz (Nat.le_of_ble_eq_true rfl))) (sz2 (Nat.le_of_ble_eq_true rfl))
    exact fun l us H2 S L U => k l us H2 ((((((S1.trans S2).trans S3).trans S4).trans S5).trans S6).trans S) L U
theorem cal_third (T : Txt P w K mg cl) : Cal P w K mg base CX0 3 "_law_third" ["_law_at", "_law_word_here", "_law_name"] (spMk K cl cs_third) := by
  obtain ⟨f, fd, F, m⟩ := T.d_third
  exact ⟨f, fd, ok_third F T, m, F.kp, F.binds fun _ _ _ _ _ _ us hl => match us, hl with | [_, _, _], _ => rfl⟩
end
end My
set_option Elab.async false
set_option linter.all false
set_option maxRecDepth 100000
set_option maxHeartbeats 8000000
namespace My
open PySem L2 Dw
open C8 (pss_cut tCut)
section
variable {K : PySem.W.Frag} {σ : St} {H : Hp}
def UBe (te : TE) (σ : St) (H : Hp) (b : Bool) : Prop := ∀ H1, Same H H1 → ∀ Q : VK, Q (.bl b) H1 → te σ H1 Q
def UBs (ta : TA) (σ : St) (H : Hp) (bs : List Bool) : Prop := ∀ H1, Same H H1 → ∀ Q : List V → Hp → Prop, Q (bs.map V.bl) H1 → ta σ H1 Q
def UBL (te : TE) (σ : St) (H : Hp) (bs : List Bool) : Prop := ∀ H1, Same H H1 → ∀ Q : VK, (∀ l H2, Same H1 H2 → H2 l = some (.lst (bs.map V.bl)) → Q (.ref l) H2) → te σ H1 Q
theorem ub_is {i : Nat} {e C D : Addr} {b : Bool} (h : σ[i]? = some (some (.ref e))) (x : ErV H e C) (T : ExcC K C) (hk : PySem.W.kitOne K (.ref C) (.ref D) = some b) : UBe (tCB (rIsEv K) (tCons (tVar i) (tCons (tC (.ref D)) tNil))) σ H b := fun H1 S Q k => ⟨_, h, isE_ok (x.same S) T (.own D) hk k⟩
theorem ubs_nil : UBs tNil σ H [] := fun H1 S Q k => k
theorem ubs_cons {te : TE} {ta : TA} {b : Bool} {bs : List Bool} (h : UBe te σ H b) (g : UBs ta σ H bs) : UBs (tCons te ta) σ H (b :: bs) := fun H1 S Q k => h H1 S _ (g H1 S _ k)
theorem ubl_lst {ta : TA} {bs : List Bool} (h : UBs ta σ H bs) (hl : bs.length ≤ sizeLine) : UBL (tLst ta) σ H bs := fun H1 S Q k => h H1 S _ ⟨by rw [List.length_map]; exact hl, fun p hp => k p _ (sNew hp) upd_same⟩
theorem ubl_cat {i : Nat} {te : TE} {l : Addr} {as bs : List Bool} (h : σ[i]? = some (some (.ref l))) (hl : H l = some (.lst (as.map V.bl))) (g : UBL te σ H bs) (hz : as.length + bs.length ≤ sizeLine) : UBL (tOp rCat (tVar i) te) σ H (as ++ bs) := fun H1 S Q k =>
  ⟨_, h, g H1 S _ fun m H2 S2 hm => ⟨l, m, _, _, rfl, rfl, S2 _ _ (S _ _ hl), hm, by rw [List.length_map, List.length_map]; exact hz, fun p hp => k p _ (S2.trans (sNew hp)) (by rw [List.map_append]; exact upd_same)⟩⟩
theorem seq_b {te : TE} {i : Nat} {u : TS} {D : Ends} {bs : List Bool} (τ : Addr → St) (hs : ∀ l, σ.set i (some (.ref l)) = τ l) (h : UBL te σ H bs) (k : ∀ l H2, Same H H2 → H2 l = some (.lst (bs.map V.bl)) → u D (τ l) H2) : tSeq (tAsg te (gName i)) u D σ H := h H (Same.refl _) _ fun l H2 S hl => (show u D (σ.set i (some (.ref l))) H2 by rw [hs]; exact k l H2 S hl)
theorem ret_b {te : TE} {D : Ends} {bs : List Bool} (h : UBL te σ H bs) (k : ∀ l H2, Same H H2 → H2 l = some (.lst (bs.map V.bl)) → D.rt (.ref l) H2) : tRet te D σ H := h H (Same.refl _) _ fun l H2 S hl => k l H2 S hl
end
def spClasses (K : PySem.W.Frag) (cl : String → Addr) : Sp := fun vs H Q _ => ∃ (e : Addr) (c : String), vs = [.ref e] ∧ c ∈ c36 ∧ ErV H e (cl c) ∧ ∀ l H', Same H H' → H' l = some (.lst ((c35.map fun x => decide (c = x)).map V.bl)) → Q (.ref l) H'
section
variable {P : Program} {w : World} {K : PySem.W.Frag} {mg : Str → Option Value} {base : Heap} {cl : String → Addr}
theorem ok_classes {f : Addr} {fd : FuncData} (F : Fun K "_law_classes" "_law_classes" s_classes f fd) (T : Txt P w K mg cl) : FnOk P w K mg base CX0 1 f fd ["_law_e"] (spClasses K cl) := by
  refine F.ok sc_classes (fun vs H Q E h => ?_) (fun cdv A outer s H vs Q E hr h => ?_)
  · obtain ⟨e, c, rfl, _⟩ := h
    rfl
  · obtain ⟨e, c, rfl, hc, hE, k⟩ := h
    refine ⟨_, (pss_cons (ps_set (i := 1) sc_classes.nd rfl (Or.inl rfl) (pe_lst (pa_cons (pe_callB call_isEv (by rfl) T.n_isinstance (by decide +kernel) (pa_cons (pv 0) (pa_cons (pe_cls T.m_BadCustoms) pa_nil))) (pa_cons (pe_callB call_isEv (by rfl) T.n_isinstance (by decide +kernel) (pa_cons (pv 0) (pa_cons (pe_cls T.m_BadLives) pa_nil))) (pa_cons (pe_callB call_isEv (by rfl) T.n_isinstance (by decide +kernel) (pa_cons (pv 0) (pa_cons (pe_cls T.m_BadRecord) pa_nil))) (pa_cons (pe_callB call_isEv (by rfl) T.n_isinstance (by decide +kernel) (pa_cons (pv 0) (pa_cons (pe_cls T.m_NoRow) pa_nil))) pa_nil))))))
        (pss_cons (ps_set (i := 1) sc_classes.nd rfl (Or.inl rfl) (pe_op op_cat (pv 1) (pe_lst (pa_cons (pe_callB call_isEv (by rfl) T.n_isinstance (by decide +kernel) (pa_cons (pv 0) (pa_cons (pe_cls T.m_NoLife) pa_nil))) (pa_cons (pe_callB call_isEv (by rfl) T.n_isinstance (by decide +kernel) (pa_cons (pv 0) (pa_cons (pe_cls T.m_NoPerson) pa_nil))) (pa_cons (pe_callB call_isEv (by rfl) T.n_isinstance (by decide +kernel) (pa_cons (pv 0) (pa_cons (pe_cls T.m_OtherLives) pa_nil))) (pa_cons (pe_callB call_isEv (by rfl) T.n_isinstance (by decide +kernel) (pa_cons (pv 0) (pa_cons (pe_cls T.m_BadKin) pa_nil))) pa_nil)))))))
        (pss_cons (ps_set (i := 1) sc_classes.nd rfl (Or.inl rfl) (pe_op op_cat (pv 1) (pe_lst (pa_cons (pe_callB call_isEv (by rfl) T.n_isinstance (by decide +kernel) (pa_cons (pv 0) (pa_cons (pe_cls T.m_BadDate) pa_nil))) (pa_cons (pe_callB call_isEv (by rfl) T.n_isinstance (by decide +kernel) (pa_cons (pv 0) (pa_cons (pe_cls T.m_BadTaker) pa_nil))) (pa_cons (pe_callB call_isEv (by rfl) T.n_isinstance (by decide +kernel) (pa_cons (pv 0) (pa_cons (pe_cls T.m_BadCondition) pa_nil))) pa_nil))))))
        (pss_cons (ps_set (i := 1) sc_classes.nd rfl (Or.inl rfl) (pe_op op_cat (pv 1) (pe_lst (pa_cons (pe_callB call_isEv (by rfl) T.n_isinstance (by decide +kernel) (pa_cons (pv 0) (pa_cons (pe_cls T.m_BadGift) pa_nil))) (pa_cons (pe_callB call_isEv (by rfl) T.n_isinstance (by decide +kernel) (pa_cons (pv 0) (pa_cons (pe_cls T.m_BadDeed) pa_nil))) (pa_cons (pe_callB call_isEv (by rfl) T.n_isinstance (by decide +kernel) (pa_cons (pv 0) (pa_cons (pe_cls T.m_NoGift) pa_nil))) (pa_cons (pe_callB call_isEv (by rfl) T.n_isinstance (by decide +kernel) (pa_cons (pv 0) (pa_cons (pe_cls T.m_BadYear) pa_nil))) pa_nil)))))))
        (pss_cons (ps_set (i := 1) sc_classes.nd rfl (Or.inl rfl) (pe_op op_cat (pv 1) (pe_lst (pa_cons (pe_callB call_isEv (by rfl) T.n_isinstance (by decide +kernel) (pa_cons (pv 0) (pa_cons (pe_cls T.m_BadSystem) pa_nil))) (pa_cons (pe_callB call_isEv (by rfl) T.n_isinstance (by decide +kernel) (pa_cons (pv 0) (pa_cons (pe_cls T.m_BadTimes) pa_nil))) (pa_cons (pe_callB call_isEv (by rfl) T.n_isinstance (by decide +kernel) (pa_cons (pv 0) (pa_cons (pe_cls T.m_OtherCount) pa_nil))) pa_nil))))))
        (pss_cons (ps_set (i := 1) sc_classes.nd rfl (Or.inl rfl) (pe_op op_cat (pv 1) (pe_lst (pa_cons (pe_callB call_isEv (by rfl) T.n_isinstance (by decide +kernel) (pa_cons (pv 0) (pa_cons (pe_cls T.m_NoInstant) pa_nil))) (pa_cons (pe_callB call_isEv (by rfl) T.n_isinstance (by decide +kernel) (pa_cons (pv 0) (pa_cons (pe_cls T.m_NoTimes) pa_nil))) (pa_cons (pe_callB call_isEv (by rfl) T.n_isinstance (by decide +kernel) (pa_cons (pv 0) (pa_cons (pe_cls T.m_BadFormula) pa_nil))) pa_nil))))))
        (pss_cons (ps_set (i := 1) sc_classes.nd rfl (Or.inl rfl) (pe_op op_cat (pv 1) (pe_lst (pa_cons (pe_callB call_isEv (by rfl) T.n_isinstance (by decide +kernel) (pa_cons (pv 0) (pa_cons (pe_cls T.m_BadText) pa_nil))) (pa_cons (pe_callB call_isEv (by rfl) T.n_isinstance (by decide +kernel) (pa_cons (pv 0) (pa_cons (pe_cls T.m_BadMeasuring) pa_nil))) (pa_cons (pe_callB call_isEv (by rfl) T.n_isinstance (by decide +kernel) (pa_cons (pv 0) (pa_cons (pe_cls T.m_BadYears) pa_nil))) pa_nil))))))
        (pss_cons (ps_set (i := 1) sc_classes.nd rfl (Or.inl rfl) (pe_op op_cat (pv 1) (pe_lst (pa_cons (pe_callB call_isEv (by rfl) T.n_isinstance (by decide +kernel) (pa_cons (pv 0) (pa_cons (pe_cls T.m_NotAClass) pa_nil))) (pa_cons (pe_callB call_isEv (by rfl) T.n_isinstance (by decide +kernel) (pa_cons (pv 0) (pa_cons (pe_cls T.m_BadCause) pa_nil))) (pa_cons (pe_callB call_isEv (by rfl) T.n_isinstance (by decide +kernel) (pa_cons (pv 0) (pa_cons (pe_cls T.m_BadCustom) pa_nil))) pa_nil))))))
        (pss_cons (ps_set (i := 1) sc_classes.nd rfl (Or.inl rfl) (pe_op op_cat (pv 1) (pe_lst (pa_cons (pe_callB call_isEv (by rfl) T.n_isinstance (by decide +kernel) (pa_cons (pv 0) (pa_cons (pe_cls T.m_BadLater) pa_nil))) (pa_cons (pe_callB call_isEv (by rfl) T.n_isinstance (by decide +kernel) (pa_cons (pv 0) (pa_cons (pe_cls T.m_NotMember) pa_nil))) (pa_cons (pe_callB call_isEv (by rfl) T.n_isinstance (by decide +kernel) (pa_cons (pv 0) (pa_cons (pe_cls T.m_NoRoom) pa_nil))) (pa_cons (pe_callB call_isEv (by rfl) T.n_isinstance (by decide +kernel) (pa_cons (pv 0) (pa_cons (pe_cls T.m_BadWatch) pa_nil))) pa_nil)))))))
        (pss_cons (ps_set (i := 1) sc_classes.nd rfl (Or.inl rfl) (pe_op op_cat (pv 1) (pe_lst (pa_cons (pe_callB call_isEv (by rfl) T.n_isinstance (by decide +kernel) (pa_cons (pv 0) (pa_cons (pe_cls T.m_NotTrue) pa_nil))) (pa_cons (pe_callB call_isEv (by rfl) T.n_isinstance (by decide +kernel) (pa_cons (pv 0) (pa_cons (pe_cls T.m_BadCase) pa_nil))) (pa_cons (pe_callB call_isEv (by rfl) T.n_isinstance (by decide +kernel) (pa_cons (pv 0) (pa_cons (pe_cls T.m_BadChange) pa_nil))) pa_nil))))))
        (pss_one (ps_ret (pe_op op_cat (pv 1) (pe_lst (pa_cons (pe_callB call_isEv (by rfl) T.n_isinstance (by decide +kernel) (pa_cons (pv 0) (pa_cons (pe_cls T.m_BadPool) pa_nil))) pa_nil))))))))))))))), ?_⟩
    refine seq_b (bs := ([decide (c = "BadCustoms"), decide (c = "BadLives"), decide (c = "BadRecord"), decide (c = "NoRow")] : List Bool)) (fun l => [some (.ref e), some (.ref l)]) (fun _ => rfl) ?_ ?_
    · exact (ubl_lst (ubs_cons (ub_is rfl hE (T.x_ c hc) (T.kit c hc "BadCustoms" (by decide +kernel))) (ubs_cons (ub_is rfl hE (T.x_ c hc) (T.kit c hc "BadLives" (by decide +kernel))) (ubs_cons (ub_is rfl hE (T.x_ c hc) (T.kit c hc "BadRecord" (by decide +kernel))) (ubs_cons (ub_is rfl hE (T.x_ c hc) (T.kit c hc "NoRow" (by decide +kernel))) ubs_nil)))) (sz (Nat.le_of_ble_eq_true rfl)))
    intro l1 H1 S1 L1
    have hE := hE.same S1
    have L1 : H1 l1 = some (.lst (([decide (c = "BadCustoms"), decide (c = "BadLives"), decide (c = "BadRecord"), decide (c = "NoRow")] : List Bool).map V.bl)) := L1
    refine seq_b (bs := ([decide (c = "BadCustoms"), decide (c = "BadLives"), decide (c = "BadRecord"), decide (c = "NoRow")] : List Bool) ++ [decide (c = "NoLife"), decide (c = "NoPerson"), decide (c = "OtherLives"), decide (c = "BadKin")]) (fun l => [some (.ref e), some (.ref l)]) (fun _ => rfl) ?_ ?_
    · exact (ubl_cat rfl L1 (ubl_lst (ubs_cons (ub_is rfl hE (T.x_ c hc) (T.kit c hc "NoLife" (by decide +kernel))) (ubs_cons (ub_is rfl hE (T.x_ c hc) (T.kit c hc "NoPerson" (by decide +kernel))) (ubs_cons (ub_is rfl hE (T.x_ c hc) (T.kit c hc "OtherLives" (by decide +kernel))) (ubs_cons (ub_is rfl hE (T.x_ c hc) (T.kit c hc "BadKin" (by decide +kernel))) ubs_nil)))) (sz (Nat.le_of_ble_eq_true rfl))) (sz2 (Nat.le_of_ble_eq_true rfl)))
    intro l2 H2 S2 L2
    have hE := hE.same S2
    have L2 : H2 l2 = some (.lst (([decide (c = "BadCustoms"), decide (c = "BadLives"), decide (c = "BadRecord"), decide (c = "NoRow"), decide (c = "NoLife"), decide (c = "NoPerson"), decide (c = "OtherLives"), decide (c = "BadKin")] : List Bool).map V.bl)) := L2
    refine seq_b (bs := ([decide (c = "BadCustoms"), decide (c = "BadLives"), decide (c = "BadRecord"), decide (c = "NoRow"), decide (c = "NoLife"), decide (c = "NoPerson"), decide (c = "OtherLives"), decide (c = "BadKin")] : List Bool) ++ [decide (c = "BadDate"), decide (c = "BadTaker"), decide (c = "BadCondition")]) (fun l => [some (.ref e), some (.ref l)]) (fun _ => rfl) ?_ ?_
    · exact (ubl_cat rfl L2 (ubl_lst (ubs_cons (ub_is rfl hE (T.x_ c hc) (T.kit c hc "BadDate" (by decide +kernel))) (ubs_cons (ub_is rfl hE (T.x_ c hc) (T.kit c hc "BadTaker" (by decide +kernel))) (ubs_cons (ub_is rfl hE (T.x_ c hc) (T.kit c hc "BadCondition" (by decide +kernel))) ubs_nil))) (sz (Nat.le_of_ble_eq_true rfl))) (sz2 (Nat.le_of_ble_eq_true rfl)))
    intro l3 H3 S3 L3
    have hE := hE.same S3
    have L3 : H3 l3 = some (.lst (([decide (c = "BadCustoms"), decide (c = "BadLives"), decide (c = "BadRecord"), decide (c = "NoRow"), decide (c = "NoLife"), decide (c = "NoPerson"), decide (c = "OtherLives"), decide (c = "BadKin"), decide (c = "BadDate"), decide (c = "BadTaker"), decide (c = "BadCondition")] : List Bool).map V.bl)) := L3
    refine seq_b (bs := ([decide (c = "BadCustoms"), decide (c = "BadLives"), decide (c = "BadRecord"), decide (c = "NoRow"), decide (c = "NoLife"), decide (c = "NoPerson"), decide (c = "OtherLives"), decide (c = "BadKin"), decide (c = "BadDate"), decide (c = "BadTaker"), decide (c = "BadCondition")] : List Bool) ++ [decide (c = "BadGift"), decide (c = "BadDeed"), decide (c = "NoGift"), decide (c = "BadYear")]) (fun l => [some (.ref e), some (.ref l)]) (fun _ => rfl) ?_ ?_
    · exact (ubl_cat rfl L3 (ubl_lst (ubs_cons (ub_is rfl hE (T.x_ c hc) (T.kit c hc "BadGift" (by decide +kernel))) (ubs_cons (ub_is rfl hE (T.x_ c hc) (T.kit c hc "BadDeed" (by decide +kernel))) (ubs_cons (ub_is rfl hE (T.x_ c hc) (T.kit c hc "NoGift" (by decide +kernel))) (ubs_cons (ub_is rfl hE (T.x_ c hc) (T.kit c hc "BadYear" (by decide +kernel))) ubs_nil)))) (sz (Nat.le_of_ble_eq_true rfl))) (sz2 (Nat.le_of_ble_eq_true rfl)))
    intro l4 H4 S4 L4
    have hE := hE.same S4
    have L4 : H4 l4 = some (.lst (([decide (c = "BadCustoms"), decide (c = "BadLives"), decide (c = "BadRecord"), decide (c = "NoRow"), decide (c = "NoLife"), decide (c = "NoPerson"), decide (c = "OtherLives"), decide (c = "BadKin"), decide (c = "BadDate"), decide (c = "BadTaker"), decide (c = "BadCondition"), decide (c = "BadGift"), decide (c = "BadDeed"), decide (c = "NoGift"), decide (c = "BadYear")] : List Bool).map V.bl)) := L4
    refine seq_b (bs := ([decide (c = "BadCustoms"), decide (c = "BadLives"), decide (c = "BadRecord"), decide (c = "NoRow"), decide (c = "NoLife"), decide (c = "NoPerson"), decide (c = "OtherLives"), decide (c = "BadKin"), decide (c = "BadDate"), decide (c = "BadTaker"), decide (c = "BadCondition"), decide (c = "BadGift"), decide (c = "BadDeed"), decide (c = "NoGift"), decide (c = "BadYear")] : List Bool) ++ [decide (c = "BadSystem"), decide (c = "BadTimes"), decide (c = "OtherCount")]) (fun l => [some (.ref e), some (.ref l)]) (fun _ => rfl) ?_ ?_
    · exact (ubl_cat rfl L4 (ubl_lst (ubs_cons (ub_is rfl hE (T.x_ c hc) (T.kit c hc "BadSystem" (by decide +kernel))) (ubs_cons (ub_is rfl hE (T.x_ c hc) (T.kit c hc "BadTimes" (by decide +kernel))) (ubs_cons (ub_is rfl hE (T.x_ c hc) (T.kit c hc "OtherCount" (by decide +kernel))) ubs_nil))) (sz (Nat.le_of_ble_eq_true rfl))) (sz2 (Nat.le_of_ble_eq_true rfl)))
    intro l5 H5 S5 L5
    have hE := hE.same S5
    have L5 : H5 l5 = some (.lst (([decide (c = "BadCustoms"), decide (c = "BadLives"), decide (c = "BadRecord"), decide (c = "NoRow"), decide (c = "NoLife"), decide (c = "NoPerson"), decide (c = "OtherLives"), decide (c = "BadKin"), decide (c = "BadDate"), decide (c = "BadTaker"), decide (c = "BadCondition"), decide (c = "BadGift"), decide (c = "BadDeed"), decide (c = "NoGift"), decide (c = "BadYear"), decide (c = "BadSystem"), decide (c = "BadTimes"), decide (c = "OtherCount")] : List Bool).map V.bl)) := L5
    refine seq_b (bs := ([decide (c = "BadCustoms"), decide (c = "BadLives"), decide (c = "BadRecord"), decide (c = "NoRow"), decide (c = "NoLife"), decide (c = "NoPerson"), decide (c = "OtherLives"), decide (c = "BadKin"), decide (c = "BadDate"), decide (c = "BadTaker"), decide (c = "BadCondition"), decide (c = "BadGift"), decide (c = "BadDeed"), decide (c = "NoGift"), decide (c = "BadYear"), decide (c = "BadSystem"), decide (c = "BadTimes"), decide (c = "OtherCount")] : List Bool) ++ [decide (c = "NoInstant"), decide (c = "NoTimes"), decide (c = "BadFormula")]) (fun l => [some (.ref e), some (.ref l)]) (fun _ => rfl) ?_ ?_
    · exact (ubl_cat rfl L5 (ubl_lst (ubs_cons (ub_is rfl hE (T.x_ c hc) (T.kit c hc "NoInstant" (by decide +kernel))) (ubs_cons (ub_is rfl hE (T.x_ c hc) (T.kit c hc "NoTimes" (by decide +kernel))) (ubs_cons (ub_is rfl hE (T.x_ c hc) (T.kit c hc "BadFormula" (by decide +kernel))) ubs_nil))) (sz (Nat.le_of_ble_eq_true rfl))) (sz2 (Nat.le_of_ble_eq_true rfl)))
    intro l6 H6 S6 L6
    have hE := hE.same S6
    have L6 : H6 l6 = some (.lst (([decide (c = "BadCustoms"), decide (c = "BadLives"), decide (c = "BadRecord"), decide (c = "NoRow"), decide (c = "NoLife"), decide (c = "NoPerson"), decide (c = "OtherLives"), decide (c = "BadKin"), decide (c = "BadDate"), decide (c = "BadTaker"), decide (c = "BadCondition"), decide (c = "BadGift"), decide (c = "BadDeed"), decide (c = "NoGift"), decide (c = "BadYear"), decide (c = "BadSystem"), decide (c = "BadTimes"), decide (c = "OtherCount"), decide (c = "NoInstant"), decide (c = "NoTimes"), decide (c = "BadFormula")] : List Bool).map V.bl)) := L6
    refine seq_b (bs := ([decide (c = "BadCustoms"), decide (c = "BadLives"), decide (c = "BadRecord"), decide (c = "NoRow"), decide (c = "NoLife"), decide (c = "NoPerson"), decide (c = "OtherLives"), decide (c = "BadKin"), decide (c = "BadDate"), decide (c = "BadTaker"), decide (c = "BadCondition"), decide (c = "BadGift"), decide (c = "BadDeed"), decide (c = "NoGift"), decide (c = "BadYear"), decide (c = "BadSystem"), decide (c = "BadTimes"), decide (c = "OtherCount"), decide (c = "NoInstant"), decide (c = "NoTimes"), decide (c = "BadFormula")] : List Bool) ++ [decide (c = "BadText"), decide (c = "BadMeasuring"), decide (c = "BadYears")]) (fun l => [some (.ref e), some (.ref l)]) (fun _ => rfl) ?_ ?_
    · exact (ubl_cat rfl L6 (ubl_lst (ubs_cons (ub_is rfl hE (T.x_ c hc) (T.kit c hc "BadText" (by decide +kernel))) (ubs_cons (ub_is rfl hE (T.x_ c hc) (T.kit c hc "BadMeasuring" (by decide +kernel))) (ubs_cons (ub_is rfl hE (T.x_ c hc) (T.kit c hc "BadYears" (by decide +kernel))) ubs_nil))) (sz (Nat.le_of_ble_eq_true rfl))) (sz2 (Nat.le_of_ble_eq_true rfl)))
    intro l7 H7 S7 L7
    have hE := hE.same S7
    have L7 : H7 l7 = some (.lst (([decide (c = "BadCustoms"), decide (c = "BadLives"), decide (c = "BadRecord"), decide (c = "NoRow"), decide (c = "NoLife"), decide (c = "NoPerson"), decide (c = "OtherLives"), decide (c = "BadKin"), decide (c = "BadDate"), decide (c = "BadTaker"), decide (c = "BadCondition"), decide (c = "BadGift"), decide (c = "BadDeed"), decide (c = "NoGift"), decide (c = "BadYear"), decide (c = "BadSystem"), decide (c = "BadTimes"), decide (c = "OtherCount"), decide (c = "NoInstant"), decide (c = "NoTimes"), decide (c = "BadFormula"), decide (c = "BadText"), decide (c = "BadMeasuring"), decide (c = "BadYears")] : List Bool).map V.bl)) := L7
    refine seq_b (bs := ([decide (c = "BadCustoms"), decide (c = "BadLives"), decide (c = "BadRecord"), decide (c = "NoRow"), decide (c = "NoLife"), decide (c = "NoPerson"), decide (c = "OtherLives"), decide (c = "BadKin"), decide (c = "BadDate"), decide (c = "BadTaker"), decide (c = "BadCondition"), decide (c = "BadGift"), decide (c = "BadDeed"), decide (c = "NoGift"), decide (c = "BadYear"), decide (c = "BadSystem"), decide (c = "BadTimes"), decide (c = "OtherCount"), decide (c = "NoInstant"), decide (c = "NoTimes"), decide (c = "BadFormula"), decide (c = "BadText"), decide (c = "BadMeasuring"), decide (c = "BadYears")] : List Bool) ++ [decide (c = "NotAClass"), decide (c = "BadCause"), decide (c = "BadCustom")]) (fun l => [some (.ref e), some (.ref l)]) (fun _ => rfl) ?_ ?_
    · exact (ubl_cat rfl L7 (ubl_lst (ubs_cons (ub_is rfl hE (T.x_ c hc) (T.kit c hc "NotAClass" (by decide +kernel))) (ubs_cons (ub_is rfl hE (T.x_ c hc) (T.kit c hc "BadCause" (by decide +kernel))) (ubs_cons (ub_is rfl hE (T.x_ c hc) (T.kit c hc "BadCustom" (by decide +kernel))) ubs_nil))) (sz (Nat.le_of_ble_eq_true rfl))) (sz2 (Nat.le_of_ble_eq_true rfl)))
    intro l8 H8 S8 L8
    have hE := hE.same S8
    have L8 : H8 l8 = some (.lst (([decide (c = "BadCustoms"), decide (c = "BadLives"), decide (c = "BadRecord"), decide (c = "NoRow"), decide (c = "NoLife"), decide (c = "NoPerson"), decide (c = "OtherLives"), decide (c = "BadKin"), decide (c = "BadDate"), decide (c = "BadTaker"), decide (c = "BadCondition"), decide (c = "BadGift"), decide (c = "BadDeed"), decide (c = "NoGift"), decide (c = "BadYear"), decide (c = "BadSystem"), decide (c = "BadTimes"), decide (c = "OtherCount"), decide (c = "NoInstant"), decide (c = "NoTimes"), decide (c = "BadFormula"), decide (c = "BadText"), decide (c = "BadMeasuring"), decide (c = "BadYears"), decide (c = "NotAClass"), decide (c = "BadCause"), decide (c = "BadCustom")] : List Bool).map V.bl)) := L8
    refine seq_b (bs := ([decide (c = "BadCustoms"), decide (c = "BadLives"), decide (c = "BadRecord"), decide (c = "NoRow"), decide (c = "NoLife"), decide (c = "NoPerson"), decide (c = "OtherLives"), decide (c = "BadKin"), decide (c = "BadDate"), decide (c = "BadTaker"), decide (c = "BadCondition"), decide (c = "BadGift"), decide (c = "BadDeed"), decide (c = "NoGift"), decide (c = "BadYear"), decide (c = "BadSystem"), decide (c = "BadTimes"), decide (c = "OtherCount"), decide (c = "NoInstant"), decide (c = "NoTimes"), decide (c = "BadFormula"), decide (c = "BadText"), decide (c = "BadMeasuring"), decide (c = "BadYears"), decide (c = "NotAClass"), decide (c = "BadCause"), decide (c = "BadCustom")] : List Bool) ++ [decide (c = "BadLater"), decide (c = "NotMember"), decide (c = "NoRoom"), decide (c = "BadWatch")]) (fun l => [some (.ref e), some (.ref l)]) (fun _ => rfl) ?_ ?_
    · exact (ubl_cat rfl L8 (ubl_lst (ubs_cons (ub_is rfl hE (T.x_ c hc) (T.kit c hc "BadLater" (by decide +kernel))) (ubs_cons (ub_is rfl hE (T.x_ c hc) (T.kit c hc "NotMember" (by decide +kernel))) (ubs_cons (ub_is rfl hE (T.x_ c hc) (T.kit c hc "NoRoom" (by decide +kernel))) (ubs_cons (ub_is rfl hE (T.x_ c hc) (T.kit c hc "BadWatch" (by decide +kernel))) ubs_nil)))) (sz (Nat.le_of_ble_eq_true rfl))) (sz2 (Nat.le_of_ble_eq_true rfl)))
    intro l9 H9 S9 L9
    have hE := hE.same S9
    have L9 : H9 l9 = some (.lst (([decide (c = "BadCustoms"), decide (c = "BadLives"), decide (c = "BadRecord"), decide (c = "NoRow"), decide (c = "NoLife"), decide (c = "NoPerson"), decide (c = "OtherLives"), decide (c = "BadKin"), decide (c = "BadDate"), decide (c = "BadTaker"), decide (c = "BadCondition"), decide (c = "BadGift"), decide (c = "BadDeed"), decide (c = "NoGift"), decide (c = "BadYear"), decide (c = "BadSystem"), decide (c = "BadTimes"), decide (c = "OtherCount"), decide (c = "NoInstant"), decide (c = "NoTimes"), decide (c = "BadFormula"), decide (c = "BadText"), decide (c = "BadMeasuring"), decide (c = "BadYears"), decide (c = "NotAClass"), decide (c = "BadCause"), decide (c = "BadCustom"), decide (c = "BadLater"), decide (c = "NotMember"), decide (c = "NoRoom"), decide (c = "BadWatch")] : List Bool).map V.bl)) := L9
    refine seq_b (bs := ([decide (c = "BadCustoms"), decide (c = "BadLives"), decide (c = "BadRecord"), decide (c = "NoRow"), decide (c = "NoLife"), decide (c = "NoPerson"), decide (c = "OtherLives"), decide (c = "BadKin"), decide (c = "BadDate"), decide (c = "BadTaker"), decide (c = "BadCondition"), decide (c = "BadGift"), decide (c = "BadDeed"), decide (c = "NoGift"), decide (c = "BadYear"), decide (c = "BadSystem"), decide (c = "BadTimes"), decide (c = "OtherCount"), decide (c = "NoInstant"), decide (c = "NoTimes"), decide (c = "BadFormula"), decide (c = "BadText"), decide (c = "BadMeasuring"), decide (c = "BadYears"), decide (c = "NotAClass"), decide (c = "BadCause"), decide (c = "BadCustom"), decide (c = "BadLater"), decide (c = "NotMember"), decide (c = "NoRoom"), decide (c = "BadWatch")] : List Bool) ++ [decide (c = "NotTrue"), decide (c = "BadCase"), decide (c = "BadChange")]) (fun l => [some (.ref e), some (.ref l)]) (fun _ => rfl) ?_ ?_
    · exact (ubl_cat rfl L9 (ubl_lst (ubs_cons (ub_is rfl hE (T.x_ c hc) (T.kit c hc "NotTrue" (by decide +kernel))) (ubs_cons (ub_is rfl hE (T.x_ c hc) (T.kit c hc "BadCase" (by decide +kernel))) (ubs_cons (ub_is rfl hE (T.x_ c hc) (T.kit c hc "BadChange" (by decide +kernel))) ubs_nil))) (sz (Nat.le_of_ble_eq_true rfl))) (sz2 (Nat.le_of_ble_eq_true rfl)))
    intro l10 H10 S10 L10
    have hE := hE.same S10
    have L10 : H10 l10 = some (.lst (([decide (c = "BadCustoms"), decide (c = "BadLives"), decide (c = "BadRecord"), decide (c = "NoRow"), decide (c = "NoLife"), decide (c = "NoPerson"), decide (c = "OtherLives"), decide (c = "BadKin"), decide (c = "BadDate"), decide (c = "BadTaker"), decide (c = "BadCondition"), decide (c = "BadGift"), decide (c = "BadDeed"), decide (c = "NoGift"), decide (c = "BadYear"), decide (c = "BadSystem"), decide (c = "BadTimes"), decide (c = "OtherCount"), decide (c = "NoInstant"), decide (c = "NoTimes"), decide (c = "BadFormula"), decide (c = "BadText"), decide (c = "BadMeasuring"), decide (c = "BadYears"), decide (c = "NotAClass"), decide (c = "BadCause"), decide (c = "BadCustom"), decide (c = "BadLater"), decide (c = "NotMember"), decide (c = "NoRoom"), decide (c = "BadWatch"), decide (c = "NotTrue"), decide (c = "BadCase"), decide (c = "BadChange")] : List Bool).map V.bl)) := L10
    refine ret_b (bs := ([decide (c = "BadCustoms"), decide (c = "BadLives"), decide (c = "BadRecord"), decide (c = "NoRow"), decide (c = "NoLife"), decide (c = "NoPerson"), decide (c = "OtherLives"), decide (c = "BadKin"), decide (c = "BadDate"), decide (c = "BadTaker"), decide (c = "BadCondition"), decide (c = "BadGift"), decide (c = "BadDeed"), decide (c = "NoGift"), decide (c = "BadYear"), decide (c = "BadSystem"), decide (c = "BadTimes"), decide (c = "OtherCount"), decide (c = "NoInstant"), decide (c = "NoTimes"), decide (c = "BadFormula"), decide (c = "BadText"), decide (c = "BadMeasuring"), decide (c = "BadYears"), decide (c = "NotAClass"), decide (c = "BadCause"), decide (c = "BadCustom"), decide (c = "BadLater"), decide (c = "NotMember"), decide (c = "NoRoom"), decide (c = "BadWatch"), decide (c = "NotTrue"), decide (c = "BadCase"), decide (c = "BadChange")] : List Bool) ++ [decide (c = "BadPool")]) ?_ ?_
    · exact (ubl_cat rfl L10 (ubl_lst (ubs_cons (ub_is rfl hE (T.x_ c hc) (T.kit c hc "BadPool" (by decide +kernel))) ubs_nil) (sz (Nat.le_of_ble_eq_true rfl))) (sz2 (Nat.le_of_ble_eq_true rfl)))
    exact fun l H2 S L => k l H2 ((((((((((S1.trans S2).trans S3).trans S4).trans S5).trans S6).trans S7).trans S8).trans S9).trans S10).trans S) L
theorem cal_classes (T : Txt P w K mg cl) : Cal P w K mg base CX0 1 "_law_classes" ["_law_e"] (spClasses K cl) := by
  obtain ⟨f, fd, F, m⟩ := T.d_classes
  exact ⟨f, fd, ok_classes F T, m, F.kp, F.binds fun _ _ _ _ _ _ us hl => match us, hl with | [_], _ => rfl⟩
end
end My
set_option Elab.async false
set_option linter.all false
set_option maxRecDepth 100000
set_option maxHeartbeats 8000000
namespace My
open PySem L2 Dw
open C8 (pss_cut tCut)
theorem iteRe {α : Type} [DecidableEq α] {x : α} {A B : Prop} (h : A) : if decide (x = x) = true then A else B := by rw [if_pos (decide_eq_true rfl)]; exact h
def hb (st : Stmt) (i : Nat) : List Stmt := match st with
  | .Try _ hs _ _ _ => (match hs[i]? with
    | some (.ExceptHandler _ _ b _) => b
    | none => [])
  | _ => []
def spRaised (K : PySem.W.Frag) : Sp := fun vs H Q _ => ∃ (n : Int) (x y : Str), vs = [.int n, .str x, .str y] ∧ n.natAbs.log2 < 1920 ∧ ∀ l H', Same H H' → H' l = some (.lst [.bl true, .bl true, .bl true]) → Q (.ref l) H'
section
variable {P : Program} {w : World} {K : PySem.W.Frag} {mg : Str → Option Value} {base : Heap} {cl : String → Addr}
theorem su1 (T : Txt P w K mg cl) (f : Addr) (cdv : Value) (A : Around) (outer : List Env) (s : Shared) (H : Hp) (E : XK) (a : Addr) (oe : Obj) (cls : Value) (d : Option Addr) (pn : List (Addr × Obj)) (hz : Zc cls d oe) (hf : ∃ vs, oe.data = .fields vs) :
    PSs ((cxOf CX0 P w K mg base ["_law_at", "_law_word_here", "_law_name", "_law_told", "_law_e"] "_law_raised" (defScope s_raised) f cdv A outer s H E).nox.suite a ((a, oe) :: pn)) (hb ((defBody s_raised).getD 1 (.Pass ⟨0, 0, 0, 0⟩)) 1) (tDrop (tBM K "list" rAppend (tVar 3) (tCons (tAndV (tCB (rIsErr2 K cls d a) (tCons (tVar 4) (tCons (tC (.ref (cl "BadLives"))) tNil))) (tAndV (tOp rEq (tXf a cls d (cl "BadLives") "index" (tVar 4)) (tVar 0)) (tOp rEq (tXf a cls d (cl "BadLives") "what" (tVar 4)) (tVar 1)))) tNil))) := by
  refine pss_one (ps_expr ?_)
  refine pe_app1 ?_ ?_
  · exact pv 3
  · refine pa_cons ?_ pa_nil
    refine pe_and ?_ ?_
    · exact (pe_callB (call_isErr2K (K := K) (by rfl) hz hf) (by rfl) T.n_isinstance (by decide +kernel) (pa_cons (pv 4) (pa_cons (pe_cls T.m_BadLives) pa_nil)))
    refine pe_and ?_ ?_
    · exact pe_cmpR op_eq (pe_xf (ExcC.xf (T.x_ "BadLives" (by decide +kernel))) (T.xf_ ("BadLives", "index") (by decide +kernel)) hz hf (pv 4)) (pv 0) (nomark _)
    refine pe_one ?_
    exact pe_cmpR op_eq (pe_xf (ExcC.xf (T.x_ "BadLives" (by decide +kernel))) (T.xf_ ("BadLives", "what") (by decide +kernel)) hz hf (pv 4)) (pv 1) (nomark _)
theorem su2 (T : Txt P w K mg cl) (f : Addr) (cdv : Value) (A : Around) (outer : List Env) (s : Shared) (H : Hp) (E : XK) (a : Addr) (oe : Obj) (cls : Value) (d : Option Addr) (pn : List (Addr × Obj)) (hz : Zc cls d oe) (hf : ∃ vs, oe.data = .fields vs) :
    PSs ((cxOf CX0 P w K mg base ["_law_at", "_law_word_here", "_law_name", "_law_told", "_law_e"] "_law_raised" (defScope s_raised) f cdv A outer s H E).nox.suite a ((a, oe) :: pn)) (hb ((defBody s_raised).getD 2 (.Pass ⟨0, 0, 0, 0⟩)) 1) (tDrop (tBM K "list" rAppend (tVar 3) (tCons (tAndV (tCB (rIsErr2 K cls d a) (tCons (tVar 4) (tCons (tC (.ref (cl "NoPerson"))) tNil))) (tCB (rIsErr2 K cls d a) (tCons (tVar 4) (tCons (tC (.ty "ValueError")) tNil)))) tNil))) := by
  refine pss_one (ps_expr ?_)
  refine pe_app1 ?_ ?_
  · exact pv 3
  · refine pa_cons ?_ pa_nil
    refine pe_and ?_ ?_
    · exact (pe_callB (call_isErr2K (K := K) (by rfl) hz hf) (by rfl) T.n_isinstance (by decide +kernel) (pa_cons (pv 4) (pa_cons (pe_cls T.m_NoPerson) pa_nil)))
    refine pe_one ?_
    exact (pe_callB (call_isErr2K (K := K) (by rfl) hz hf) (by rfl) T.n_isinstance (by decide +kernel) (pa_cons (pv 4) (pa_cons (pe_ty "ValueError" T.n_ValueError) pa_nil)))
theorem su3 (T : Txt P w K mg cl) (f : Addr) (cdv : Value) (A : Around) (outer : List Env) (s : Shared) (H : Hp) (E : XK) (a : Addr) (oe : Obj) (cls : Value) (d : Option Addr) (pn : List (Addr × Obj)) (hz : Zc cls d oe) (hf : ∃ vs, oe.data = .fields vs) :
    PSs ((cxOf CX0 P w K mg base ["_law_at", "_law_word_here", "_law_name", "_law_told", "_law_e"] "_law_raised" (defScope s_raised) f cdv A outer s H E).nox.suite a ((a, oe) :: pn)) (hb ((defBody s_raised).getD 3 (.Pass ⟨0, 0, 0, 0⟩)) 1) (tDrop (tBM K "list" rAppend (tVar 3) (tCons (tCB (rIsErr2 K cls d a) (tCons (tVar 4) (tCons (tC (.ref (cl "NoRow"))) tNil))) tNil))) := by
  refine pss_one (ps_expr ?_)
  refine pe_app1 ?_ ?_
  · exact pv 3
  · refine pa_cons ?_ pa_nil
    exact (pe_callB (call_isErr2K (K := K) (by rfl) hz hf) (by rfl) T.n_isinstance (by decide +kernel) (pa_cons (pv 4) (pa_cons (pe_cls T.m_NoRow) pa_nil)))
theorem ok_raised {f : Addr} {fd : FuncData} (F : Fun K "_law_raised" "_law_raised" s_raised f fd) (T : Txt P w K mg cl) : FnOk P w K mg base CX0 3 f fd ["_law_at", "_law_word_here", "_law_name"] (spRaised K) := by
  refine F.ok sc_raised (fun vs H Q E h => ?_) (fun cdv A outer s H vs Q E hr h => ?_)
  · obtain ⟨n, x, y, rfl, _⟩ := h
    rfl
  · obtain ⟨n, x, y, rfl, hn, k⟩ := h
    have kBL : PySem.W.kitOne K (.ref (cl "BadLives")) (.ref (cl "BadLives")) = some true := T.kit "BadLives" (by decide +kernel) "BadLives" (by decide +kernel)
    have kNP : PySem.W.kitOne K (.ref (cl "NoPerson")) (.ref (cl "NoPerson")) = some true := T.kit "NoPerson" (by decide +kernel) "NoPerson" (by decide +kernel)
    have kNR : PySem.W.kitOne K (.ref (cl "NoRow")) (.ref (cl "NoRow")) = some true := T.kit "NoRow" (by decide +kernel) "NoRow" (by decide +kernel)
    have kNV : PySem.W.kitOne K (.ref (cl "NoPerson")) (.type "ValueError") = some true := T.kitv "NoPerson" (by decide +kernel)
    refine ⟨_, (pss_cons (ps_set (i := 3) sc_raised.nd rfl (Or.inl rfl) (pe_lst pa_nil))
        (pss_cut (ps_try_as2 (i := 4) (Wo := fun _ _ _ _ => False) rfl rfl sc_raised.nd rfl rfl ⟨rfl, by decide, Or.inl T.m_BadRecord⟩ ⟨rfl, by decide, Or.inl T.m_DeedError⟩ takes0
            (fun W pn xe tk _ => (pss_one (ps_raiseErr (k := 1) (okV := okVI) rfl T.e_BadLives okVI_ok T.m_BadLives (hr.mono (by decide)) tk (by exact (pa_cons (pv 0) (pa_cons (pv 1) pa_nil))))))
            (fun a oe cls d pn hz hf => (pss_one (ps_ret (pe_lst (pa_cons pe_int pa_nil)))))
            (fun a oe cls d pn hz hf => (su1 T f cdv A outer s H E a oe cls d pn hz hf)))
        (pss_cut (ps_try_as2 (i := 4) (Wo := fun _ _ _ _ => False) rfl rfl sc_raised.nd rfl rfl ⟨rfl, by decide, Or.inl T.m_NoLife⟩ ⟨rfl, by decide, Or.inl T.m_DeedError⟩ takes0
            (fun W pn xe tk _ => (pss_one (ps_raiseErr (k := 1) (okV := fun _ => True) rfl T.e_NoPerson (fun _ _ _ _ => trivial) T.m_NoPerson (hr.mono (by decide)) tk (by exact (pa_cons (pv 2) pa_nil)))))
            (fun a oe cls d pn hz hf => (pss_one (ps_ret (pe_lst (pa_cons pe_int pa_nil)))))
            (fun a oe cls d pn hz hf => (su2 T f cdv A outer s H E a oe cls d pn hz hf)))
        (pss_cut (ps_try_as2 (i := 4) (Wo := fun _ _ _ _ => False) rfl rfl sc_raised.nd rfl rfl ⟨rfl, by decide, Or.inl T.m_OtherLives⟩ ⟨rfl, by decide, Or.inl T.m_DeedError⟩ takes0
            (fun W pn xe tk _ => (pss_one (ps_raise rfl tk (pmk_ex0 (bmB := He.veBase) PySem.F.excBase_ValueError T.p_NoRow T.m_NoRow T.pk_NoRow (raises_own (And.left (T.r_ "NoRow" (by decide +kernel))) (And.right (T.r_ "NoRow" (by decide +kernel))))))))
            (fun a oe cls d pn hz hf => (pss_one (ps_ret (pe_lst (pa_cons pe_int pa_nil)))))
            (fun a oe cls d pn hz hf => (su3 T f cdv A outer s H E a oe cls d pn hz hf)))
        (pss_one (ps_ret (pv 3))))))), ?_⟩
    refine ⟨by show 0 ≤ sizeLine; decide, fun l hl => ?_⟩
    refine ⟨fun σ' H' => σ' = [some (.int n), some (.str x), some (.str y), some (.ref l), none] ∧ Same H H' ∧ H' l = some (.lst [.bl true]), ?_, ?_⟩
    · refine ⟨_, rfl, _, rfl, rfl, ⟨n, _, rfl, hn⟩, fun d hd => ⟨false, T.q_BL_BR, fun q => Bool.noConfusion q, fun _ => ⟨true, T.q_BL_DE, fun _ a na => ?_, fun q => Bool.noConfusion q⟩⟩⟩
      have nld : l ≠ d := ne_of_none upd_same hd
      have hl1 : ∀ o, (upd (upd H l (.lst [])) d o) l = some (.lst []) := fun o => by rw [upd_ne nld]; exact upd_same
      refine ⟨_, rfl, .inl ⟨rfl, _, SqL.of (hl1 _)⟩, _, rfl, _, _, true, _, rfl, rfl, fun dd q => by cases q; exact ⟨_, upd_same⟩, T.x_ "BadLives" (by decide +kernel), .own _, kBL, _, rfl, ?_⟩
      refine iteT ?_
      refine ⟨_, rfl, rfl, rfl, _, _, _, rfl, upd_same, rfl, _, rfl, rfl, _, rfl, ?_⟩
      refine iteRe ?_
      refine ⟨_, rfl, rfl, rfl, _, _, _, rfl, upd_same, rfl, _, rfl, rfl, ?_⟩
      refine ⟨l, _, _, rfl, rfl, hl1 _, by decide, ?_⟩
      rw [decide_eq_true rfl]
      refine ⟨rfl, fun b o e => ?_, upd_same⟩
      have nbl : b ≠ l := ne_of_none e hl
      rw [upd_ne nbl, upd_ne (ne_of_none (show (upd H l (.lst [])) b = some o by rw [upd_ne nbl]; exact e) hd), upd_ne nbl]
      exact e
    · rintro σ' H1 ⟨rfl, S1, L1⟩
      refine ⟨fun σ' H' => σ' = [some (.int n), some (.str x), some (.str y), some (.ref l), none] ∧ Same H H' ∧ H' l = some (.lst [.bl true, .bl true]), ?_, ?_⟩
      · refine ⟨_, rfl, rfl, trivial, fun d hd => ⟨false, T.q_NP_NL, fun q => Bool.noConfusion q, fun _ => ⟨true, T.q_NP_DE, fun _ a na => ?_, fun q => Bool.noConfusion q⟩⟩⟩
        have nld : l ≠ d := ne_of_none L1 hd
        have hl1 : ∀ o, (upd H1 d o) l = some (.lst [.bl true]) := fun o => by rw [upd_ne nld]; exact L1
        refine ⟨_, rfl, .inl ⟨rfl, _, SqL.of (hl1 _)⟩, _, rfl, _, _, true, _, rfl, rfl, fun dd q => by cases q; exact ⟨_, upd_same⟩, T.x_ "NoPerson" (by decide +kernel), .own _, kNP, _, rfl, ?_⟩
        refine iteT ?_
        refine ⟨_, rfl, _, _, true, _, rfl, rfl, fun dd q => by cases q; exact ⟨_, upd_same⟩, T.x_ "NoPerson" (by decide +kernel), .ty _, kNV, ?_⟩
        refine ⟨l, _, _, rfl, rfl, hl1 _, by decide, rfl, fun b o e => ?_, upd_same⟩
        have nbl : b ≠ l := ne_of_none e hl
        rw [upd_ne nbl, upd_ne (ne_of_none (S1 _ _ e) hd)]
        exact S1 _ _ e
      · rintro σ' H2 ⟨rfl, S2, L2⟩
        refine ⟨fun σ' H' => σ' = [some (.int n), some (.str x), some (.str y), some (.ref l), none] ∧ Same H H' ∧ H' l = some (.lst [.bl true, .bl true, .bl true]), ?_, ?_⟩
        · refine ⟨false, T.q_NR_OL, fun q => Bool.noConfusion q, fun _ => ⟨true, T.q_NR_DE, fun _ a na => ?_, fun q => Bool.noConfusion q⟩⟩
          refine ⟨_, rfl, .inl ⟨rfl, _, SqL.of L2⟩, _, rfl, _, _, true, _, rfl, rfl, fun dd q => (by cases q), T.x_ "NoRow" (by decide +kernel), .own _, kNR, ?_⟩
          refine ⟨l, _, _, rfl, rfl, L2, by decide, rfl, fun b o e => ?_, upd_same⟩
          rw [upd_ne (ne_of_none e hl)]
          exact S2 _ _ e
        · rintro σ' H3 ⟨rfl, S3, L3⟩
          exact ⟨_, rfl, k l H3 S3 L3⟩
theorem cal_raised (T : Txt P w K mg cl) : Cal P w K mg base CX0 3 "_law_raised" ["_law_at", "_law_word_here", "_law_name"] (spRaised K) := by
  obtain ⟨f, fd, F, m⟩ := T.d_raised
  exact ⟨f, fd, ok_raised F T, m, F.kp, F.binds fun _ _ _ _ _ _ us hl => match us, hl with | [_, _, _], _ => rfl⟩
end
end My
set_option Elab.async false
set_option linter.all false
set_option maxRecDepth 100000
set_option maxHeartbeats 8000000
namespace My
open PySem L2 Dw
open C8 (pss_cut tCut)
def spLaw (K : PySem.W.Frag) : Sp := fun vs H Q _ => ∃ (a : Addr) (ns : List Int), vs = [.ref a] ∧ SqL K H a (ns.map V.int) ∧ ns.length ≤ 63 ∧ ∀ H', Q (.bl true) H'
theorem log_lt {n : Nat} (h : n < 2 ^ 100) : n.log2 < 1920 := by
  by_cases z : n = 0
  · subst z; decide
  · exact Nat.lt_trans ((Nat.log2_lt z).mpr h) (by decide)
theorem iteNT {A B : Prop} (h : B) : if (!true) = true then A else B := h
theorem iteV {D : PyData} {A B : Prop} (hs : SeqAt.shaped D = true) (h : B) : if (!PyData.eqv D D) = true then A else B := by rw [SeqAt.eqv_refl D (SeqAt.canLay_of_shaped hs)]; exact h
theorem dpBools {K : PySem.W.Frag} {H : Hp} : ∀ bs : List Bool, DpAll K H (bs.map V.bl) (bs.map PyData.bool)
  | [] => .nil
  | b :: bs => .cons (.bl b) (dpBools bs)
theorem depBools : ∀ bs : List Bool, PyData.depthAll (bs.map PyData.bool) = 0
  | [] => by simp [PyData.depthAll]
  | b :: bs => by simp [PyData.depthAll, PyData.depth, depBools bs]
theorem layBools : ∀ bs : List Bool, PyData.canLayAll0 (bs.map PyData.bool) = true
  | [] => by simp [PyData.canLayAll0]
  | b :: bs => by simp [PyData.canLayAll0, PyData.canLay0, layBools bs]
theorem shBools (bs : List Bool) : SeqAt.shaped (.list (bs.map PyData.bool)) = true := by simp [SeqAt.shaped, PyData.canLay0, PyData.depth, layBools bs, depBools bs]
theorem row35 : ∀ (i : Nat) (hi : i < 35), ((List.range 35).map fun (z : Nat) => V.bl (decide (V.int (0 + (z : Int)) = V.int (0 + (i : Int))))) = (c35.map fun z => decide (c35[i]'hi = z)).map V.bl := by decide +kernel
theorem iteRe' {c A B : Prop} [Decidable c] (hc : c) (h : A) : if decide c = true then A else B := by rw [if_pos (decide_eq_true hc)]; exact h
theorem cs_all : (cs_first ++ cs_second) ++ cs_third = c35 := by decide +kernel
section
variable {P : Program} {w : World} {K : PySem.W.Frag} {mg : Str → Option Value} {base : Heap} {cl : String → Addr}
theorem ok_law {f : Addr} {fd : FuncData} (F : Fun K "law" "law" s_law f fd) (T : Txt P w K mg cl) : FnOk P w K mg base CX0 8 f fd ["_law_script"] (spLaw K) := by
  refine F.ok sc_law (fun vs H Q E h => ?_) (fun cdv A outer s H vs Q E hr h => ?_)
  · obtain ⟨a, ns, rfl, _⟩ := h
    rfl
  · obtain ⟨a, ns, rfl, hS, hlen, k⟩ := h
    have C_digits : Cal P w K mg base CX0 1 "_law_digits" _ (spDigitsI K) := cal_digits T
    have C_next : Cal P w K mg base CX0 1 "_law_next" _ spNext := cal_next T
    have C_word : Cal P w K mg base CX0 2 "_law_word" _ spWord8 := cal_word T
    have C_first : Cal P w K mg base CX0 3 "_law_first" _ (spMk K cl cs_first) := cal_first T
    have C_second : Cal P w K mg base CX0 3 "_law_second" _ (spMk K cl cs_second) := cal_second T
    have C_third : Cal P w K mg base CX0 3 "_law_third" _ (spMk K cl cs_third) := cal_third T
    have C_classes : Cal P w K mg base CX0 1 "_law_classes" _ (spClasses K cl) := cal_classes T
    have C_raised : Cal P w K mg base CX0 3 "_law_raised" _ (spRaised K) := cal_raised T
    refine ⟨_, (pss_cons (ps_set (i := 1) sc_law.nd rfl (Or.inl rfl) (pe_cal C_digits (hr.mono (by decide)) (pa_cons (pv 0) (pa_cons pe_int pa_nil))))
        (pss_cons (ps_set (i := 2) sc_law.nd rfl (Or.inl rfl) (pe_op op_add (pe_op op_mul (pe_cal C_next (hr.mono (by decide)) (pa_cons (pv 1) (pa_cons pe_int pa_nil))) (pe_op op_pow pe_int pe_int)) (pe_cal C_next (hr.mono (by decide)) (pa_cons (pv 1) (pa_cons (pe_op op_pow pe_int pe_int) pa_nil)))))
        (pss_cons (ps_set (i := 3) sc_law.nd rfl (Or.inl rfl) (pe_cal C_word (hr.mono (by decide)) (pa_cons (pv 1) pa_nil)))
        (pss_cons (ps_set (i := 4) sc_law.nd rfl (Or.inl rfl) (pe_cal C_word (hr.mono (by decide)) (pa_cons (pv 1) pa_nil)))
        (pss_cons (ps_set (i := 5) sc_law.nd rfl (Or.inl rfl) (pe_op op_cat (pe_op op_cat (pe_cal C_first (hr.mono (by decide)) (pa_cons (pv 2) (pa_cons (pv 3) (pa_cons (pv 4) pa_nil)))) (pe_cal C_second (hr.mono (by decide)) (pa_cons (pv 2) (pa_cons (pv 3) (pa_cons (pv 4) pa_nil))))) (pe_cal C_third (hr.mono (by decide)) (pa_cons (pv 2) (pa_cons (pv 3) (pa_cons (pv 4) pa_nil))))))
        (pss_cons (ps_for PassesOwn.never rfl (pi_range1 rfl T.n_range (pa_cons (pe_callB call_len_seq (by rfl) T.n_len PySem.boot_len (pa_cons (pv 5) pa_nil)) pa_nil)) (pg_name (i := 6) sc_law.nd rfl (Or.inr rfl))
          (pss_cons (ps_asg (pe_ix ix_list (pv 5) (pv 6) (fun _ _ => rfl)) (pg_tup rfl (pgs_cons (pg_name (i := 7) sc_law.nd rfl (Or.inl rfl)) (pgs_cons (pg_name (i := 8) sc_law.nd rfl (Or.inl rfl)) (pgs_cons (pg_name (i := 9) sc_law.nd rfl (Or.inl rfl)) pgs_nil)))))
            (pss_cons (ps_if (PW.pt (pw_or (pt_cmpR (op_neD hr.units) (pv 8) (pv 9) (nomark _)) (pw_or (pt_not (pt_val (pe_callB call_isEv (by rfl) T.n_isinstance (by decide +kernel) (pa_cons (pv 7) (pa_cons (pe_cls T.m_DeedError) pa_nil))))) (pw_or1 (pt_not (pt_val (pe_callB call_isEv (by rfl) T.n_isinstance (by decide +kernel) (pa_cons (pv 7) (pa_cons (pe_ty "ValueError" T.n_ValueError) pa_nil)))))))))
              (pss_one (ps_ret pe_bl)) pss_nil)
            (pss_one (ps_if (pt_cmpR (op_neD hr.units) (pe_cal C_classes (hr.mono (by decide)) (pa_cons (pv 7) pa_nil)) (pe_lc (own := [("_law_other", 11)]) (g := gName 11) (tt := tYes) rfl sc_law.nd (pi_range1 rfl T.n_range (pa_cons (pe_callB call_len_seq (by rfl) T.n_len PySem.boot_len (pa_cons (pv 5) pa_nil)) pa_nil)) (blkOk_by (own := [("_law_other", 11)]) (N := ["_law_script", "_law_draws", "_law_at", "_law_word_here", "_law_name", "_law_made", "_law_k", "_law_error", "_law_told", "_law_due", "_law_base", "_law_other"]) (sc := defScope s_law) (by decide +kernel)) (fun _ _ _ _ _ => pg_name (i := 11) sc_law.nd rfl (Or.inl rfl)) (fun _ _ _ _ _ => pts_nil) (fun _ _ _ _ _ => (pe_cmpR op_eq (pv 11) (pv 6) (nomark _)))) (nomark _))
              (pss_one (ps_ret pe_bl)) pss_nil)))))
        (pss_cons (ps_set (i := 10) sc_law.nd rfl (Or.inl rfl) (pe_exV0 (bmB := He.veBase) PySem.F.excBase_ValueError T.p_DeedError T.m_DeedError T.pk_DeedError))
        (pss_cons (ps_if (PW.pt (pw_or (pt_not (pt_val (pe_callB call_isEv (by rfl) T.n_isinstance (by decide +kernel) (pa_cons (pv 10) (pa_cons (pe_ty "ValueError" T.n_ValueError) pa_nil))))) (pw_or1 (pt_cmpR (op_neD hr.units) (pe_cal C_classes (hr.mono (by decide)) (pa_cons (pv 10) pa_nil)) (pe_op op_rep (pe_lst (pa_cons pe_bl pa_nil)) (pe_callB call_len_seq (by rfl) T.n_len PySem.boot_len (pa_cons (pv 5) pa_nil))) (nomark _)))))
          (pss_one (ps_ret pe_bl)) pss_nil)
        (pss_one (ps_ret (pe_and (pe_cmpR op_eq (pe_callB call_len_seq (by rfl) T.n_len PySem.boot_len (pa_cons (pv 5) pa_nil)) pe_int (nomark _)) (pe_one (pe_cmpR (op_eqD hr.units) (pe_cal C_raised (hr.mono (by decide)) (pa_cons (pv 2) (pa_cons (pv 3) (pa_cons (pv 4) pa_nil)))) (pe_lst (pa_cons pe_bl (pa_cons pe_bl (pa_cons pe_bl pa_nil)))) (nomark _)))))))))))))), ?_⟩
    refine ⟨_, rfl, a, ns, 31, rfl, hS, hlen, fun d c H1 nd nc D1 S1 => ?_⟩
    refine ⟨_, rfl, d, c, _, rfl, D1, by decide, by decide, fun j H2 j0 j1 D2 B2 => ⟨_, _, rfl, rfl, ⟨by decide, by decide, by decide⟩, ?_⟩⟩
    refine ⟨_, _, rfl, rfl, .inr ⟨by decide, by decide⟩, _, rfl, _, _, rfl, rfl, ⟨by decide, by decide, by decide⟩, d, c, _, rfl, D2, by decide +kernel, by decide +kernel, fun m H3 m0 m1 D3 B3 => ⟨_, _, rfl, rfl, ?_⟩⟩
    have m1 : m < 10000000 := m1
    refine ⟨_, rfl, d, c, rfl, D3, fun x H4 lx sx D4 B4 => ?_⟩
    refine ⟨_, rfl, d, c, rfl, D4, fun y H5 ly sy D5 B5 => ?_⟩
    have hn : (j * 10 ^ Int.toNat 7 + m).natAbs.log2 < 1920 := log_lt (by show (j * 10000000 + m).natAbs < 2 ^ 100; omega)
    refine ⟨_, rfl, _, rfl, _, rfl, _, x, y, rfl, hn, sx, sy, fun l1 us1 H6 S6 L6 U6 => ?_⟩
    refine ⟨_, rfl, _, rfl, _, rfl, _, x, y, rfl, hn, sx, sy, fun l2 us2 H7 S7 L7 U7 => ?_⟩
    have t1 := trips_len U6
    have t2 := trips_len U7
    refine ⟨l1, l2, us1, us2, rfl, rfl, S7 _ _ L6, L7, by rw [t1, t2]; decide, fun p hp => ?_⟩
    have U8 := trips_app (tripsS (S7.trans (sNew (o := .lst (us1 ++ us2)) hp)) U6) (tripsS (sNew hp) U7)
    refine ⟨_, rfl, _, rfl, _, rfl, _, x, y, rfl, hn, sx, sy, fun l3 us3 H9 S9 L9 U9 => ?_⟩
    have t3 := trips_len U9
    have t8 := trips_len U8
    refine ⟨p, l3, us1 ++ us2, us3, rfl, rfl, S9 _ _ upd_same, L9, by rw [t8, t3]; decide, fun q hq => ?_⟩
    have U := trips_app (tripsS (S9.trans (sNew (o := .lst (us1 ++ us2 ++ us3)) hq)) U8) (tripsS (sNew hq) U9)
    rw [cs_all] at U
    have L : (upd H9 q (.lst (us1 ++ us2 ++ us3))) q = some (.lst (us1 ++ us2 ++ us3)) := upd_same
    have hlen35 := trips_len U
    generalize us1 ++ us2 ++ us3 = us at U L hlen35 ⊢
    generalize upd H9 q (.lst us) = HA at U L ⊢
    refine ⟨_, rfl, _, _, rfl, .inl (SqL.of L), _, rfl, by rw [hlen35]; decide, by rw [hlen35]; decide, ?_⟩
    have hq0 : us.length = 35 := hlen35
    rw [hq0]
    refine for_range (n := 35) (fun i σ H' => Same HA H' ∧ ∃ v6 v7 v8 v9, σ = [some (.ref a), some (.ref d), some (.int (j * 10 ^ Int.toNat 7 + m)), some (.str x), some (.str y), some (.ref q), v6, v7, v8, v9, none, none]) ⟨Same.refl _, _, _, _, _, rfl⟩ ?_ ?_
    · rintro i σ H' hi ⟨S, v6, v7, v8, v9, rfl⟩
      have hi2 : i < c35.length := hi
      obtain ⟨v, hv, t, e, b1, b2, D, rfl, ht, hE, dA, dB, hs⟩ := trips_at i (tripsS S U) hi2
      have hc : c35[i] ∈ c36 := List.mem_cons_of_mem _ (List.getElem_mem hi2)
      refine ⟨_, rfl, _, rfl, q, us, _, _, rfl, rfl, SqL.of (S _ _ L), by rw [Int.zero_add]; exact atI_nat hv, t, _, rfl, SqT.of ht, rfl, _, _, rfl, _, _, rfl, _, _, rfl, rfl, ?_⟩
      refine ⟨_, rfl, _, rfl, D, D, dA, dB, hs, hs, _, rfl, iteV hs ?_⟩
      obtain ⟨dE, hE1, hE2⟩ := id hE
      refine ⟨_, rfl, e, _, dE, _, _, true, rfl, hE1, hE2, T.x_ _ hc, .own _, T.kitd _ hc, _, rfl, iteNT ?_⟩
      refine ⟨_, rfl, e, _, dE, _, _, true, rfl, hE1, hE2, T.x_ _ hc, .ty _, T.kitv _ hc, _, rfl, iteNT ?_⟩
      refine ⟨_, rfl, e, c35[i], rfl, hc, hE, fun l H2 S2 L2 => ?_⟩
      refine ⟨_, rfl, _, _, rfl, .inl (SqL.of (S2 _ _ (S _ _ L))), _, rfl, by rw [hq0]; decide, by rw [hq0]; decide, fun M hM => ?_⟩
      rw [hq0]
      refine lc_range (n := 35) (fun r G => G = upd H2 M (.lst ((List.range r).map fun (z : Nat) => V.bl (decide (V.int (0 + (z : Int)) = V.int (0 + (i : Int))))))) rfl ?_ ?_
      · rintro r G hr rfl
        refine ⟨rfl, ?_⟩
        refine ⟨_, rfl, _, rfl, rfl, _, upd_same, by rw [List.length_map, List.length_range]; exact Nat.lt_of_lt_of_le hr (by decide), ?_⟩
        rw [upd_upd, List.range_succ, List.map_append]
        rfl
      · rintro G rfl
        have e : ((List.range 35).map fun (z : Nat) => V.bl (decide (V.int (0 + (z : Int)) = V.int (0 + (i : Int))))) = (c35.map fun z => decide (c35[i] = z)).map V.bl := row35 i hi
        rw [e]
        refine ⟨_, _, .lst (SqL.of (sNew hM _ _ L2)) (dpBools _), .lst (SqL.of upd_same) (dpBools _), shBools _ , shBools _, _, rfl, iteV (shBools _) ?_⟩
        exact ⟨(S.trans S2).trans (sNew hM), _, _, _, _, rfl⟩
    · rintro σ H' ⟨S, v6, v7, v8, v9, rfl⟩
      refine fun eb heb => ?_
      have SB := S.trans (sNew (o := exo eb (cl "DeedError") none) heb)
      refine ⟨_, rfl, eb, cl "DeedError", none, _, _, true, rfl, upd_same, fun dd q => (by cases q), T.x_ "DeedError" (by decide +kernel), .ty _, T.kitv "DeedError" (by decide +kernel), _, rfl, iteNT ?_⟩
      refine ⟨_, rfl, eb, "DeedError", rfl, by decide +kernel, ⟨none, upd_same, fun dd q => (by cases q)⟩, fun l H2 S2 L2 => ?_⟩
      refine ⟨by show 1 ≤ sizeLine; decide, fun z hz => ?_⟩
      have S3 := S2.trans (sNew (o := .lst [.bl false]) hz)
      refine ⟨_, rfl, _, _, rfl, .inl (SqL.of (S3 _ _ (SB _ _ L))), z, _, [.bl false], rfl, rfl, upd_same, by rw [hq0]; decide, by rw [hq0]; decide, by rw [hq0]; decide, fun r hr => ?_⟩
      rw [hq0]
      have e0 : (List.replicate (Int.toNat ((35 : Nat) : Int)) [V.bl false]).flatten = (c35.map fun x => decide ("DeedError" = x)).map V.bl := by decide +kernel
      rw [e0]
      refine ⟨_, _, .lst (SqL.of (sNew hr _ _ (sNew hz _ _ L2))) (dpBools _), .lst (SqL.of upd_same) (dpBools _), shBools _, shBools _, _, rfl, iteV (shBools _) ?_⟩
      have S4 := S3.trans (sNew (o := .lst ((c35.map fun x => decide ("DeedError" = x)).map V.bl)) hr)
      refine ⟨_, rfl, _, _, rfl, .inl (SqL.of (S4 _ _ (SB _ _ L))), ?_⟩
      rw [hq0]
      refine ⟨rfl, _, rfl, ?_⟩
      refine iteRe' (by decide) ?_
      refine ⟨_, rfl, _, rfl, _, rfl, _, x, y, rfl, hn, fun l5 H5 S5 L5 => ?_⟩
      refine ⟨by show 3 ≤ sizeLine; decide, fun o ho => ?_⟩
      refine ⟨_, _, .lst (SqL.of (sNew ho _ _ L5)) (dpBools [true, true, true]), .lst (SqL.of upd_same) (dpBools [true, true, true]), shBools _, shBools _, ?_⟩
      rw [SeqAt.eqv_refl _ (SeqAt.canLay_of_shaped (shBools _))]
      exact k _
end
end My
set_option Elab.async false
set_option linter.all false
set_option maxRecDepth 100000
set_option maxHeartbeats 0
namespace My
open PySem L2 Dw He
theorem w_BadCustoms (P : Program) (w : World) : PySem.ErrL.SupW P w (defArgs s_BadCustoms_init) (defScope s_BadCustoms_init) "BadCustoms.__init__" ["what"] (fun _ => True) (.Constant (.str "customs") 0 ⟨7, 25, 7, 34⟩) [.Name "what" ⟨7, 36, 7, 40⟩] ⟨7, 8, 7, 13⟩ ⟨7, 8, 7, 15⟩ ⟨7, 8, 7, 24⟩ ⟨7, 8, 7, 41⟩ ⟨7, 8, 7, 41⟩ where
  hk := rfl
  co := rfl
  gen := rfl
  ks := rfl
  kc := rfl
  kse := rfl
  kf := (List.forall_mem_cons.mpr ⟨rfl, (fun _ h => by cases h)⟩)
  cell := by decide +kernel
  par := ⟨_, rfl, rfl⟩
  hi := fun _ _ _ _ => rfl
  hev := fun _ _ _ _ => ⟨_, rfl⟩
  hsw := fun _ _ _ _ => rfl
  hst := fun _ _ _ _ _ _ _ _ _ => rfl
  he := fun _ _ _ _ => rfl
  hpl := fun _ _ _ _ => rfl
  hargs := fun L fI cd cc A E us s1 mg mb m Q1 hok hm hl hs hn hg hb hbt h => match us, hl, hm with
    | [v], _, hm => PySem.ErrL.args_cn rfl rfl (by decide) L fI cd cc A E v s1 m Q1 (hm 0 _ rfl) hn h
def d_ini_BadCustoms : HeM.IniD := ⟨"BadCustoms", "BadCustoms.__init__", defArgs s_BadCustoms_init, [PySem.ErrL.supS [.Constant (.str "customs") 0 ⟨7, 25, 7, 34⟩, .Name "what" ⟨7, 36, 7, 40⟩] ⟨7, 8, 7, 13⟩ ⟨7, 8, 7, 15⟩ ⟨7, 8, 7, 24⟩ ⟨7, 8, 7, 41⟩ ⟨7, 8, 7, 41⟩, PySem.ErrL.stoS "what" ⟨8, 8, 8, 12⟩ ⟨8, 8, 8, 17⟩ ⟨8, 20, 8, 24⟩ ⟨8, 8, 8, 24⟩], defScope s_BadCustoms_init⟩
theorem w_BadLives (P : Program) (w : World) : PySem.ErrL.SupW P w (defArgs s_BadLives_init) (defScope s_BadLives_init) "BadLives.__init__" ["index", "what"] okI (.Constant (.str "lives") 0 ⟨12, 25, 12, 32⟩) [.Call (.Name "str" ⟨12, 34, 12, 37⟩) [.Name "index" ⟨12, 38, 12, 43⟩] [] ⟨12, 34, 12, 44⟩, .Name "what" ⟨12, 46, 12, 50⟩] ⟨12, 8, 12, 13⟩ ⟨12, 8, 12, 15⟩ ⟨12, 8, 12, 24⟩ ⟨12, 8, 12, 51⟩ ⟨12, 8, 12, 51⟩ where
  hk := rfl
  co := rfl
  gen := rfl
  ks := rfl
  kc := rfl
  kse := rfl
  kf := (List.forall_mem_cons.mpr ⟨rfl, (List.forall_mem_cons.mpr ⟨rfl, (fun _ h => by cases h)⟩)⟩)
  cell := by decide +kernel
  par := ⟨_, rfl, rfl⟩
  hi := fun _ _ _ _ => rfl
  hev := fun _ _ _ _ => ⟨_, rfl⟩
  hsw := fun _ _ _ _ => rfl
  hst := fun _ _ _ _ _ _ _ _ _ => rfl
  he := fun _ _ _ _ => rfl
  hpl := fun _ _ _ _ => rfl
  hargs := fun L fI cd cc A E us s1 mg mb m Q1 hok hm hl hs hn hg hb hbt h => match us, hl, hm, hok with
    | [v, u], _, hm, hok => by obtain ⟨i, t, rfl, hi⟩ := hok _ rfl; exact PySem.ErrL.args_csn rfl rfl rfl rfl (by decide) (by decide) L fI cd cc A E i t u s1 m mg mb Q1 hi (hm 0 _ rfl) (hm 1 _ rfl) hs hn hg hb hbt h rfl
def d_ini_BadLives : HeM.IniD := ⟨"BadLives", "BadLives.__init__", defArgs s_BadLives_init, [PySem.ErrL.supS [.Constant (.str "lives") 0 ⟨12, 25, 12, 32⟩, .Call (.Name "str" ⟨12, 34, 12, 37⟩) [.Name "index" ⟨12, 38, 12, 43⟩] [] ⟨12, 34, 12, 44⟩, .Name "what" ⟨12, 46, 12, 50⟩] ⟨12, 8, 12, 13⟩ ⟨12, 8, 12, 15⟩ ⟨12, 8, 12, 24⟩ ⟨12, 8, 12, 51⟩ ⟨12, 8, 12, 51⟩, PySem.ErrL.stoS "index" ⟨13, 8, 13, 12⟩ ⟨13, 8, 13, 18⟩ ⟨13, 21, 13, 26⟩ ⟨13, 8, 13, 26⟩, PySem.ErrL.stoS "what" ⟨14, 8, 14, 12⟩ ⟨14, 8, 14, 17⟩ ⟨14, 20, 14, 24⟩ ⟨14, 8, 14, 24⟩], defScope s_BadLives_init⟩
theorem w_BadRecord (P : Program) (w : World) : PySem.ErrL.SupW P w (defArgs s_BadRecord_init) (defScope s_BadRecord_init) "BadRecord.__init__" ["index", "what"] okI (.Constant (.str "record") 0 ⟨18, 25, 18, 33⟩) [.Call (.Name "str" ⟨18, 35, 18, 38⟩) [.Name "index" ⟨18, 39, 18, 44⟩] [] ⟨18, 35, 18, 45⟩, .Name "what" ⟨18, 47, 18, 51⟩] ⟨18, 8, 18, 13⟩ ⟨18, 8, 18, 15⟩ ⟨18, 8, 18, 24⟩ ⟨18, 8, 18, 52⟩ ⟨18, 8, 18, 52⟩ where
  hk := rfl
  co := rfl
  gen := rfl
  ks := rfl
  kc := rfl
  kse := rfl
  kf := (List.forall_mem_cons.mpr ⟨rfl, (List.forall_mem_cons.mpr ⟨rfl, (fun _ h => by cases h)⟩)⟩)
  cell := by decide +kernel
  par := ⟨_, rfl, rfl⟩
  hi := fun _ _ _ _ => rfl
  hev := fun _ _ _ _ => ⟨_, rfl⟩
  hsw := fun _ _ _ _ => rfl
  hst := fun _ _ _ _ _ _ _ _ _ => rfl
  he := fun _ _ _ _ => rfl
  hpl := fun _ _ _ _ => rfl
  hargs := fun L fI cd cc A E us s1 mg mb m Q1 hok hm hl hs hn hg hb hbt h => match us, hl, hm, hok with
    | [v, u], _, hm, hok => by obtain ⟨i, t, rfl, hi⟩ := hok _ rfl; exact PySem.ErrL.args_csn rfl rfl rfl rfl (by decide) (by decide) L fI cd cc A E i t u s1 m mg mb Q1 hi (hm 0 _ rfl) (hm 1 _ rfl) hs hn hg hb hbt h rfl
def d_ini_BadRecord : HeM.IniD := ⟨"BadRecord", "BadRecord.__init__", defArgs s_BadRecord_init, [PySem.ErrL.supS [.Constant (.str "record") 0 ⟨18, 25, 18, 33⟩, .Call (.Name "str" ⟨18, 35, 18, 38⟩) [.Name "index" ⟨18, 39, 18, 44⟩] [] ⟨18, 35, 18, 45⟩, .Name "what" ⟨18, 47, 18, 51⟩] ⟨18, 8, 18, 13⟩ ⟨18, 8, 18, 15⟩ ⟨18, 8, 18, 24⟩ ⟨18, 8, 18, 52⟩ ⟨18, 8, 18, 52⟩, PySem.ErrL.stoS "index" ⟨19, 8, 19, 12⟩ ⟨19, 8, 19, 18⟩ ⟨19, 21, 19, 26⟩ ⟨19, 8, 19, 26⟩, PySem.ErrL.stoS "what" ⟨20, 8, 20, 12⟩ ⟨20, 8, 20, 17⟩ ⟨20, 20, 20, 24⟩ ⟨20, 8, 20, 24⟩], defScope s_BadRecord_init⟩
theorem w_NoLife (P : Program) (w : World) : PySem.ErrL.SupW P w (defArgs s_NoLife_init) (defScope s_NoLife_init) "NoLife.__init__" ["name"] (fun _ => True) (.Constant (.str "no such life") 0 ⟨26, 25, 26, 39⟩) [] ⟨26, 8, 26, 13⟩ ⟨26, 8, 26, 15⟩ ⟨26, 8, 26, 24⟩ ⟨26, 8, 26, 40⟩ ⟨26, 8, 26, 40⟩ where
  hk := rfl
  co := rfl
  gen := rfl
  ks := rfl
  kc := rfl
  kse := rfl
  kf := (List.forall_mem_cons.mpr ⟨rfl, (fun _ h => by cases h)⟩)
  cell := by decide +kernel
  par := ⟨_, rfl, rfl⟩
  hi := fun _ _ _ _ => rfl
  hev := fun _ _ _ _ => ⟨_, rfl⟩
  hsw := fun _ _ _ _ => rfl
  hst := fun _ _ _ _ _ _ _ _ _ => rfl
  he := fun _ _ _ _ => rfl
  hpl := fun _ _ _ _ => rfl
  hargs := fun L fI cd cc A E us s1 mg mb m Q1 hok hm hl hs hn hg hb hbt h => PySem.ErrL.args_c rfl L fI cd cc A E s1 Q1 h
def d_ini_NoLife : HeM.IniD := ⟨"NoLife", "NoLife.__init__", defArgs s_NoLife_init, [PySem.ErrL.supS [.Constant (.str "no such life") 0 ⟨26, 25, 26, 39⟩] ⟨26, 8, 26, 13⟩ ⟨26, 8, 26, 15⟩ ⟨26, 8, 26, 24⟩ ⟨26, 8, 26, 40⟩ ⟨26, 8, 26, 40⟩, PySem.ErrL.stoS "name" ⟨27, 8, 27, 12⟩ ⟨27, 8, 27, 17⟩ ⟨27, 20, 27, 24⟩ ⟨27, 8, 27, 24⟩], defScope s_NoLife_init⟩
theorem w_NoPerson (P : Program) (w : World) : PySem.ErrL.SupW P w (defArgs s_NoPerson_init) (defScope s_NoPerson_init) "NoPerson.__init__" ["name"] (fun _ => True) (.Constant (.str "no such person") 0 ⟨31, 25, 31, 41⟩) [] ⟨31, 8, 31, 13⟩ ⟨31, 8, 31, 15⟩ ⟨31, 8, 31, 24⟩ ⟨31, 8, 31, 42⟩ ⟨31, 8, 31, 42⟩ where
  hk := rfl
  co := rfl
  gen := rfl
  ks := rfl
  kc := rfl
  kse := rfl
  kf := (List.forall_mem_cons.mpr ⟨rfl, (fun _ h => by cases h)⟩)
  cell := by decide +kernel
  par := ⟨_, rfl, rfl⟩
  hi := fun _ _ _ _ => rfl
  hev := fun _ _ _ _ => ⟨_, rfl⟩
  hsw := fun _ _ _ _ => rfl
  hst := fun _ _ _ _ _ _ _ _ _ => rfl
  he := fun _ _ _ _ => rfl
  hpl := fun _ _ _ _ => rfl
  hargs := fun L fI cd cc A E us s1 mg mb m Q1 hok hm hl hs hn hg hb hbt h => PySem.ErrL.args_c rfl L fI cd cc A E s1 Q1 h
def d_ini_NoPerson : HeM.IniD := ⟨"NoPerson", "NoPerson.__init__", defArgs s_NoPerson_init, [PySem.ErrL.supS [.Constant (.str "no such person") 0 ⟨31, 25, 31, 41⟩] ⟨31, 8, 31, 13⟩ ⟨31, 8, 31, 15⟩ ⟨31, 8, 31, 24⟩ ⟨31, 8, 31, 42⟩ ⟨31, 8, 31, 42⟩, PySem.ErrL.stoS "name" ⟨32, 8, 32, 12⟩ ⟨32, 8, 32, 17⟩ ⟨32, 20, 32, 24⟩ ⟨32, 8, 32, 24⟩], defScope s_NoPerson_init⟩
theorem w_BadKin (P : Program) (w : World) : PySem.ErrL.SupW P w (defArgs s_BadKin_init) (defScope s_BadKin_init) "BadKin.__init__" ["what"] (fun _ => True) (.Constant (.str "kin") 0 ⟨38, 25, 38, 30⟩) [.Name "what" ⟨38, 32, 38, 36⟩] ⟨38, 8, 38, 13⟩ ⟨38, 8, 38, 15⟩ ⟨38, 8, 38, 24⟩ ⟨38, 8, 38, 37⟩ ⟨38, 8, 38, 37⟩ where
  hk := rfl
  co := rfl
  gen := rfl
  ks := rfl
  kc := rfl
  kse := rfl
  kf := (List.forall_mem_cons.mpr ⟨rfl, (fun _ h => by cases h)⟩)
  cell := by decide +kernel
  par := ⟨_, rfl, rfl⟩
  hi := fun _ _ _ _ => rfl
  hev := fun _ _ _ _ => ⟨_, rfl⟩
  hsw := fun _ _ _ _ => rfl
  hst := fun _ _ _ _ _ _ _ _ _ => rfl
  he := fun _ _ _ _ => rfl
  hpl := fun _ _ _ _ => rfl
  hargs := fun L fI cd cc A E us s1 mg mb m Q1 hok hm hl hs hn hg hb hbt h => match us, hl, hm with
    | [v], _, hm => PySem.ErrL.args_cn rfl rfl (by decide) L fI cd cc A E v s1 m Q1 (hm 0 _ rfl) hn h
def d_ini_BadKin : HeM.IniD := ⟨"BadKin", "BadKin.__init__", defArgs s_BadKin_init, [PySem.ErrL.supS [.Constant (.str "kin") 0 ⟨38, 25, 38, 30⟩, .Name "what" ⟨38, 32, 38, 36⟩] ⟨38, 8, 38, 13⟩ ⟨38, 8, 38, 15⟩ ⟨38, 8, 38, 24⟩ ⟨38, 8, 38, 37⟩ ⟨38, 8, 38, 37⟩, PySem.ErrL.stoS "what" ⟨39, 8, 39, 12⟩ ⟨39, 8, 39, 17⟩ ⟨39, 20, 39, 24⟩ ⟨39, 8, 39, 24⟩], defScope s_BadKin_init⟩
theorem w_BadDate (P : Program) (w : World) : PySem.ErrL.SupW P w (defArgs s_BadDate_init) (defScope s_BadDate_init) "BadDate.__init__" ["what"] (fun _ => True) (.Constant (.str "date") 0 ⟨43, 25, 43, 31⟩) [.Name "what" ⟨43, 33, 43, 37⟩] ⟨43, 8, 43, 13⟩ ⟨43, 8, 43, 15⟩ ⟨43, 8, 43, 24⟩ ⟨43, 8, 43, 38⟩ ⟨43, 8, 43, 38⟩ where
  hk := rfl
  co := rfl
  gen := rfl
  ks := rfl
  kc := rfl
  kse := rfl
  kf := (List.forall_mem_cons.mpr ⟨rfl, (fun _ h => by cases h)⟩)
  cell := by decide +kernel
  par := ⟨_, rfl, rfl⟩
  hi := fun _ _ _ _ => rfl
  hev := fun _ _ _ _ => ⟨_, rfl⟩
  hsw := fun _ _ _ _ => rfl
  hst := fun _ _ _ _ _ _ _ _ _ => rfl
  he := fun _ _ _ _ => rfl
  hpl := fun _ _ _ _ => rfl
  hargs := fun L fI cd cc A E us s1 mg mb m Q1 hok hm hl hs hn hg hb hbt h => match us, hl, hm with
    | [v], _, hm => PySem.ErrL.args_cn rfl rfl (by decide) L fI cd cc A E v s1 m Q1 (hm 0 _ rfl) hn h
def d_ini_BadDate : HeM.IniD := ⟨"BadDate", "BadDate.__init__", defArgs s_BadDate_init, [PySem.ErrL.supS [.Constant (.str "date") 0 ⟨43, 25, 43, 31⟩, .Name "what" ⟨43, 33, 43, 37⟩] ⟨43, 8, 43, 13⟩ ⟨43, 8, 43, 15⟩ ⟨43, 8, 43, 24⟩ ⟨43, 8, 43, 38⟩ ⟨43, 8, 43, 38⟩, PySem.ErrL.stoS "what" ⟨44, 8, 44, 12⟩ ⟨44, 8, 44, 17⟩ ⟨44, 20, 44, 24⟩ ⟨44, 8, 44, 24⟩], defScope s_BadDate_init⟩
theorem w_BadTaker (P : Program) (w : World) : PySem.ErrL.SupW P w (defArgs s_BadTaker_init) (defScope s_BadTaker_init) "BadTaker.__init__" ["what"] (fun _ => True) (.Constant (.str "taker") 0 ⟨48, 25, 48, 32⟩) [.Name "what" ⟨48, 34, 48, 38⟩] ⟨48, 8, 48, 13⟩ ⟨48, 8, 48, 15⟩ ⟨48, 8, 48, 24⟩ ⟨48, 8, 48, 39⟩ ⟨48, 8, 48, 39⟩ where
  hk := rfl
  co := rfl
  gen := rfl
  ks := rfl
  kc := rfl
  kse := rfl
  kf := (List.forall_mem_cons.mpr ⟨rfl, (fun _ h => by cases h)⟩)
  cell := by decide +kernel
  par := ⟨_, rfl, rfl⟩
  hi := fun _ _ _ _ => rfl
  hev := fun _ _ _ _ => ⟨_, rfl⟩
  hsw := fun _ _ _ _ => rfl
  hst := fun _ _ _ _ _ _ _ _ _ => rfl
  he := fun _ _ _ _ => rfl
  hpl := fun _ _ _ _ => rfl
  hargs := fun L fI cd cc A E us s1 mg mb m Q1 hok hm hl hs hn hg hb hbt h => match us, hl, hm with
    | [v], _, hm => PySem.ErrL.args_cn rfl rfl (by decide) L fI cd cc A E v s1 m Q1 (hm 0 _ rfl) hn h
def d_ini_BadTaker : HeM.IniD := ⟨"BadTaker", "BadTaker.__init__", defArgs s_BadTaker_init, [PySem.ErrL.supS [.Constant (.str "taker") 0 ⟨48, 25, 48, 32⟩, .Name "what" ⟨48, 34, 48, 38⟩] ⟨48, 8, 48, 13⟩ ⟨48, 8, 48, 15⟩ ⟨48, 8, 48, 24⟩ ⟨48, 8, 48, 39⟩ ⟨48, 8, 48, 39⟩, PySem.ErrL.stoS "what" ⟨49, 8, 49, 12⟩ ⟨49, 8, 49, 17⟩ ⟨49, 20, 49, 24⟩ ⟨49, 8, 49, 24⟩], defScope s_BadTaker_init⟩
theorem w_BadCondition (P : Program) (w : World) : PySem.ErrL.SupW P w (defArgs s_BadCondition_init) (defScope s_BadCondition_init) "BadCondition.__init__" ["what"] (fun _ => True) (.Constant (.str "condition") 0 ⟨53, 25, 53, 36⟩) [.Name "what" ⟨53, 38, 53, 42⟩] ⟨53, 8, 53, 13⟩ ⟨53, 8, 53, 15⟩ ⟨53, 8, 53, 24⟩ ⟨53, 8, 53, 43⟩ ⟨53, 8, 53, 43⟩ where
  hk := rfl
  co := rfl
  gen := rfl
  ks := rfl
  kc := rfl
  kse := rfl
  kf := (List.forall_mem_cons.mpr ⟨rfl, (fun _ h => by cases h)⟩)
  cell := by decide +kernel
  par := ⟨_, rfl, rfl⟩
  hi := fun _ _ _ _ => rfl
  hev := fun _ _ _ _ => ⟨_, rfl⟩
  hsw := fun _ _ _ _ => rfl
  hst := fun _ _ _ _ _ _ _ _ _ => rfl
  he := fun _ _ _ _ => rfl
  hpl := fun _ _ _ _ => rfl
  hargs := fun L fI cd cc A E us s1 mg mb m Q1 hok hm hl hs hn hg hb hbt h => match us, hl, hm with
    | [v], _, hm => PySem.ErrL.args_cn rfl rfl (by decide) L fI cd cc A E v s1 m Q1 (hm 0 _ rfl) hn h
def d_ini_BadCondition : HeM.IniD := ⟨"BadCondition", "BadCondition.__init__", defArgs s_BadCondition_init, [PySem.ErrL.supS [.Constant (.str "condition") 0 ⟨53, 25, 53, 36⟩, .Name "what" ⟨53, 38, 53, 42⟩] ⟨53, 8, 53, 13⟩ ⟨53, 8, 53, 15⟩ ⟨53, 8, 53, 24⟩ ⟨53, 8, 53, 43⟩ ⟨53, 8, 53, 43⟩, PySem.ErrL.stoS "what" ⟨54, 8, 54, 12⟩ ⟨54, 8, 54, 17⟩ ⟨54, 20, 54, 24⟩ ⟨54, 8, 54, 24⟩], defScope s_BadCondition_init⟩
theorem w_BadGift (P : Program) (w : World) : PySem.ErrL.SupW P w (defArgs s_BadGift_init) (defScope s_BadGift_init) "BadGift.__init__" ["what"] (fun _ => True) (.Constant (.str "gift") 0 ⟨58, 25, 58, 31⟩) [.Name "what" ⟨58, 33, 58, 37⟩] ⟨58, 8, 58, 13⟩ ⟨58, 8, 58, 15⟩ ⟨58, 8, 58, 24⟩ ⟨58, 8, 58, 38⟩ ⟨58, 8, 58, 38⟩ where
  hk := rfl
  co := rfl
  gen := rfl
  ks := rfl
  kc := rfl
  kse := rfl
  kf := (List.forall_mem_cons.mpr ⟨rfl, (fun _ h => by cases h)⟩)
  cell := by decide +kernel
  par := ⟨_, rfl, rfl⟩
  hi := fun _ _ _ _ => rfl
  hev := fun _ _ _ _ => ⟨_, rfl⟩
  hsw := fun _ _ _ _ => rfl
  hst := fun _ _ _ _ _ _ _ _ _ => rfl
  he := fun _ _ _ _ => rfl
  hpl := fun _ _ _ _ => rfl
  hargs := fun L fI cd cc A E us s1 mg mb m Q1 hok hm hl hs hn hg hb hbt h => match us, hl, hm with
    | [v], _, hm => PySem.ErrL.args_cn rfl rfl (by decide) L fI cd cc A E v s1 m Q1 (hm 0 _ rfl) hn h
def d_ini_BadGift : HeM.IniD := ⟨"BadGift", "BadGift.__init__", defArgs s_BadGift_init, [PySem.ErrL.supS [.Constant (.str "gift") 0 ⟨58, 25, 58, 31⟩, .Name "what" ⟨58, 33, 58, 37⟩] ⟨58, 8, 58, 13⟩ ⟨58, 8, 58, 15⟩ ⟨58, 8, 58, 24⟩ ⟨58, 8, 58, 38⟩ ⟨58, 8, 58, 38⟩, PySem.ErrL.stoS "what" ⟨59, 8, 59, 12⟩ ⟨59, 8, 59, 17⟩ ⟨59, 20, 59, 24⟩ ⟨59, 8, 59, 24⟩], defScope s_BadGift_init⟩
theorem w_BadDeed (P : Program) (w : World) : PySem.ErrL.SupW P w (defArgs s_BadDeed_init) (defScope s_BadDeed_init) "BadDeed.__init__" ["index", "what"] okI (.Constant (.str "deed") 0 ⟨63, 25, 63, 31⟩) [.Call (.Name "str" ⟨63, 33, 63, 36⟩) [.Name "index" ⟨63, 37, 63, 42⟩] [] ⟨63, 33, 63, 43⟩, .Name "what" ⟨63, 45, 63, 49⟩] ⟨63, 8, 63, 13⟩ ⟨63, 8, 63, 15⟩ ⟨63, 8, 63, 24⟩ ⟨63, 8, 63, 50⟩ ⟨63, 8, 63, 50⟩ where
  hk := rfl
  co := rfl
  gen := rfl
  ks := rfl
  kc := rfl
  kse := rfl
  kf := (List.forall_mem_cons.mpr ⟨rfl, (List.forall_mem_cons.mpr ⟨rfl, (fun _ h => by cases h)⟩)⟩)
  cell := by decide +kernel
  par := ⟨_, rfl, rfl⟩
  hi := fun _ _ _ _ => rfl
  hev := fun _ _ _ _ => ⟨_, rfl⟩
  hsw := fun _ _ _ _ => rfl
  hst := fun _ _ _ _ _ _ _ _ _ => rfl
  he := fun _ _ _ _ => rfl
  hpl := fun _ _ _ _ => rfl
  hargs := fun L fI cd cc A E us s1 mg mb m Q1 hok hm hl hs hn hg hb hbt h => match us, hl, hm, hok with
    | [v, u], _, hm, hok => by obtain ⟨i, t, rfl, hi⟩ := hok _ rfl; exact PySem.ErrL.args_csn rfl rfl rfl rfl (by decide) (by decide) L fI cd cc A E i t u s1 m mg mb Q1 hi (hm 0 _ rfl) (hm 1 _ rfl) hs hn hg hb hbt h rfl
def d_ini_BadDeed : HeM.IniD := ⟨"BadDeed", "BadDeed.__init__", defArgs s_BadDeed_init, [PySem.ErrL.supS [.Constant (.str "deed") 0 ⟨63, 25, 63, 31⟩, .Call (.Name "str" ⟨63, 33, 63, 36⟩) [.Name "index" ⟨63, 37, 63, 42⟩] [] ⟨63, 33, 63, 43⟩, .Name "what" ⟨63, 45, 63, 49⟩] ⟨63, 8, 63, 13⟩ ⟨63, 8, 63, 15⟩ ⟨63, 8, 63, 24⟩ ⟨63, 8, 63, 50⟩ ⟨63, 8, 63, 50⟩, PySem.ErrL.stoS "index" ⟨64, 8, 64, 12⟩ ⟨64, 8, 64, 18⟩ ⟨64, 21, 64, 26⟩ ⟨64, 8, 64, 26⟩, PySem.ErrL.stoS "what" ⟨65, 8, 65, 12⟩ ⟨65, 8, 65, 17⟩ ⟨65, 20, 65, 24⟩ ⟨65, 8, 65, 24⟩], defScope s_BadDeed_init⟩
theorem w_NoGift (P : Program) (w : World) : PySem.ErrL.SupW P w (defArgs s_NoGift_init) (defScope s_NoGift_init) "NoGift.__init__" ["name"] (fun _ => True) (.Constant (.str "no such gift") 0 ⟨69, 25, 69, 39⟩) [] ⟨69, 8, 69, 13⟩ ⟨69, 8, 69, 15⟩ ⟨69, 8, 69, 24⟩ ⟨69, 8, 69, 40⟩ ⟨69, 8, 69, 40⟩ where
  hk := rfl
  co := rfl
  gen := rfl
  ks := rfl
  kc := rfl
  kse := rfl
  kf := (List.forall_mem_cons.mpr ⟨rfl, (fun _ h => by cases h)⟩)
  cell := by decide +kernel
  par := ⟨_, rfl, rfl⟩
  hi := fun _ _ _ _ => rfl
  hev := fun _ _ _ _ => ⟨_, rfl⟩
  hsw := fun _ _ _ _ => rfl
  hst := fun _ _ _ _ _ _ _ _ _ => rfl
  he := fun _ _ _ _ => rfl
  hpl := fun _ _ _ _ => rfl
  hargs := fun L fI cd cc A E us s1 mg mb m Q1 hok hm hl hs hn hg hb hbt h => PySem.ErrL.args_c rfl L fI cd cc A E s1 Q1 h
def d_ini_NoGift : HeM.IniD := ⟨"NoGift", "NoGift.__init__", defArgs s_NoGift_init, [PySem.ErrL.supS [.Constant (.str "no such gift") 0 ⟨69, 25, 69, 39⟩] ⟨69, 8, 69, 13⟩ ⟨69, 8, 69, 15⟩ ⟨69, 8, 69, 24⟩ ⟨69, 8, 69, 40⟩ ⟨69, 8, 69, 40⟩, PySem.ErrL.stoS "name" ⟨70, 8, 70, 12⟩ ⟨70, 8, 70, 17⟩ ⟨70, 20, 70, 24⟩ ⟨70, 8, 70, 24⟩], defScope s_NoGift_init⟩
theorem w_BadYear (P : Program) (w : World) : PySem.ErrL.SupW P w (defArgs s_BadYear_init) (defScope s_BadYear_init) "BadYear.__init__" ["year"] (fun _ => True) (.Constant (.str "year") 0 ⟨74, 25, 74, 31⟩) [] ⟨74, 8, 74, 13⟩ ⟨74, 8, 74, 15⟩ ⟨74, 8, 74, 24⟩ ⟨74, 8, 74, 32⟩ ⟨74, 8, 74, 32⟩ where
  hk := rfl
  co := rfl
  gen := rfl
  ks := rfl
  kc := rfl
  kse := rfl
  kf := (List.forall_mem_cons.mpr ⟨rfl, (fun _ h => by cases h)⟩)
  cell := by decide +kernel
  par := ⟨_, rfl, rfl⟩
  hi := fun _ _ _ _ => rfl
  hev := fun _ _ _ _ => ⟨_, rfl⟩
  hsw := fun _ _ _ _ => rfl
  hst := fun _ _ _ _ _ _ _ _ _ => rfl
  he := fun _ _ _ _ => rfl
  hpl := fun _ _ _ _ => rfl
  hargs := fun L fI cd cc A E us s1 mg mb m Q1 hok hm hl hs hn hg hb hbt h => PySem.ErrL.args_c rfl L fI cd cc A E s1 Q1 h
def d_ini_BadYear : HeM.IniD := ⟨"BadYear", "BadYear.__init__", defArgs s_BadYear_init, [PySem.ErrL.supS [.Constant (.str "year") 0 ⟨74, 25, 74, 31⟩] ⟨74, 8, 74, 13⟩ ⟨74, 8, 74, 15⟩ ⟨74, 8, 74, 24⟩ ⟨74, 8, 74, 32⟩ ⟨74, 8, 74, 32⟩, PySem.ErrL.stoS "year" ⟨75, 8, 75, 12⟩ ⟨75, 8, 75, 17⟩ ⟨75, 20, 75, 24⟩ ⟨75, 8, 75, 24⟩], defScope s_BadYear_init⟩
theorem w_BadMeasuring (P : Program) (w : World) : PySem.ErrL.SupW P w (defArgs s_BadMeasuring_init) (defScope s_BadMeasuring_init) "BadMeasuring.__init__" ["what"] (fun _ => True) (.Constant (.str "measuring") 0 ⟨114, 25, 114, 36⟩) [.Name "what" ⟨114, 38, 114, 42⟩] ⟨114, 8, 114, 13⟩ ⟨114, 8, 114, 15⟩ ⟨114, 8, 114, 24⟩ ⟨114, 8, 114, 43⟩ ⟨114, 8, 114, 43⟩ where
  hk := rfl
  co := rfl
  gen := rfl
  ks := rfl
  kc := rfl
  kse := rfl
  kf := (List.forall_mem_cons.mpr ⟨rfl, (fun _ h => by cases h)⟩)
  cell := by decide +kernel
  par := ⟨_, rfl, rfl⟩
  hi := fun _ _ _ _ => rfl
  hev := fun _ _ _ _ => ⟨_, rfl⟩
  hsw := fun _ _ _ _ => rfl
  hst := fun _ _ _ _ _ _ _ _ _ => rfl
  he := fun _ _ _ _ => rfl
  hpl := fun _ _ _ _ => rfl
  hargs := fun L fI cd cc A E us s1 mg mb m Q1 hok hm hl hs hn hg hb hbt h => match us, hl, hm with
    | [v], _, hm => PySem.ErrL.args_cn rfl rfl (by decide) L fI cd cc A E v s1 m Q1 (hm 0 _ rfl) hn h
def d_ini_BadMeasuring : HeM.IniD := ⟨"BadMeasuring", "BadMeasuring.__init__", defArgs s_BadMeasuring_init, [PySem.ErrL.supS [.Constant (.str "measuring") 0 ⟨114, 25, 114, 36⟩, .Name "what" ⟨114, 38, 114, 42⟩] ⟨114, 8, 114, 13⟩ ⟨114, 8, 114, 15⟩ ⟨114, 8, 114, 24⟩ ⟨114, 8, 114, 43⟩ ⟨114, 8, 114, 43⟩, PySem.ErrL.stoS "what" ⟨115, 8, 115, 12⟩ ⟨115, 8, 115, 17⟩ ⟨115, 20, 115, 24⟩ ⟨115, 8, 115, 24⟩], defScope s_BadMeasuring_init⟩
theorem w_BadYears (P : Program) (w : World) : PySem.ErrL.SupW P w (defArgs s_BadYears_init) (defScope s_BadYears_init) "BadYears.__init__" ["years"] (fun _ => True) (.Constant (.str "years") 0 ⟨119, 25, 119, 32⟩) [] ⟨119, 8, 119, 13⟩ ⟨119, 8, 119, 15⟩ ⟨119, 8, 119, 24⟩ ⟨119, 8, 119, 33⟩ ⟨119, 8, 119, 33⟩ where
  hk := rfl
  co := rfl
  gen := rfl
  ks := rfl
  kc := rfl
  kse := rfl
  kf := (List.forall_mem_cons.mpr ⟨rfl, (fun _ h => by cases h)⟩)
  cell := by decide +kernel
  par := ⟨_, rfl, rfl⟩
  hi := fun _ _ _ _ => rfl
  hev := fun _ _ _ _ => ⟨_, rfl⟩
  hsw := fun _ _ _ _ => rfl
  hst := fun _ _ _ _ _ _ _ _ _ => rfl
  he := fun _ _ _ _ => rfl
  hpl := fun _ _ _ _ => rfl
  hargs := fun L fI cd cc A E us s1 mg mb m Q1 hok hm hl hs hn hg hb hbt h => PySem.ErrL.args_c rfl L fI cd cc A E s1 Q1 h
def d_ini_BadYears : HeM.IniD := ⟨"BadYears", "BadYears.__init__", defArgs s_BadYears_init, [PySem.ErrL.supS [.Constant (.str "years") 0 ⟨119, 25, 119, 32⟩] ⟨119, 8, 119, 13⟩ ⟨119, 8, 119, 15⟩ ⟨119, 8, 119, 24⟩ ⟨119, 8, 119, 33⟩ ⟨119, 8, 119, 33⟩, PySem.ErrL.stoS "years" ⟨120, 8, 120, 12⟩ ⟨120, 8, 120, 18⟩ ⟨120, 21, 120, 26⟩ ⟨120, 8, 120, 26⟩], defScope s_BadYears_init⟩
theorem w_BadWatch (P : Program) (w : World) : PySem.ErrL.SupW P w (defArgs s_BadWatch_init) (defScope s_BadWatch_init) "BadWatch.__init__" ["what"] (fun _ => True) (.Constant (.str "watch") 0 ⟨148, 25, 148, 32⟩) [.Name "what" ⟨148, 34, 148, 38⟩] ⟨148, 8, 148, 13⟩ ⟨148, 8, 148, 15⟩ ⟨148, 8, 148, 24⟩ ⟨148, 8, 148, 39⟩ ⟨148, 8, 148, 39⟩ where
  hk := rfl
  co := rfl
  gen := rfl
  ks := rfl
  kc := rfl
  kse := rfl
  kf := (List.forall_mem_cons.mpr ⟨rfl, (fun _ h => by cases h)⟩)
  cell := by decide +kernel
  par := ⟨_, rfl, rfl⟩
  hi := fun _ _ _ _ => rfl
  hev := fun _ _ _ _ => ⟨_, rfl⟩
  hsw := fun _ _ _ _ => rfl
  hst := fun _ _ _ _ _ _ _ _ _ => rfl
  he := fun _ _ _ _ => rfl
  hpl := fun _ _ _ _ => rfl
  hargs := fun L fI cd cc A E us s1 mg mb m Q1 hok hm hl hs hn hg hb hbt h => match us, hl, hm with
    | [v], _, hm => PySem.ErrL.args_cn rfl rfl (by decide) L fI cd cc A E v s1 m Q1 (hm 0 _ rfl) hn h
def d_ini_BadWatch : HeM.IniD := ⟨"BadWatch", "BadWatch.__init__", defArgs s_BadWatch_init, [PySem.ErrL.supS [.Constant (.str "watch") 0 ⟨148, 25, 148, 32⟩, .Name "what" ⟨148, 34, 148, 38⟩] ⟨148, 8, 148, 13⟩ ⟨148, 8, 148, 15⟩ ⟨148, 8, 148, 24⟩ ⟨148, 8, 148, 39⟩ ⟨148, 8, 148, 39⟩, PySem.ErrL.stoS "what" ⟨149, 8, 149, 12⟩ ⟨149, 8, 149, 17⟩ ⟨149, 20, 149, 24⟩ ⟨149, 8, 149, 24⟩], defScope s_BadWatch_init⟩
theorem w_NotTrue (P : Program) (w : World) : PySem.ErrL.SupW P w (defArgs s_NotTrue_init) (defScope s_NotTrue_init) "NotTrue.__init__" ["what", "row"] (fun _ => True) (.Constant (.str "not true") 0 ⟨153, 25, 153, 35⟩) [.Name "what" ⟨153, 37, 153, 41⟩] ⟨153, 8, 153, 13⟩ ⟨153, 8, 153, 15⟩ ⟨153, 8, 153, 24⟩ ⟨153, 8, 153, 42⟩ ⟨153, 8, 153, 42⟩ where
  hk := rfl
  co := rfl
  gen := rfl
  ks := rfl
  kc := rfl
  kse := rfl
  kf := (List.forall_mem_cons.mpr ⟨rfl, (List.forall_mem_cons.mpr ⟨rfl, (fun _ h => by cases h)⟩)⟩)
  cell := by decide +kernel
  par := ⟨_, rfl, rfl⟩
  hi := fun _ _ _ _ => rfl
  hev := fun _ _ _ _ => ⟨_, rfl⟩
  hsw := fun _ _ _ _ => rfl
  hst := fun _ _ _ _ _ _ _ _ _ => rfl
  he := fun _ _ _ _ => rfl
  hpl := fun _ _ _ _ => rfl
  hargs := fun L fI cd cc A E us s1 mg mb m Q1 hok hm hl hs hn hg hb hbt h => match us, hl, hm with
    | [v, u], _, hm => PySem.ErrL.args_cn rfl rfl (by decide) L fI cd cc A E v s1 m Q1 (hm 0 _ rfl) hn h
def d_ini_NotTrue : HeM.IniD := ⟨"NotTrue", "NotTrue.__init__", defArgs s_NotTrue_init, [PySem.ErrL.supS [.Constant (.str "not true") 0 ⟨153, 25, 153, 35⟩, .Name "what" ⟨153, 37, 153, 41⟩] ⟨153, 8, 153, 13⟩ ⟨153, 8, 153, 15⟩ ⟨153, 8, 153, 24⟩ ⟨153, 8, 153, 42⟩ ⟨153, 8, 153, 42⟩, PySem.ErrL.stoS "what" ⟨154, 8, 154, 12⟩ ⟨154, 8, 154, 17⟩ ⟨154, 20, 154, 24⟩ ⟨154, 8, 154, 24⟩, PySem.ErrL.stoS "row" ⟨155, 8, 155, 12⟩ ⟨155, 8, 155, 16⟩ ⟨155, 19, 155, 22⟩ ⟨155, 8, 155, 22⟩], defScope s_NotTrue_init⟩
theorem w_BadCase (P : Program) (w : World) : PySem.ErrL.SupW P w (defArgs s_BadCase_init) (defScope s_BadCase_init) "BadCase.__init__" ["what"] (fun _ => True) (.Constant (.str "case") 0 ⟨159, 25, 159, 31⟩) [.Name "what" ⟨159, 33, 159, 37⟩] ⟨159, 8, 159, 13⟩ ⟨159, 8, 159, 15⟩ ⟨159, 8, 159, 24⟩ ⟨159, 8, 159, 38⟩ ⟨159, 8, 159, 38⟩ where
  hk := rfl
  co := rfl
  gen := rfl
  ks := rfl
  kc := rfl
  kse := rfl
  kf := (List.forall_mem_cons.mpr ⟨rfl, (fun _ h => by cases h)⟩)
  cell := by decide +kernel
  par := ⟨_, rfl, rfl⟩
  hi := fun _ _ _ _ => rfl
  hev := fun _ _ _ _ => ⟨_, rfl⟩
  hsw := fun _ _ _ _ => rfl
  hst := fun _ _ _ _ _ _ _ _ _ => rfl
  he := fun _ _ _ _ => rfl
  hpl := fun _ _ _ _ => rfl
  hargs := fun L fI cd cc A E us s1 mg mb m Q1 hok hm hl hs hn hg hb hbt h => match us, hl, hm with
    | [v], _, hm => PySem.ErrL.args_cn rfl rfl (by decide) L fI cd cc A E v s1 m Q1 (hm 0 _ rfl) hn h
def d_ini_BadCase : HeM.IniD := ⟨"BadCase", "BadCase.__init__", defArgs s_BadCase_init, [PySem.ErrL.supS [.Constant (.str "case") 0 ⟨159, 25, 159, 31⟩, .Name "what" ⟨159, 33, 159, 37⟩] ⟨159, 8, 159, 13⟩ ⟨159, 8, 159, 15⟩ ⟨159, 8, 159, 24⟩ ⟨159, 8, 159, 38⟩ ⟨159, 8, 159, 38⟩, PySem.ErrL.stoS "what" ⟨160, 8, 160, 12⟩ ⟨160, 8, 160, 17⟩ ⟨160, 20, 160, 24⟩ ⟨160, 8, 160, 24⟩], defScope s_BadCase_init⟩
theorem w_BadChange (P : Program) (w : World) : PySem.ErrL.SupW P w (defArgs s_BadChange_init) (defScope s_BadChange_init) "BadChange.__init__" ["index", "what"] okI (.Constant (.str "change") 0 ⟨164, 25, 164, 33⟩) [.Call (.Name "str" ⟨164, 35, 164, 38⟩) [.Name "index" ⟨164, 39, 164, 44⟩] [] ⟨164, 35, 164, 45⟩, .Name "what" ⟨164, 47, 164, 51⟩] ⟨164, 8, 164, 13⟩ ⟨164, 8, 164, 15⟩ ⟨164, 8, 164, 24⟩ ⟨164, 8, 164, 52⟩ ⟨164, 8, 164, 52⟩ where
  hk := rfl
  co := rfl
  gen := rfl
  ks := rfl
  kc := rfl
  kse := rfl
  kf := (List.forall_mem_cons.mpr ⟨rfl, (List.forall_mem_cons.mpr ⟨rfl, (fun _ h => by cases h)⟩)⟩)
  cell := by decide +kernel
  par := ⟨_, rfl, rfl⟩
  hi := fun _ _ _ _ => rfl
  hev := fun _ _ _ _ => ⟨_, rfl⟩
  hsw := fun _ _ _ _ => rfl
  hst := fun _ _ _ _ _ _ _ _ _ => rfl
  he := fun _ _ _ _ => rfl
  hpl := fun _ _ _ _ => rfl
  hargs := fun L fI cd cc A E us s1 mg mb m Q1 hok hm hl hs hn hg hb hbt h => match us, hl, hm, hok with
    | [v, u], _, hm, hok => by obtain ⟨i, t, rfl, hi⟩ := hok _ rfl; exact PySem.ErrL.args_csn rfl rfl rfl rfl (by decide) (by decide) L fI cd cc A E i t u s1 m mg mb Q1 hi (hm 0 _ rfl) (hm 1 _ rfl) hs hn hg hb hbt h rfl
def d_ini_BadChange : HeM.IniD := ⟨"BadChange", "BadChange.__init__", defArgs s_BadChange_init, [PySem.ErrL.supS [.Constant (.str "change") 0 ⟨164, 25, 164, 33⟩, .Call (.Name "str" ⟨164, 35, 164, 38⟩) [.Name "index" ⟨164, 39, 164, 44⟩] [] ⟨164, 35, 164, 45⟩, .Name "what" ⟨164, 47, 164, 51⟩] ⟨164, 8, 164, 13⟩ ⟨164, 8, 164, 15⟩ ⟨164, 8, 164, 24⟩ ⟨164, 8, 164, 52⟩ ⟨164, 8, 164, 52⟩, PySem.ErrL.stoS "index" ⟨165, 8, 165, 12⟩ ⟨165, 8, 165, 18⟩ ⟨165, 21, 165, 26⟩ ⟨165, 8, 165, 26⟩, PySem.ErrL.stoS "what" ⟨166, 8, 166, 12⟩ ⟨166, 8, 166, 17⟩ ⟨166, 20, 166, 24⟩ ⟨166, 8, 166, 24⟩], defScope s_BadChange_init⟩
theorem w_BadPool (P : Program) (w : World) : PySem.ErrL.SupW P w (defArgs s_BadPool_init) (defScope s_BadPool_init) "BadPool.__init__" ["what", "index"] (fun _ => True) (.Constant (.str "pool") 0 ⟨170, 25, 170, 31⟩) [.Name "what" ⟨170, 33, 170, 37⟩] ⟨170, 8, 170, 13⟩ ⟨170, 8, 170, 15⟩ ⟨170, 8, 170, 24⟩ ⟨170, 8, 170, 38⟩ ⟨170, 8, 170, 38⟩ where
  hk := rfl
  co := rfl
  gen := rfl
  ks := rfl
  kc := rfl
  kse := rfl
  kf := (List.forall_mem_cons.mpr ⟨rfl, (List.forall_mem_cons.mpr ⟨rfl, (fun _ h => by cases h)⟩)⟩)
  cell := by decide +kernel
  par := ⟨_, rfl, rfl⟩
  hi := fun _ _ _ _ => rfl
  hev := fun _ _ _ _ => ⟨_, rfl⟩
  hsw := fun _ _ _ _ => rfl
  hst := fun _ _ _ _ _ _ _ _ _ => rfl
  he := fun _ _ _ _ => rfl
  hpl := fun _ _ _ _ => rfl
  hargs := fun L fI cd cc A E us s1 mg mb m Q1 hok hm hl hs hn hg hb hbt h => match us, hl, hm with
    | [v, u], _, hm => PySem.ErrL.args_cn rfl rfl (by decide) L fI cd cc A E v s1 m Q1 (hm 0 _ rfl) hn h
def d_ini_BadPool : HeM.IniD := ⟨"BadPool", "BadPool.__init__", defArgs s_BadPool_init, [PySem.ErrL.supS [.Constant (.str "pool") 0 ⟨170, 25, 170, 31⟩, .Name "what" ⟨170, 33, 170, 37⟩] ⟨170, 8, 170, 13⟩ ⟨170, 8, 170, 15⟩ ⟨170, 8, 170, 24⟩ ⟨170, 8, 170, 38⟩ ⟨170, 8, 170, 38⟩, PySem.ErrL.stoS "what" ⟨171, 8, 171, 12⟩ ⟨171, 8, 171, 17⟩ ⟨171, 20, 171, 24⟩ ⟨171, 8, 171, 24⟩, PySem.ErrL.stoS "index" ⟨172, 8, 172, 12⟩ ⟨172, 8, 172, 18⟩ ⟨172, 21, 172, 26⟩ ⟨172, 8, 172, 26⟩], defScope s_BadPool_init⟩
def faL : List He.Fa := [.free "len", .free "int", .free "str", .free "list", .free "isinstance", .free "range", .free "ValueError", .free "super", .glo "DeedError", .glo "BadCustoms", .glo "BadLives", .glo "BadRecord", .glo "NoRow", .glo "NoLife", .glo "NoPerson", .glo "OtherLives", .glo "BadKin", .glo "BadDate", .glo "BadTaker", .glo "BadCondition", .glo "BadGift", .glo "BadDeed", .glo "NoGift", .glo "BadYear", .glo "BadSystem", .glo "BadTimes", .glo "OtherCount", .glo "NoInstant", .glo "NoTimes", .glo "BadFormula", .glo "BadText", .glo "BadMeasuring", .glo "BadYears", .glo "NotAClass", .glo "BadCause", .glo "BadCustom", .glo "BadLater", .glo "NotMember", .glo "NoRoom", .glo "BadWatch", .glo "NotTrue", .glo "BadCase", .glo "BadChange", .glo "BadPool", .glo "_law_digits", .glo "_law_next", .glo "_law_word", .glo "_law_first", .glo "_law_second", .glo "_law_third", .glo "_law_classes", .glo "_law_raised", .glo "law"]
def fnL : List He.DefD := [⟨("BadSystem", some "__init__"), "__init__", "BadSystem.__init__", defArgs s_BadSystem_init, defBody s_BadSystem_init, defScope s_BadSystem_init, [], []⟩,
  ⟨("BadTimes", some "__init__"), "__init__", "BadTimes.__init__", defArgs s_BadTimes_init, defBody s_BadTimes_init, defScope s_BadTimes_init, [], []⟩,
  ⟨("OtherCount", some "__init__"), "__init__", "OtherCount.__init__", defArgs s_OtherCount_init, defBody s_OtherCount_init, defScope s_OtherCount_init, [], []⟩,
  ⟨("NoInstant", some "__init__"), "__init__", "NoInstant.__init__", defArgs s_NoInstant_init, defBody s_NoInstant_init, defScope s_NoInstant_init, [], []⟩,
  ⟨("NoTimes", some "__init__"), "__init__", "NoTimes.__init__", defArgs s_NoTimes_init, defBody s_NoTimes_init, defScope s_NoTimes_init, [], []⟩,
  ⟨("BadFormula", some "__init__"), "__init__", "BadFormula.__init__", defArgs s_BadFormula_init, defBody s_BadFormula_init, defScope s_BadFormula_init, [], []⟩,
  ⟨("BadText", some "__init__"), "__init__", "BadText.__init__", defArgs s_BadText_init, defBody s_BadText_init, defScope s_BadText_init, [], []⟩,
  ⟨("NotAClass", some "__init__"), "__init__", "NotAClass.__init__", defArgs s_NotAClass_init, defBody s_NotAClass_init, defScope s_NotAClass_init, [], []⟩,
  ⟨("BadCause", some "__init__"), "__init__", "BadCause.__init__", defArgs s_BadCause_init, defBody s_BadCause_init, defScope s_BadCause_init, [], []⟩,
  ⟨("BadCustom", some "__init__"), "__init__", "BadCustom.__init__", defArgs s_BadCustom_init, defBody s_BadCustom_init, defScope s_BadCustom_init, [], []⟩,
  ⟨("BadLater", some "__init__"), "__init__", "BadLater.__init__", defArgs s_BadLater_init, defBody s_BadLater_init, defScope s_BadLater_init, [], []⟩,
  ⟨("NotMember", some "__init__"), "__init__", "NotMember.__init__", defArgs s_NotMember_init, defBody s_NotMember_init, defScope s_NotMember_init, [], []⟩,
  ⟨("NoRoom", some "__init__"), "__init__", "NoRoom.__init__", defArgs s_NoRoom_init, defBody s_NoRoom_init, defScope s_NoRoom_init, [], []⟩,
  ⟨("_law_digits", none), "_law_digits", "_law_digits", defArgs s_digits, defBody s_digits, defScope s_digits, [], []⟩,
  ⟨("_law_next", none), "_law_next", "_law_next", defArgs s_next, defBody s_next, defScope s_next, [], []⟩,
  ⟨("_law_word", none), "_law_word", "_law_word", defArgs s_word, defBody s_word, defScope s_word, [], []⟩,
  ⟨("_law_first", none), "_law_first", "_law_first", defArgs s_first, defBody s_first, defScope s_first, [], []⟩,
  ⟨("_law_second", none), "_law_second", "_law_second", defArgs s_second, defBody s_second, defScope s_second, [], []⟩,
  ⟨("_law_third", none), "_law_third", "_law_third", defArgs s_third, defBody s_third, defScope s_third, [], []⟩,
  ⟨("_law_classes", none), "_law_classes", "_law_classes", defArgs s_classes, defBody s_classes, defScope s_classes, [], []⟩,
  ⟨("_law_raised", none), "_law_raised", "_law_raised", defArgs s_raised, defBody s_raised, defScope s_raised, [], []⟩,
  ⟨("law", none), "law", "law", defArgs s_law, defBody s_law, defScope s_law, [], []⟩]
def iniL : List HeM.IniD := [d_ini_BadCustoms, d_ini_BadLives, d_ini_BadRecord, d_ini_NoLife, d_ini_NoPerson, d_ini_BadKin, d_ini_BadDate, d_ini_BadTaker, d_ini_BadCondition, d_ini_BadGift, d_ini_BadDeed, d_ini_NoGift, d_ini_BadYear, d_ini_BadMeasuring, d_ini_BadYears, d_ini_BadWatch, d_ini_NotTrue, d_ini_BadCase, d_ini_BadChange, d_ini_BadPool]
def exL : List (PySem.W.Frag → Bool) := [fun K => HeM.zB K,
  fun K => eqO (PySem.W.nsIn K cStatics "thirdparty.any") (some none),
  fun K => eqO (PySem.W.findIn K (.ref (ga K "BadCustoms")) "what") (some none),
  fun K => eqO (PySem.W.findIn K (.ref (ga K "BadLives")) "index") (some none),
  fun K => eqO (PySem.W.findIn K (.ref (ga K "BadLives")) "what") (some none),
  fun K => eqO (PySem.W.findIn K (.ref (ga K "BadRecord")) "index") (some none),
  fun K => eqO (PySem.W.findIn K (.ref (ga K "BadRecord")) "what") (some none),
  fun K => eqO (PySem.W.findIn K (.ref (ga K "NoLife")) "name") (some none),
  fun K => eqO (PySem.W.findIn K (.ref (ga K "NoPerson")) "name") (some none),
  fun K => eqO (PySem.W.findIn K (.ref (ga K "BadKin")) "what") (some none),
  fun K => eqO (PySem.W.findIn K (.ref (ga K "BadDate")) "what") (some none),
  fun K => eqO (PySem.W.findIn K (.ref (ga K "BadTaker")) "what") (some none),
  fun K => eqO (PySem.W.findIn K (.ref (ga K "BadCondition")) "what") (some none),
  fun K => eqO (PySem.W.findIn K (.ref (ga K "BadGift")) "what") (some none),
  fun K => eqO (PySem.W.findIn K (.ref (ga K "BadDeed")) "index") (some none),
  fun K => eqO (PySem.W.findIn K (.ref (ga K "BadDeed")) "what") (some none),
  fun K => eqO (PySem.W.findIn K (.ref (ga K "NoGift")) "name") (some none),
  fun K => eqO (PySem.W.findIn K (.ref (ga K "BadYear")) "year") (some none),
  fun K => eqO (PySem.W.findIn K (.ref (ga K "BadMeasuring")) "what") (some none),
  fun K => eqO (PySem.W.findIn K (.ref (ga K "BadYears")) "years") (some none),
  fun K => eqO (PySem.W.findIn K (.ref (ga K "BadWatch")) "what") (some none),
  fun K => eqO (PySem.W.findIn K (.ref (ga K "NotTrue")) "what") (some none),
  fun K => eqO (PySem.W.findIn K (.ref (ga K "NotTrue")) "row") (some none),
  fun K => eqO (PySem.W.findIn K (.ref (ga K "BadCase")) "what") (some none),
  fun K => eqO (PySem.W.findIn K (.ref (ga K "BadChange")) "index") (some none),
  fun K => eqO (PySem.W.findIn K (.ref (ga K "BadChange")) "what") (some none),
  fun K => eqO (PySem.W.findIn K (.ref (ga K "BadPool")) "what") (some none),
  fun K => eqO (PySem.W.findIn K (.ref (ga K "BadPool")) "index") (some none),
  fun K => HeM.oxB K (ga K "BadSystem"),
  fun K => HeM.inB K "BadSystem",
  fun K => HeM.oxB K (ga K "BadTimes"),
  fun K => HeM.inB K "BadTimes",
  fun K => HeM.oxB K (ga K "OtherCount"),
  fun K => HeM.inB K "OtherCount",
  fun K => HeM.oxB K (ga K "NoInstant"),
  fun K => HeM.inB K "NoInstant",
  fun K => HeM.oxB K (ga K "NoTimes"),
  fun K => HeM.inB K "NoTimes",
  fun K => HeM.oxB K (ga K "BadFormula"),
  fun K => HeM.inB K "BadFormula",
  fun K => HeM.oxB K (ga K "BadText"),
  fun K => HeM.inB K "BadText",
  fun K => HeM.oxB K (ga K "NotAClass"),
  fun K => HeM.inB K "NotAClass",
  fun K => HeM.oxB K (ga K "BadCause"),
  fun K => HeM.inB K "BadCause",
  fun K => HeM.oxB K (ga K "BadCustom"),
  fun K => HeM.inB K "BadCustom",
  fun K => HeM.oxB K (ga K "BadLater"),
  fun K => HeM.inB K "BadLater",
  fun K => HeM.oxB K (ga K "NotMember"),
  fun K => HeM.inB K "NotMember",
  fun K => HeM.oxB K (ga K "NoRoom"),
  fun K => HeM.inB K "NoRoom",
  fun K => eqO (PySem.W.findIn K (.ref (ga K "BadSystem")) "index") (some none),
  fun K => eqO (PySem.W.findIn K (.ref (ga K "BadSystem")) "what") (some none),
  fun K => eqO (PySem.W.findIn K (.ref (ga K "NoInstant")) "instant") (some none),
  fun K => eqO (PySem.W.findIn K (.ref (ga K "NoTimes")) "path") (some none),
  fun K => eqO (PySem.W.findIn K (.ref (ga K "BadFormula")) "what") (some none),
  fun K => eqO (PySem.W.findIn K (.ref (ga K "BadText")) "row") (some none),
  fun K => eqO (PySem.W.findIn K (.ref (ga K "BadText")) "what") (some none),
  fun K => eqO (PySem.W.findIn K (.ref (ga K "NotAClass")) "name") (some none),
  fun K => eqO (PySem.W.findIn K (.ref (ga K "BadCause")) "cause") (some none),
  fun K => eqO (PySem.W.findIn K (.ref (ga K "BadCustom")) "custom") (some none),
  fun K => eqO (PySem.W.findIn K (.ref (ga K "BadLater")) "later") (some none),
  fun K => eqO (PySem.W.findIn K (.ref (ga K "NotMember")) "name") (some none),
  fun K => eqO (PySem.W.findIn K (.ref (ga K "NoRoom")) "name") (some none),
  fun K => PySem.W.excIn K (ga K "NoRow") He.veBase "ValueError.__new__",
  fun K => PySem.W.keepIn K (.ref (ga K "NoRow")),
  fun K => PySem.W.excIn K (ga K "OtherLives") He.veBase "ValueError.__new__",
  fun K => PySem.W.keepIn K (.ref (ga K "OtherLives")),
  fun K => PySem.W.excIn K (ga K "DeedError") He.veBase "ValueError.__new__",
  fun K => PySem.W.keepIn K (.ref (ga K "DeedError")),
  fun K => c36.all fun c => HeM.xcB K (ga K (Str.ofString c)),
  fun K => cf.all fun q => eqO (PySem.W.findIn K (.ref (ga K (Str.ofString q.1))) (Str.ofString q.2)) (some none),
  fun K => c36.all fun c => c35.all fun d => decide (PySem.W.kitOne K (.ref (ga K (Str.ofString c))) (.ref (ga K (Str.ofString d))) = some (decide (c = d))),
  fun K => c36.all fun c => decide (PySem.W.kitOne K (.ref (ga K (Str.ofString c))) (.ref (ga K "DeedError")) = some true),
  fun K => c36.all fun c => decide (PySem.W.kitOne K (.ref (ga K (Str.ofString c))) (.type "ValueError") = some true),
  fun K => PySem.W.readsIn K (ga K "DeedError") (.type "type"),
  fun K => eqO (PySem.W.specialIn K (.ref (ga K "DeedError")) "__getattribute__") (some (some (.builtin "type.__getattribute__"))),
  fun K => HeM.valIs (PySem.W.findCls K (.ref (ga K "DeedError")) (.type "type") "__init__") (.builtin "ValueError.__init__"),
  fun K => c36.all fun c => decide (PySem.W.subIn K (.ref (ga K (Str.ofString c))) (.type "BaseException") = some true) && decide (PySem.W.typeIn K (.ref (ga K (Str.ofString c))) = some (.type "type")),
  fun K => decide (PySem.W.exmOne K (.ref (ga K "BadLives")) (.ref (ga K "BadRecord")) = some false),
  fun K => decide (PySem.W.exmOne K (.ref (ga K "BadLives")) (.ref (ga K "DeedError")) = some true),
  fun K => decide (PySem.W.exmOne K (.ref (ga K "NoPerson")) (.ref (ga K "NoLife")) = some false),
  fun K => decide (PySem.W.exmOne K (.ref (ga K "NoPerson")) (.ref (ga K "DeedError")) = some true),
  fun K => decide (PySem.W.exmOne K (.ref (ga K "NoRow")) (.ref (ga K "OtherLives")) = some false),
  fun K => decide (PySem.W.exmOne K (.ref (ga K "NoRow")) (.ref (ga K "DeedError")) = some true)]
def exB (K : PySem.W.Frag) : Bool := exL.all fun b => b K
abbrev Rw : PySem.W.OpenRow := PySem.W.OpenLaw.row PySem.Challenge.rw_lastlife_k00_errors_side_by_side
def lawFile : Str := Rw.prog.main.file
abbrev hkM : PySem.W.Hook := HeM.hookM lawFile 5 faL fnL iniL exB
def obM (s : PySem.W.SharedT) : HeM.AlM := HeM.obsMG lawFile 5 faL fnL iniL exB (HandSHeadRun.getT s)
theorem obM_eq (s : PySem.W.SharedT) : obM s = hkM.obs s.abs := HeM.obsMG_eq (HandSHeadRun.getT_eq s)
def looseL : List PySem.Str := (["DeedError", "BadCustoms", "BadLives", "BadRecord", "NoRow", "NoLife", "NoPerson", "OtherLives", "BadKin", "BadDate", "BadTaker", "BadCondition", "BadGift", "BadDeed", "NoGift", "BadYear", "BadSystem", "BadTimes", "OtherCount", "NoInstant", "NoTimes", "BadFormula", "BadText", "BadMeasuring", "BadYears", "NotAClass", "BadCause", "BadCustom", "BadLater", "NotMember"] : List PySem.Str) ++ (["NoRoom", "BadWatch", "NotTrue", "BadCase", "BadChange", "BadPool", "_law_digits", "_law_next", "_law_word", "_law_first", "_law_second", "_law_third", "_law_classes", "_law_raised"] : List PySem.Str)
theorem runM (w : World) : HandSHeadRun.RunEq Rw (PySem.W.view Rw.prog [46]) hkM obM 12000 looseL w := by
  intro os
  kernel_rfl
theorem txt_mk {P : Program} {w : World} {K : PySem.W.Frag} {h : Heap} {mg : Str → Option Value} (X : K.In h) (G : h.Ns mainGlobals mg) (hP : P.main.file = lawFile) (c0 : HeM.SaysM lawFile faL fnL iniL exB K) (stop : (P.main.scope.names.lookup ("super" : Str)).isSome = false) : Txt P w K mg (fun s => ga K (Str.ofString s)) := by
  have cS : HeM.SaysM P.main.file faL fnL iniL exB K := by rw [hP]; exact c0
  have hz : HeM.zB K = true := cS.ex_at (L := exL) 0 rfl
  have opq : PySem.W.nsIn K cStatics "thirdparty.any" = some none := eqO_ok (cS.ex_at (L := exL) 1 rfl)
  exact {
    n_len := He.free_ok X G (cS.d.fact 0 (f := .free "len") rfl)
    n_int := He.free_ok X G (cS.d.fact 1 (f := .free "int") rfl)
    n_str := He.free_ok X G (cS.d.fact 2 (f := .free "str") rfl)
    n_list := He.free_ok X G (cS.d.fact 3 (f := .free "list") rfl)
    n_isinstance := He.free_ok X G (cS.d.fact 4 (f := .free "isinstance") rfl)
    n_range := He.free_ok X G (cS.d.fact 5 (f := .free "range") rfl)
    n_ValueError := He.free_ok X G (cS.d.fact 6 (f := .free "ValueError") rfl)
    n_super := He.free_ok X G (cS.d.fact 7 (f := .free "super") rfl)
    m_DeedError := (He.glo_ok X G (cS.d.fact 8 (f := .glo "DeedError") rfl))
    m_BadCustoms := (He.glo_ok X G (cS.d.fact 9 (f := .glo "BadCustoms") rfl))
    m_BadLives := (He.glo_ok X G (cS.d.fact 10 (f := .glo "BadLives") rfl))
    m_BadRecord := (He.glo_ok X G (cS.d.fact 11 (f := .glo "BadRecord") rfl))
    m_NoRow := (He.glo_ok X G (cS.d.fact 12 (f := .glo "NoRow") rfl))
    m_NoLife := (He.glo_ok X G (cS.d.fact 13 (f := .glo "NoLife") rfl))
    m_NoPerson := (He.glo_ok X G (cS.d.fact 14 (f := .glo "NoPerson") rfl))
    m_OtherLives := (He.glo_ok X G (cS.d.fact 15 (f := .glo "OtherLives") rfl))
    m_BadKin := (He.glo_ok X G (cS.d.fact 16 (f := .glo "BadKin") rfl))
    m_BadDate := (He.glo_ok X G (cS.d.fact 17 (f := .glo "BadDate") rfl))
    m_BadTaker := (He.glo_ok X G (cS.d.fact 18 (f := .glo "BadTaker") rfl))
    m_BadCondition := (He.glo_ok X G (cS.d.fact 19 (f := .glo "BadCondition") rfl))
    m_BadGift := (He.glo_ok X G (cS.d.fact 20 (f := .glo "BadGift") rfl))
    m_BadDeed := (He.glo_ok X G (cS.d.fact 21 (f := .glo "BadDeed") rfl))
    m_NoGift := (He.glo_ok X G (cS.d.fact 22 (f := .glo "NoGift") rfl))
    m_BadYear := (He.glo_ok X G (cS.d.fact 23 (f := .glo "BadYear") rfl))
    m_BadSystem := (He.glo_ok X G (cS.d.fact 24 (f := .glo "BadSystem") rfl))
    m_BadTimes := (He.glo_ok X G (cS.d.fact 25 (f := .glo "BadTimes") rfl))
    m_OtherCount := (He.glo_ok X G (cS.d.fact 26 (f := .glo "OtherCount") rfl))
    m_NoInstant := (He.glo_ok X G (cS.d.fact 27 (f := .glo "NoInstant") rfl))
    m_NoTimes := (He.glo_ok X G (cS.d.fact 28 (f := .glo "NoTimes") rfl))
    m_BadFormula := (He.glo_ok X G (cS.d.fact 29 (f := .glo "BadFormula") rfl))
    m_BadText := (He.glo_ok X G (cS.d.fact 30 (f := .glo "BadText") rfl))
    m_BadMeasuring := (He.glo_ok X G (cS.d.fact 31 (f := .glo "BadMeasuring") rfl))
    m_BadYears := (He.glo_ok X G (cS.d.fact 32 (f := .glo "BadYears") rfl))
    m_NotAClass := (He.glo_ok X G (cS.d.fact 33 (f := .glo "NotAClass") rfl))
    m_BadCause := (He.glo_ok X G (cS.d.fact 34 (f := .glo "BadCause") rfl))
    m_BadCustom := (He.glo_ok X G (cS.d.fact 35 (f := .glo "BadCustom") rfl))
    m_BadLater := (He.glo_ok X G (cS.d.fact 36 (f := .glo "BadLater") rfl))
    m_NotMember := (He.glo_ok X G (cS.d.fact 37 (f := .glo "NotMember") rfl))
    m_NoRoom := (He.glo_ok X G (cS.d.fact 38 (f := .glo "NoRoom") rfl))
    m_BadWatch := (He.glo_ok X G (cS.d.fact 39 (f := .glo "BadWatch") rfl))
    m_NotTrue := (He.glo_ok X G (cS.d.fact 40 (f := .glo "NotTrue") rfl))
    m_BadCase := (He.glo_ok X G (cS.d.fact 41 (f := .glo "BadCase") rfl))
    m_BadChange := (He.glo_ok X G (cS.d.fact 42 (f := .glo "BadChange") rfl))
    m_BadPool := (He.glo_ok X G (cS.d.fact 43 (f := .glo "BadPool") rfl))
    e_BadCustoms := PySem.ErrL.makes1 (HeM.SaysM.ini cS 0 (d := d_ini_BadCustoms) opq stop rfl) (w_BadCustoms P w) (HeM.SaysM.ox cS 0 (d := d_ini_BadCustoms) rfl).kC (HeM.SaysM.ox cS 0 (d := d_ini_BadCustoms) rfl).exC (HeM.SaysM.ox cS 0 (d := d_ini_BadCustoms) rfl).tyC (eqO_ok (cS.ex_at (L := exL) 2 rfl)) (by decide) (by decide) (He.free_ok X G (cS.d.fact 7 (f := .free "super") rfl)) (He.free_ok X G (cS.d.fact 2 (f := .free "str") rfl)) (fun _ _ _ _ _ _ _ _ _ => rfl)
    e_BadLives := PySem.ErrL.makes2 (HeM.SaysM.ini cS 1 (d := d_ini_BadLives) opq stop rfl) (w_BadLives P w) (HeM.SaysM.ox cS 1 (d := d_ini_BadLives) rfl).kC (HeM.SaysM.ox cS 1 (d := d_ini_BadLives) rfl).exC (HeM.SaysM.ox cS 1 (d := d_ini_BadLives) rfl).tyC (eqO_ok (cS.ex_at (L := exL) 3 rfl)) (eqO_ok (cS.ex_at (L := exL) 4 rfl)) (by decide) (by decide) (by decide) (by decide) (by decide) (He.free_ok X G (cS.d.fact 7 (f := .free "super") rfl)) (He.free_ok X G (cS.d.fact 2 (f := .free "str") rfl)) (fun _ _ _ _ _ _ _ _ _ _ => rfl)
    e_BadRecord := PySem.ErrL.makes2 (HeM.SaysM.ini cS 2 (d := d_ini_BadRecord) opq stop rfl) (w_BadRecord P w) (HeM.SaysM.ox cS 2 (d := d_ini_BadRecord) rfl).kC (HeM.SaysM.ox cS 2 (d := d_ini_BadRecord) rfl).exC (HeM.SaysM.ox cS 2 (d := d_ini_BadRecord) rfl).tyC (eqO_ok (cS.ex_at (L := exL) 5 rfl)) (eqO_ok (cS.ex_at (L := exL) 6 rfl)) (by decide) (by decide) (by decide) (by decide) (by decide) (He.free_ok X G (cS.d.fact 7 (f := .free "super") rfl)) (He.free_ok X G (cS.d.fact 2 (f := .free "str") rfl)) (fun _ _ _ _ _ _ _ _ _ _ => rfl)
    e_NoLife := PySem.ErrL.makes1 (HeM.SaysM.ini cS 3 (d := d_ini_NoLife) opq stop rfl) (w_NoLife P w) (HeM.SaysM.ox cS 3 (d := d_ini_NoLife) rfl).kC (HeM.SaysM.ox cS 3 (d := d_ini_NoLife) rfl).exC (HeM.SaysM.ox cS 3 (d := d_ini_NoLife) rfl).tyC (eqO_ok (cS.ex_at (L := exL) 7 rfl)) (by decide) (by decide) (He.free_ok X G (cS.d.fact 7 (f := .free "super") rfl)) (He.free_ok X G (cS.d.fact 2 (f := .free "str") rfl)) (fun _ _ _ _ _ _ _ _ _ => rfl)
    e_NoPerson := PySem.ErrL.makes1 (HeM.SaysM.ini cS 4 (d := d_ini_NoPerson) opq stop rfl) (w_NoPerson P w) (HeM.SaysM.ox cS 4 (d := d_ini_NoPerson) rfl).kC (HeM.SaysM.ox cS 4 (d := d_ini_NoPerson) rfl).exC (HeM.SaysM.ox cS 4 (d := d_ini_NoPerson) rfl).tyC (eqO_ok (cS.ex_at (L := exL) 8 rfl)) (by decide) (by decide) (He.free_ok X G (cS.d.fact 7 (f := .free "super") rfl)) (He.free_ok X G (cS.d.fact 2 (f := .free "str") rfl)) (fun _ _ _ _ _ _ _ _ _ => rfl)
    e_BadKin := PySem.ErrL.makes1 (HeM.SaysM.ini cS 5 (d := d_ini_BadKin) opq stop rfl) (w_BadKin P w) (HeM.SaysM.ox cS 5 (d := d_ini_BadKin) rfl).kC (HeM.SaysM.ox cS 5 (d := d_ini_BadKin) rfl).exC (HeM.SaysM.ox cS 5 (d := d_ini_BadKin) rfl).tyC (eqO_ok (cS.ex_at (L := exL) 9 rfl)) (by decide) (by decide) (He.free_ok X G (cS.d.fact 7 (f := .free "super") rfl)) (He.free_ok X G (cS.d.fact 2 (f := .free "str") rfl)) (fun _ _ _ _ _ _ _ _ _ => rfl)
    e_BadDate := PySem.ErrL.makes1 (HeM.SaysM.ini cS 6 (d := d_ini_BadDate) opq stop rfl) (w_BadDate P w) (HeM.SaysM.ox cS 6 (d := d_ini_BadDate) rfl).kC (HeM.SaysM.ox cS 6 (d := d_ini_BadDate) rfl).exC (HeM.SaysM.ox cS 6 (d := d_ini_BadDate) rfl).tyC (eqO_ok (cS.ex_at (L := exL) 10 rfl)) (by decide) (by decide) (He.free_ok X G (cS.d.fact 7 (f := .free "super") rfl)) (He.free_ok X G (cS.d.fact 2 (f := .free "str") rfl)) (fun _ _ _ _ _ _ _ _ _ => rfl)
    e_BadTaker := PySem.ErrL.makes1 (HeM.SaysM.ini cS 7 (d := d_ini_BadTaker) opq stop rfl) (w_BadTaker P w) (HeM.SaysM.ox cS 7 (d := d_ini_BadTaker) rfl).kC (HeM.SaysM.ox cS 7 (d := d_ini_BadTaker) rfl).exC (HeM.SaysM.ox cS 7 (d := d_ini_BadTaker) rfl).tyC (eqO_ok (cS.ex_at (L := exL) 11 rfl)) (by decide) (by decide) (He.free_ok X G (cS.d.fact 7 (f := .free "super") rfl)) (He.free_ok X G (cS.d.fact 2 (f := .free "str") rfl)) (fun _ _ _ _ _ _ _ _ _ => rfl)
    e_BadCondition := PySem.ErrL.makes1 (HeM.SaysM.ini cS 8 (d := d_ini_BadCondition) opq stop rfl) (w_BadCondition P w) (HeM.SaysM.ox cS 8 (d := d_ini_BadCondition) rfl).kC (HeM.SaysM.ox cS 8 (d := d_ini_BadCondition) rfl).exC (HeM.SaysM.ox cS 8 (d := d_ini_BadCondition) rfl).tyC (eqO_ok (cS.ex_at (L := exL) 12 rfl)) (by decide) (by decide) (He.free_ok X G (cS.d.fact 7 (f := .free "super") rfl)) (He.free_ok X G (cS.d.fact 2 (f := .free "str") rfl)) (fun _ _ _ _ _ _ _ _ _ => rfl)
    e_BadGift := PySem.ErrL.makes1 (HeM.SaysM.ini cS 9 (d := d_ini_BadGift) opq stop rfl) (w_BadGift P w) (HeM.SaysM.ox cS 9 (d := d_ini_BadGift) rfl).kC (HeM.SaysM.ox cS 9 (d := d_ini_BadGift) rfl).exC (HeM.SaysM.ox cS 9 (d := d_ini_BadGift) rfl).tyC (eqO_ok (cS.ex_at (L := exL) 13 rfl)) (by decide) (by decide) (He.free_ok X G (cS.d.fact 7 (f := .free "super") rfl)) (He.free_ok X G (cS.d.fact 2 (f := .free "str") rfl)) (fun _ _ _ _ _ _ _ _ _ => rfl)
    e_BadDeed := PySem.ErrL.makes2 (HeM.SaysM.ini cS 10 (d := d_ini_BadDeed) opq stop rfl) (w_BadDeed P w) (HeM.SaysM.ox cS 10 (d := d_ini_BadDeed) rfl).kC (HeM.SaysM.ox cS 10 (d := d_ini_BadDeed) rfl).exC (HeM.SaysM.ox cS 10 (d := d_ini_BadDeed) rfl).tyC (eqO_ok (cS.ex_at (L := exL) 14 rfl)) (eqO_ok (cS.ex_at (L := exL) 15 rfl)) (by decide) (by decide) (by decide) (by decide) (by decide) (He.free_ok X G (cS.d.fact 7 (f := .free "super") rfl)) (He.free_ok X G (cS.d.fact 2 (f := .free "str") rfl)) (fun _ _ _ _ _ _ _ _ _ _ => rfl)
    e_NoGift := PySem.ErrL.makes1 (HeM.SaysM.ini cS 11 (d := d_ini_NoGift) opq stop rfl) (w_NoGift P w) (HeM.SaysM.ox cS 11 (d := d_ini_NoGift) rfl).kC (HeM.SaysM.ox cS 11 (d := d_ini_NoGift) rfl).exC (HeM.SaysM.ox cS 11 (d := d_ini_NoGift) rfl).tyC (eqO_ok (cS.ex_at (L := exL) 16 rfl)) (by decide) (by decide) (He.free_ok X G (cS.d.fact 7 (f := .free "super") rfl)) (He.free_ok X G (cS.d.fact 2 (f := .free "str") rfl)) (fun _ _ _ _ _ _ _ _ _ => rfl)
    e_BadYear := PySem.ErrL.makes1 (HeM.SaysM.ini cS 12 (d := d_ini_BadYear) opq stop rfl) (w_BadYear P w) (HeM.SaysM.ox cS 12 (d := d_ini_BadYear) rfl).kC (HeM.SaysM.ox cS 12 (d := d_ini_BadYear) rfl).exC (HeM.SaysM.ox cS 12 (d := d_ini_BadYear) rfl).tyC (eqO_ok (cS.ex_at (L := exL) 17 rfl)) (by decide) (by decide) (He.free_ok X G (cS.d.fact 7 (f := .free "super") rfl)) (He.free_ok X G (cS.d.fact 2 (f := .free "str") rfl)) (fun _ _ _ _ _ _ _ _ _ => rfl)
    e_BadMeasuring := PySem.ErrL.makes1 (HeM.SaysM.ini cS 13 (d := d_ini_BadMeasuring) opq stop rfl) (w_BadMeasuring P w) (HeM.SaysM.ox cS 13 (d := d_ini_BadMeasuring) rfl).kC (HeM.SaysM.ox cS 13 (d := d_ini_BadMeasuring) rfl).exC (HeM.SaysM.ox cS 13 (d := d_ini_BadMeasuring) rfl).tyC (eqO_ok (cS.ex_at (L := exL) 18 rfl)) (by decide) (by decide) (He.free_ok X G (cS.d.fact 7 (f := .free "super") rfl)) (He.free_ok X G (cS.d.fact 2 (f := .free "str") rfl)) (fun _ _ _ _ _ _ _ _ _ => rfl)
    e_BadYears := PySem.ErrL.makes1 (HeM.SaysM.ini cS 14 (d := d_ini_BadYears) opq stop rfl) (w_BadYears P w) (HeM.SaysM.ox cS 14 (d := d_ini_BadYears) rfl).kC (HeM.SaysM.ox cS 14 (d := d_ini_BadYears) rfl).exC (HeM.SaysM.ox cS 14 (d := d_ini_BadYears) rfl).tyC (eqO_ok (cS.ex_at (L := exL) 19 rfl)) (by decide) (by decide) (He.free_ok X G (cS.d.fact 7 (f := .free "super") rfl)) (He.free_ok X G (cS.d.fact 2 (f := .free "str") rfl)) (fun _ _ _ _ _ _ _ _ _ => rfl)
    e_BadWatch := PySem.ErrL.makes1 (HeM.SaysM.ini cS 15 (d := d_ini_BadWatch) opq stop rfl) (w_BadWatch P w) (HeM.SaysM.ox cS 15 (d := d_ini_BadWatch) rfl).kC (HeM.SaysM.ox cS 15 (d := d_ini_BadWatch) rfl).exC (HeM.SaysM.ox cS 15 (d := d_ini_BadWatch) rfl).tyC (eqO_ok (cS.ex_at (L := exL) 20 rfl)) (by decide) (by decide) (He.free_ok X G (cS.d.fact 7 (f := .free "super") rfl)) (He.free_ok X G (cS.d.fact 2 (f := .free "str") rfl)) (fun _ _ _ _ _ _ _ _ _ => rfl)
    e_NotTrue := PySem.ErrL.makes2 (HeM.SaysM.ini cS 16 (d := d_ini_NotTrue) opq stop rfl) (w_NotTrue P w) (HeM.SaysM.ox cS 16 (d := d_ini_NotTrue) rfl).kC (HeM.SaysM.ox cS 16 (d := d_ini_NotTrue) rfl).exC (HeM.SaysM.ox cS 16 (d := d_ini_NotTrue) rfl).tyC (eqO_ok (cS.ex_at (L := exL) 21 rfl)) (eqO_ok (cS.ex_at (L := exL) 22 rfl)) (by decide) (by decide) (by decide) (by decide) (by decide) (He.free_ok X G (cS.d.fact 7 (f := .free "super") rfl)) (He.free_ok X G (cS.d.fact 2 (f := .free "str") rfl)) (fun _ _ _ _ _ _ _ _ _ _ => rfl)
    e_BadCase := PySem.ErrL.makes1 (HeM.SaysM.ini cS 17 (d := d_ini_BadCase) opq stop rfl) (w_BadCase P w) (HeM.SaysM.ox cS 17 (d := d_ini_BadCase) rfl).kC (HeM.SaysM.ox cS 17 (d := d_ini_BadCase) rfl).exC (HeM.SaysM.ox cS 17 (d := d_ini_BadCase) rfl).tyC (eqO_ok (cS.ex_at (L := exL) 23 rfl)) (by decide) (by decide) (He.free_ok X G (cS.d.fact 7 (f := .free "super") rfl)) (He.free_ok X G (cS.d.fact 2 (f := .free "str") rfl)) (fun _ _ _ _ _ _ _ _ _ => rfl)
    e_BadChange := PySem.ErrL.makes2 (HeM.SaysM.ini cS 18 (d := d_ini_BadChange) opq stop rfl) (w_BadChange P w) (HeM.SaysM.ox cS 18 (d := d_ini_BadChange) rfl).kC (HeM.SaysM.ox cS 18 (d := d_ini_BadChange) rfl).exC (HeM.SaysM.ox cS 18 (d := d_ini_BadChange) rfl).tyC (eqO_ok (cS.ex_at (L := exL) 24 rfl)) (eqO_ok (cS.ex_at (L := exL) 25 rfl)) (by decide) (by decide) (by decide) (by decide) (by decide) (He.free_ok X G (cS.d.fact 7 (f := .free "super") rfl)) (He.free_ok X G (cS.d.fact 2 (f := .free "str") rfl)) (fun _ _ _ _ _ _ _ _ _ _ => rfl)
    e_BadPool := PySem.ErrL.makes2 (HeM.SaysM.ini cS 19 (d := d_ini_BadPool) opq stop rfl) (w_BadPool P w) (HeM.SaysM.ox cS 19 (d := d_ini_BadPool) rfl).kC (HeM.SaysM.ox cS 19 (d := d_ini_BadPool) rfl).exC (HeM.SaysM.ox cS 19 (d := d_ini_BadPool) rfl).tyC (eqO_ok (cS.ex_at (L := exL) 26 rfl)) (eqO_ok (cS.ex_at (L := exL) 27 rfl)) (by decide) (by decide) (by decide) (by decide) (by decide) (He.free_ok X G (cS.d.fact 7 (f := .free "super") rfl)) (He.free_ok X G (cS.d.fact 2 (f := .free "str") rfl)) (fun _ _ _ _ _ _ _ _ _ _ => rfl)
    o_BadSystem := HeM.oxB_ok (cS.ex_at (L := exL) 28 rfl)
    i_BadSystem := (let ⟨fd, F⟩ := cS.d.def_ 0 (d := ⟨("BadSystem", some "__init__"), "__init__", "BadSystem.__init__", defArgs s_BadSystem_init, defBody s_BadSystem_init, defScope s_BadSystem_init, [], []⟩) rfl; ⟨_, fd, fun_of F, HeM.inB_ok (cS.ex_at (L := exL) 29 rfl)⟩)
    o_BadTimes := HeM.oxB_ok (cS.ex_at (L := exL) 30 rfl)
    i_BadTimes := (let ⟨fd, F⟩ := cS.d.def_ 1 (d := ⟨("BadTimes", some "__init__"), "__init__", "BadTimes.__init__", defArgs s_BadTimes_init, defBody s_BadTimes_init, defScope s_BadTimes_init, [], []⟩) rfl; ⟨_, fd, fun_of F, HeM.inB_ok (cS.ex_at (L := exL) 31 rfl)⟩)
    o_OtherCount := HeM.oxB_ok (cS.ex_at (L := exL) 32 rfl)
    i_OtherCount := (let ⟨fd, F⟩ := cS.d.def_ 2 (d := ⟨("OtherCount", some "__init__"), "__init__", "OtherCount.__init__", defArgs s_OtherCount_init, defBody s_OtherCount_init, defScope s_OtherCount_init, [], []⟩) rfl; ⟨_, fd, fun_of F, HeM.inB_ok (cS.ex_at (L := exL) 33 rfl)⟩)
    o_NoInstant := HeM.oxB_ok (cS.ex_at (L := exL) 34 rfl)
    i_NoInstant := (let ⟨fd, F⟩ := cS.d.def_ 3 (d := ⟨("NoInstant", some "__init__"), "__init__", "NoInstant.__init__", defArgs s_NoInstant_init, defBody s_NoInstant_init, defScope s_NoInstant_init, [], []⟩) rfl; ⟨_, fd, fun_of F, HeM.inB_ok (cS.ex_at (L := exL) 35 rfl)⟩)
    o_NoTimes := HeM.oxB_ok (cS.ex_at (L := exL) 36 rfl)
    i_NoTimes := (let ⟨fd, F⟩ := cS.d.def_ 4 (d := ⟨("NoTimes", some "__init__"), "__init__", "NoTimes.__init__", defArgs s_NoTimes_init, defBody s_NoTimes_init, defScope s_NoTimes_init, [], []⟩) rfl; ⟨_, fd, fun_of F, HeM.inB_ok (cS.ex_at (L := exL) 37 rfl)⟩)
    o_BadFormula := HeM.oxB_ok (cS.ex_at (L := exL) 38 rfl)
    i_BadFormula := (let ⟨fd, F⟩ := cS.d.def_ 5 (d := ⟨("BadFormula", some "__init__"), "__init__", "BadFormula.__init__", defArgs s_BadFormula_init, defBody s_BadFormula_init, defScope s_BadFormula_init, [], []⟩) rfl; ⟨_, fd, fun_of F, HeM.inB_ok (cS.ex_at (L := exL) 39 rfl)⟩)
    o_BadText := HeM.oxB_ok (cS.ex_at (L := exL) 40 rfl)
    i_BadText := (let ⟨fd, F⟩ := cS.d.def_ 6 (d := ⟨("BadText", some "__init__"), "__init__", "BadText.__init__", defArgs s_BadText_init, defBody s_BadText_init, defScope s_BadText_init, [], []⟩) rfl; ⟨_, fd, fun_of F, HeM.inB_ok (cS.ex_at (L := exL) 41 rfl)⟩)
    o_NotAClass := HeM.oxB_ok (cS.ex_at (L := exL) 42 rfl)
    i_NotAClass := (let ⟨fd, F⟩ := cS.d.def_ 7 (d := ⟨("NotAClass", some "__init__"), "__init__", "NotAClass.__init__", defArgs s_NotAClass_init, defBody s_NotAClass_init, defScope s_NotAClass_init, [], []⟩) rfl; ⟨_, fd, fun_of F, HeM.inB_ok (cS.ex_at (L := exL) 43 rfl)⟩)
    o_BadCause := HeM.oxB_ok (cS.ex_at (L := exL) 44 rfl)
    i_BadCause := (let ⟨fd, F⟩ := cS.d.def_ 8 (d := ⟨("BadCause", some "__init__"), "__init__", "BadCause.__init__", defArgs s_BadCause_init, defBody s_BadCause_init, defScope s_BadCause_init, [], []⟩) rfl; ⟨_, fd, fun_of F, HeM.inB_ok (cS.ex_at (L := exL) 45 rfl)⟩)
    o_BadCustom := HeM.oxB_ok (cS.ex_at (L := exL) 46 rfl)
    i_BadCustom := (let ⟨fd, F⟩ := cS.d.def_ 9 (d := ⟨("BadCustom", some "__init__"), "__init__", "BadCustom.__init__", defArgs s_BadCustom_init, defBody s_BadCustom_init, defScope s_BadCustom_init, [], []⟩) rfl; ⟨_, fd, fun_of F, HeM.inB_ok (cS.ex_at (L := exL) 47 rfl)⟩)
    o_BadLater := HeM.oxB_ok (cS.ex_at (L := exL) 48 rfl)
    i_BadLater := (let ⟨fd, F⟩ := cS.d.def_ 10 (d := ⟨("BadLater", some "__init__"), "__init__", "BadLater.__init__", defArgs s_BadLater_init, defBody s_BadLater_init, defScope s_BadLater_init, [], []⟩) rfl; ⟨_, fd, fun_of F, HeM.inB_ok (cS.ex_at (L := exL) 49 rfl)⟩)
    o_NotMember := HeM.oxB_ok (cS.ex_at (L := exL) 50 rfl)
    i_NotMember := (let ⟨fd, F⟩ := cS.d.def_ 11 (d := ⟨("NotMember", some "__init__"), "__init__", "NotMember.__init__", defArgs s_NotMember_init, defBody s_NotMember_init, defScope s_NotMember_init, [], []⟩) rfl; ⟨_, fd, fun_of F, HeM.inB_ok (cS.ex_at (L := exL) 51 rfl)⟩)
    o_NoRoom := HeM.oxB_ok (cS.ex_at (L := exL) 52 rfl)
    i_NoRoom := (let ⟨fd, F⟩ := cS.d.def_ 12 (d := ⟨("NoRoom", some "__init__"), "__init__", "NoRoom.__init__", defArgs s_NoRoom_init, defBody s_NoRoom_init, defScope s_NoRoom_init, [], []⟩) rfl; ⟨_, fd, fun_of F, HeM.inB_ok (cS.ex_at (L := exL) 53 rfl)⟩)
    xf_BadSystem_index := eqO_ok (cS.ex_at (L := exL) 54 rfl)
    xf_BadSystem_what := eqO_ok (cS.ex_at (L := exL) 55 rfl)
    xf_NoInstant_instant := eqO_ok (cS.ex_at (L := exL) 56 rfl)
    xf_NoTimes_path := eqO_ok (cS.ex_at (L := exL) 57 rfl)
    xf_BadFormula_what := eqO_ok (cS.ex_at (L := exL) 58 rfl)
    xf_BadText_row := eqO_ok (cS.ex_at (L := exL) 59 rfl)
    xf_BadText_what := eqO_ok (cS.ex_at (L := exL) 60 rfl)
    xf_NotAClass_name := eqO_ok (cS.ex_at (L := exL) 61 rfl)
    xf_BadCause_cause := eqO_ok (cS.ex_at (L := exL) 62 rfl)
    xf_BadCustom_custom := eqO_ok (cS.ex_at (L := exL) 63 rfl)
    xf_BadLater_later := eqO_ok (cS.ex_at (L := exL) 64 rfl)
    xf_NotMember_name := eqO_ok (cS.ex_at (L := exL) 65 rfl)
    xf_NoRoom_name := eqO_ok (cS.ex_at (L := exL) 66 rfl)
    p_NoRow := (cS.ex_at (L := exL) 67 rfl)
    pk_NoRow := (cS.ex_at (L := exL) 68 rfl)
    p_OtherLives := (cS.ex_at (L := exL) 69 rfl)
    pk_OtherLives := (cS.ex_at (L := exL) 70 rfl)
    p_DeedError := (cS.ex_at (L := exL) 71 rfl)
    pk_DeedError := (cS.ex_at (L := exL) 72 rfl)
    x_ := (fun c hc => HeM.xcB_ok (List.all_eq_true.mp (cS.ex_at (L := exL) 73 rfl) c hc) hz)
    xf_ := (fun q hq => eqO_ok (List.all_eq_true.mp (cS.ex_at (L := exL) 74 rfl) q hq))
    kit := (fun c hc d hd => of_decide_eq_true (List.all_eq_true.mp (List.all_eq_true.mp (cS.ex_at (L := exL) 75 rfl) c hc) d hd))
    kitd := (fun c hc => of_decide_eq_true (List.all_eq_true.mp (cS.ex_at (L := exL) 76 rfl) c hc))
    kitv := (fun c hc => of_decide_eq_true (List.all_eq_true.mp (cS.ex_at (L := exL) 77 rfl) c hc))
    cr := ⟨(cS.ex_at (L := exL) 78 rfl), eqO_ok (cS.ex_at (L := exL) 79 rfl)⟩
    vi := HeM.valIs_ok (cS.ex_at (L := exL) 80 rfl)
    r_ := (fun c hc => by obtain ⟨h1, h2⟩ := ba (List.all_eq_true.mp (cS.ex_at (L := exL) 81 rfl) c hc); exact ⟨of_decide_eq_true h1, of_decide_eq_true h2⟩)
    q_BL_BR := of_decide_eq_true (cS.ex_at (L := exL) 82 rfl)
    q_BL_DE := of_decide_eq_true (cS.ex_at (L := exL) 83 rfl)
    q_NP_NL := of_decide_eq_true (cS.ex_at (L := exL) 84 rfl)
    q_NP_DE := of_decide_eq_true (cS.ex_at (L := exL) 85 rfl)
    q_NR_OL := of_decide_eq_true (cS.ex_at (L := exL) 86 rfl)
    q_NR_DE := of_decide_eq_true (cS.ex_at (L := exL) 87 rfl)
    d_digits := (let ⟨fd, F⟩ := cS.d.def_ 13 (d := ⟨("_law_digits", none), "_law_digits", "_law_digits", defArgs s_digits, defBody s_digits, defScope s_digits, [], []⟩) rfl; ⟨_, fd, fun_of F, (He.glo_ok X G (cS.d.fact 44 (f := .glo "_law_digits") rfl))⟩)
    d_next := (let ⟨fd, F⟩ := cS.d.def_ 14 (d := ⟨("_law_next", none), "_law_next", "_law_next", defArgs s_next, defBody s_next, defScope s_next, [], []⟩) rfl; ⟨_, fd, fun_of F, (He.glo_ok X G (cS.d.fact 45 (f := .glo "_law_next") rfl))⟩)
    d_word := (let ⟨fd, F⟩ := cS.d.def_ 15 (d := ⟨("_law_word", none), "_law_word", "_law_word", defArgs s_word, defBody s_word, defScope s_word, [], []⟩) rfl; ⟨_, fd, fun_of F, (He.glo_ok X G (cS.d.fact 46 (f := .glo "_law_word") rfl))⟩)
    d_first := (let ⟨fd, F⟩ := cS.d.def_ 16 (d := ⟨("_law_first", none), "_law_first", "_law_first", defArgs s_first, defBody s_first, defScope s_first, [], []⟩) rfl; ⟨_, fd, fun_of F, (He.glo_ok X G (cS.d.fact 47 (f := .glo "_law_first") rfl))⟩)
    d_second := (let ⟨fd, F⟩ := cS.d.def_ 17 (d := ⟨("_law_second", none), "_law_second", "_law_second", defArgs s_second, defBody s_second, defScope s_second, [], []⟩) rfl; ⟨_, fd, fun_of F, (He.glo_ok X G (cS.d.fact 48 (f := .glo "_law_second") rfl))⟩)
    d_third := (let ⟨fd, F⟩ := cS.d.def_ 18 (d := ⟨("_law_third", none), "_law_third", "_law_third", defArgs s_third, defBody s_third, defScope s_third, [], []⟩) rfl; ⟨_, fd, fun_of F, (He.glo_ok X G (cS.d.fact 49 (f := .glo "_law_third") rfl))⟩)
    d_classes := (let ⟨fd, F⟩ := cS.d.def_ 19 (d := ⟨("_law_classes", none), "_law_classes", "_law_classes", defArgs s_classes, defBody s_classes, defScope s_classes, [], []⟩) rfl; ⟨_, fd, fun_of F, (He.glo_ok X G (cS.d.fact 50 (f := .glo "_law_classes") rfl))⟩)
    d_raised := (let ⟨fd, F⟩ := cS.d.def_ 20 (d := ⟨("_law_raised", none), "_law_raised", "_law_raised", defArgs s_raised, defBody s_raised, defScope s_raised, [], []⟩) rfl; ⟨_, fd, fun_of F, (He.glo_ok X G (cS.d.fact 51 (f := .glo "_law_raised") rfl))⟩)
    d_law := (let ⟨fd, F⟩ := cS.d.def_ 21 (d := ⟨("law", none), "law", "law", defArgs s_law, defBody s_law, defScope s_law, [], []⟩) rfl; ⟨_, fd, fun_of F, (He.glo_ok X G (cS.d.fact 52 (f := .glo "law") rfl))⟩)
    z1 := eqO_ok (ba hz).1
    z2 := of_decide_eq_true (ba hz).2 }
theorem law_end {w : World} {K : PySem.W.Frag} {h : Heap} {mg : Str → Option Value} {fa : Addr} (X : K.In h) (G : h.Ns mainGlobals mg) (hfa : mg ("law" : Str) = some (.ref fa)) (c : HeM.SaysM lawFile faL fnL iniL exB K) :
    ∃ fd : FuncData, (∀ (s : Shared) (v : Value), BindsTo s fd ⟨[v], []⟩ [("_law_script", v)]) ∧ ∀ base : Heap, K.In base → base.Ns mainGlobals mg → FnOk Rw.prog w K mg base CX0 8 fa fd ["_law_script"] (spLaw K) := by
  have T : Txt Rw.prog w K mg (fun s => ga K (Str.ofString s)) := txt_mk X G rfl c (by decide +kernel)
  obtain ⟨f, fd, F, m⟩ := T.d_law
  have e := hfa.symm.trans m
  cases e
  exact ⟨fd, fun s v => Fun.bindsA1 F (fun _ _ _ _ _ _ us hl => match us, hl with | [_], _ => rfl) s v, fun base _ _ => ok_law F T⟩
end My
open PySem PySem.W PySem.Calls PyProof.Rows
set_option maxHeartbeats 0 in
theorem PySem.Challenge.cw_lastlife_k00_errors_side_by_side_holds : PySem.Challenge.rw_lastlife_k00_errors_side_by_side.Holds := by
  w_on; o_law
  refine HandSHeadRun.head_any (r := My.Rw) (q := view My.Rw.prog [46]) (H := My.hkM) (ob := My.obM) (M := 12000) (loose := My.looseL) (d := HandSHeadRun.topDef My.Rw.prog 46) (kwd := []) My.obM_eq
    (by kernel_rfl) (fun s => by kernel_rfl) My.runM (by kernel_rfl) (by kernel_rfl) (by kernel_rfl) (by rfl) (by first | assumption | decide +kernel) (by decide +kernel) ⟨rfl, rfl, rfl, rfl, rfl, by decide +kernel⟩ ?hw ?hc
  case hw => w_witness2
  case hc =>
    refine L2.walk_ofE (l := PySem.Challenge.rw_lastlife_k00_errors_side_by_side) (n := 63) (k := 8) (x := "_law_script") (CX := L2.CX0) rfl (by decide) (by kernel_rfl) ⟨rfl, by decide, by decide⟩ ?F (fun _ _ _ _ z => z)
    intro w mg fa h Y G hmg0
    obtain ⟨K, KX, c⟩ := Y
    have hmg : mg ("law" : PySem.Str) = some (.ref fa) := by
      have e : (HandSHeadRun.topDef My.Rw.prog 46).name = ("law" : PySem.Str) := by kernel_rfl
      rw [← e]
      exact hmg0
    obtain ⟨fd, hb, hF⟩ := My.law_end (w := w) KX G hmg c
    exact ⟨K, fd, My.spLaw K, KX, hb, fun H a ns hl _ hS => ⟨a, ns, rfl, hS, hl, fun _ => rfl⟩, hF⟩
