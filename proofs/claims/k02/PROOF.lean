import PyProof.Rows.All
import Wide.All
import OpenK.AllK
import Wide.FinOn
import HandS.ForMost
import HandS.ForExc
import HandS.ExcInit
import KE.KExcSuper
import HandS.IsInst
import HandS.ExcIs
import HandS.ExcField
import HandS.MakeKwOnly
import HandS.ExcOwn
import HandS.Codes
import HandS.Style
import HandS.Flow
import HandS.ClsMeth
import HandS.ExcValue
import HandS.Base
import HandS.Call
import HandS.Exc
import HandS.List
import KE.KStateDown
import HandS.Ends
import HandS.More
import HandS.Words
import HandS.WordsExc
import HandS.Defaults
import HandS.Head0
import HandS.Head1
import HandS.Head2
import HandS.HeadEnd
import HandS.HeadHook1
import HandS.HeadHook2
import HandS.Property
import HandS.OwnEq
import KE.KOwnIter
import HandS.IterVal
import PyProof.InstSpecial
import HandS.Walk
import KE.GoesEnum
import PySem.Challenge.RW_lastlife_k02_lives_made_and_refused
set_option Elab.async false
set_option linter.all false
set_option maxRecDepth 100000
set_option maxHeartbeats 4000000
namespace PySem
namespace ErrL
open PySem.W PySem.Calls PyProof.Rows PySem.HandSPX
/-! own errors whose first row calls the base's maker through super() -/
def supS (args : List Expr) (a1 a2 a3 a4 a5 : Pos) : Stmt :=
  .Expr (.Call (.Attribute (.Call (.Name "super" a1) [] [] a2) "__init__" a3) args [] a4) a5
def stoS (f : Str) (q1 q2 q3 q4 : Pos) : Stmt :=
  .Assign [.Attribute (.Name "self" q1) f q2] (.Name f q3) q4
/-- the facts about an error class at C whose maker stands at fI -/
structure SupC (prog : Program) (K : Frag) (C fI : Addr) (qual : Str) (params : Arguments) (body : List Stmt) (scope : Scope) : Prop where
  cls : ∃ nm q N bs bm sn sub ab col dd k0 k1 k2 k3 k5, K.lookup C = some (excClassObj nm q C N bs bm true sn sub ab col dd k0 k1 k2 k3 k5 "ValueError.__new__") ∧ refsVE bm = true
  fn : ∃ (oc : Value) (od : Option Addr) (kV doc pm : Value) (an : Option Addr) (cda : Addr) (ct : Value) (osl : Array (Option Value)) (cc : Addr) (vs : Array Value) (file : Str) (tf : Tok) (ccl : Value) (cdd : Option Addr) (ccs : Array (Option Value)) (cl : Value) (cld : Option Addr) (csl : Array (Option Value)),
    K.lookup fI = some ⟨oc, od, .func (ksFn "__init__" qual params body scope .none kV doc pm an (.ref cda) ct cc), osl⟩ ∧ codeIn K (.ref cda) qual = true ∧
    K.lookup cda = some ⟨ccl, cdd, .fields vs, ccs⟩ ∧ vs[2]? = some (.str file tf) ∧ ((prog.main.file : Str) == file) = true ∧
    K.lookup cc = some ⟨cl, cld, .cell (some (.ref C)), csl⟩
  self1 : mroIn K C (.ref C) = some true
  isVE : subIn K (.ref C) (.type "ValueError") = some true
  opq : nsIn K cStatics "thirdparty.any" = some none
  sup : ks_superIn K C C "__init__" = some (some (.builtin "ValueError.__init__"))
  sa : findIn K (.ref C) "__setattr__" = some (some (.builtin "object.__setattr__"))
  iC : findIn K (.ref C) "__init__" = some (some (.ref fI))
  tC : typeIn K (.ref fI) = some (.type "function")
  top : (prog.main.scope.names.lookup ("super" : Str)).isSome = false
/-- a method-wrapper of ValueError.__init__, bound to x, called -/
theorem call_mw {prog : Program} {w : World} {A : Around} {E : Value → Shared → Prop} {h : Heap} {g : Array GenState} {d : Drawn} {t : Nat} {os : OsState}
    {nm q : Str} {C N : Addr} {bs bm : List Value} {hdct : Bool} {sn : List Str} {sub : List Value} {ab : Bool} {col : Option Bool} {dd : Option Addr} {k0 k1 k2 k3 k5 : Option Value}
    {u e t0 : Addr} {rest : List Value} {Q : Value → Shared → Prop}
    (hC : h.get? C = some (excClassObj nm q C N bs bm hdct sn sub ab col dd k0 k1 k2 k3 k5 "ValueError.__new__")) (he : h.get? e = some (excO C t0)) (hu : h.get? u = some (kxs_mw "ValueError.__init__" e)) (hrest : rest.length ≤ sizeLine)
    (hq : ∀ h' t1, (∀ b o, b ≠ e → h.get? b = some o → h'.get? b = some o) → h'.get? e = some (excO C t1) → Q .none ⟨h', g, d, t, os⟩) :
    wpAny (model prog w) A (call (.ref u) rest) Q E ⟨h, g, d, t, os⟩ := by
  refine wpAny_call (codeAny_of_tree ?_)
  show wpAny _ A.in1 (callAny (.ref u) ⟨rest, []⟩) _ _ _
  simp only [callAny]
  refine wpAny_bind (wpAny_load hu ?_)
  refine KFB.if_so (by rfl) ?_
  refine wpAny_bind (check_bound_init F.excBase_ValueError.toExcCallFacts hC he rfl ?_)
  refine wpAny_bind (wpAny_pure (wpAny_pure ?_))
  refine ⟨plainId_quiet F.excBase_ValueError.init.plain _, codeAny_builtin F.excBase_ValueError.initEntry ?_⟩
  wp_walk
  refine hq _ h.objs.size (fun b o hb ho => ?_) ?_
  · rw [Heap.get?_update_other _ _ (Ne.symm hb)]
    exact Heap.get?_push_of_some _ ho
  · rw [Heap.get?_update_self _ (Heap.get?_push_of_some _ he) rfl]
    rfl

/-- what stands behind super().__init__(..): the exception has new args, all else is kept -/
theorem sup_first {prog : Program} {w : World} {A : Around} {E : Value → Shared → Prop} {K : Frag} {C fI : Addr} {qual : Str} {body : List Stmt} {scope : Scope} {mg mb : Str → Option Value}
    {ar : Arg} {x t0 L cda cc : Addr} {m : Str → Option Value} {e0 : Expr} {es : List Expr} {a1 a2 a3 a4 a5 : Pos} {s : Shared} {Q : Flow → Shared → Prop} {fd : FuncData} {oc ccl cl : Value} {od cdd cld : Option Addr} {osl ccs csl : Array (Option Value)} {vs : Array Value} {file : Str} {tf : Tok}
    {nm q : Str} {N : Addr} {bs bm : List Value} {sn : List Str} {sub : List Value} {ab : Bool} {col : Option Bool} {dd : Option Addr} {k0 k1 k2 k3 k5 : Option Value}
    (hC : K.lookup C = some (excClassObj nm q C N bs bm true sn sub ab col dd k0 k1 k2 k3 k5 "ValueError.__new__"))
    (X : K.In s.heap) (hg : s.heap.Ns mainGlobals mg) (hb : s.heap.Ns builtinsNs mb) (hbt : ∀ y : Str, y ≠ "__name__" → mb y = bootBuiltins y) (hsu : mg "super" = none)
    (hf : K.lookup fI = some ⟨oc, od, .func fd, osl⟩) (hp : (fd.params.posonlyargs ++ fd.params.args).head? = some ar)
    (hcode : K.lookup cda = some ⟨ccl, cdd, .fields vs, ccs⟩) (hvs : vs[2]? = some (.str file tf)) (hfile : ((prog.main.file : Str) == file) = true) (hcell : K.lookup cc = some ⟨cl, cld, .cell (some (.ref C)), csl⟩)
    (self1 : mroIn K C (.ref C) = some true) (isVE : subIn K (.ref C) (.type "ValueError") = some true) (opq : nsIn K cStatics "thirdparty.any" = some none) (sup : ks_superIn K C C "__init__" = some (some (.builtin "ValueError.__init__")))
    (htop : (prog.main.scope.names.lookup ("super" : Str)).isSome = false)
    (hns : s.heap.Ns L m) (hv : m ar.arg = some (.ref x)) (hx : s.heap.get? x = some (excO C t0))
    (hks : scope.names.lookup ("super" : Str) = some .globalImplicit) (hkc : scope.names.lookup ("__class__" : Str) = some .free) (hka : scope.names.lookup ar.arg = some .local) (hk : scope.kind = .function)
    (hargs : ∀ (s1 : Shared) (Q1 : List Value → Shared → Prop), s1.heap.Ns L m → s1.heap.Ns mainGlobals mg → s1.heap.Ns builtinsNs mb → (∀ us tk, us.length ≤ 10 → Q1 us { s1 with toks := tk }) →
      wpAny (model prog w) A (spliced (backTo a4 (starEach (e0 :: es) (ksEnv qual scope L fI (.ref cda) cc)))) Q1 E s1)
    (he : starEach (e0 :: es) (ksEnv qual scope L fI (.ref cda) cc) = (false, eval e0 (ksEnv qual scope L fI (.ref cda) cc)) :: starEach es (ksEnv qual scope L fI (.ref cda) cc))
    (hpl : (backTo a4 (starEach es (ksEnv qual scope L fI (.ref cda) cc))).any (·.1) = false)
    (hi : interactive (ksEnv qual scope L fI (.ref cda) cc) = false) {pl : Sem Bool}
    (hev : eval (.Call (.Attribute (.Call (.Name "super" a1) [] [] a2) "__init__" a3) (e0 :: es) [] a4) (ksEnv qual scope L fI (.ref cda) cc) = (do
      let ov ← attributeBase (.Call (.Name "super" a1) [] [] a2) "__init__" (ksEnv qual scope L fI (.ref cda) cc) (eval (.Call (.Name "super" a1) [] [] a2) (ksEnv qual scope L fI (.ref cda) cc))
      standAt a3.atName
      let (f, first) ← holding [ov] (getMethod ov "__init__" pl)
      callWith a4 f first (backTo a4 (starEach (e0 :: es) (ksEnv qual scope L fI (.ref cda) cc))) []))
    (hsw : swapsWith (.Call (.Attribute (.Call (.Name "super" a1) [] [] a2) "__init__" a3) (e0 :: es) [] a4) none a5.line (ksEnv qual scope L fI (.ref cda) cc) = pure false)
    (h : ∀ h' tk t1, (∀ b o, b ≠ x → s.heap.get? b = some o → h'.get? b = some o) → h'.get? x = some (excO C t1) → Q .next { s with heap := h', toks := tk }) :
    _root_.PySem.wpAt (model prog w) A (.func body (ksEnv qual scope L fI (.ref cda) cc)) (exec (supS (e0 :: es) a1 a2 a3 a4 a5) (ksEnv qual scope L fI (.ref cda) cc)) Q E s := by
  have hCc : clsIn K C = some { name := nm, bases := bs, mro := .ref C :: bm, ns := N, qualname := q, hasDict := true, slotNames := sn, subclasses := sub, abstract := ab, collection := col, hasDel := false } := by unfold clsIn; rw [hC] <;> rfl
  obtain ⟨hh, g, d, t, os⟩ := s
  have hCh := X _ _ hC
  have xC : x ≠ C := by
    rintro rfl
    rw [hCh] at hx
    cases hx
  unfold supS
  refine ks_wpAt_Expr_any (ks_wpAt_MethodCall ?_ hev) hi hsw
  refine ks_wpAt_super_base (env := ksEnv qual scope L fI (.ref cda) cc) hks hkc (by decide) rfl (X _ _ hf) rfl hp rfl (X _ _ hcode) rfl hvs hfile htop ?_
  refine ks_loadName_global hk hks (loadGlobal_builtin (env := ksEnv qual scope L fI (.ref cda) cc) hg hsu hb ((hbt _ (by decide +kernel)).trans (show bootBuiltins ("super" : Str) = some (.type "super") by decide +kernel)) ⟨rfl, ?_⟩)
  refine wpAny_loadName_free hk hkc rfl ⟨_, X _ _ hcell, rfl⟩ ?_
  refine wpAny_loadName_local hk hka hns hv ?_
  refine ks_wpAny_isType_cls hCh rfl ⟨rfl, ?_⟩
  refine ks_wpAny_call_super hCh rfl hx rfl (fun c e => ?_) (looks_mroIn X self1) (fun h1 e1 k1 => ?_)
  · cases e
  have X1 : K.In h1 := X.keeps k1
  have hx1 := k1 _ _ hx
  have hI : Looks (model prog w) h1 (isInstance (.ref x) (.type "ValueError")) true := (InstAt.type (od := none) ⟨hx1, rfl, rfl, trivial⟩).andThen (looks_subIn X1 isVE)
  have hsu2 := sup
  unfold ks_superIn at hsu2
  rw [hCc] at hsu2
  refine kxs_getMethod kxs_ValueError e1 (looks_opaque X1 opq) (l₀ := .ref C :: bm) ?_ rfl X1 hsu2 hI xC (by decide) ?_
  · exact fun A Q E s k q => wpAny_bind ((looks_clsIn X1 hCc) A _ E s k (wpAny_pure q))
  have k2 : ∀ b o, h1.get? b = some o → (h1.push (kxs_mw "ValueError.__init__" x)).get? b = some o := fun b o e => Heap.get?_push_of_some _ e
  have k12 : ∀ b o, hh.get? b = some o → (h1.push (kxs_mw "ValueError.__init__" x)).get? b = some o := fun b o e => k2 b o (k1 b o e)
  have mwn : (h1.push (kxs_mw "ValueError.__init__" x)).get? h1.objs.size = some (kxs_mw "ValueError.__init__" x) := Heap.get?_push_at rfl rfl
  rw [he]
  refine kxs_callWith (i := "ValueError.__init__") (x := x) (by show (false || (backTo a4 (starEach es (ksEnv qual scope L fI (.ref cda) cc))).any (·.1)) = false; rw [hpl]; rfl) ?_
  refine evalArgs_plain ?_
  have ha := hargs ⟨h1.push (kxs_mw "ValueError.__init__" x), g, d, t + 1, os⟩ (fun vs s₁ => KxsAt "ValueError.__init__" h1.objs.size x s₁.heap ∧ wpAny (model prog w) A (call (.ref h1.objs.size) ([] ++ vs)) (fun _ => Q .next) E s₁) (hns.keeps k12) (hg.keeps k12) (hb.keeps k12) (fun us tk hl => ?_)
  · rw [he] at ha
    exact ha
  refine ⟨mwn, ?_⟩
  refine call_mw ((X.keeps k12) _ _ hC) (k12 _ _ hx) mwn (Nat.le_trans hl (by rw [sizeLine_eq]; decide)) fun h' t1 k e => ?_
  exact h h' tk t1 (fun b o hb e => k b o hb (k12 b o e)) e

/-- what the text of the maker says: everything that hangs on its written scope -/
structure SupW (prog : Program) (w : World) (params : Arguments) (scope : Scope) (qual : Str) (fs : List Str) (ok : List Value → Prop) (e0 : Expr) (es : List Expr) (a1 a2 a3 a4 a5 : Pos) : Prop where
  hk : scope.kind = .function
  co : scope.isCoroutine = false
  gen : scope.isGenerator = false
  ks : scope.names.lookup ("super" : Str) = some .globalImplicit
  kc : scope.names.lookup ("__class__" : Str) = some .free
  kse : scope.names.lookup ("self" : Str) = some .local
  kf : ∀ f ∈ fs, scope.names.lookup f = some .local
  cell : ∀ y ∈ scope.names, y.2 ≠ .cell
  par : ∃ p, (params.posonlyargs ++ params.args).head? = some p ∧ p.arg = "self"
  hi : ∀ (L fI : Addr) (cd : Value) (cc : Addr), interactive (ksEnv qual scope L fI cd cc) = false
  hev : ∀ (L fI : Addr) (cd : Value) (cc : Addr), ∃ pl : Sem Bool, eval (.Call (.Attribute (.Call (.Name "super" a1) [] [] a2) "__init__" a3) (e0 :: es) [] a4) (ksEnv qual scope L fI cd cc) = (do
      let ov ← attributeBase (.Call (.Name "super" a1) [] [] a2) "__init__" (ksEnv qual scope L fI cd cc) (eval (.Call (.Name "super" a1) [] [] a2) (ksEnv qual scope L fI cd cc))
      standAt a3.atName
      let (f, first) ← holding [ov] (getMethod ov "__init__" pl)
      callWith a4 f first (backTo a4 (starEach (e0 :: es) (ksEnv qual scope L fI cd cc))) [])
  hsw : ∀ (L fI : Addr) (cd : Value) (cc : Addr), swapsWith (.Call (.Attribute (.Call (.Name "super" a1) [] [] a2) "__init__" a3) (e0 :: es) [] a4) none a5.line (ksEnv qual scope L fI cd cc) = pure false
  hst : ∀ (L fI : Addr) (cd : Value) (cc : Addr) (f : Str) (q1 q2 q3 q4 : Pos), swapsWith (.Name f q3) (some (.Attribute (.Name "self" q1) f q2)) q4.line (ksEnv qual scope L fI cd cc) = pure false
  he : ∀ (L fI : Addr) (cd : Value) (cc : Addr), starEach (e0 :: es) (ksEnv qual scope L fI cd cc) = (false, eval e0 (ksEnv qual scope L fI cd cc)) :: starEach es (ksEnv qual scope L fI cd cc)
  hpl : ∀ (L fI : Addr) (cd : Value) (cc : Addr), (backTo a4 (starEach es (ksEnv qual scope L fI cd cc))).any (·.1) = false
  hargs : ∀ (L fI : Addr) (cd : Value) (cc : Addr) (A : Around) (E : Value → Shared → Prop) (us : List Value) (s1 : Shared) (mg mb m : Str → Option Value) (Q1 : List Value → Shared → Prop), ok us → (∀ (i : Nat) (f : Str), fs[i]? = some f → m f = us[i]?) → us.length = fs.length → mg "str" = none → s1.heap.Ns L m → s1.heap.Ns mainGlobals mg → s1.heap.Ns builtinsNs mb →
      (∀ y : Str, y ≠ "__name__" → mb y = bootBuiltins y) → (∀ ws tk, ws.length ≤ 10 → Q1 ws { s1 with toks := tk }) →
      wpAny (model prog w) A (spliced (backTo a4 (starEach (e0 :: es) (ksEnv qual scope L fI cd cc)))) Q1 E s1
/-- what a maker leaves of a fresh exception at x: its dict holds the map -/
structure InitEnd (h h' : Heap) (x C dx : Addr) (mA : Str → Option Value) : Prop where
  keep : ∀ b o, b ≠ x → h.get? b = some o → h'.get? b = some o
  obj : ∃ t1, h'.get? x = some { cls := .ref C, dict := some dx, data := .fields #[.ref t1, .none, .none, .none, .bool false, .none] }
  dbig : h.objs.size ≤ dx
  dne : dx ≠ x
  ns : h'.Ns1 dx mA
theorem ldS {M : Model} {s : Shared} {env : Env} {m : Str → Option Value} {x : Str} {pos : Pos} {v : Value} {Q : Value → Shared → Prop} {A : Around} {E : Value → Shared → Prop} (hk : env.scope.kind = .function) (hl : env.kindOf x = some .local) (hn : s.heap.Ns env.locals m) (hv : m x = some v) (h : Q v s)
    (hd : (x == ("__debug__" : Str)) = false) : wpAny M A (eval (.Name x pos) env) Q E s := wpAny_Name (wpAny_loadName_local hk hl hn hv h) hd
section
variable {prog : Program} {w : World} {A : Around} {E : Value → Shared → Prop} {K : Frag} {C fI : Addr} {qual : Str} {params : Arguments} {body : List Stmt} {scope : Scope} {mg mb : Str → Option Value} {x t0 : Addr} {s : Shared} {R : Result → Shared → Prop}
    {f f1 f2 : Str} {ok : List Value → Prop} {e0 : Expr} {es : List Expr} {a1 a2 a3 a4 a5 q1 q2 q3 q4 r1 r2 r3 r4 : Pos}
theorem kin_but {h h' : Heap} (X : K.In h) (hx : K.lookup x = none) (k : ∀ b o, b ≠ x → h.get? b = some o → h'.get? b = some o) : K.In h' := fun a o e => k a o (fun z => by rw [z, hx] at e; cases e) (X a o e)
theorem ns_but {h h' : Heap} {L : Addr} {m : Str → Option Value} (n : L ≠ x) (hn : h.Ns L m) (k : ∀ b o, b ≠ x → h.get? b = some o → h'.get? b = some o) : h'.Ns L m := by
  obtain ⟨o, es, ep, ho, r⟩ := hn
  exact ⟨o, es, ep, k _ _ n ho, r⟩
/-- one field -/
theorem sup_init1 (T : SupC prog K C fI qual params [supS (e0 :: es) a1 a2 a3 a4 a5, stoS f q1 q2 q3 q4] scope) (W : SupW prog w params scope qual [f] ok e0 es a1 a2 a3 a4 a5) (hnf : findIn K (.ref C) f = some none) (hfd : (f == ("__debug__" : Str)) = false) (hfs : f ≠ "self") {v : Value} (hok : ok [v])
    (hb : ∀ (kV doc pm : Value) (an : Option Addr) (cdv ct : Value) (cc : Addr), bindArgs (ksFn "__init__" qual params [supS (e0 :: es) a1 a2 a3 a4 a5, stoS f q1 q2 q3 q4] scope .none kV doc pm an cdv ct cc) ⟨[.ref x, v], []⟩ = pure [(("self" : Str), Value.ref x), (f, v)])
    (X : K.In s.heap) (hlim : s.heap.NoLimit) (hg : s.heap.Ns mainGlobals mg) (hbn : s.heap.Ns builtinsNs mb) (hbt : ∀ y : Str, y ≠ "__name__" → mb y = bootBuiltins y) (hsu : mg "super" = none) (hstr : mg "str" = none)
    (hx : s.heap.get? x = some (excO C t0)) (hnx : K.lookup x = none) (hroom : A.depth < recursionLimit)
    (hq : ∀ h' tk dx, InitEnd s.heap h' x C dx (fun y => if y = f then some v else none) → R (.ok (.ret .none)) { s with heap := h', toks := tk }) :
    codeAny (model prog w) A (.call (.ref fI) ⟨[.ref x, v], []⟩) R s := by
  obtain ⟨nm, q, N, bs, bm, sn, sub, ab, col, dd, k0, k1, k2, k3, k5, hC, hbm⟩ := T.cls
  obtain ⟨oc, od, kV, doc, pm, an, cda, ct, osl, cc, vs, file, tf, ccl, cdd, ccs, cl, cld, csl, hf, hcd, hcode, hvs, hfile, hcell⟩ := T.fn
  obtain ⟨par, hp, hps⟩ := W.par
  have hcl : clsIn K C = some { name := nm, bases := bs, mro := .ref C :: bm, ns := N, qualname := q, hasDict := true, slotNames := sn, subclasses := sub, abstract := ab, collection := col, hasDel := false } := by unfold clsIn; rw [hC] <;> rfl
  refine ks_codeAny_call_defAt (fd := ksFn "__init__" qual params [supS (e0 :: es) a1 a2 a3 a4 a5, stoS f q1 q2 q3 q4] scope .none kV doc pm an (.ref cda) ct cc) (binds := [(("self" : Str), Value.ref x), (f, v)]) hroom (X _ _ hf) rfl hlim (codeRec_of X hcd) rfl (BindsTo.of_eq (hb ..)) W.cell ?_ (fun h₁ hn k₁ => ?_) W.co W.gen W.hk
  · intro y hy
    rcases List.mem_cons.mp hy with rfl | hy
    · exact W.kse
    · rcases List.mem_cons.mp hy with rfl | hy
      · exact W.kf f (List.mem_cons_self)
      · cases hy
  have hmf : (fun y => List.lookup y (List.reverse [(("self" : Str), Value.ref x), (f, v)])) f = some v := by
    show List.lookup f [(f, v), (("self" : Str), Value.ref x)] = some v
    simp [List.lookup]
  have hms : (fun y => List.lookup y (List.reverse [(("self" : Str), Value.ref x), (f, v)])) ("self" : Str) = some (Value.ref x) := by
    show List.lookup ("self" : Str) [(f, v), (("self" : Str), Value.ref x)] = some (.ref x)
    have e : (("self" : Str) == f) = false := by simpa using Ne.symm hfs
    simp [List.lookup, e]
  have X₁ : K.In h₁ := X.keeps k₁
  obtain ⟨pl, hev⟩ := W.hev s.heap.objs.size fI (.ref cda) cc
  show _root_.PySem.wpAt _ _ (.func _ (ksEnv qual scope s.heap.objs.size fI (.ref cda) cc)) (execs _ (ksEnv qual scope s.heap.objs.size fI (.ref cda) cc)) _ _ _
  refine ks_wpAt_execs_cons (sup_first hC X₁ (hg.keeps k₁) (hbn.keeps k₁) hbt hsu hf hp hcode hvs hfile hcell T.self1 T.isVE T.opq T.sup T.top hn (by rw [hps]; exact hms) (k₁ _ _ hx) W.ks W.kc (by rw [hps]; exact W.kse) W.hk ?_ (W.he ..) (W.hpl ..) (W.hi ..) hev (W.hsw ..) ?_)
  · intro s1 Q1 g1 g2 g3 g4
    refine W.hargs _ _ _ _ _ _ [v] s1 mg mb _ Q1 hok (fun i f' e => ?_) rfl hstr g1 g2 g3 hbt g4
    match i, e with
    | 0, e => cases e; exact hmf
  intro h₂ tk₂ t₁ k₂ hx₂
  refine wpAt_of_wpAny ?_
  have n₂ : s.heap.objs.size ≠ x := Nat.ne_of_gt (Heap.lt_size hx)
  have k12 : ∀ b o, b ≠ x → s.heap.get? b = some o → h₂.get? b = some o := fun b o hb e => k₂ b o hb (k₁ b o e)
  have X₂ : K.In h₂ := kin_but X₁ hnx k₂
  have hn₂ : h₂.Ns s.heap.objs.size _ := ns_but n₂ hn k₂
  show wpAny _ _ (execs _ _) _ _ _
  refine wpAny_execs_cons (plainObj_wpAny_Assign_Attribute ?_ (W.hst ..))
  refine ldS W.hk (W.kf f (List.mem_cons_self)) hn₂ hmf (ldS W.hk W.kse hn₂ hms ?_ (by decide)) hfd
  refine set_plain X₂ (ox := excO C t₁) (od := none) ⟨hx₂, rfl, rfl, trivial⟩ T.sa ?_
  refine exc_osa X₂ hx₂ hcl (show refsVE (.ref C :: bm) = true from hbm) rfl hnf (fun h₃ tk₃ dx k₃ dn dne hx₃ hn₃ => ?_)
  show wpAny _ _ (execs _ _) _ _ _
  refine wpAny_execs_nil (hq h₃ tk₃ dx ⟨fun b o hb e => k₃ b o hb (k12 b o hb e), ⟨_, hx₃⟩, ?_, dne, hn₃⟩)
  exact Nat.le_of_lt (Nat.lt_of_lt_of_le hn₂.lt dn)
/-- two fields -/
theorem sup_init2 (T : SupC prog K C fI qual params [supS (e0 :: es) a1 a2 a3 a4 a5, stoS f1 q1 q2 q3 q4, stoS f2 r1 r2 r3 r4] scope) (W : SupW prog w params scope qual [f1, f2] ok e0 es a1 a2 a3 a4 a5)
    (hnf1 : findIn K (.ref C) f1 = some none) (hnf2 : findIn K (.ref C) f2 = some none) (hfd1 : (f1 == ("__debug__" : Str)) = false) (hfd2 : (f2 == ("__debug__" : Str)) = false) (hfs1 : f1 ≠ "self") (hfs2 : f2 ≠ "self") (h12 : f1 ≠ f2) {v1 v2 : Value} (hok : ok [v1, v2])
    (hb : ∀ (kV doc pm : Value) (an : Option Addr) (cdv ct : Value) (cc : Addr), bindArgs (ksFn "__init__" qual params [supS (e0 :: es) a1 a2 a3 a4 a5, stoS f1 q1 q2 q3 q4, stoS f2 r1 r2 r3 r4] scope .none kV doc pm an cdv ct cc) ⟨[.ref x, v1, v2], []⟩ = pure [(("self" : Str), Value.ref x), (f1, v1), (f2, v2)])
    (X : K.In s.heap) (hlim : s.heap.NoLimit) (hg : s.heap.Ns mainGlobals mg) (hbn : s.heap.Ns builtinsNs mb) (hbt : ∀ y : Str, y ≠ "__name__" → mb y = bootBuiltins y) (hsu : mg "super" = none) (hstr : mg "str" = none)
    (hx : s.heap.get? x = some (excO C t0)) (hnx : K.lookup x = none) (hroom : A.depth < recursionLimit)
    (hq : ∀ h' tk dx, InitEnd s.heap h' x C dx (fun y => if y = f2 then some v2 else if y = f1 then some v1 else none) → R (.ok (.ret .none)) { s with heap := h', toks := tk }) :
    codeAny (model prog w) A (.call (.ref fI) ⟨[.ref x, v1, v2], []⟩) R s := by
  obtain ⟨nm, q, N, bs, bm, sn, sub, ab, col, dd, k0, k1, k2, k3, k5, hC, hbm⟩ := T.cls
  obtain ⟨oc, od, kV, doc, pm, an, cda, ct, osl, cc, vs, file, tf, ccl, cdd, ccs, cl, cld, csl, hf, hcd, hcode, hvs, hfile, hcell⟩ := T.fn
  obtain ⟨par, hp, hps⟩ := W.par
  have hcl : clsIn K C = some { name := nm, bases := bs, mro := .ref C :: bm, ns := N, qualname := q, hasDict := true, slotNames := sn, subclasses := sub, abstract := ab, collection := col, hasDel := false } := by unfold clsIn; rw [hC] <;> rfl
  have kf1 := W.kf f1 (List.mem_cons_self)
  have kf2 := W.kf f2 (List.mem_cons_of_mem _ (List.mem_cons_self))
  refine ks_codeAny_call_defAt (fd := ksFn "__init__" qual params [supS (e0 :: es) a1 a2 a3 a4 a5, stoS f1 q1 q2 q3 q4, stoS f2 r1 r2 r3 r4] scope .none kV doc pm an (.ref cda) ct cc) (binds := [(("self" : Str), Value.ref x), (f1, v1), (f2, v2)]) hroom (X _ _ hf) rfl hlim (codeRec_of X hcd) rfl (BindsTo.of_eq (hb ..)) W.cell ?_ (fun h₁ hn k₁ => ?_) W.co W.gen W.hk
  · intro y hy
    rcases List.mem_cons.mp hy with rfl | hy
    · exact W.kse
    rcases List.mem_cons.mp hy with rfl | hy
    · exact kf1
    rcases List.mem_cons.mp hy with rfl | hy
    · exact kf2
    · cases hy
  have e12 : (f1 == f2) = false := by simpa using h12
  have es1 : (("self" : Str) == f1) = false := by simpa using Ne.symm hfs1
  have es2 : (("self" : Str) == f2) = false := by simpa using Ne.symm hfs2
  have hmf1 : (fun y => List.lookup y (List.reverse [(("self" : Str), Value.ref x), (f1, v1), (f2, v2)])) f1 = some v1 := by
    show List.lookup f1 [(f2, v2), (f1, v1), (("self" : Str), Value.ref x)] = some v1
    simp [List.lookup, e12]
  have hmf2 : (fun y => List.lookup y (List.reverse [(("self" : Str), Value.ref x), (f1, v1), (f2, v2)])) f2 = some v2 := by
    show List.lookup f2 [(f2, v2), (f1, v1), (("self" : Str), Value.ref x)] = some v2
    simp [List.lookup]
  have hms : (fun y => List.lookup y (List.reverse [(("self" : Str), Value.ref x), (f1, v1), (f2, v2)])) ("self" : Str) = some (Value.ref x) := by
    show List.lookup ("self" : Str) [(f2, v2), (f1, v1), (("self" : Str), Value.ref x)] = some (.ref x)
    simp [List.lookup, es1, es2]
  have X₁ : K.In h₁ := X.keeps k₁
  obtain ⟨pl, hev⟩ := W.hev s.heap.objs.size fI (.ref cda) cc
  show _root_.PySem.wpAt _ _ (.func _ (ksEnv qual scope s.heap.objs.size fI (.ref cda) cc)) (execs _ (ksEnv qual scope s.heap.objs.size fI (.ref cda) cc)) _ _ _
  refine ks_wpAt_execs_cons (sup_first hC X₁ (hg.keeps k₁) (hbn.keeps k₁) hbt hsu hf hp hcode hvs hfile hcell T.self1 T.isVE T.opq T.sup T.top hn (by rw [hps]; exact hms) (k₁ _ _ hx) W.ks W.kc (by rw [hps]; exact W.kse) W.hk ?_ (W.he ..) (W.hpl ..) (W.hi ..) hev (W.hsw ..) ?_)
  · intro s1 Q1 g1 g2 g3 g4
    refine W.hargs _ _ _ _ _ _ [v1, v2] s1 mg mb _ Q1 hok (fun i f' e => ?_) rfl hstr g1 g2 g3 hbt g4
    match i, e with
    | 0, e => cases e; exact hmf1
    | 1, e => cases e; exact hmf2
  intro h₂ tk₂ t₁ k₂ hx₂
  refine wpAt_of_wpAny ?_
  have n₂ : s.heap.objs.size ≠ x := Nat.ne_of_gt (Heap.lt_size hx)
  have k12 : ∀ b o, b ≠ x → s.heap.get? b = some o → h₂.get? b = some o := fun b o hb e => k₂ b o hb (k₁ b o e)
  have X₂ : K.In h₂ := kin_but X₁ hnx k₂
  have hn₂ : h₂.Ns s.heap.objs.size _ := ns_but n₂ hn k₂
  show wpAny _ _ (execs _ _) _ _ _
  refine wpAny_execs_cons (plainObj_wpAny_Assign_Attribute ?_ (W.hst ..))
  refine ldS W.hk kf1 hn₂ hmf1 (ldS W.hk W.kse hn₂ hms ?_ (by decide)) hfd1
  refine set_plain X₂ (ox := excO C t₁) (od := none) ⟨hx₂, rfl, rfl, trivial⟩ T.sa ?_
  refine exc_osa X₂ hx₂ hcl (show refsVE (.ref C :: bm) = true from hbm) rfl hnf1 (fun h₃ tk₃ dx k₃ dn dne hx₃ hn₃ => ?_)
  have X₃ : K.In h₃ := kin_but X₂ hnx k₃
  have hLd : s.heap.objs.size ≠ dx := Nat.ne_of_lt (Nat.lt_of_lt_of_le hn₂.lt dn)
  have hn₃' : h₃.Ns s.heap.objs.size _ := ns_but n₂ hn₂ k₃
  obtain ⟨od3, ho3⟩ : ∃ o, h₃.get? dx = some o := by
    obtain ⟨o, _, _, e, _⟩ := hn₃
    exact ⟨o, e⟩
  show wpAny _ _ (execs _ _) _ _ _
  refine wpAny_execs_cons (plainObj_wpAny_Assign_Attribute ?_ (W.hst ..))
  refine ldS W.hk kf2 hn₃' hmf2 (ldS W.hk W.kse hn₃' hms ?_ (by decide)) hfd2
  refine set_plain X₃ (ox := { cls := .ref C, dict := some dx, data := .fields #[.ref t₁, .none, .none, .none, .bool false, .none] }) (od := some od3) ⟨hx₃, rfl, rfl, ho3⟩ T.sa ?_
  refine PySem.OEX.osa_old X₃ hx₃ hn₃ (nl := [f1]) (fun y hy => ?_) (by show 1 ≤ 1000; decide) hcl (show refsVE (.ref C :: bm) = true from hbm) rfl hnf2 (fun h₄ tk₄ k₄ hn₄ => ?_)
  · by_cases e : y = f1
    · rw [e]; exact List.mem_cons_self
    · exact absurd (if_neg e) hy
  show wpAny _ _ (execs _ _) _ _ _
  have hbig : s.heap.objs.size ≤ dx := Nat.le_of_lt (Nat.lt_of_lt_of_le hn₂.lt dn)
  refine wpAny_execs_nil (hq h₄ tk₄ dx ⟨fun b o hb e => k₄ b o (Nat.ne_of_lt (Nat.lt_of_lt_of_le (Heap.lt_size e) hbig)) (k₃ b o hb (k12 b o hb e)), ⟨_, k₄ _ _ (Ne.symm dne) hx₃⟩, hbig, dne, hn₄⟩)
end
/-- an error that is made -/
structure Made (h h' : Heap) (e C d : Addr) (mA : Str → Option Value) : Prop where
  keep : ∀ b o, h.get? b = some o → h'.get? b = some o
  new : h.objs.size ≤ e
  obj : ∃ t1 : Addr, h'.get? e = some { cls := .ref C, dict := some d, data := .fields #[.ref t1, .none, .none, .none, .bool false, .none] }
  dbig : h.objs.size ≤ d
  dne : d ≠ e
  ns : h'.Ns1 d mA
/-- the class at C makes errors of these fields -/
structure Makes (prog : Program) (w : World) (K : Frag) (mg : Str → Option Value) (C : Addr) (fs : List Str) (ok : List Value → Prop) : Prop where
  kC : keepIn K (.ref C) = true
  exC : subIn K (.ref C) (.type "BaseException") = some true
  tyC : typeIn K (.ref C) = some (.type "type")
  run : ∀ (A : Around) (s : Shared) (us : List Value) (mb : Str → Option Value) (R : Result → Shared → Prop), us.length = fs.length → ok us → K.In s.heap → s.heap.NoLimit → s.heap.Ns mainGlobals mg → s.heap.Ns builtinsNs mb → (∀ y : Str, y ≠ "__name__" → mb y = bootBuiltins y) →
    A.depth + 1 < recursionLimit → (∀ h' tk e d mA, (∀ f : Str, mA f = (fs.zip us).lookup f) → Made s.heap h' e C d mA → R (.ok (.ret (.ref e))) { s with heap := h', toks := tk }) → codeAny (model prog w) A (.call (.ref C) ⟨us, []⟩) R s
/-- from the maker to the class -/
theorem made_of {prog : Program} {w : World} {A : Around} {K : Frag} {C fI : Addr} {s : Shared} {us : List Value} {mA : Str → Option Value} {R : Result → Shared → Prop} {nm q : Str} {N : Addr} {bs bm : List Value} {sn : List Str} {sub : List Value} {ab : Bool} {col : Option Bool} {dd : Option Addr} {k0 k1 k2 k3 k5 : Option Value}
    (hC : K.lookup C = some (excClassObj nm q C N bs bm true sn sub ab col dd k0 k1 k2 k3 k5 "ValueError.__new__")) (hbm : refsVE bm = true) (iC : findIn K (.ref C) "__init__" = some (some (.ref fI))) (tC : typeIn K (.ref fI) = some (.type "function")) (hus : us.length ≤ 10)
    (X : K.In s.heap) (hlim : s.heap.NoLimit)
    (hin : ∀ (A' : Around) (s' : Shared) (x t0 : Addr) (R' : Result → Shared → Prop), A'.depth = A.depth + 1 → (∀ b o, s.heap.get? b = some o → s'.heap.get? b = some o) → s'.heap.get? x = some (excO C t0) → K.lookup x = none →
      (∀ h' tk dx, InitEnd s'.heap h' x C dx mA → R' (.ok (.ret .none)) { s' with heap := h', toks := tk }) → codeAny (model prog w) A' (.call (.ref fI) ⟨.ref x :: us, []⟩) R' s')
    (hq : ∀ h' tk e d, Made s.heap h' e C d mA → R (.ok (.ret (.ref e))) { s with heap := h', toks := tk }) :
    codeAny (model prog w) A (.call (.ref C) ⟨us, []⟩) R s := by
  obtain ⟨hp, g, dr, tk, os⟩ := s
  have k : ∀ b o, hp.get? b = some o → ((hp.push (kdv_tup us)).push (excO C hp.objs.size)).get? b = some o := fun b o e => Heap.get?_push_of_some _ (Heap.get?_push_of_some _ e)
  have hget : ((hp.push (kdv_tup us)).push (excO C hp.objs.size)).get? (hp.objs.size + 1) = some (excO C hp.objs.size) := by heap_get
  have hnx : K.lookup (hp.objs.size + 1) = none := by
    cases e : K.lookup (hp.objs.size + 1) with
    | none => rfl
    | some o =>
      have z : hp.get? (hp.objs.size + 1) = some o := X _ _ e
      exact absurd (Nat.lt_of_succ_lt (Heap.lt_size z)) (Nat.lt_irrefl _)
  refine call_own F.excBase_ValueError (fun X => refsVE_contains X bm hbm) (X _ _ hC) (looks_findIn X iC) (fun self => bind_fn X self tC) (Nat.le_trans hus (by rw [sizeLine_eq]; decide)) ?_
  refine hin (A.under (.builtin "type.__call__" ⟨.ref C :: us, []⟩)) ⟨(hp.push (kdv_tup us)).push (excO C hp.objs.size), g, dr, tk, os⟩ (hp.objs.size + 1) hp.objs.size _ rfl k hget hnx fun h' tk' dx ⟨k', hx, dn, dne, hns⟩ => ?_
  have old : ∀ b o, hp.get? b = some o → h'.get? b = some o := fun b o e => k' b o (Nat.ne_of_lt (Nat.lt_succ_of_lt (Heap.lt_size e))) (k b o e)
  have z : hp.objs.size + 1 + 1 ≤ dx := by
    first
      | (simpa only [Heap.size_push] using dn)
      | exact dn
      | (have q := dn; rw [Heap.size_push, Heap.size_push] at q; exact q)
  obtain ⟨t1, hx⟩ := hx
  exact ⟨rfl, hq h' tk' (hp.objs.size + 1) dx ⟨old, Nat.le_succ _, ⟨t1, hx⟩, Nat.le_trans (Nat.le_trans (Nat.le_succ _) (Nat.le_succ _)) z, dne, hns⟩⟩
section
variable {prog : Program} {w : World} {K : Frag} {C fI : Addr} {qual : Str} {params : Arguments} {scope : Scope} {mg : Str → Option Value} {f f1 f2 : Str} {ok : List Value → Prop} {e0 : Expr} {es : List Expr} {a1 a2 a3 a4 a5 q1 q2 q3 q4 r1 r2 r3 r4 : Pos}
theorem makes1 (T : SupC prog K C fI qual params [supS (e0 :: es) a1 a2 a3 a4 a5, stoS f q1 q2 q3 q4] scope) (W : SupW prog w params scope qual [f] ok e0 es a1 a2 a3 a4 a5) (kC : keepIn K (.ref C) = true) (exC : subIn K (.ref C) (.type "BaseException") = some true) (tyC : typeIn K (.ref C) = some (.type "type"))
    (hnf : findIn K (.ref C) f = some none) (hfd : (f == ("__debug__" : Str)) = false) (hfs : f ≠ "self") (hsu : mg "super" = none) (hstr : mg "str" = none)
    (hb : ∀ (x : Addr) (v : Value) (kV doc pm : Value) (an : Option Addr) (cdv ct : Value) (cc : Addr), bindArgs (ksFn "__init__" qual params [supS (e0 :: es) a1 a2 a3 a4 a5, stoS f q1 q2 q3 q4] scope .none kV doc pm an cdv ct cc) ⟨[.ref x, v], []⟩ = pure [(("self" : Str), Value.ref x), (f, v)]) :
    Makes prog w K mg C [f] ok where
  kC := kC
  exC := exC
  tyC := tyC
  run := fun A s us mb R hl hok X hlim hg hbn hbt hroom hq => by
    obtain ⟨nm, q, N, bs, bm, sn, sub, ab, col, dd, k0, k1, k2, k3, k5, hC, hbm⟩ := T.cls
    match us, hl with
    | [v], _ =>
      refine made_of (mA := fun y => if y = f then some v else none) hC hbm T.iC T.tC (by show 1 ≤ 10; decide) X hlim (fun A' s' x t0 R' hd k hx hnx h' => ?_) fun h' tk e d M => hq h' tk e d _ (fun g => ?_) M
      · exact sup_init1 T W hnf hfd hfs hok (hb x v) (X.keeps k) (hlim.keeps k) (hg.keeps k) (hbn.keeps k) hbt hsu hstr hx hnx (by rw [hd]; exact hroom) h'
      · by_cases e : g = f
        · subst e; simp [List.zip]
        · have e2 : (g == f) = false := by simpa using e
          simp [List.zip, List.lookup, e, e2]
theorem makes2 (T : SupC prog K C fI qual params [supS (e0 :: es) a1 a2 a3 a4 a5, stoS f1 q1 q2 q3 q4, stoS f2 r1 r2 r3 r4] scope) (W : SupW prog w params scope qual [f1, f2] ok e0 es a1 a2 a3 a4 a5) (kC : keepIn K (.ref C) = true) (exC : subIn K (.ref C) (.type "BaseException") = some true) (tyC : typeIn K (.ref C) = some (.type "type"))
    (hnf1 : findIn K (.ref C) f1 = some none) (hnf2 : findIn K (.ref C) f2 = some none) (hfd1 : (f1 == ("__debug__" : Str)) = false) (hfd2 : (f2 == ("__debug__" : Str)) = false) (hfs1 : f1 ≠ "self") (hfs2 : f2 ≠ "self") (h12 : f1 ≠ f2) (hsu : mg "super" = none) (hstr : mg "str" = none)
    (hb : ∀ (x : Addr) (v1 v2 : Value) (kV doc pm : Value) (an : Option Addr) (cdv ct : Value) (cc : Addr), bindArgs (ksFn "__init__" qual params [supS (e0 :: es) a1 a2 a3 a4 a5, stoS f1 q1 q2 q3 q4, stoS f2 r1 r2 r3 r4] scope .none kV doc pm an cdv ct cc) ⟨[.ref x, v1, v2], []⟩ = pure [(("self" : Str), Value.ref x), (f1, v1), (f2, v2)]) :
    Makes prog w K mg C [f1, f2] ok where
  kC := kC
  exC := exC
  tyC := tyC
  run := fun A s us mb R hl hok X hlim hg hbn hbt hroom hq => by
    obtain ⟨nm, q, N, bs, bm, sn, sub, ab, col, dd, k0, k1, k2, k3, k5, hC, hbm⟩ := T.cls
    match us, hl with
    | [v1, v2], _ =>
      refine made_of (mA := fun y => if y = f2 then some v2 else if y = f1 then some v1 else none) hC hbm T.iC T.tC (by show 2 ≤ 10; decide) X hlim (fun A' s' x t0 R' hd k hx hnx h' => ?_) fun h' tk e d M => hq h' tk e d _ (fun g => ?_) M
      · exact sup_init2 T W hnf1 hnf2 hfd1 hfd2 hfs1 hfs2 h12 hok (hb x v1 v2) (X.keeps k) (hlim.keeps k) (hg.keeps k) (hbn.keeps k) hbt hsu hstr hx hnx (by rw [hd]; exact hroom) h'
      · by_cases e : g = f2
        · subst e
          have e2 : (g == f1) = false := by simpa using Ne.symm h12
          simp [List.zip, List.lookup, e2]
        · have e2 : (g == f2) = false := by simpa using e
          by_cases e1 : g = f1
          · subst e1; simp [List.zip, List.lookup, e]
          · have e3 : (g == f1) = false := by simpa using e1
            simp [List.zip, List.lookup, e, e1, e2, e3]
end
end ErrL
end PySem

namespace L2
open PySem PySem.Spec PyProof.Rows
theorem relO_zip : ∀ {fs : List Str} {vs : List V} {us : List Value}, Vals vs us → ∀ f, RelO (List.lookup f (fs.zip vs)) (List.lookup f (fs.zip us))
  | [], vs, us, r, f => by simp [List.zip, RelO]
  | g :: fs, [], _, .nil, f => by simp [List.zip, RelO]
  | g :: fs, v :: vs, u :: us, .cons rv r, f => by
    by_cases e : f = g
    · subst e
      have q : RelO (some v) (some u) := rv
      simpa [List.zip, List.lookup] using q
    · have e2 : (f == g) = false := by simpa using e
      have ih := relO_zip (fs := fs) r f
      simpa [List.zip, List.lookup, e2] using ih
section
variable {X : Cx} {C : Addr} {fs : List Str} {ok : List Value → Prop}
/-- X(e, ..): a new error; okV says that the values may be written into its args -/
def tMkErr (C : Addr) (fs : List Str) (okV : List V → Prop) (ta : TA) : St → Hp → XK → Prop := fun σ H Q => ta σ H fun vs H1 => vs.length = fs.length ∧ okV vs ∧ ∀ d, H1 d = none → Q (.ref C) (some d) (upd H1 d (.xd (fs.zip vs)))
theorem pmk_err {x : Str} {e : Expr} {es : List Expr} {ta : TA} {p pos : Pos} {k : Nat} {okV : List V → Prop} (T : PySem.ErrL.Makes X.prog X.w X.K X.mg C fs ok) (hok : ∀ vs us, Vals vs us → okV vs → ok us) (gC : X.mg x = some (.ref C)) (hr : Room k X.A) (ha : PA X (e :: es) ta) (hg : Gl X x := by rfl)
    (hdb : (x == ("__debug__" : Str)) = false := by decide) (he : starEach (e :: es) X.env = (false, eval e X.env) :: starEach es X.env := by rfl) (hpl : (backTo pos (starEach es X.env)).any (·.1) = false := by rfl) :
    PMk X (.Call (.Name x p) (e :: es) [] pos) (tMkErr C fs okV ta) := by
  intro pins s σ H Q I h
  refine wpAny_Call_Name_kw (ld_glob I hg gC ?_ hdb)
  refine PySem.W.callWith_K (h₀ := X.base) I.ok.mod.kin T.kC (thn (ha.run pos pins s σ H _ I h) fun us s1 hh => ?_) he hpl
  obtain ⟨vs, H1, I1, r1, hl, hov, q1⟩ := hh
  refine ⟨I1.kIn, ?_⟩
  show wpAny _ _ (call (.ref C) us) _ _ _
  obtain ⟨mb, hmb, hbt⟩ := I1.mod.blt
  have hlim := I1.nolimit
  have hgl := I1.mod.glob.keeps I1.bk
  have hbl := hmb.keeps I1.bk
  have kin := I1.kIn
  obtain ⟨hp, g, dr, tk, os⟩ := s1
  refine wpAny_call (T.run _ _ us mb _ (by rw [← hl]; exact (Vals.length r1).symm) (hok vs us r1 hov) kin hlim hgl hbl hbt (by have := hr.dp; omega) fun h' tk' e d mA hmA M => ?_)
  show MkP X pins σ Q (.ref e) ⟨h', g, dr, tk', os⟩
  obtain ⟨t1, hoe⟩ := M.obj
  have hns := M.ns
  obtain ⟨G', g1, g2⟩ := restrict h' fun b => decide (b ≠ e)
  have gk : ∀ b, b ≠ e → G'.get? b = h'.get? b := fun b hb => g1 b (decide_eq_true hb)
  have ge : G'.get? e = none := g2 e (by simp)
  have old : ∀ b o, hp.get? b = some o → G'.get? b = some o := fun b o q => (gk b (Nat.ne_of_lt (Nat.lt_of_lt_of_le (Heap.lt_size q) M.new))).trans (M.keep b o q)
  have ob : ObjOk X.prog X.w (upd H1 d (.xd (fs.zip vs))) G' d (.xd (fs.zip vs)) :=
    ⟨_, hns.at (fun o q => (gk d M.dne).trans q), fun f => by rw [hmA]; exact relO_zip r1 f⟩
  have J : Inv X pins σ (upd H1 d (.xd (fs.zip vs))) ⟨G', g, dr, tk', os⟩ := I1.laid (t' := tk') old M.dbig ob
  refine ⟨e, _, _, ⟨G', g, dr, tk', os⟩, _, .ref C, some d, rfl, J, fun b o q => ?_, ge, hoe, ⟨rfl, rfl⟩, rfl, rfl, ?_, rfl, I1.bare, raises_own T.exC T.tyC, q1 d (I1.hok.fresh M.dbig)⟩
  · by_cases hb : b = e
    · have q' : G'.get? b = some o := q
      rw [hb, ge] at q'; cases q'
    · exact (gk b hb).symm.trans q
  · rw [upd_ne (Ne.symm M.dne)]
    exact I1.hok.fresh M.new
/-- raise X(e, ..) -/
def tRaiseErr (C : Addr) (fs : List Str) (okV : List V → Prop) (W : WX) (ta : TA) : TS := fun _ σ H => tMkErr C fs okV ta σ H fun cls d H' => W cls d σ H'
theorem ps_raiseErr {W : WX} {x : Str} {e : Expr} {es : List Expr} {ta : TA} {p pos pos2 : Pos} {k : Nat} {okV : List V → Prop} (hc : X.calm = true) (T : PySem.ErrL.Makes X.prog X.w X.K X.mg C fs ok) (hok : ∀ vs us, Vals vs us → okV vs → ok us) (gC : X.mg x = some (.ref C)) (hr : Room k X.A) (tk : Takes X W) (ha : PA X (e :: es) ta) (hg : Gl X x := by rfl)
    (hdb : (x == ("__debug__" : Str)) = false := by decide) (he : starEach (e :: es) X.env = (false, eval e X.env) :: starEach es X.env := by rfl) (hpl : (backTo pos (starEach es X.env)).any (·.1) = false := by rfl) :
    PS X (.Raise (some (.Call (.Name x p) (e :: es) [] pos)) none pos2) (tRaiseErr C fs okV W ta) := ps_raise hc tk (pmk_err T hok gC hr ha hg hdb he hpl)
end
end L2
set_option Elab.async false
set_option linter.all false
set_option maxRecDepth 100000
set_option maxHeartbeats 4000000
namespace PySem
namespace ErrL
open PySem.W PySem.Calls PyProof.Rows PySem.HandSPX
section
variable {prog : Program} {w : World} {params : Arguments} {scope : Scope} {qual : Str} {f f1 f2 : Str} {a1 a2 a3 a4 a5 p0 p1 p2 p3 : Pos} {j0 : Nat} {z : Str}
theorem args_c (hk : scope.kind = .function) (L fI : Addr) (cd : Value) (cc : Addr) (A : Around) (E : Value → Shared → Prop) (s1 : Shared) (Q1 : List Value → Shared → Prop) (h : ∀ (ws : List Value) tk, ws.length ≤ 10 → Q1 ws { s1 with toks := tk }) :
    wpAny (model prog w) A (spliced (backTo a4 (starEach [.Constant (.str z) j0 p0] (ksEnv qual scope L fI cd cc)))) Q1 E s1 := by
  show wpAny _ _ (spliced [(false, eval (.Constant (.str z) j0 p0) (ksEnv qual scope L fI cd cc))]) _ _ _
  exact spliced_cons (wpAny_Constant_str (spliced_nil (h _ _ (by show 1 ≤ 10; decide))))
theorem args_cn (hk : scope.kind = .function) (kf : scope.names.lookup f = some .local) (hfd : (f == ("__debug__" : Str)) = false) (L fI : Addr) (cd : Value) (cc : Addr) (A : Around) (E : Value → Shared → Prop) (v : Value) (s1 : Shared) (m : Str → Option Value) (Q1 : List Value → Shared → Prop)
    (hm : m f = some v) (hn : s1.heap.Ns L m) (h : ∀ (ws : List Value) tk, ws.length ≤ 10 → Q1 ws { s1 with toks := tk }) :
    wpAny (model prog w) A (spliced (backTo a4 (starEach [.Constant (.str z) j0 p0, .Name f p1] (ksEnv qual scope L fI cd cc)))) Q1 E s1 := by
  show wpAny _ _ (spliced [(false, eval (.Constant (.str z) j0 p0) (ksEnv qual scope L fI cd cc)), (false, eval (.Name f p1) (ksEnv qual scope L fI cd cc))]) _ _ _
  refine spliced_cons (wpAny_Constant_str (spliced_cons ?_))
  exact ldS hk kf hn hm (spliced_nil (h _ _ (by show 2 ≤ 10; decide))) hfd
theorem args_csn (hk : scope.kind = .function) (kf1 : scope.names.lookup f1 = some .local) (kf2 : scope.names.lookup f2 = some .local) (kstr : scope.names.lookup ("str" : Str) = some .globalImplicit) (hfd1 : (f1 == ("__debug__" : Str)) = false) (hfd2 : (f2 == ("__debug__" : Str)) = false)
    (L fI : Addr) (cd : Value) (cc : Addr) (A : Around) (E : Value → Shared → Prop) (i : Int) (t : Tok) (v2 : Value) (s1 : Shared) (m mg mb : Str → Option Value) (Q1 : List Value → Shared → Prop) (hi : i.natAbs.log2 < 1920)
    (hm1 : m f1 = some (.int i t)) (hm2 : m f2 = some v2) (hstr : mg "str" = none) (hn : s1.heap.Ns L m) (hg : s1.heap.Ns mainGlobals mg) (hb : s1.heap.Ns builtinsNs mb) (hbt : ∀ y : Str, y ≠ "__name__" → mb y = bootBuiltins y) (h : ∀ (ws : List Value) tk, ws.length ≤ 10 → Q1 ws { s1 with toks := tk })
    (he1 : starEach [.Name f1 p2] (ksEnv qual scope L fI cd cc) = (false, eval (.Name f1 p2) (ksEnv qual scope L fI cd cc)) :: starEach [] (ksEnv qual scope L fI cd cc)) :
    wpAny (model prog w) A (spliced (backTo a4 (starEach [.Constant (.str z) j0 p0, .Call (.Name "str" p1) [.Name f1 p2] [] p3, .Name f2 a5] (ksEnv qual scope L fI cd cc)))) Q1 E s1 := by
  show wpAny _ _ (spliced [(false, eval (.Constant (.str z) j0 p0) (ksEnv qual scope L fI cd cc)), (false, eval (.Call (.Name "str" p1) [.Name f1 p2] [] p3) (ksEnv qual scope L fI cd cc)), (false, eval (.Name f2 a5) (ksEnv qual scope L fI cd cc))]) _ _ _
  refine spliced_cons (wpAny_Constant_str (spliced_cons ?_))
  refine wpAny_Call_Name_kw ?_
  refine wpAny_Name ?_ (by decide)
  refine ks_loadName_global hk kstr (loadGlobal_builtin (env := ksEnv qual scope L fI cd cc) hg hstr hb ((hbt _ (by decide +kernel)).trans (show bootBuiltins ("str" : Str) = some (.type "str") by decide +kernel)) ?_)
  refine PyProof.Rows.callWith_type1 ?_ he1 rfl
  show wpAny _ _ (spliced [(false, eval (.Name f1 p2) (ksEnv qual scope L fI cd cc))]) _ _ _
  refine spliced_cons (ldS hk kf1 hn hm1 (spliced_nil ?_) hfd1)
  refine PySem.P.str_of_int hi (spliced_cons ?_)
  exact ldS hk kf2 hn hm2 (spliced_nil (h _ _ (by show 3 ≤ 10; decide))) hfd2
end
end ErrL
end PySem
set_option Elab.async false
set_option linter.all false
set_option maxRecDepth 100000
set_option maxHeartbeats 4000000
/-! isinstance of a caught error that has its own dict -/
namespace PySem.ErrL
open PySem PySem.W PySem.Spec PySem.Calls PyProof.Rows
section
variable {prog : Program} {w : World} {A : Around} {E : Value → Shared → Prop} {s : Shared} {K : Frag} {x D : Addr} {ox : Obj} {od : Option Obj}
theorem find_cls (hd : hasDictIn K D = true) (ha : findIn K (.ref D) "__class__" = some (some (.builtin "object.__class__"))) (hn : specialIn K (.builtin "object.__class__") "__get__" = some (some (.builtin "getset_descriptor.__get__"))) (ht : takesIn K (.builtin "object.__class__") = some true) :
    findObj K D od "__class__" = some (.bind (.builtin "getset_descriptor.__get__") (.builtin "object.__class__")) := by
  obtain ⟨cd, hc, _⟩ := any_some hd
  unfold findObj
  rw [hc, Option.bind_some, ha, Option.bind_some]
  simp [hn, ht]
/-- e.__class__, e an error with its dict -/
theorem cls_of (T : L2.ExcC K D) {Q : Option Value → Shared → Prop} (X : K.In s.heap) (I : InstAt s.heap x ox D od) (h : Q (some (.ref D)) { s with toks := s.toks + 1 }) : wpAny (model prog w) A (getAttr? (.ref x) "__class__") Q E s := by
  have hf := find_cls (od := od) T.hd T.ha T.hn T.ht
  obtain ⟨hp, g, d, t, os⟩ := s
  have ty := I.type (M := model prog w); have l1 := looks_findIn (M := model prog w) X T.hg; have l2 := looks_findIn (M := model prog w) X T.hk
  have l3 := looks_find (M := model prog w) X I hf; have sb : Looks (model prog w) hp (isInstance (.ref x) (.type "BaseException")) true := ty.andThen (looks_subIn X T.hs)
  have n2 : (Value.builtin "BaseException.__getattribute__" == Value.builtin "object.__getattribute__") = false := by decide +kernel
  have n1 : (onTheHeap (Value.ref D) && Value.builtin "BaseException.__getattribute__" == Value.builtin "object.__getattribute__") = false := (by rw [n2]; rfl)
  unfold getAttr? getAttrBy? getAttrBy
  refine wpAny_bind (wpAny_mkText (wpAny_bind (wpAny_attempt (wpAny_holding (wpAny_bind (ty.at (wpAny_bind (l1.at ?_))))))))
  show wpAny _ _ (if (onTheHeap (Value.ref D) && Value.builtin "BaseException.__getattribute__" == Value.builtin "object.__getattribute__") = true then _ else _) _ _ _
  rw [n1, if_neg Bool.false_ne_true]; unfold getAttrByItsOwn hookBefore
  refine wpAny_bind ?_
  rw [if_pos (show onTheHeap (Value.ref D) = true from rfl)]
  refine l2.at (wpAny_bind (wpAny_attempt (wpAny_holding ?_)))
  unfold callGetattribute
  rw [show (false && onTheHeap (Value.builtin "BaseException.__getattribute__")) = false from rfl, if_neg Bool.false_ne_true]; unfold boundAndCalled; rw [PySem.F.excAttr_ValueError.ga.bind (.ref x)]
  refine wpAny_bind (wpAny_pure ?_)
  show wpAny _ _ (call (.builtin "BaseException.__getattribute__") [.ref x, .str "__class__" t]) _ _ _
  refine wpAny_call (codeAny_call_builtin PySem.F.excAttr_ValueError.ga.plain PySem.F.entry_bexc_ga (@check_slot (model prog w) _ _ ⟨hp, g, d, t + 1, os⟩ "BaseException.__getattribute__" "BaseException" "__getattribute__" (.ref x) [.str "__class__" t] [] _ (by decide +kernel) (by decide +kernel) sb (PySem.F.args_bexc_ga (.ref x) (.str "__class__" t)) ?_))
  unfold Builtin.«object.__getattribute__»
  refine wpAny_bind (wpAny_of_eq (a := ((Value.ref x : Value), [Value.str "__class__" t])) (by first | rfl | (simp only [slotArgs]; rfl)) (wpAny_bind (wpAny_pure (wpAny_bind (ty.at (wpAny_bind (l3.at ?_)))))))
  show wpAny _ _ (holding [Value.builtin "object.__class__"] (call (.builtin "getset_descriptor.__get__") [.builtin "object.__class__", .ref x, .ref D]) >>= ret) _ _ _
  refine wpAny_bind (wpAny_holding (wpAny_call (class_get (s := ⟨hp, g, d, t + 1, os⟩) (ox := ox) (od := od) X I T.hm (wpAny_pure ?_))))
  show wpAny _ _ (handedOut (.ref D)) _ _ _
  rw [handedOut_of (v := .ref D) rfl]
  first
    | exact wpAny_pure (wpAny_pure h)
    | exact wpAny_pure h
    | exact wpAny_pure (wpAny_bind (wpAny_pure (wpAny_pure h)))
theorem kitx_err (T : L2.ExcC K D) : KitX K (.ref x) (.ref D) (fun h => InstAt h x ox D od) where
  ty := fun _ _ _ I => I.type
  it := fun M h X I => by
    obtain ⟨cd, hc, _⟩ := any_some T.hd
    unfold clsIn at hc
    split at hc
    · rename_i c' d' cd' sl' ho
      intro A' Q' E' s' k q; unfold isType loadHead; exact wpAny_bind (wpAny_loadPart (k _ _ (X _ _ ho)) (wpAny_pure q))
    · cases hc
  ne := (handS_kitx_exc (x := x) (ox := ox) T.hg T.hk T.hs T.hd T.ha T.hn T.ht T.hm).ne
  ca := fun X I k => cls_of T X I k
end
end PySem.ErrL
namespace L2
open PySem PySem.Spec PyProof.Rows
theorem ExcC.xf {K : PySem.W.Frag} {C : Addr} (T : ExcC K C) : XfC K C := ⟨T.hg, T.hk, T.hs, T.hd⟩
/-- isinstance(e, c), e the error that the suite holds, its dict at dd -/
def rIsErr (K : PySem.W.Frag) (cls : Value) (d : Option Addr) (a : Addr) : List V → Hp → VK → Prop := fun xs H Q => ∃ (c : V) (cv : Value) (b : Bool) (D dd : Addr) (fs : List (Str × V)), xs = [.ref a, c] ∧ cls = .ref D ∧ d = some dd ∧ H dd = some (.xd fs) ∧ ExcC K D ∧ ClsV c cv ∧ PySem.W.kitOne K (.ref D) cv = some b ∧ Q (.bl b) H
theorem call_isErr {X : Cx} {a : Addr} {cls : Value} {d : Option Addr} {oe : Obj} {pn : List (Addr × Obj)} (hz : Zc cls d oe) (hf : ∃ vs, oe.data = .fields vs) : CallR (X.suite a ((a, oe) :: pn)) (.builtin "isinstance") (rIsErr X.K cls d a) := by
  intro pins s σ H xs us Q I r h
  obtain ⟨c, cv, b, D, dd, fs, rfl, rfl, rfl, hdd, T, hcv, e, q⟩ := h
  obtain ⟨u1, u2, rfl, r1, r2⟩ := vals2 r
  obtain rfl : u1 = Value.ref a := r1
  have ec := hcv.eq r2
  subst ec
  obtain ⟨hget, _⟩ := I.pin (a, oe) (List.mem_append.mpr (.inl List.mem_cons_self))
  obtain ⟨vs, hv⟩ := hf
  obtain ⟨mA, hns, _⟩ := (show ObjOk X.prog X.w H s.heap dd (.xd fs) from I.hok dd _ hdd)
  obtain ⟨o', es, ep, ho, _⟩ := hns
  have J : PySem.W.InstAt s.heap a oe D (some o') := ⟨hget, hz.1, by unfold PySem.W.notCls; rw [hv] <;> rfl, by rw [hz.2]; exact ho⟩
  exact PySem.W.kia_one (PySem.ErrL.kitx_err T) I.kIn J e (fun z => nomatch z) fun tk => ⟨.bl b, H, I.kept (t' := tk) fun _ _ z => z, rfl, q⟩
theorem call_isErrK {X : Cx} {K : PySem.W.Frag} {a : Addr} {cls : Value} {d : Option Addr} {oe : Obj} {pn : List (Addr × Obj)} (h : X.K = K) (hz : Zc cls d oe) (hf : ∃ vs, oe.data = .fields vs) : CallR (X.suite a ((a, oe) :: pn)) (.builtin "isinstance") (rIsErr K cls d a) := h ▸ call_isErr hz hf
/-- .. with a dict or without -/
def rIsErr2 (K : PySem.W.Frag) (cls : Value) (d : Option Addr) (a : Addr) : List V → Hp → VK → Prop := fun xs H Q => ∃ (c : V) (cv : Value) (b : Bool) (D : Addr), xs = [.ref a, c] ∧ cls = .ref D ∧ (∀ dd, d = some dd → ∃ fs, H dd = some (.xd fs)) ∧ ExcC K D ∧ ClsV c cv ∧ PySem.W.kitOne K (.ref D) cv = some b ∧ Q (.bl b) H
theorem call_isErr2 {X : Cx} {a : Addr} {cls : Value} {d : Option Addr} {oe : Obj} {pn : List (Addr × Obj)} (hz : Zc cls d oe) (hf : ∃ vs, oe.data = .fields vs) : CallR (X.suite a ((a, oe) :: pn)) (.builtin "isinstance") (rIsErr2 X.K cls d a) := by
  intro pins s σ H xs us Q I r h
  obtain ⟨c, cv, b, D, rfl, rfl, hdd, T, hcv, e, q⟩ := h
  obtain ⟨u1, u2, rfl, r1, r2⟩ := vals2 r
  obtain rfl : u1 = Value.ref a := r1
  have ec := hcv.eq r2
  subst ec
  obtain ⟨hget, _⟩ := I.pin (a, oe) (List.mem_append.mpr (.inl List.mem_cons_self))
  obtain ⟨vs, hv⟩ := hf
  have J : ∃ od : Option Obj, PySem.W.InstAt s.heap a oe D od := by
    cases d with
    | none => exact ⟨none, hget, hz.1, by unfold PySem.W.notCls; rw [hv] <;> rfl, by rw [hz.2]; exact trivial⟩
    | some dd =>
      obtain ⟨fs, h⟩ := hdd dd rfl
      obtain ⟨mA, hns, _⟩ := (show ObjOk X.prog X.w H s.heap dd (.xd fs) from I.hok dd _ h)
      obtain ⟨o', es, ep, ho, _⟩ := hns
      exact ⟨some o', hget, hz.1, by unfold PySem.W.notCls; rw [hv] <;> rfl, by rw [hz.2]; exact ho⟩
  obtain ⟨od, J⟩ := J
  exact PySem.W.kia_one (PySem.ErrL.kitx_err T) I.kIn J e (fun z => nomatch z) fun tk => ⟨.bl b, H, I.kept (t' := tk) fun _ _ z => z, rfl, q⟩
theorem call_isErr2K {X : Cx} {K : PySem.W.Frag} {a : Addr} {cls : Value} {d : Option Addr} {oe : Obj} {pn : List (Addr × Obj)} (h : X.K = K) (hz : Zc cls d oe) (hf : ∃ vs, oe.data = .fields vs) : CallR (X.suite a ((a, oe) :: pn)) (.builtin "isinstance") (rIsErr2 K cls d a) := h ▸ call_isErr2 hz hf
end L2
set_option Elab.async false
set_option linter.all false
set_option maxRecDepth 100000
set_option maxHeartbeats 4000000
/-! the draws: an object of six entries -/
namespace Dw
open PySem L2
/-- the entries of the draws -/
def drK (c : Addr) (nx dg rs sd tn : Int) : List (Key × V) :=
  [(.inr "cells", .ref c), (.inr "next", .int nx), (.inr "digits", .int dg), (.inr "rest", .int rs), (.inr "seed", .int sd), (.inr "turn", .int tn)]
section
variable {c : Addr} {nx dg rs sd tn y : Int}
theorem g_cells : valV (drK c nx dg rs sd tn) (.inr "cells") = some (.ref c) := rfl
theorem g_next : valV (drK c nx dg rs sd tn) (.inr "next") = some (.int nx) := rfl
theorem g_digits : valV (drK c nx dg rs sd tn) (.inr "digits") = some (.int dg) := rfl
theorem g_rest : valV (drK c nx dg rs sd tn) (.inr "rest") = some (.int rs) := rfl
theorem g_seed : valV (drK c nx dg rs sd tn) (.inr "seed") = some (.int sd) := rfl
theorem g_turn : valV (drK c nx dg rs sd tn) (.inr "turn") = some (.int tn) := rfl
theorem p_next : putK (drK c nx dg rs sd tn) (.inr "next") (.int y) = drK c y dg rs sd tn := rfl
theorem p_digits : putK (drK c nx dg rs sd tn) (.inr "digits") (.int y) = drK c nx y rs sd tn := rfl
theorem p_rest : putK (drK c nx dg rs sd tn) (.inr "rest") (.int y) = drK c nx dg y sd tn := rfl
theorem p_seed : putK (drK c nx dg rs sd tn) (.inr "seed") (.int y) = drK c nx dg rs y tn := rfl
theorem p_turn : putK (drK c nx dg rs sd tn) (.inr "turn") (.int y) = drK c nx dg rs sd y := rfl
end
/-- the draws at d, their cells at c -/
def Dr (H : Hp) (d c : Addr) : Prop := d ≠ c ∧ ∃ (ns : List Int) (nx dg rs sd tn : Int), H d = some (.dK (drK c nx dg rs sd tn)) ∧ H c = some (.lst (ns.map V.int)) ∧ ns.length ≤ 63 ∧ 0 ≤ nx
theorem Dr.keep {H H' : Hp} {d c : Addr} (x : Dr H d c) (kd : ∀ o, H d = some o → H' d = some o) (kc : ∀ o, H c = some o → H' c = some o) : Dr H' d c := by
  obtain ⟨n, ns, nx, dg, rs, sd, tn, h1, h2, h3, h4⟩ := x
  exact ⟨n, ns, nx, dg, rs, sd, tn, kd _ h1, kc _ h2, h3, h4⟩
theorem Dr.same {H H' : Hp} {d c : Addr} (x : Dr H d c) (k : Same H H') : Dr H' d c := x.keep (k d) (k c)
theorem Dr.upd {H : Hp} {d c a : Addr} {o : HO} (x : Dr H d c) (h1 : d ≠ a) (h2 : c ≠ a) : Dr (upd H a o) d c := x.keep (fun o e => by rw [upd_ne h1]; exact e) (fun o e => by rw [upd_ne h2]; exact e)
theorem Dr.new {H : Hp} {d c a : Addr} {o : HO} (x : Dr H d c) (h : H a = none) : Dr (L2.upd H a o) d c := by
  obtain ⟨n, ns, nx, dg, rs, sd, tn, h1, h2, h3, h4⟩ := id x
  exact x.upd (ne_of_none h1 h) (ne_of_none h2 h)
theorem Dr.ne {H : Hp} {d c a : Addr} (x : Dr H d c) (h : H a = none) : d ≠ a ∧ c ≠ a := by
  obtain ⟨n, ns, nx, dg, rs, sd, tn, h1, h2, h3, h4⟩ := id x
  exact ⟨ne_of_none h1 h, ne_of_none h2 h⟩
/-- all but the object at d is as it was -/
def But (d : Addr) (H H' : Hp) : Prop := ∀ b o, H b = some o → b ≠ d → H' b = some o
theorem But.refl (d : Addr) (H : Hp) : But d H H := fun _ _ h _ => h
theorem But.trans {d : Addr} {H H1 H2 : Hp} (a : But d H H1) (b : But d H1 H2) : But d H H2 := fun c o h n => b c o (a c o h n) n
theorem But.of {d : Addr} {H H1 : Hp} (a : Same H H1) : But d H H1 := fun c o h _ => a c o h
theorem But.upd (d : Addr) (H : Hp) (o : HO) : But d H (L2.upd H d o) := fun c u h n => by rw [upd_ne n]; exact h
theorem But.free {d a : Addr} {H H1 : Hp} (x : But d H H1) (hd : ∀ o, H1 d = some o → True) (h : H1 a = none) (n : a ≠ d) : H a = none := by
  cases e : H a with
  | none => rfl
  | some o => rw [x a o e n] at h; cases h
/-- a draw: a number from 0 to many - 1; nothing but the draws changes -/
def spNext : Sp := fun vs H Q _ => ∃ (d c : Addr) (many : Int), vs = [.ref d, .int many] ∧ Dr H d c ∧ 1 ≤ many ∧ many < 1073741824 ∧
  ∀ (k : Int) (H' : Hp), 0 ≤ k → k < many → Dr H' d c → But d H H' → Q (.int k) H'
/-- the draws of a script -/
def spDigits (K : PySem.W.Frag) : Sp := fun vs H Q _ => ∃ (a : Addr) (ns : List Int) (many : V), vs = [.ref a, many] ∧ SqL K H a (ns.map V.int) ∧ ns.length ≤ 63 ∧
  ∀ (d c : Addr) (H' : Hp), H d = none → H c = none → Dr H' d c → Same H H' → Q (.ref d) H'
theorem dgs {H : Hp} {a : Addr} {kvs : List (Key × V)} {x : Str} {v : V} (e : H a = some (.dK kvs)) (h : valV kvs (.inr x) = some v) : DGet H a (.str x) (some v) := by
  have q := DGet.k (k := .inr x) e
  rw [h] at q
  exact q
theorem dps {H : Hp} {a : Addr} {kvs kvs' : List (Key × V)} {x : Str} {v : V} (e : H a = some (.dK kvs)) (h : putK kvs (.inr x) v = kvs') (hl : kvs.length < sizeLine) : DPut H a (.str x) v (upd H a (.dK kvs')) := by
  have q := DPut.k (k := .inr x) (v := v) e hl
  rw [h] at q
  exact q
theorem dpu {H : Hp} {a : Addr} {kvs kvs' : List (Key × V)} {x : Str} {v : V} (h : putK kvs (.inr x) v = kvs') (hl : kvs.length < sizeLine) : DPut (upd H a (.dK kvs)) a (.str x) v (upd H a (.dK kvs')) := by
  have q := dps (H := upd H a (.dK kvs)) (a := a) upd_same h hl
  rw [upd_upd] at q
  exact q
theorem dr_len {c : Addr} {nx dg rs sd tn : Int} : (drK c nx dg rs sd tn).length < sizeLine := by show 6 < sizeLine; decide
end Dw
set_option Elab.async false
set_option linter.all false
set_option maxRecDepth 100000
set_option maxHeartbeats 4000000
/-! new instances and methods whose error is wished for at the caller's slots -/
namespace L2
open PySem PySem.Spec PyProof.Rows
/-- C(..), C(.., k = v, ..), o.m(..): what is raised is wished for at σ -/
def tMakeS (C : Addr) (sp : Sp) (dvs : List V) (E : St → XK) (t : TA) : TE := fun σ H Q => t σ H fun vs H1 => ∀ x dx, H1 x = none → H1 dx = none → dx ≠ x →
  sp (.ref x :: (vs ++ dvs)) (upd (upd H1 dx (.own x)) x (.ins C dx [])) (fun v H2 => v = .non ∧ Q (.ref x) H2) (E σ)
def tMakeKS (C : Addr) (n m : Nat) (sp : Sp) (gV : List V → List V → List V) (E : St → XK) (t tk : TA) : TE := fun σ H Q => t σ H fun vs H1 => tk σ H1 fun zs H2 => vs.length = n ∧ zs.length = m ∧ ∀ x dx, H2 x = none → H2 dx = none → dx ≠ x →
  sp (gV (.ref x :: vs) zs) (upd (upd H2 dx (.own x)) x (.ins C dx [])) (fun v H3 => v = .non ∧ Q (.ref x) H3) (E σ)
def tMethSA (C : Addr) (m : Str) (sp : Sp) (dvs : List V) (E : St → XK) (ta : TE) (t : TA) : TE := fun σ H Q => ta σ H fun x H1 => ∃ a dx fs, x = .ref a ∧ H1 a = some (.ins C dx fs) ∧ fs.lookup m = none ∧
  t σ H1 fun vs H2 => sp (x :: (vs ++ dvs)) H2 Q (E σ)
section
variable {X : Cx} {CX : CXT} {k n : Nat} {f C : Addr} {fd : FuncData} {ps ks : List Str} {sp : Sp} {E : St → XK} {x m : Str} {p pos apos : Pos} {e o : Expr} {es : List Expr} {kws : List Keyword} {ta : TE} {t tk : TA} {ds : List Value} {dvs : List V} {g : List Value → List Value → List Value} {gV : List V → List V → List V}
theorem mk_back {pins : List (Addr × Obj)} {σ : St} {H : Hp} {s s' : Shared} {Q : VK} {r : Result} {E1 : XK} {a : Addr} (hx : PassesAt CX X σ E1) (I2 : Inv X pins σ H s)
    (hq : CR CX X.stack X.prog X.w H s (fun v H3 => v = .non ∧ Q (.ref a) H3) E1 r s') :
    PySem.W.InitBack a (fun r s' => match r with | .ok (.ret u) => EP X pins σ Q u s' | .ok _ => False | .error e => X.xe e s') r s' := by
  cases r with
  | error e => exact hx pins H s e s' I2 hq
  | ok fl =>
    cases fl with
    | ret u =>
      obtain ⟨v, H', I3, rv, ev, q3⟩ := I2.after hq
      subst ev
      exact ⟨rv, V.ref a, H', I3, rfl, q3⟩
    | next => exact hq.elim
    | brk => exact hq.elim
    | cont => exact hq.elim
theorem run_makeS {pins : List (Addr × Obj)} {σ : St} {H : Hp} {s : Shared} {Q : VK} {us : List Value} {vs : List V} (M : Mk X.K C f) (F : FnOk X.prog X.w X.K X.mg X.base CX k f fd ps sp) (hr : Room (k + 1) X.A) (hb : Binds X.K fd ps ds) (hd : Vals dvs ds)
    (hx : PassesAt CX X σ (E σ)) (I : Inv X pins σ H s) (r : Vals vs us)
    (h : ∀ x dx, H x = none → H dx = none → dx ≠ x → sp (.ref x :: (vs ++ dvs)) (upd (upd H dx (.own x)) x (.ins C dx [])) (fun v H2 => v = .non ∧ Q (.ref x) H2) (E σ)) :
    wpAny (model X.prog X.w) X.A (call (.ref C) us) (EP X pins σ Q) X.xe s := by
  have q0 := h (s.heap.objs.size + 1) s.heap.objs.size (I.hok.fresh (Nat.le_succ _)) (I.hok.fresh (Nat.le_refl _)) (Nat.ne_of_lt (Nat.lt_succ_self _))
  have J := Inv.made (C := C) I
  have rr : Vals (V.ref (s.heap.objs.size + 1) :: (vs ++ dvs)) (Value.ref (s.heap.objs.size + 1) :: (us ++ ds)) := .cons rfl (r.append hd)
  have hl : (Value.ref (s.heap.objs.size + 1) :: us ++ ds).length = ps.length := (rr.length.symm.trans (F.len _ _ _ _ q0))
  exact wpAny_call (make_map (f := f) I.kIn M.makes M.init (beq_iff_eq.mp M.fn) (codeAny_mono (F.run _ X.stack _ _ ⟨Value.ref (s.heap.objs.size + 1) :: us, []⟩ (Value.ref (s.heap.objs.size + 1) :: (us ++ ds)) _ _ (E σ) (hr.make C us [])
    (J.env0.make C us []) (hb _ (Value.ref (s.heap.objs.size + 1) :: us) J.kIn hl) rr q0) fun r s' q => mk_back hx J q))
theorem run_makeKS {pins : List (Addr × Obj)} {σ : St} {H : Hp} {s : Shared} {Q : VK} {us ws : List Value} {vs zs : List V} (M : Mk X.K C f) (F : FnOk X.prog X.w X.K X.mg X.base CX k f fd ps sp) (hr : Room (k + 1) X.A) (hb : KBn X.K fd ps (n + 1) ks g gV) (hx : PassesAt CX X σ (E σ))
    (I : Inv X pins σ H s) (r : Vals vs us) (rz : Vals zs ws) (l1 : vs.length = n) (l2 : zs.length = ks.length)
    (h : ∀ x dx, H x = none → H dx = none → dx ≠ x → sp (gV (.ref x :: vs) zs) (upd (upd H dx (.own x)) x (.ins C dx [])) (fun v H2 => v = .non ∧ Q (.ref x) H2) (E σ)) :
    wpAny (model X.prog X.w) X.A (call (.ref C) us (ks.zip ws)) (EP X pins σ Q) X.xe s := by
  have q0 := h (s.heap.objs.size + 1) s.heap.objs.size (I.hok.fresh (Nat.le_succ _)) (I.hok.fresh (Nat.le_refl _)) (Nat.ne_of_lt (Nat.lt_succ_self _))
  have J := Inv.made (C := C) I
  have rr := hb.rel (show Vals (V.ref (s.heap.objs.size + 1) :: vs) (Value.ref (s.heap.objs.size + 1) :: us) from .cons rfl r) rz
  have n1 : (Value.ref (s.heap.objs.size + 1) :: us).length = n + 1 := congrArg Nat.succ (r.length.symm.trans l1)
  exact wpAny_call (make_map (f := f) I.kIn M.makes M.init (beq_iff_eq.mp M.fn) (codeAny_mono (F.run _ X.stack _ _ ⟨Value.ref (s.heap.objs.size + 1) :: us, ks.zip ws⟩ (g (Value.ref (s.heap.objs.size + 1) :: us) ws) _ _ (E σ) (hr.make C us (ks.zip ws))
    (J.env0.make C us (ks.zip ws)) (hb.to _ (Value.ref (s.heap.objs.size + 1) :: us) ws J.kIn n1 (rz.length.symm.trans l2)) rr q0) fun r s' q => mk_back hx J q))
/-- C(e, ..) -/
theorem pe_makeS (M : Mk X.K C f) (F : FnOk X.prog X.w X.K X.mg X.base CX k f fd ps sp) (hr : Room (k + 1) X.A) (hg : Gl X x) (hm : X.mg x = some (.ref C)) (hb : Binds X.K fd ps ds) (hd : Vals dvs ds) (hx : ∀ σ, PassesAt CX X σ (E σ)) (ha : PA X (e :: es) t)
    (hdb : (x == ("__debug__" : Str)) = false := by decide) (he : starEach (e :: es) X.env = (false, eval e X.env) :: starEach es X.env := by rfl) (hpl : (backTo pos (starEach es X.env)).any (·.1) = false := by rfl) :
    PE X (.Call (.Name x p) (e :: es) [] pos) (tMakeS C sp dvs E t) := ⟨fun pins s σ H Q I h =>
  wpAny_Call_Name_kw (ld_glob I hg hm (PySem.W.callWith_K (h₀ := X.base) I.ok.mod.kin M.kp (thn (ha.run pos pins s σ H _ I h) fun us s1 ⟨vs, H1, I1, r, q⟩ => ⟨I1.kIn, run_makeS M F hr hb hd (hx σ) I1 r q⟩) he hpl) hdb)⟩
/-- C(e, .., k = v, ..) -/
theorem pe_makeKS (M : Mk X.K C f) (F : FnOk X.prog X.w X.K X.mg X.base CX k f fd ps sp) (hr : Room (k + 1) X.A) (hg : Gl X x) (hm : X.mg x = some (.ref C)) (hb : KBn X.K fd ps (n + 1) ks g gV) (hx : ∀ σ, PassesAt CX X σ (E σ)) (ha : PA X (e :: es) t) (hkw : PK X kws tk)
    (hall : (backToKw pos (keywordEach kws X.env)).all (·.1.isSome) = true := by rfl) (hks : (backToKw pos (keywordEach kws X.env)).filterMap (·.1) = ks := by rfl) (hdb : (x == ("__debug__" : Str)) = false := by decide)
    (he : starEach (e :: es) X.env = (false, eval e X.env) :: starEach es X.env := by rfl) (hpl : ((backTo pos (starEach (e :: es) X.env)).any (·.1) || (backToKw pos (keywordEach kws X.env)).any (·.1.isNone)) = false := by rfl) :
    PE X (.Call (.Name x p) (e :: es) kws pos) (tMakeKS C n ks.length sp gV E t tk) := ⟨fun pins s σ H Q I h =>
  wpAny_Call_Name_kw (ld_glob I hg hm (PySem.W.callWith_KW (h₀ := X.base) I.ok.mod.kin M.kp hall (thn (ha.run pos pins s σ H _ I h) fun us s1 ⟨vs, H1, I1, r, q⟩ =>
    thn (hkw.run pos pins s1 σ H1 _ I1 q) fun ws s2 ⟨zs, H2, I2, rz, l1, l2, q2⟩ => ⟨I2.kIn, by rw [hks]; exact run_makeKS M F hr hb (hx σ) I2 r rz l1 l2 q2⟩) hpl he) hdb)⟩
/-- o.m(e, ..) -/
theorem pe_methSA {pl : Sem Bool} (ho : PE X o ta) (c : Cls X.K C) (hm : Meth X.K C m f) (F : FnOk X.prog X.w X.K X.mg X.base CX k f fd ps sp) (hr : Room k X.A) (hb : Binds X.K fd ps []) (hx : ∀ σ, PassesAt CX X σ (E σ)) (ha : PA X (e :: es) t)
    (hst : starEach (e :: es) X.env = (false, eval e X.env) :: starEach es X.env := by rfl) (hpl : (backTo pos (starEach es X.env)).any (·.1) = false := by rfl)
    (ht : eval (.Call (.Attribute o m apos) (e :: es) [] pos) X.env = (do
      let v0 ← eval o X.env
      standAt apos.atName
      let (f1, first) ← holding [v0] (getMethod v0 m pl)
      callWith pos f1 first (backTo pos (starEach (e :: es) X.env)) (backToKw pos (keywordEach [] X.env))) := by rfl) :
    PE X (.Call (.Attribute o m apos) (e :: es) [] pos) (tMethSA C m sp [] E ta t) := by
  refine ⟨fun pins s σ H Q I h => PySem.W.methodCall_KW (pl := pl) (thn (ho.run pins s σ H _ I h) fun u s1 hh => ?_) ht⟩
  obtain ⟨x, H1, I1, rx, a, dx, fs, ex, ea, l, q⟩ := hh
  subst ex
  obtain rfl : u = Value.ref a := rx
  refine getmeth_ok I1 ea c hm l (PySem.W.callWith_K (first := [.ref a]) (h₀ := X.base) I.ok.mod.kin hm.kp (thn (ha.run pos pins s1 σ H1 _ I1 q) fun us s2 hh2 => ?_) hst hpl)
  obtain ⟨vs, H2, I2, r, q2⟩ := hh2
  rw [List.append_nil] at q2
  exact ⟨I2.kIn, run_fnS (us := .ref a :: us) (vs := .ref a :: vs) F hr hb (hx σ) I2 (.cons rfl r) q2⟩
end
end L2
set_option Elab.async false
set_option linter.all false
set_option maxRecDepth 100000
set_option maxHeartbeats 4000000
namespace L2
open PySem PySem.Spec PyProof.Rows
/-- a def of the text that keeps sp, as its callers need it -/
def Cal (P : Program) (w : World) (K : PySem.W.Frag) (mg : Str → Option Value) (base : Heap) (CX : CXT) (k : Nat) (x : Str) (ps : List Str) (sp : Sp) : Prop :=
  ∃ (f : Addr) (fd : FuncData), FnOk P w K mg base CX k f fd ps sp ∧ mg x = some (.ref f) ∧ PySem.W.keepIn K (.ref f) = true ∧ Binds K fd ps []
/-- a method of the class at C that keeps sp -/
def CalM (P : Program) (w : World) (K : PySem.W.Frag) (mg : Str → Option Value) (base : Heap) (CX : CXT) (k : Nat) (C : Addr) (m : Str) (ps : List Str) (sp : Sp) : Prop :=
  ∃ (f : Addr) (fd : FuncData), FnOk P w K mg base CX k f fd ps sp ∧ Meth K C m f ∧ Binds K fd ps []
/-- the class at C makes its instances by sp -/
def CalC (P : Program) (w : World) (K : PySem.W.Frag) (mg : Str → Option Value) (base : Heap) (CX : CXT) (k : Nat) (C : Addr) (ps : List Str) (sp : Sp) : Prop :=
  ∃ (f : Addr) (fd : FuncData), FnOk P w K mg base CX k f fd ps sp ∧ Mk K C f ∧ Binds K fd ps []
/-- where a def stands -/
def Def (K : PySem.W.Frag) (mg : Str → Option Value) (x : Str) (st : Stmt) : Prop := ∃ (f : Addr) (fd : FuncData), Fun K x x st f fd ∧ mg x = some (.ref f)
def DefM (K : PySem.W.Frag) (C : Addr) (m qual : Str) (st : Stmt) : Prop := ∃ (f : Addr) (fd : FuncData), Fun K m qual st f fd ∧ Meth K C m f
def DefC (K : PySem.W.Frag) (C : Addr) (qual : Str) (st : Stmt) : Prop := ∃ (f : Addr) (fd : FuncData), Fun K "__init__" qual st f fd ∧ Mk K C f
section
variable {X : Cx} {CX : CXT} {k : Nat} {ps : List Str} {sp : Sp} {x : Str} {p pos apos : Pos} {e o : Expr} {es : List Expr} {t : TA} {ta : TE} {v : V} {C : Addr} {m : Str}
theorem pe_cal (c : Cal X.prog X.w X.K X.mg X.base CX k x ps sp) (hr : Room k X.A) (ha : PA X (e :: es) t) (hx : Passes CX X E0 := by first | exact pass0 | exact passL) (hg : Gl X x := by rfl) (hdb : (x == ("__debug__" : Str)) = false := by decide) (he : starEach (e :: es) X.env = (false, eval e X.env) :: starEach es X.env := by rfl)
    (hpl : (backTo pos (starEach es X.env)).any (·.1) = false := by rfl) : PE X (.Call (.Name x p) (e :: es) [] pos) (tCall sp [] E0 t) := by
  obtain ⟨f, fd, h1, h2, h3, h4⟩ := c
  exact pe_call h1 hr hg h2 h3 h4 .nil hx ha hdb he hpl
theorem pe_cal0 (c : Cal X.prog X.w X.K X.mg X.base CX k x ps sp) (hr : Room k X.A) (hx : Passes CX X E0 := by first | exact pass0 | exact passL) (hg : Gl X x := by rfl) (hdb : (x == ("__debug__" : Str)) = false := by decide) : PE X (.Call (.Name x p) [] [] pos) (tCall sp [] E0 tNil) := by
  obtain ⟨f, fd, h1, h2, h3, h4⟩ := c
  exact pe_call0 h1 hr hg h2 h3 h4 .nil hx hdb
/-- f(e, ..) within a try: what it raises is wished for at the slots -/
theorem pe_calS {E : St → XK} (c : Cal X.prog X.w X.K X.mg X.base CX k x ps sp) (hr : Room k X.A) (hx : ∀ σ, PassesAt CX X σ (E σ)) (ha : PA X (e :: es) t) (hg : Gl X x := by rfl) (hdb : (x == ("__debug__" : Str)) = false := by decide) (he : starEach (e :: es) X.env = (false, eval e X.env) :: starEach es X.env := by rfl)
    (hpl : (backTo pos (starEach es X.env)).any (·.1) = false := by rfl) : PE X (.Call (.Name x p) (e :: es) [] pos) (tCallS sp E t) := by
  obtain ⟨f, fd, h1, h2, h3, h4⟩ := c
  exact pe_callS h1 hr hg h2 h3 h4 hx ha hdb he hpl
/-- C(e, ..) -/
theorem pe_mk (c : CalC X.prog X.w X.K X.mg X.base CX k C ps sp) (hm : X.mg x = some (.ref C)) (hr : Room (k + 1) X.A) (ha : PA X (e :: es) t) (hx : Passes CX X E0 := by first | exact pass0 | exact passL) (hg : Gl X x := by rfl) (hdb : (x == ("__debug__" : Str)) = false := by decide) (he : starEach (e :: es) X.env = (false, eval e X.env) :: starEach es X.env := by rfl)
    (hpl : (backTo pos (starEach es X.env)).any (·.1) = false := by rfl) : PE X (.Call (.Name x p) (e :: es) [] pos) (tMake C sp [] E0 t) := by
  obtain ⟨f, fd, h1, h2, h4⟩ := c
  exact pe_make h2 h1 hr hg hm h4 .nil hx ha hdb he hpl
theorem pe_mkS {E : St → XK} (c : CalC X.prog X.w X.K X.mg X.base CX k C ps sp) (hm : X.mg x = some (.ref C)) (hr : Room (k + 1) X.A) (hx : ∀ σ, PassesAt CX X σ (E σ)) (ha : PA X (e :: es) t) (hg : Gl X x := by rfl) (hdb : (x == ("__debug__" : Str)) = false := by decide) (he : starEach (e :: es) X.env = (false, eval e X.env) :: starEach es X.env := by rfl)
    (hpl : (backTo pos (starEach es X.env)).any (·.1) = false := by rfl) : PE X (.Call (.Name x p) (e :: es) [] pos) (tMakeS C sp [] E t) := by
  obtain ⟨f, fd, h1, h2, h4⟩ := c
  exact pe_makeS h2 h1 hr hg hm h4 .nil hx ha hdb he hpl
/-- o.m(e, ..), o.m() -/
theorem pe_mth {pl : Sem Bool} (cl : Cls X.K C) (c : CalM X.prog X.w X.K X.mg X.base CX k C m ps sp) (hr : Room k X.A) (ho : PE X o ta) (ha : PA X (e :: es) t) (hx : Passes CX X E0 := by first | exact pass0 | exact passL) (hst : starEach (e :: es) X.env = (false, eval e X.env) :: starEach es X.env := by rfl) (hpl : (backTo pos (starEach es X.env)).any (·.1) = false := by rfl)
    (ht : eval (.Call (.Attribute o m apos) (e :: es) [] pos) X.env = (do
      let v0 ← eval o X.env
      standAt apos.atName
      let (f1, first) ← holding [v0] (getMethod v0 m pl)
      callWith pos f1 first (backTo pos (starEach (e :: es) X.env)) (backToKw pos (keywordEach [] X.env))) := by rfl) : PE X (.Call (.Attribute o m apos) (e :: es) [] pos) (tMeth C m sp [] E0 ta t) := by
  obtain ⟨f, fd, h1, h2, h4⟩ := c
  exact pe_meth ho cl h2 h1 hr h4 .nil hx ha hst hpl ht
theorem pe_mth0 {pl : Sem Bool} (cl : Cls X.K C) (c : CalM X.prog X.w X.K X.mg X.base CX k C m ps sp) (hr : Room k X.A) (ho : PE X o ta) (hx : Passes CX X E0 := by first | exact pass0 | exact passL)
    (ht : eval (.Call (.Attribute o m apos) [] [] pos) X.env = (do
      let v0 ← eval o X.env
      standAt apos.atName
      let (f1, first) ← holding [v0] (getMethod v0 m pl)
      callWith pos f1 first (backTo pos (starEach [] X.env)) (backToKw pos (keywordEach [] X.env))) := by rfl) : PE X (.Call (.Attribute o m apos) [] [] pos) (tMeth C m sp [] E0 ta tNil) := by
  obtain ⟨f, fd, h1, h2, h4⟩ := c
  exact pe_meth0 ho cl h2 h1 hr h4 .nil hx ht
theorem pe_mthS {pl : Sem Bool} {E : St → XK} (cl : Cls X.K C) (c : CalM X.prog X.w X.K X.mg X.base CX k C m ps sp) (hr : Room k X.A) (ho : PE X o ta) (hx : ∀ σ, PassesAt CX X σ (E σ)) (ha : PA X (e :: es) t) (hst : starEach (e :: es) X.env = (false, eval e X.env) :: starEach es X.env := by rfl) (hpl : (backTo pos (starEach es X.env)).any (·.1) = false := by rfl)
    (ht : eval (.Call (.Attribute o m apos) (e :: es) [] pos) X.env = (do
      let v0 ← eval o X.env
      standAt apos.atName
      let (f1, first) ← holding [v0] (getMethod v0 m pl)
      callWith pos f1 first (backTo pos (starEach (e :: es) X.env)) (backToKw pos (keywordEach [] X.env))) := by rfl) : PE X (.Call (.Attribute o m apos) (e :: es) [] pos) (tMethSA C m sp [] E ta t) := by
  obtain ⟨f, fd, h1, h2, h4⟩ := c
  exact pe_methSA ho cl h2 h1 hr h4 hx ha hst hpl ht
end
/-- a module's constant -/
theorem pe_gl {X : Cx} {x : Str} {pos : Pos} {v : V} (h : ∃ u, X.mg x = some u ∧ RelV v u) (hg : Gl X x := by rfl) (hdb : (x == ("__debug__" : Str)) = false := by decide) : PE X (.Name x pos) (tC v) := by
  obtain ⟨u, hm, r⟩ := h
  exact pe_glob hg hm r hdb
/-- a built-in class as a value -/
theorem pe_ty {X : Cx} {x : Str} {pos : Pos} (n : String) (hm : X.mg x = none) (hg : Gl X x := by rfl) (hv : bootBuiltins x = some (.type n) := by decide +kernel) (hn : x ≠ "__name__" := by decide) (hd : (x == ("__debug__" : Str)) = false := by decide) : PE X (.Name x pos) (tC (.ty n)) :=
  pe_bltn hg hm hv rfl hn hd
/-- an own class as a value -/
theorem pe_cls {X : Cx} {x : Str} {pos : Pos} {C : Addr} (hm : X.mg x = some (.ref C)) (hg : Gl X x := by rfl) (hd : (x == ("__debug__" : Str)) = false := by decide) : PE X (.Name x pos) (tC (.ref C)) := pe_glob hg hm rfl hd
/-- a plain value and the name of its type -/
inductive Dm (K : PySem.W.Frag) (H : Hp) : V → String → Prop where
  | non : Dm K H .non "NoneType"
  | bl (b : Bool) : Dm K H (.bl b) "bool"
  | int (i : Int) : Dm K H (.int i) "int"
  | str (x : Str) (h : x.length ≤ sizeLine) : Dm K H (.str x) "str"
  | lst {a : Addr} {xs : List V} (e : H a = some (.lst xs)) : Dm K H (.ref a) "list"
  | tup {a : Addr} {xs : List V} (e : H a = some (.tup xs)) : Dm K H (.ref a) "tuple"
section
variable {K : PySem.W.Frag} {H H' : Hp} {v : V} {n : String}
theorem Dm.mono (d : Dm K H v n) (k : ∀ a o, v = .ref a → H a = some o → (∃ o', H' a = some o' ∧ ((∃ xs ys, o = .lst xs ∧ o' = .lst ys) ∨ o' = o))) : Dm K H' v n := by
  cases d with
  | non => exact .non
  | bl b => exact .bl b
  | int i => exact .int i
  | str x h => exact .str x h
  | lst e =>
    obtain ⟨o', h1, h2⟩ := k _ _ rfl e
    rcases h2 with ⟨xs, ys, _, h3⟩ | h3
    · subst h3; exact .lst h1
    · subst h3; exact .lst h1
  | tup e =>
    obtain ⟨o', h1, h2⟩ := k _ _ rfl e
    rcases h2 with ⟨xs, ys, h3, _⟩ | h3
    · cases h3
    · subst h3; exact .tup h1
theorem Dm.same (d : Dm K H v n) (k : Same H H') : Dm K H' v n := d.mono fun a o _ e => ⟨o, k a o e, .inr rfl⟩
theorem Dm.ty (d : Dm K H v n) : TyX K H v (.type n) := by
  cases d with
  | non => exact .base .non
  | bl b => exact .base (.bl b)
  | int i => exact .base (.int i)
  | str x h => exact .base (.str x)
  | lst e => exact .base (.lst e)
  | tup e => exact .base (.tup e)
end
theorem sNew {H : Hp} {p : Addr} {o : HO} (h : H p = none) : Same H (upd H p o) := fun b u e => by rw [upd_ne (ne_of_none e h)]; exact e
/-! the same rules, the written part named -/
section
variable {X : Cx} {K : PySem.W.Frag}
theorem ix_listK (h : X.K = K) : IxR X (rIxL K) := h ▸ ix_list
theorem ix_tupK (h : X.K = K) : IxR X (rIxT K) := h ▸ ix_tup
theorem call_isiK' (h : X.K = K) : CallR X (.builtin "isinstance") (rIsi K) := h ▸ call_isi
theorem call_isiTK (h : X.K = K) : CallR X (.builtin "isinstance") (rIsiT K) := h ▸ call_isiT
theorem sl_listK (h : X.K = K) : SlR X (rSlL K) := h ▸ sl_list
end
/-- a comprehension over a text -/
theorem lc_str {x : Str} {g : TG} {tt : TT} {te : TE} {vs : List Nat} {σ : St} {H1 : Hp} {D : Addr} {Qd : Hp → Prop} (Pv : Nat → Hp → Prop) (h0 : Pv 0 (upd H1 D (.lst [])))
    (hs : ∀ i c H, x.cps[i]? = some c → Pv i H → g (.str ⟨#[c]⟩) (wipe σ vs) H fun σ2 H2 => wipe σ2 vs = wipe σ vs ∧ tt σ2 H2 fun b H3 =>
      if b = true then te σ2 H3 fun y H4 => ∃ acc, H4 D = some (.lst acc) ∧ acc.length < sizeLine ∧ Pv (i + 1) (upd H4 D (.lst (acc ++ [y]))) else Pv (i + 1) H3) (hd : ∀ H, Pv x.cps.size H → Qd H) :
    ∃ W : Nat → Nat → Hp → Prop, (∃ m, W 0 m (upd H1 D (.lst []))) ∧ ∀ i m H, W i m H →
      ((Its x).stop i H ∧ Qd H) ∨ ((Its x).go i H ∧ ∃ Nx : Hp → Prop, (∀ H', Nx H' → ∃ m', m' < m ∧ W (i + 1) m' H') ∧ ∀ y H', (Its x).yld i H y H' → g y (wipe σ vs) H' fun σ2 H2 => wipe σ2 vs = wipe σ vs ∧ tt σ2 H2 fun b H3 =>
        if b = true then te σ2 H3 fun y H4 => ∃ acc, H4 D = some (.lst acc) ∧ acc.length < sizeLine ∧ Nx (upd H4 D (.lst (acc ++ [y]))) else Nx H3) := by
  refine ⟨fun i m H => m = x.cps.size - i ∧ i ≤ x.cps.size ∧ Pv i H, ⟨x.cps.size, by simp, Nat.zero_le _, h0⟩, ?_⟩
  rintro i m H ⟨rfl, hi, p⟩
  by_cases hlt : i < x.cps.size
  · refine .inr ⟨hlt, Pv (i + 1), fun H' p' => ⟨x.cps.size - (i + 1), by omega, rfl, by omega, p'⟩, ?_⟩
    rintro y H' ⟨rfl, c, hc, rfl⟩
    exact hs i c H' hc p
  · have e : i = x.cps.size := by omega
    subst e
    exact .inl ⟨Nat.le_refl _, hd H p⟩
/-- a for over a text -/
theorem for_strT {x : Str} {g : TG} {tb : TS} {D : Ends} {σ : St} {H : Hp} (Pv : Nat → St → Hp → Prop) (h0 : Pv 0 σ H)
    (hs : ∀ i c σ H, x.cps[i]? = some c → Pv i σ H → g (.str ⟨#[c]⟩) σ H fun σ2 H2 => tb { D with nx := Pv (i + 1), ct := Pv (i + 1), bk := D.nx } σ2 H2) (hd : ∀ σ H, Pv x.cps.size σ H → D.nx σ H) :
    ∃ W : Nat → Nat → St → Hp → Prop, (∃ m, W 0 m σ H) ∧ ∀ i m σ H, W i m σ H →
      ((Its x).stop i H ∧ D.nx σ H) ∨ ((Its x).go i H ∧ ∃ N : St → Hp → Prop, (∀ σ' H', N σ' H' → ∃ m', m' < m ∧ W (i + 1) m' σ' H') ∧ ∀ y H', (Its x).yld i H y H' → g y σ H' fun σ2 H2 => tb { D with nx := N, ct := N, bk := D.nx } σ2 H2) := by
  refine ⟨fun i m σ H => m = x.cps.size - i ∧ i ≤ x.cps.size ∧ Pv i σ H, ⟨x.cps.size, by simp, Nat.zero_le _, h0⟩, ?_⟩
  rintro i m σ H ⟨rfl, hi, p⟩
  by_cases hlt : i < x.cps.size
  · refine .inr ⟨hlt, Pv (i + 1), fun σ' H' p' => ⟨x.cps.size - (i + 1), by omega, rfl, by omega, p'⟩, ?_⟩
    rintro y H' ⟨rfl, c, hc, rfl⟩
    exact hs i c σ H' hc p
  · have e : i = x.cps.size := by omega
    subst e
    exact .inl ⟨Nat.le_refl _, hd σ H p⟩
end L2
set_option Elab.async false
set_option linter.all false
set_option maxRecDepth 100000
set_option maxHeartbeats 4000000
/-! own errors held as values -/
namespace L2
open PySem PySem.Spec PyProof.Rows
section
variable {X : Cx} {C : Addr} {fs : List Str} {ok : List Value → Prop} {x : Str} {e : Expr} {es : List Expr} {ta : TA} {p p1 p2 pos : Pos}
/-- X(e, ..), a value: the error and its dict -/
def tErV (C : Addr) (fs : List Str) (okV : List V → Prop) (ta : TA) : TE := fun σ H Q => ta σ H fun vs H1 => vs.length = fs.length ∧ okV vs ∧ ∀ a d, H1 a = none → H1 d = none → d ≠ a → Q (.ref a) (upd (upd H1 d (exd d (fs.zip vs))) a (exo a C (some d)))
theorem pe_erV {k : Nat} {okV : List V → Prop} (T : PySem.ErrL.Makes X.prog X.w X.K X.mg C fs ok) (hok : ∀ vs us, Vals vs us → okV vs → ok us) (gC : X.mg x = some (.ref C)) (hr : Room k X.A) (ha : PA X (e :: es) ta) (hg : Gl X x := by rfl)
    (hdb : (x == ("__debug__" : Str)) = false := by decide) (he : starEach (e :: es) X.env = (false, eval e X.env) :: starEach es X.env := by rfl) (hpl : (backTo pos (starEach es X.env)).any (·.1) = false := by rfl) :
    PE X (.Call (.Name x p) (e :: es) [] pos) (tErV C fs okV ta) := by
  refine ⟨fun pins s σ H Q I h => ?_⟩
  refine wpAny_Call_Name_kw (ld_glob I hg gC ?_ hdb)
  refine PySem.W.callWith_K (h₀ := X.base) I.ok.mod.kin T.kC (thn (ha.run pos pins s σ H _ I h) fun us s1 hh => ?_) he hpl
  obtain ⟨vs, H1, I1, r1, hl, hov, q1⟩ := hh
  refine ⟨I1.kIn, ?_⟩
  show wpAny _ _ (call (.ref C) us) _ _ _
  obtain ⟨mb, hmb, hbt⟩ := I1.mod.blt
  have hlim := I1.nolimit
  have hgl := I1.mod.glob.keeps I1.bk
  have hbl := hmb.keeps I1.bk
  have kin := I1.kIn
  obtain ⟨hp, g, dr, tk, os⟩ := s1
  refine wpAny_call (T.run _ _ us mb _ (by rw [← hl]; exact (Vals.length r1).symm) (hok vs us r1 hov) kin hlim hgl hbl hbt (by have := hr.dp; omega) fun h' tk' a d mA hmA M => ?_)
  obtain ⟨t1, hoe⟩ := M.obj
  have ha0 : hp.get? a = none := Heap.get?_none_of_le M.new
  have hd0 : hp.get? d = none := Heap.get?_none_of_le M.dbig
  have na : H1 a = none := I1.hok.fresh M.new
  have nd : H1 d = none := I1.hok.fresh M.dbig
  have rel : ∀ f, RelO ((fs.zip vs).lookup f) (mA f) := fun f => by rw [hmA]; exact relO_zip r1 f
  have U : Un X.fs [] H1 (upd (upd H1 d (exd d (fs.zip vs))) a (exo a C (some d))) hp h' := {
    keep := fun b u q _ _ _ => M.keep b u q
    slot := fun b u q _ _ _ => ⟨u.slots, M.keep b u q⟩
    free := fun b u q n _ => by rw [upd_ne (fun z => by rw [z, ha0] at q; cases q), upd_ne (fun z => by rw [z, hd0] at q; cases q)]; exact n
    there := fun b u q _ => ⟨u, M.keep b u q⟩
    tups := fun b xs q => by rw [upd_ne (ne_of_none q na), upd_ne (ne_of_none q nd)]; exact q
    frzs := fun b u xs q => by rw [upd_ne (ne_of_none q na), upd_ne (ne_of_none q nd)]; exact q
    tbls := fun b ps q => ⟨#[], by rw [upd_ne (ne_of_none q na), upd_ne (ne_of_none q nd), q]; simp⟩ }
  have hok2 : HOk X.prog X.w (upd (upd H1 d (exd d (fs.zip vs))) a (exo a C (some d))) h' := fun b u q => by
    by_cases hb : b = a
    · subst hb
      rw [upd_same] at q
      cases q
      exact exo_ok hoe
    · rw [upd_ne hb] at q
      by_cases hb2 : b = d
      · subst hb2
        rw [upd_same] at q
        cases q
        exact exd_ok M.ns rel
      · rw [upd_ne hb2] at q
        exact (I1.hok b u q).stay (fun c v _ z => M.keep c v z) (fun c z => by rw [upd_ne (ne_of_none z na), upd_ne (ne_of_none z nd)]; exact z) fun c xs z => by rw [upd_ne (ne_of_none z na), upd_ne (ne_of_none z nd)]; exact z
  exact ⟨.ref a, _, I1.un (t' := tk') U hok2, rfl, q1 a d na nd M.dne⟩
/-- X(e, ..), a value, X's own __init__ walked -/
def tOeV (C : Addr) (sp : Sp) (dvs : List V) (ta : TA) : TE := fun σ H Q => ta σ H fun vs H1 => vs.length ≤ 1000 ∧ ∀ a, H1 a = none → sp (.ref a :: (vs ++ dvs)) (upd H1 a (exo a C none)) (fun v H2 => v = .non ∧ Q (.ref a) H2) (fun _ _ _ => False)
theorem run_oeV {CX : CXT} {fI : Addr} {k : Nat} {fd : FuncData} {ps : List Str} {sp : Sp} {ds : List Value} {dvs : List V} {pins : List (Addr × Obj)} {σ : St} {H1 : Hp} {s1 : Shared} {Q : VK} {us : List Value} {vs : List V} (T : OexC X.K C) (iC : PySem.W.findIn X.K (.ref C) "__init__" = some (some (.ref fI))) (tI : PySem.W.typeIn X.K (.ref fI) = some (.type "function"))
    (F1 : FnOk X.prog X.w X.K X.mg X.base CX k fI fd ps sp) (hr : Room (k + 1) X.A) (hb : Binds X.K fd ps ds) (hd : Vals dvs ds) (hx : Passes CX X (fun _ _ _ => False)) (I1 : Inv X pins σ H1 s1) (r1 : Vals vs us) (hz : vs.length ≤ 1000)
    (q1 : ∀ a, H1 a = none → sp (.ref a :: (vs ++ dvs)) (upd H1 a (exo a C none)) (fun v H2 => v = .non ∧ Q (.ref a) H2) (fun _ _ _ => False)) : wpAny (model X.prog X.w) X.A (call (.ref C) us) (EP X pins σ Q) X.xe s1 := by
  obtain ⟨nm, q, N, bs, bm, sn, sub, ab, col, dd, k0, k1, k2, k3, k5, hC, hbm⟩ := T.cls
  obtain ⟨hp, g, dr, tk, os⟩ := s1
  have hsz : hp.objs.size ≤ hp.objs.size + 1 := Nat.le_succ _
  have hn : H1 (hp.objs.size + 1) = none := I1.hok.fresh hsz
  have hq := q1 (hp.objs.size + 1) hn
  have kk : ∀ b o, hp.get? b = some o → ((hp.push (PySem.W.kdv_tup us)).push (PySem.HandSPX.excO C hp.objs.size)).get? b = some o := fun b o e => Heap.get?_push_of_some _ (Heap.get?_push_of_some _ e)
  have hget : ((hp.push (PySem.W.kdv_tup us)).push (PySem.HandSPX.excO C hp.objs.size)).get? (hp.objs.size + 1) = some (PySem.HandSPX.excO C hp.objs.size) := by heap_get
  have I2 : Inv X pins σ (upd H1 (hp.objs.size + 1) (exo (hp.objs.size + 1) C none)) ⟨(hp.push (PySem.W.kdv_tup us)).push (PySem.HandSPX.excO C hp.objs.size), g, dr, tk, os⟩ :=
    I1.laid (t' := tk) (a := hp.objs.size + 1) (o := exo (hp.objs.size + 1) C none) (h' := (hp.push (PySem.W.kdv_tup us)).push (PySem.HandSPX.excO C hp.objs.size)) kk hsz (exo_ok hget)
  have r2 : Vals (V.ref (hp.objs.size + 1) :: (vs ++ dvs)) (Value.ref (hp.objs.size + 1) :: (us ++ ds)) := .cons rfl (r1.append hd)
  have hl : (Value.ref (hp.objs.size + 1) :: us ++ ds).length = ps.length := by
    have e := r2.length
    rw [F1.len _ _ _ _ hq] at e
    exact e.symm
  have hus : us.length ≤ sizeLine := by
    rw [← Paired.length r1, sizeLine_eq]
    omega
  refine wpAny_call (PySem.HandSPX.call_own F.excBase_ValueError (fun Y => PySem.HandSPX.refsVE_contains Y bm hbm) (I1.kIn _ _ hC) (PySem.W.looks_findIn I1.kIn iC) (fun self => PySem.W.bind_fn I1.kIn self tI) hus
    (codeAny_mono (F1.run _ X.stack _ _ ⟨Value.ref (hp.objs.size + 1) :: us, []⟩ (Value.ref (hp.objs.size + 1) :: (us ++ ds)) _ _ (fun _ _ _ => False) (hr.make C us []) (I2.env0.make C us []) (hb _ (Value.ref (hp.objs.size + 1) :: us) I2.kIn hl) r2 hq) fun r s' hq' => ?_))
  cases r with
  | error er => exact hx pins σ _ _ er s' I2 hq'
  | ok fl =>
    cases fl with
    | ret u =>
      obtain ⟨v, H2, J, rv, ev, q2⟩ := I2.after hq'
      subst ev
      exact ⟨rv, .ref (hp.objs.size + 1), H2, J, rfl, q2⟩
    | next => exact False.elim hq'
    | brk => exact False.elim hq'
    | cont => exact False.elim hq'
theorem pe_oeV {CX : CXT} {fI : Addr} {k : Nat} {fd : FuncData} {ps : List Str} {sp : Sp} {ds : List Value} {dvs : List V} (T : OexC X.K C) (iC : PySem.W.findIn X.K (.ref C) "__init__" = some (some (.ref fI))) (tI : PySem.W.typeIn X.K (.ref fI) = some (.type "function"))
    (F1 : FnOk X.prog X.w X.K X.mg X.base CX k fI fd ps sp) (hr : Room (k + 1) X.A) (hb : Binds X.K fd ps ds) (hd : Vals dvs ds) (hx : Passes CX X (fun _ _ _ => False)) (hm : X.mg x = some (.ref C)) (ha : PA X (e :: es) ta) (hg : Gl X x := by rfl)
    (hdb : (x == ("__debug__" : Str)) = false := by decide) (he : starEach (e :: es) X.env = (false, eval e X.env) :: starEach es X.env := by rfl) (hpl : (backTo pos (starEach es X.env)).any (·.1) = false := by rfl) :
    PE X (.Call (.Name x p) (e :: es) [] pos) (tOeV C sp dvs ta) := by
  refine ⟨fun pins s σ H Q I h => ?_⟩
  refine wpAny_Call_Name_kw (ld_glob I hg hm ?_ hdb)
  refine PySem.W.callWith_K (h₀ := X.base) I.ok.mod.kin T.kC (thn (ha.run pos pins s σ H _ I h) fun us s1 ⟨vs, H1, I1, r1, hz, q1⟩ => ⟨I1.kIn, ?_⟩) he hpl
  exact run_oeV T iC tI F1 hr hb hd hx I1 r1 hz q1
theorem pe_oeV0 {CX : CXT} {fI : Addr} {k : Nat} {fd : FuncData} {ps : List Str} {sp : Sp} {ds : List Value} {dvs : List V} (T : OexC X.K C) (iC : PySem.W.findIn X.K (.ref C) "__init__" = some (some (.ref fI))) (tI : PySem.W.typeIn X.K (.ref fI) = some (.type "function"))
    (F1 : FnOk X.prog X.w X.K X.mg X.base CX k fI fd ps sp) (hr : Room (k + 1) X.A) (hb : Binds X.K fd ps ds) (hd : Vals dvs ds) (hx : Passes CX X (fun _ _ _ => False)) (hm : X.mg x = some (.ref C)) (hg : Gl X x := by rfl)
    (hdb : (x == ("__debug__" : Str)) = false := by decide) : PE X (.Call (.Name x p) [] [] pos) (tOeV C sp dvs tNil) := by
  refine ⟨fun pins s σ H Q I h => ?_⟩
  refine wpAny_Call_Name_kw (ld_glob I hg hm ?_ hdb)
  exact PySem.W.callWith_K0 I.kIn T.kC (run_oeV (us := []) T iC tI F1 hr hb hd hx I .nil h.1 h.2)
/-- X(), a value, X a class without a text of its own -/
theorem pe_exV0 {bmB : List Value} {B newId initId : String} (F : ExcBaseFacts B newId initId bmB) (q : PySem.W.excIn X.K C bmB newId = true) (gC : X.mg x = some (.ref C)) (kC : PySem.W.keepIn X.K (.ref C) = true) (hg : Gl X x := by rfl) (hdb : (x == ("__debug__" : Str)) = false := by decide) :
    PE X (.Call (.Name x p) [] [] pos) (fun σ H Q => ∀ a, H a = none → Q (.ref a) (upd H a (exo a C none))) := by
  refine ⟨fun pins s σ H Q I h => ?_⟩
  refine wpAny_Call_Name_kw (ld_glob I hg gC ?_ hdb)
  refine PySem.W.callWith_K0 I.kIn kC ?_
  show wpAny _ _ (call (.ref C) []) _ _ _
  obtain ⟨bm, N, nm, qn, bs, hdct, sn, sub, ab, col, dd, k0, k1, k2, k3, k5, mN, hC, hN, hni, T⟩ := exc_obj I.kIn q
  refine wpAny_call_exc_subT F T hC hN hni (fun h' a hm => ?_) (by show 0 ≤ sizeLine; omega)
  have hn : H a = none := I.hok.gone hm.new
  obtain ⟨t, ht, _, _⟩ := hm.there
  exact ⟨.ref a, upd H a (exo a C none), I.laidN hm.keeps hm.new hn (exo_ok ht), rfl, h a hn⟩
/-- raise X() -/
theorem pmk_ex0 {bmB : List Value} {B newId initId : String} (F : ExcBaseFacts B newId initId bmB) (q : PySem.W.excIn X.K C bmB newId = true) (gC : X.mg x = some (.ref C)) (kC : PySem.W.keepIn X.K (.ref C) = true) (r : Raises X (.ref C)) (hg : Gl X x := by rfl) (hdb : (x == ("__debug__" : Str)) = false := by decide) :
    PMk X (.Call (.Name x p) [] [] pos) (fun _ H Q => Q (.ref C) none H) := by
  intro pins s σ H Q I h
  refine wpAny_Call_Name_kw (ld_glob I hg gC ?_ hdb)
  refine PySem.W.callWith_K0 I.kIn kC ?_
  show wpAny _ _ (call (.ref C) []) _ _ _
  obtain ⟨bm, N, nm, qn, bs, hdct, sn, sub, ab, col, dd, k0, k1, k2, k3, k5, mN, hC, hN, hni, T⟩ := exc_obj I.kIn q
  refine wpAny_call_exc_subT F T hC hN hni (fun h' e hm => ?_) (by show 0 ≤ sizeLine; omega)
  exact mk_of I hm r h (I.hok.gone hm.new)
/-- B.__init__(self, ..), B an own class that leaves it to ValueError -/
theorem pe_deinit {pl : Sem Bool} {B : Addr} {mc : Value} (r : ClX.CRead X.K B mc) (vV : PySem.W.findCls X.K (.ref B) mc "__init__" = some (.val (.builtin "ValueError.__init__"))) (hm : X.mg x = some (.ref B)) (ha : PA X (e :: es) ta)
    (hc : eval (.Call (.Attribute (.Name x p1) "__init__" p2) (e :: es) [] pos) X.env = (do
      let ov ← eval (.Name x p1) X.env
      standAt p2.atName
      let (f, first) ← holding [ov] (getMethod ov "__init__" pl)
      callWith pos f first (backTo pos (starEach (e :: es) X.env)) (backToKw pos (keywordEach [] X.env))) := by rfl) (hg : Gl X x := by rfl) (hdb : (x == ("__debug__" : Str)) = false := by decide)
    (he : starEach (e :: es) X.env = (false, eval e X.env) :: starEach es X.env := by rfl) (hpl : (backTo pos (starEach es X.env)).any (·.1) = false := by rfl) :
    PE X (.Call (.Attribute (.Name x p1) "__init__" p2) (e :: es) [] pos) (tVeI X.K ta) := by
  refine ⟨fun pins s σ H Q I h => ?_⟩
  refine PySem.W.methodCall_KW (ld_glob I hg hm ?_ hdb) hc
  refine PySem.W.method_cls I.kIn r.ga (PySem.W.cls_value I.kIn r.rd vV (by rfl) ?_)
  show wpAny _ _ (callWith pos (Value.builtin "ValueError.__init__") [] (backTo pos (starEach (e :: es) X.env)) []) _ _ _
  refine PyProof.Rows.callWith_method1 (thn (ha.run pos pins _ σ H _ (I.tok _) h) fun us s1 ⟨vs, H1, I1, r1, a, C, ws, ev, hl, T, ea, q⟩ => ?_) he hpl
  subst ev
  cases r1 with
  | @cons _ u0 _ ur ra rw' =>
    obtain rfl : u0 = Value.ref a := ra
    have hlen : ur.length ≤ sizeLine := by
      rw [← Paired.length rw', sizeLine_eq]
      omega
    exact oinit_ok T I1 ea hlen fun s' J => ⟨.non, H1, J, rfl, q⟩
/-- e.f, e an error that is a value -/
def tFldE (K : PySem.W.Frag) (f : Str) (te : TE) : TE := fun σ H Q => te σ H fun x H1 => ∃ (a C d : Addr) (fs : List (Str × V)) (v : V), x = .ref a ∧ H1 a = some (exo a C (some d)) ∧ H1 d = some (exd d fs) ∧ XfC K C ∧ PySem.W.findIn K (.ref C) f = some none ∧ fs.lookup f = some v ∧ Q v H1
theorem pe_fldE {o : Expr} {te : TE} {n : Str} (he : PE X o te) (hb : attributeBase o n X.env (eval o X.env) = eval o X.env := by rfl) : PE X (.Attribute o n pos) (tFldE X.K n te) := by
  refine ⟨fun pins s σ H Q I h => ?_⟩
  refine attr_of hb (thn (he.run pins s σ H _ I h) fun u s1 hh => ?_)
  obtain ⟨x, H1, I1, rx, a, C, d, fs, v, ex, ea, ed, T, hno, l, q⟩ := hh
  subst ex
  obtain rfl : u = Value.ref a := rx
  obtain ⟨t1, ho⟩ := exo_at I1.hok ea
  obtain ⟨mA, hns, hr⟩ := exd_at I1.hok ed
  obtain ⟨od, hod, hl⟩ := lookIn_ns hns
  obtain ⟨u, hu, ru⟩ := RelO.some_of (v := v) (o := mA n) (by rw [← l]; exact hr n)
  have J : PySem.W.InstAt s1.heap a { cls := .ref C, dict := some d, data := .fields #[.ref t1, .none, .none, .none, .bool false, .none] } C (some od) := ⟨ho, rfl, rfl, hod⟩
  exact HandSPX.exc_get I1.kIn J T.ga T.gg T.exC (PySem.W.findObj_own T.hdC hno rfl (by rw [hl, hu])) (handed_of ru) ⟨v, H1, I1.tok _, ru, q⟩
/-- isinstance(e, c), e an error that is a value -/
def rIsEv (K : PySem.W.Frag) : List V → Hp → VK → Prop := fun xs H Q => ∃ (a C : Addr) (d : Option Addr) (c : V) (cv : Value) (b : Bool), xs = [.ref a, c] ∧ H a = some (exo a C d) ∧ (∀ dd, d = some dd → ∃ fs, H dd = some (exd dd fs)) ∧ ExcC K C ∧ ClsV c cv ∧ PySem.W.kitOne K (.ref C) cv = some b ∧ Q (.bl b) H
theorem call_isEv : CallR X (.builtin "isinstance") (rIsEv X.K) := by
  intro pins s σ H xs us Q I r h
  obtain ⟨a, C, d, c, cv, b, rfl, ea, hd, T, hcv, e, q⟩ := h
  obtain ⟨u1, u2, rfl, r1, r2⟩ := vals2 r
  obtain rfl : u1 = Value.ref a := r1
  have ec := hcv.eq r2
  subst ec
  obtain ⟨t1, ho⟩ := exo_at I.hok ea
  have hod : ∃ od : Option Obj, PySem.W.InstAt s.heap a { cls := .ref C, dict := d, data := .fields #[.ref t1, .none, .none, .none, .bool false, .none] } C od := by
    cases d with
    | none => exact ⟨none, ho, rfl, rfl, trivial⟩
    | some dd =>
      obtain ⟨fs, ed⟩ := hd dd rfl
      obtain ⟨mA, hns, hr⟩ := exd_at I.hok ed
      obtain ⟨od, hod, hl⟩ := lookIn_ns hns
      exact ⟨some od, ho, rfl, rfl, hod⟩
  obtain ⟨od, J⟩ := hod
  exact PySem.W.kia_one (PySem.ErrL.kitx_err T) I.kIn J e (fun z => nomatch z) fun tk => ⟨.bl b, H, I.kept (t' := tk) fun _ _ z => z, rfl, q⟩
/-- the class at C makes its errors by a maker that is walked -/
def CalO (P : Program) (w : World) (K : PySem.W.Frag) (mg : Str → Option Value) (base : Heap) (k : Nat) (C : Addr) (ps : List Str) (sp : Sp) : Prop :=
  OexC K C ∧ ∃ (f : Addr) (fd : FuncData), FnOk P w K mg base CX0 k f fd ps sp ∧ PySem.W.findIn K (.ref C) "__init__" = some (some (.ref f)) ∧ PySem.W.typeIn K (.ref f) = some (.type "function") ∧ Binds K fd ps []
theorem pe_calO {k : Nat} {ps : List Str} {sp : Sp} (c : CalO X.prog X.w X.K X.mg X.base k C ps sp) (hm : X.mg x = some (.ref C)) (hr : Room (k + 1) X.A) (ha : PA X (e :: es) ta) (hx : Passes CX0 X (fun _ _ _ => False) := by first | exact pass0 | exact passL) (hg : Gl X x := by rfl)
    (hdb : (x == ("__debug__" : Str)) = false := by decide) (he : starEach (e :: es) X.env = (false, eval e X.env) :: starEach es X.env := by rfl) (hpl : (backTo pos (starEach es X.env)).any (·.1) = false := by rfl) :
    PE X (.Call (.Name x p) (e :: es) [] pos) (tOeV C sp [] ta) := by
  obtain ⟨T, f, fd, h1, h2, h3, h4⟩ := c
  exact pe_oeV T h2 h3 h1 hr h4 .nil hx hm ha hg hdb he hpl
theorem pe_calO0 {k : Nat} {ps : List Str} {sp : Sp} (c : CalO X.prog X.w X.K X.mg X.base k C ps sp) (hm : X.mg x = some (.ref C)) (hr : Room (k + 1) X.A) (hx : Passes CX0 X (fun _ _ _ => False) := by first | exact pass0 | exact passL) (hg : Gl X x := by rfl)
    (hdb : (x == ("__debug__" : Str)) = false := by decide) : PE X (.Call (.Name x p) [] [] pos) (tOeV C sp [] tNil) := by
  obtain ⟨T, f, fd, h1, h2, h3, h4⟩ := c
  exact pe_oeV0 T h2 h3 h1 hr h4 .nil hx hm hg hdb
end
/-! ### what stands of an error that is a value -/
/-- e is an error of the class at C -/
def ErV (H : Hp) (e C : Addr) : Prop := ∃ d : Option Addr, H e = some (exo e C d) ∧ ∀ dd, d = some dd → ∃ fs, H dd = some (exd dd fs)
/-- .. with these fields -/
def ErF (H : Hp) (e C : Addr) (g : List (Str × V)) : Prop := ∃ (d : Addr) (fs : List (Str × V)), H e = some (exo e C (some d)) ∧ H d = some (exd d fs) ∧ ∀ f v, g.lookup f = some v → fs.lookup f = some v
section
variable {K : PySem.W.Frag} {H H' : Hp} {e C : Addr} {g : List (Str × V)}
theorem ErF.v (x : ErF H e C g) : ErV H e C := by
  obtain ⟨d, fs, h1, h2, _⟩ := x
  exact ⟨some d, h1, fun dd q => by cases q; exact ⟨fs, h2⟩⟩
theorem ErV.same (x : ErV H e C) (S : Same H H') : ErV H' e C := by
  obtain ⟨d, h1, h2⟩ := x
  refine ⟨d, S _ _ h1, fun dd q => ?_⟩
  obtain ⟨fs, h⟩ := h2 dd q
  exact ⟨fs, S _ _ h⟩
theorem ErF.same (x : ErF H e C g) (S : Same H H') : ErF H' e C g := by
  obtain ⟨d, fs, h1, h2, h3⟩ := x
  exact ⟨d, fs, S _ _ h1, S _ _ h2, h3⟩
/-- X(e, ..) by super().__init__ -/
theorem erV_ok {fs : List Str} {okV : List V → Prop} {vs : List V} {Q : Addr → Hp → Prop} (hl : vs.length = fs.length) (hv : okV vs) (k : ∀ a H', Same H H' → ErF H' a C (fs.zip vs) → Q a H') :
    vs.length = fs.length ∧ okV vs ∧ ∀ a d, H a = none → H d = none → d ≠ a → Q a (upd (upd H d (exd d (fs.zip vs))) a (exo a C (some d))) := by
  refine ⟨hl, hv, fun a d na nd ne => k a _ ?_ ⟨d, fs.zip vs, upd_same, by rw [upd_ne ne]; exact upd_same, fun _ _ z => z⟩⟩
  exact (sNew nd).trans (sNew (by rw [upd_ne (Ne.symm ne)]; exact na))
/-- X() by a maker that is walked, or by none -/
theorem fldE_ok {f : Str} {v : V} {Q : VK} (x : ErF H e C g) (T : XfC K C) (hno : PySem.W.findIn K (.ref C) f = some none) (l : g.lookup f = some v) (k : Q v H) :
    ∃ (a C' d : Addr) (fs : List (Str × V)) (v' : V), V.ref e = .ref a ∧ H a = some (exo a C' (some d)) ∧ H d = some (exd d fs) ∧ XfC K C' ∧ PySem.W.findIn K (.ref C') f = some none ∧ fs.lookup f = some v' ∧ Q v' H := by
  obtain ⟨d, fs, h1, h2, h3⟩ := x
  exact ⟨e, C, d, fs, v, rfl, h1, h2, T, hno, h3 f v l, k⟩
theorem isE_ok {c : V} {cv : Value} {b : Bool} {Q : VK} (x : ErV H e C) (T : ExcC K C) (hc : ClsV c cv) (hk : PySem.W.kitOne K (.ref C) cv = some b) (k : Q (.bl b) H) : rIsEv K [.ref e, c] H Q := by
  obtain ⟨d, h1, h2⟩ := x
  exact ⟨e, C, d, c, cv, b, rfl, h1, h2, T, hc, hk, k⟩
/-- the promise of a maker that is walked: what it makes of a new error -/
def spIni (C : Addr) (fs : List Str) : Sp := fun vs H Q _ => ∃ (a : Addr) (us : List V), vs = .ref a :: us ∧ us.length = fs.length ∧ H a = some (exo a C none) ∧
  (fs = [] → Q .non H) ∧ ∀ dx H', H dx = none → dx ≠ a → (∀ b o, H b = some o → b ≠ a → H' b = some o) → H' a = some (exo a C (some dx)) → H' dx = some (exd dx (fs.zip us).reverse) → Q .non H'
theorem oeV_ok {fs : List Str} {vs : List V} {Q : Addr → Hp → Prop} (hl : vs.length = fs.length) (hz : vs.length ≤ 1000) (hn : fs ≠ []) (hd : ∀ f v, (fs.zip vs).lookup f = some v → (fs.zip vs).reverse.lookup f = some v) (k : ∀ a H', Same H H' → ErF H' a C (fs.zip vs) → Q a H') :
    vs.length ≤ 1000 ∧ ∀ a, H a = none → spIni C fs (.ref a :: (vs ++ [])) (upd H a (exo a C none)) (fun v H2 => v = .non ∧ Q a H2) (fun _ _ _ => False) := by
  refine ⟨hz, fun a na => ⟨a, vs, by rw [List.append_nil], hl, upd_same, fun z => absurd z hn, fun dx H' nd ne kp h1 h2 => ⟨rfl, k a H' (fun b o q => ?_) ⟨dx, _, h1, h2, hd⟩⟩⟩⟩
  have nb : b ≠ a := ne_of_none q na
  exact kp b o (by rw [upd_ne nb]; exact q) nb
theorem oeV0_ok {Q : Addr → Hp → Prop} (k : ∀ a H', Same H H' → ErV H' a C → Q a H') :
    ([] : List V).length ≤ 1000 ∧ ∀ a, H a = none → spIni C [] (.ref a :: ([] ++ [])) (upd H a (exo a C none)) (fun v H2 => v = .non ∧ Q a H2) (fun _ _ _ => False) :=
  ⟨by decide, fun a na => ⟨a, [], rfl, rfl, upd_same, fun _ => ⟨rfl, k a _ (sNew na) ⟨none, upd_same, fun dd q => by cases q⟩⟩, fun dx H' nd ne kp h1 h2 => ⟨rfl, k a H' (fun b o q => kp b o (by rw [upd_ne (ne_of_none q na)]; exact q) (ne_of_none q na)) ⟨some dx, h1, fun dd q => by cases q; exact ⟨_, h2⟩⟩⟩⟩⟩
theorem exV0_ok {Q : Addr → Hp → Prop} (k : ∀ a H', Same H H' → ErV H' a C → Q a H') : ∀ a, H a = none → Q a (upd H a (exo a C none)) :=
  fun a na => k a _ (sNew na) ⟨none, upd_same, fun dd q => by cases q⟩
end
end L2
set_option Elab.async false
set_option linter.all false
set_option maxRecDepth 100000
/-! several clauses «except X as n», the name alike in all -/
namespace L2
open PySem PySem.Spec PyProof.Rows
/-- the ends of a suite that holds a name at slot i: the name is gone behind it -/
def endsAs (i : Nat) (D : Ends) : Ends where
  nx := fun τ G => D.nx (τ.set i none) G
  rt := D.rt
  bk := fun τ G => D.bk (τ.set i none) G
  ct := fun τ G => D.ct (τ.set i none) G
/-- what the clauses wish, one behind the other -/
def wAsM (K : PySem.W.Frag) (i : Nat) (Wo : WX) (D : Ends) : List (Value × (Addr → Value → Option Addr → TS)) → WX
  | [] => Wo
  | (c, ts) :: r => fun cls d τ G => ∃ t, PySem.W.exmOne K cls c = some t ∧ (t = true → ∀ a, G a = none → ts a cls d (endsAs i D) (τ.set i (some (.ref a))) G) ∧ (t = false → wAsM K i Wo D r cls d τ G)
/-- the clauses, written -/
inductive ClsAs (X : Cx) (n : Str) : List ExceptHandler → List (Value × (Addr → Value → Option Addr → TS)) → Prop
  | nil : ClsAs X n [] []
  | cons {x : Str} {c : Value} {ts : Addr → Value → Option Addr → TS} {b0 : Stmt} {rest : List Stmt} {p q : Pos} {hs : List ExceptHandler} {l : List (Value × (Addr → Value → Option Addr → TS))} (hc : Names X x c)
      (hsu : ∀ (a : Addr) (oe : Obj) (cls : Value) (d : Option Addr) (pn : List (Addr × Obj)), Zc cls d oe → (∃ vs, oe.data = .fields vs) → PSs (X.suite a ((a, oe) :: pn)) (b0 :: rest) (ts a cls d)) (more : ClsAs X n hs l) :
      ClsAs X n (.ExceptHandler (some (.Name x p)) (some n) (b0 :: rest) q :: hs) ((c, ts) :: l)
section
variable {X : Cx} {n : Str} {i : Nat} {body : List Stmt} {c0 : ExceptHandler} {cs : List ExceptHandler} {l : List (Value × (Addr → Value → Option Addr → TS))} {pos : Pos} {tb : WX → TS} {Wo : WX}
theorem ps_try_asM (hst : X.stack = X.env :: X.outer) (hfr : X.env.frame = some X.env.locals) (hN : X.N.Nodup) (hi : X.N[i]? = some n) (hln : X.env.kindOf n = some .local) (tk : Takes X Wo)
    (hb : ∀ (W : WX) (pn : List (Addr × Obj)) (xe : Value → Shared → Prop), Takes (X.tr pn xe) W → PassesOwn (model X.prog X.w) X.A X.env xe → PSs (X.tr pn xe) body (tb W))
    (hh : ClsAs X n (c0 :: cs) l) : PS X (.Try body (c0 :: cs) [] [] pos) (fun D τ G => tb (wAsM X.K i Wo D l) D τ G) := by
  refine ⟨fun pins s τ G D I wish => ?_⟩
  have good := I.ok
  have frames : X.A.frames = some (X.env :: X.outer) := by rw [good.frames, hst]
  have loc : Loc X.env.scope n := .inl hln
  refine wpAny_Try_except (wpAny_mono ((hb (wAsM X.K i Wo D l) (X.pn ++ pins) (fun e s1 => wpAny (model X.prog X.w) X.A (noteFrame e X.env) (fun _ s2 => wpAny (model X.prog X.w) X.A (setFlight e none) (fun _ s3 =>
    wpAny (model X.prog X.w) X.A (handleBy e X.env (c0 :: cs)) (SP X pins D) X.xe s3) X.xe s2) X.xe s1) (fun u s1 caught => ?_) PassesOwn.looking).run [] s τ G D (I.toTry _) wish) (fun r s1 came => ?_) (fun e s1 z => z))
  · obtain ⟨a, B, sI, pinsI, τ1, G1, cls, d, rfl, J0, nb, up, sky, na, os, ag, w⟩ := caught
    have J : Inv X pins τ1 G1 sI := J0.ofTry good
    have skyX : Sky B (X.env :: X.outer) a (Zc cls d) X.env.locals s1.heap := by rw [← hst]; exact sky
    show wpAny _ X.A (noteFrame (.ref a) X.env) _ _ _
    refine Sky.land Zc.steady frames hfr skyX fun hp fl upL => ?_
    have J1 : Inv X pins τ1 G1 { s1 with heap := hp } := J.landed nb fl.1 (up.trans upL) os ag
    obtain ⟨oe, vs, hoe, hz, hdat⟩ := fl.there
    have notin : a ∉ frs (X.env :: X.outer) := fun hm => by
      obtain ⟨_, ob, eb, nf⟩ := fl.2.2.1.mem hm
      rw [hoe] at eb
      cases eb
      exact nf _ hdat
    have nL : a ≠ X.env.locals := fun z => notin (List.mem_filterMap.mpr ⟨X.env, List.mem_cons_self, by rw [hfr, z]⟩)
    have nF : a ∉ X.fs := fun hm => by
      obtain ⟨e, he, z⟩ := List.mem_filterMap.mp hm
      exact notin (List.mem_filterMap.mpr ⟨e, List.mem_cons_of_mem _ he, z⟩)
    have S1 := J1.suite hoe hdat na nL nF
    suffices go : ∀ {hs : List ExceptHandler} {ll : List (Value × (Addr → Value → Option Addr → TS))}, ClsAs X n hs ll → wAsM X.K i Wo D ll cls d τ1 G1 → wpAny (model X.prog X.w) X.A (handleBy (.ref a) X.env hs) (SP X pins D) X.xe { s1 with heap := hp } from go hh w
    intro hs ll hk
    induction hk with
    | nil =>
      intro out
      refine wpAny_handleBy_nil ?_
      obtain ⟨_, _, _, oe2, vs2, T, oT, tt, e2, _, d2, v2, _⟩ := id fl
      have fin : wpAny (model X.prog X.w) X.A (setFlight (.ref a) X.env.frame) (fun _ s4 => wpAny (model X.prog X.w) X.A (throw (.ref a) : Sem Flow) (SP X pins D) X.xe s4) X.xe { s1 with heap := hp } := by
        rw [hfr]
        refine HandSPX.setFlight_upZ fl fun h4 sk up4 => wpAny_throw (tk _ _ ?_)
        exact ⟨a, B, sI, pins, τ1, G1, cls, d, rfl, J, nb, (up.trans upL).trans up4, .inr (.inr (by rw [hst]; exact sk)), na, os, ag, out⟩
      unfold PySem.passOn
      refine wpAny_bind (wpAny_field e2 d2 v2 ?_)
      rw [if_neg (by simp)]
      first
        | exact wpAny_bind (wpAny_pure (wpAny_bind fin))
        | exact wpAny_bind fin
    | @cons x c ts b0 rest p q hs2 l2 hc hsu more ih =>
      intro out
      obtain ⟨t, ht, yes, no⟩ := out
      refine wpAny_handleBy_cons (codeAny_handlers_test ?_) (by intro z; cases z)
      have LM := PySem.W.exm_one (M := model X.prog X.w) J1.kIn (show PySem.W.Looks (model X.prog X.w) hp (typeOf (.ref a)) cls from fun _ _ _ _ k z => wpAny_typeOf_ref (k _ _ hoe) (by rw [hz.1]; exact z)) ht
      have ask : ∀ {Q : Value → Shared → Prop} {E : Value → Shared → Prop}, Q c { s1 with heap := hp } → wpAny (model X.prog X.w) (X.A.mark (some (.ref a))) (eval (.Name x p) X.env) Q E { s1 with heap := hp } := fun {Q E} z => by
        obtain ⟨hg, hdbg, hm | ⟨hm, hv, hnn⟩⟩ := hc
        · exact ld_glob (X := X.suite a ((a, oe) :: (X.pn ++ pins))) S1 hg hm z hdbg
        · exact ld_blt (X := X.suite a ((a, oe) :: (X.pn ++ pins))) S1 hg hm hv z hnn hdbg
      refine ask (LM.here ?_)
      cases t with
      | false => exact (show wpAny _ X.A (handleBy (.ref a) X.env hs2) _ _ _ from ih (no rfl))
      | true =>
        refine codeAny_handlers_suite_as (HandSPX.lands_againZ fl fun hp2 fl2 up2 => ?_)
        have J2 : Inv X pins τ1 G1 { s1 with heap := hp2 } := J.landed nb fl2.1 ((up.trans upL).trans up2) os ag
        obtain ⟨oe2, vs2, hoe2, hz2, hdat2⟩ := fl2.there
        refine store_ok (X := X.suite a ((a, oe2) :: (X.pn ++ pins))) (v := .ref a) (J2.suite hoe2 hdat2 na nL nF) hN hi loc rfl (fun s5 S5 => ?_) (.inr hln)
        refine wpAny_mono ((hsu a oe2 cls d (X.pn ++ pins) hz2 ⟨_, hdat2⟩).run [] s5 _ G1 _ S5 (yes rfl a na)) (fun r s6 came => ?_) (fun _ _ z => False.elim z)
        have gone : ∀ {τ6 : St} {G6 : Hp} {Q : Shared → Prop}, Inv (X.suite a ((a, oe2) :: (X.pn ++ pins))) [] τ6 G6 s6 → (∀ s7, Inv X pins (τ6.set i none) G6 s7 → Q s7) →
            wpAny (model X.prog X.w) X.A (do bindName X.env n .none; unbindBehindTheSuite X.env n q) (fun _ s7 => Q s7) X.xe s6 := fun S6 z => gone_ok (S6.unsuite good) hN hi hln z
        cases r with
        | next => obtain ⟨_, _, S6, w6⟩ := came; exact gone S6 fun _ J7 => ⟨_, _, J7, w6⟩
        | brk => obtain ⟨_, _, S6, w6⟩ := came; exact gone S6 fun _ J7 => ⟨_, _, J7, w6⟩
        | cont => obtain ⟨_, _, S6, w6⟩ := came; exact gone S6 fun _ J7 => ⟨_, _, J7, w6⟩
        | ret u => obtain ⟨_, _, _, S6, r6, w6⟩ := came; exact gone S6 fun _ J7 => ⟨_, _, _, J7, r6, w6⟩
  · cases r with
    | next => obtain ⟨_, _, J2, w2⟩ := came; exact wpAny_execs_nil ⟨_, _, J2.ofTry good, w2⟩
    | brk => obtain ⟨_, _, J2, w2⟩ := came; exact ⟨_, _, J2.ofTry good, w2⟩
    | cont => obtain ⟨_, _, J2, w2⟩ := came; exact ⟨_, _, J2.ofTry good, w2⟩
    | ret u => obtain ⟨_, _, _, J2, r2, w2⟩ := came; exact ⟨_, _, _, J2.ofTry good, r2, w2⟩
theorem ps_try_as2 {x1 x2 : Str} {c1 c2 : Value} {b1 b2 : Stmt} {r1 r2 : List Stmt} {p1 p2 q1 q2 : Pos} {ts1 ts2 : Addr → Value → Option Addr → TS} (hst : X.stack = X.env :: X.outer) (hfr : X.env.frame = some X.env.locals) (hN : X.N.Nodup) (hi : X.N[i]? = some n) (hln : X.env.kindOf n = some .local)
    (hc1 : Names X x1 c1) (hc2 : Names X x2 c2) (tk : Takes X Wo)
    (hb : ∀ (W : WX) (pn : List (Addr × Obj)) (xe : Value → Shared → Prop), Takes (X.tr pn xe) W → PassesOwn (model X.prog X.w) X.A X.env xe → PSs (X.tr pn xe) body (tb W))
    (h1 : ∀ (a : Addr) (oe : Obj) (cls : Value) (d : Option Addr) (pn : List (Addr × Obj)), Zc cls d oe → (∃ vs, oe.data = .fields vs) → PSs (X.suite a ((a, oe) :: pn)) (b1 :: r1) (ts1 a cls d))
    (h2 : ∀ (a : Addr) (oe : Obj) (cls : Value) (d : Option Addr) (pn : List (Addr × Obj)), Zc cls d oe → (∃ vs, oe.data = .fields vs) → PSs (X.suite a ((a, oe) :: pn)) (b2 :: r2) (ts2 a cls d)) :
    PS X (.Try body [.ExceptHandler (some (.Name x1 p1)) (some n) (b1 :: r1) q1, .ExceptHandler (some (.Name x2 p2)) (some n) (b2 :: r2) q2] [] [] pos) (fun D τ G => tb (wAsM X.K i Wo D [(c1, ts1), (c2, ts2)]) D τ G) :=
  ps_try_asM hst hfr hN hi hln tk hb (.cons hc1 h1 (.cons hc2 h2 .nil))
end
section
variable {X : Cx} {o e : Expr} {to : TE} {t : TA} {apos cpos : Pos}
/-- o.append(e) -/
theorem pe_app1 (ho : PE X o to) (ha : PA X [e] t) (hbase : attributeBase o "append" X.env (eval o X.env) = eval o X.env := by rfl)
    (hfew : ((backTo cpos (starEach [e] X.env)).all (fun x => !x.1) && (backToKw cpos (keywordEach [] X.env)).all (fun x => x.1.isSome) && decide ([e].length + ([] : List Keyword).length + (if ([] : List Keyword).isEmpty then 0 else 1) < 30)) = true := by rfl)
    (hline : (apos.endLine == cpos.line) = true := by rfl) (hs : starEach [e] X.env = (false, eval e X.env) :: starEach [] X.env := by rfl) (hplain : (backTo cpos (starEach [] X.env)).any (·.1) = false := by rfl) :
    PE X (.Call (.Attribute o "append" apos) [e] [] cpos) (tBM X.K "list" rAppend to t) := pe_bm PySem.F.plainAttrs_list PySem.F.slot_list_append PySem.F.type_list_append mt_append ho ha hbase hfew hline hs hplain
end
end L2
set_option Elab.async false
set_option linter.all false
set_option maxRecDepth 100000
set_option maxHeartbeats 4000000
/-! a head by one run: own errors' makers, any Bool of the written part -/
namespace HeM
open PySem PySem.Spec PyProof.Rows L2 He
/-! ### looks that answer true or false -/
/-- the object of an own error class -/
def ecB (K : PySem.W.Frag) (C : Addr) : Bool := match K.lookup C with
  | some ⟨.type "type", _, .cls cd, sl⟩ => (match cd.mro, sl.toList with
    | .ref C' :: bm, [_, _, _, _, some (.builtin n), _] => C' == C && (n == "ValueError.__new__" && (!cd.hasDel && (cd.hasDict && PySem.HandSPX.refsVE bm)))
    | _, _ => false)
  | _ => false
theorem ecB_ok {K : PySem.W.Frag} {C : Addr} (q : ecB K C = true) :
    ∃ nm q N bs bm sn sub ab col dd k0 k1 k2 k3 k5, K.lookup C = some (excClassObj nm q C N bs bm true sn sub ab col dd k0 k1 k2 k3 k5 "ValueError.__new__") ∧ PySem.HandSPX.refsVE bm = true := by
  unfold ecB at q
  split at q
  · rename_i dd cd sl ho
    split at q
    · rename_i C' bm k0 k1 k2 k3 n k5 hm hs
      simp only [Bool.and_eq_true, beq_iff_eq, Bool.not_eq_true'] at q
      obtain ⟨rfl, rfl, hdel, hdict, ht⟩ := q
      obtain ⟨nm, bs, mro, ns, qn, hd, sn, sub, ab, col, del⟩ := cd
      dsimp only at hm hdel hdict
      subst hm hdel hdict
      have hsl : sl = #[k0, k1, k2, k3, some (.builtin "ValueError.__new__"), k5] := by
        obtain ⟨l⟩ := sl
        simp only at hs
        rw [hs]
      subst hsl
      exact ⟨nm, qn, ns, bs, bm, sn, sub, ab, col, dd, k0, k1, k2, k3, k5, ho, ht⟩
    · cases q
  · cases q
/-- isinstance may be asked of its errors -/
def xcB (K : PySem.W.Frag) (D : Addr) : Bool :=
  eqO (PySem.W.findIn K (.ref D) "__getattribute__") (some (some (.builtin "BaseException.__getattribute__"))) && (eqO (PySem.W.findIn K (.ref D) "__getattr__") (some none) && (decide (PySem.W.subIn K (.ref D) (.type "BaseException") = some true) && (PySem.W.hasDictIn K D &&
    (eqO (PySem.W.findIn K (.ref D) "__class__") (some (some (.builtin "object.__class__"))) && decide (PySem.W.mroIn K D (.type "object") = some true)))))
def zB (K : PySem.W.Frag) : Bool := eqO (PySem.W.specialIn K (.builtin "object.__class__") "__get__") (some (some (.builtin "getset_descriptor.__get__"))) && decide (PySem.W.takesIn K (.builtin "object.__class__") = some true)
theorem xcB_ok {K : PySem.W.Frag} {D : Addr} (h : xcB K D = true) (z : zB K = true) : ExcC K D := by
  obtain ⟨h1, h⟩ := ba h
  obtain ⟨h2, h⟩ := ba h
  obtain ⟨h3, h⟩ := ba h
  obtain ⟨h4, h⟩ := ba h
  obtain ⟨h5, h6⟩ := ba h
  obtain ⟨z1, z2⟩ := ba z
  exact ⟨eqO_ok h1, eqO_ok h2, of_decide_eq_true h3, h4, eqO_ok h5, eqO_ok z1, of_decide_eq_true z2, of_decide_eq_true h6⟩
/-- its errors may be made -/
def oxB (K : PySem.W.Frag) (C : Addr) : Bool := ecB K C && (eqO (PySem.W.findIn K (.ref C) "__setattr__") (some (some (.builtin "object.__setattr__"))) && (decide (PySem.W.subIn K (.ref C) (.type "BaseException") = some true) && (decide (PySem.W.typeIn K (.ref C) = some (.type "type")) && PySem.W.keepIn K (.ref C))))
theorem oxB_ok {K : PySem.W.Frag} {C : Addr} (h : oxB K C = true) : OexC K C := by
  obtain ⟨h1, h⟩ := ba h
  obtain ⟨h2, h⟩ := ba h
  obtain ⟨h3, h⟩ := ba h
  obtain ⟨h4, h5⟩ := ba h
  exact ⟨ecB_ok h1, eqO_ok h2, of_decide_eq_true h3, of_decide_eq_true h4, h5⟩
/-- the maker stands in the class itself -/
def inB (K : PySem.W.Frag) (C : Str) : Bool := eqO (PySem.W.findIn K (.ref (ga K C)) "__init__") (some (some (.ref (ma K (ga K C) "__init__")))) && decide (PySem.W.typeIn K (.ref (ma K (ga K C) "__init__")) = some (.type "function"))
/-- found in the class as a value that it has -/
def valIs : Option PySem.W.CFound → Value → Bool
  | some (.val u), v => decide (u = v)
  | _, _ => false
theorem valIs_ok {o : Option PySem.W.CFound} {v : Value} (h : valIs o v = true) : o = some (.val v) := by
  cases o with
  | none => cases h
  | some f =>
    cases f with
    | val u => rw [of_decide_eq_true (show decide (u = v) = true from h)]
    | get _ _ _ _ => cases h
/-! ### makers that call super -/
structure IniD where
  C : Str
  qual : Str
  params : Arguments
  body : List Stmt
  scope : Scope
abbrev IniW : Type := Option (Str × Str × Arguments × FuncBody × Scope × Addr × Addr)
def iniW (K : PySem.W.Frag) (d : IniD) : IniW := match K.lookup (ma K (ga K d.C) "__init__") with
  | some ⟨_, _, .func fd, _⟩ => some (fd.name, fd.qualname, fd.params, fd.body, fd.scope, fd.globals, fd.builtins)
  | _ => none
def IniD.val (d : IniD) : IniW := some ("__init__", d.qual, d.params, .stmts d.body, d.scope, mainGlobals, builtinsNs)
/-- its function object: no defaults, one cell -/
def fnB (file : Str) (K : PySem.W.Frag) (C : Addr) (q : Str) : Option Obj → Bool
  | some ⟨_, _, .func fd, _⟩ => (match fd.closure, fd.defaults, fd.code with
    | [(x, cc)], .none, .ref cda => decide (x = "__class__") && (PySem.W.codeIn K (.ref cda) q && ((match K.lookup cda with
      | some ⟨_, _, .fields vs, _⟩ => (match (vs[2]? : Option Value) with
        | some (Value.str f _) => file == f
        | _ => false)
      | _ => false) && (match K.lookup cc with
      | some ⟨_, _, .cell (some (.ref C')), _⟩ => C' == C
      | _ => false)))
    | _, _, _ => false)
  | _ => false
def iniB (file : Str) (K : PySem.W.Frag) (d : IniD) : Bool :=
  oxB K (ga K d.C) && (inB K d.C && (decide (PySem.W.mroIn K (ga K d.C) (.ref (ga K d.C)) = some true) && (decide (PySem.W.subIn K (.ref (ga K d.C)) (.type "ValueError") = some true) &&
    (decide (PySem.W.ks_superIn K (ga K d.C) (ga K d.C) "__init__" = some (some (.builtin "ValueError.__init__"))) && fnB file K (ga K d.C) d.qual (K.lookup (ma K (ga K d.C) "__init__"))))))
theorem iniB_ok {P : Program} {K : PySem.W.Frag} {d : IniD} (e : iniW K d = d.val) (h : iniB P.main.file K d = true) (opq : PySem.W.nsIn K cStatics "thirdparty.any" = some none) (top : (P.main.scope.names.lookup ("super" : Str)).isSome = false) :
    PySem.ErrL.SupC P K (ga K d.C) (ma K (ga K d.C) "__init__") d.qual d.params d.body d.scope := by
  obtain ⟨h1, h⟩ := ba h
  obtain ⟨h2, h⟩ := ba h
  obtain ⟨h3, h⟩ := ba h
  obtain ⟨h4, h⟩ := ba h
  obtain ⟨h5, h6⟩ := ba h
  obtain ⟨i1, i2⟩ := ba h2
  have T := oxB_ok h1
  unfold iniW at e
  refine ⟨T.cls, ?_, of_decide_eq_true h3, of_decide_eq_true h4, opq, of_decide_eq_true h5, T.sa, eqO_ok i1, of_decide_eq_true i2, top⟩
  cases q : K.lookup (ma K (ga K d.C) "__init__") with
  | none =>
    rw [q] at e
    cases e
  | some o =>
    obtain ⟨oc, od, dt, osl⟩ := o
    rw [q] at e h6
    cases dt with
    | func fd =>
      obtain ⟨n1, n2, n3, n4, n5, n6, n7, n8, n9, n10, n11, n12, n13, n14, n15⟩ := fd
      have e2 : (some (n1, n2, n3, n4, n5, n6, n15) : IniW) = some (("__init__" : Str), d.qual, d.params, FuncBody.stmts d.body, d.scope, mainGlobals, builtinsNs) := e
      simp only [Option.some.injEq, Prod.mk.injEq] at e2
      obtain ⟨g1, g2, g3, g4, g5, g6, g7⟩ := e2
      subst g1 g2 g3 g4 g5 g6 g7
      unfold fnB at h6
      dsimp only at h6
      split at h6
      · rename_i x cc cda
        obtain ⟨r1, h6⟩ := ba h6
        obtain ⟨r2, h6⟩ := ba h6
        obtain ⟨r3, r4⟩ := ba h6
        obtain rfl := of_decide_eq_true r1
        split at r3
        · rename_i ccl cdd vs ccs hl
          split at r3
          · rename_i f tf hv
            split at r4
            · rename_i cl cld C' csl hc
              obtain rfl : C' = ga K d.C := beq_iff_eq.mp r4
              exact ⟨oc, od, n9, n10, n11, n12, cda, n14, osl, cc, vs, f, tf, ccl, cdd, ccs, cl, cld, csl, rfl, r2, hl, hv, r3, hc⟩
            · cases r4
          · cases r3
        · cases r3
      · cases h6
    | _ => cases e
/-! ### properties -/
/-- the getter of the property m -/
def pg (K : PySem.W.Frag) (C : Addr) (m : Str) : Addr := match PySem.W.recIn K (ma K C m) "property" with
  | some (.ref g :: _) => g
  | _ => 0
def pgD (K : PySem.W.Frag) (d : DefD) : Addr := pg K (ga K d.at_.1) (d.at_.2.getD "")
def fnWp (K : PySem.W.Frag) (d : DefD) : FnW := match K.lookup (pgD K d) with
  | some ⟨_, _, .func fd, _⟩ => some (fd.name, fd.qualname, fd.params, fd.body, fd.scope, fd.globals, fd.closure, fd.builtins)
  | _ => none
def isSomeHd : Option (List Value) → Addr → Bool
  | some (.ref g :: _), h => g == h
  | _, _ => false
def prpB (K : PySem.W.Frag) (d : DefD) : Bool :=
  eqO (PySem.W.findIn K (.ref (ga K d.at_.1)) (d.at_.2.getD "")) (some (some (.ref (ma K (ga K d.at_.1) (d.at_.2.getD ""))))) && (eqO (PySem.W.specialIn K (.ref (ma K (ga K d.at_.1) (d.at_.2.getD ""))) "__get__") (some (some (.builtin "property.__get__"))) &&
    (decide (PySem.W.takesIn K (.ref (ma K (ga K d.at_.1) (d.at_.2.getD ""))) = some true) && (isSomeHd (PySem.W.recIn K (ma K (ga K d.at_.1) (d.at_.2.getD "")) "property") (pgD K d) && (PySem.W.keepIn K (.ref (pgD K d)) && (match K.lookup (pgD K d) with
      | some ⟨_, _, .func fd, _⟩ => PySem.W.codeIn K fd.code d.qual && decide (fd.defaults = .none)
      | _ => false)))))
theorem prp_of {K : PySem.W.Frag} {d : DefD} (h : prpB K d = true) : PropOf K (ga K d.at_.1) (d.at_.2.getD "") (ma K (ga K d.at_.1) (d.at_.2.getD "")) (pgD K d) := by
  obtain ⟨h1, h⟩ := ba h
  obtain ⟨h2, h⟩ := ba h
  obtain ⟨h3, h⟩ := ba h
  obtain ⟨h4, h⟩ := ba h
  refine ⟨eqO_ok h1, eqO_ok h2, of_decide_eq_true h3, ?_⟩
  unfold isSomeHd at h4
  split at h4
  · rename_i g rest e
    obtain rfl : g = pgD K d := beq_iff_eq.mp h4
    exact ⟨rest, e⟩
  · cases h4
theorem prp_fun {K : PySem.W.Frag} {d : DefD} {st : Stmt} (e : fnWp K d = d.val) (h : prpB K d = true) (h1 : d.params = defArgs st) (h2 : d.body = defBody st) (h3 : d.scope = defScope st) : ∃ fd, Fun K d.name d.qual st (pgD K d) fd := by
  obtain ⟨_, h⟩ := ba h
  obtain ⟨_, h⟩ := ba h
  obtain ⟨_, h⟩ := ba h
  obtain ⟨_, h⟩ := ba h
  obtain ⟨kp, h⟩ := ba h
  unfold fnWp at e
  cases q : K.lookup (pgD K d) with
  | none =>
    rw [q] at h
    cases h
  | some o =>
    obtain ⟨oc, od, dt, osl⟩ := o
    rw [q] at h e
    cases dt with
    | func fd =>
      obtain ⟨n1, n2, n3, n4, n5, n6, n7, n8, n9, n10, n11, n12, n13, n14, n15⟩ := fd
      have e2 : (some (n1, n2, n3, n4, n5, n6, n7, n15) : FnW) = some (d.name, d.qual, d.params, .stmts d.body, d.scope, mainGlobals, [], builtinsNs) := e
      simp only [Option.some.injEq, Prod.mk.injEq] at e2
      obtain ⟨g1, g2, g3, g4, g5, g6, g7, g8⟩ := e2
      subst g1 g2 g3 g4 g5 g6 g7 g8
      obtain ⟨k1, k2⟩ := ba (show (PySem.W.codeIn K n13 d.qual && decide (n8 = .none)) = true from h)
      obtain rfl : n8 = .none := of_decide_eq_true k2
      refine ⟨_, ⟨oc, od, n9, n10, n11, n12, n13, n14, osl, ?_, q, k1⟩, kp⟩
      rw [← h1, ← h2, ← h3]
    | _ => cases h
/-! ### the Hook -/
/-- what the names of the module reach in n steps, and the table of third parties -/
def asM (g : Addr → Option Obj) : Nat → List Addr
  | 0 => [mainGlobals, cStatics]
  | n + 1 => growD g (asM g n)
abbrev AlM : Type := AlD × (List IniW × (List FnW × Bool))
def obsM (file : Str) (fa : List Fa) (fn : List DefD) (ini : List IniD) (pr : List DefD) (ex : PySem.W.Frag → Bool) (K : PySem.W.Frag) : AlM := (obsD fa fn K, (ini.map fun d => iniW K d, (pr.map fun d => fnWp K d, (ini.all fun d => iniB file K d) && ((pr.all fun d => prpB K d) && ex K))))
def valM (fn : List DefD) (ini : List IniD) (pr : List DefD) : AlM := (valD fn, (ini.map IniD.val, (pr.map DefD.val, true)))
def obsMG (file : Str) (n : Nat) (fa : List Fa) (fn : List DefD) (ini : List IniD) (pr : List DefD) (ex : PySem.W.Frag → Bool) (g : Addr → Option Obj) : AlM := obsM file fa fn ini pr ex (frG g (asM g n))
/-- what is told -/
structure SaysM (file : Str) (fa : List Fa) (fn : List DefD) (ini : List IniD) (pr : List DefD) (ex : PySem.W.Frag → Bool) (K : PySem.W.Frag) : Prop where
  d : SaysD fa fn K
  w : ini.map (fun d => iniW K d) = ini.map IniD.val
  p : pr.map (fun d => fnWp K d) = pr.map DefD.val
  pb : ∀ d ∈ pr, prpB K d = true
  b : ∀ d ∈ ini, iniB file K d = true
  x : ex K = true
theorem saysM_of {file : Str} {fa : List Fa} {fn : List DefD} {ini : List IniD} {pr : List DefD} {ex : PySem.W.Frag → Bool} {K : PySem.W.Frag} (e : obsM file fa fn ini pr ex K = valM fn ini pr) : SaysM file fa fn ini pr ex K := by
  have e1 : obsD fa fn K = valD fn := congrArg (fun z : AlM => z.1) e
  have e2 : ini.map (fun d => iniW K d) = ini.map IniD.val := congrArg (fun z : AlM => z.2.1) e
  have e3 : ((ini.all fun d => iniB file K d) && ((pr.all fun d => prpB K d) && ex K)) = true := congrArg (fun z : AlM => z.2.2.2) e
  have e4 : pr.map (fun d => fnWp K d) = pr.map DefD.val := congrArg (fun z : AlM => z.2.2.1) e
  obtain ⟨h1, h2⟩ := ba e3
  obtain ⟨h2, h3⟩ := ba h2
  exact ⟨e1, e2, e4, List.all_eq_true.mp h2, List.all_eq_true.mp h1, h3⟩
theorem SaysM.prp {file : Str} {fa : List Fa} {fn : List DefD} {ini : List IniD} {pr : List DefD} {ex : PySem.W.Frag → Bool} {K : PySem.W.Frag} (c : SaysM file fa fn ini pr ex K) (i : Nat) {d : DefD} {st : Stmt} (h : pr[i]? = some d) (h1 : d.params = defArgs st) (h2 : d.body = defBody st) (h3 : d.scope = defScope st) :
    PropOf K (ga K d.at_.1) (d.at_.2.getD "") (ma K (ga K d.at_.1) (d.at_.2.getD "")) (pgD K d) ∧ ∃ fd, Fun K d.name d.qual st (pgD K d) fd := by
  have e2 : (pr.map fun d => fnWp K d)[i]? = (pr.map DefD.val)[i]? := by rw [c.p]
  rw [List.getElem?_map, List.getElem?_map, h] at e2
  have b := c.pb d (List.mem_of_getElem? h)
  exact ⟨prp_of b, prp_fun (Option.some.inj e2) b h1 h2 h3⟩
theorem SaysM.ini {P : Program} {fa : List Fa} {fn : List DefD} {ini : List IniD} {pr : List DefD} {ex : PySem.W.Frag → Bool} {K : PySem.W.Frag} (c : SaysM P.main.file fa fn ini pr ex K) (i : Nat) {d : IniD} (opq : PySem.W.nsIn K cStatics "thirdparty.any" = some none) (top : (P.main.scope.names.lookup ("super" : Str)).isSome = false) (h : ini[i]? = some d := by rfl) :
    PySem.ErrL.SupC P K (ga K d.C) (ma K (ga K d.C) "__init__") d.qual d.params d.body d.scope := by
  have e2 : (ini.map fun d => iniW K d)[i]? = (ini.map IniD.val)[i]? := by rw [c.w]
  rw [List.getElem?_map, List.getElem?_map, h] at e2
  exact iniB_ok (Option.some.inj e2) (c.b d (List.mem_of_getElem? h)) opq top
theorem SaysM.ox {file : Str} {fa : List Fa} {fn : List DefD} {ini : List IniD} {pr : List DefD} {ex : PySem.W.Frag → Bool} {K : PySem.W.Frag} (c : SaysM file fa fn ini pr ex K) (i : Nat) {d : IniD} (h : ini[i]? = some d := by rfl) : OexC K (ga K d.C) :=
  oxB_ok (ba (c.b d (List.mem_of_getElem? h))).1
theorem SaysM.ex_at {file : Str} {fa : List Fa} {fn : List DefD} {ini : List IniD} {pr : List DefD} {L : List (PySem.W.Frag → Bool)} {K : PySem.W.Frag} (c : SaysM file fa fn ini pr (fun K => L.all fun b => b K) K) (i : Nat) {b : PySem.W.Frag → Bool} (h : L[i]? = some b := by rfl) : b K = true :=
  List.all_eq_true.mp c.x b (List.mem_of_getElem? h)
theorem inB_ok {K : PySem.W.Frag} {C : Str} (h : inB K C = true) : PySem.W.findIn K (.ref (ga K C)) "__init__" = some (some (.ref (ma K (ga K C) "__init__"))) ∧ PySem.W.typeIn K (.ref (ma K (ga K C) "__init__")) = some (.type "function") := by
  obtain ⟨h1, h2⟩ := ba h
  exact ⟨eqO_ok h1, of_decide_eq_true h2⟩
def hookM (file : Str) (n : Nat) (fa : List Fa) (fn : List DefD) (ini : List IniD) (pr : List DefD) (ex : PySem.W.Frag → Bool) : PySem.W.Hook where
  α := AlM
  obs := fun s => obsMG file n fa fn ini pr ex s.heap.get?
  val := fun _ => valM fn ini pr
  says := fun _ h => ∃ K : PySem.W.Frag, K.In h ∧ SaysM file fa fn ini pr ex K
  of := fun _ _ e => ⟨_, frG_in, saysM_of e⟩
  keeps := fun _ _ _ ⟨K, hK, c⟩ k => ⟨K, PySem.W.Frag.In.keeps hK k, c⟩
theorem obsMG_eq {file : Str} {n : Nat} {fa : List Fa} {fn : List DefD} {ini : List IniD} {pr : List DefD} {ex : PySem.W.Frag → Bool} {g : Addr → Option Obj} {s : Shared} (h : ∀ a, g a = s.heap.get? a) : obsMG file n fa fn ini pr ex g = (hookM file n fa fn ini pr ex).obs s := by
  have e : g = s.heap.get? := funext h
  rw [e] <;> rfl
end HeM
namespace L2
open PySem PySem.Spec PyProof.Rows
theorem fun_of {K : PySem.W.Frag} {x qual : Str} {st : Stmt} {f : Addr} {fd : FuncData} (F : FunD K x qual (defArgs st) (defBody st) (defScope st) [] [] f fd) : Fun K x qual st f fd := by
  obtain ⟨oc, od, dV, kV, doc, pm, an, cdv, ct, osl, rfl, lk, hcd, hD, hK⟩ := F.ex
  rcases hD with ⟨_, rfl⟩ | ⟨e, _⟩
  · exact ⟨⟨oc, od, kV, doc, pm, an, cdv, ct, osl, rfl, lk, hcd⟩, F.kp⟩
  · exact absurd rfl e
theorem Fun.bindsA1 {K : PySem.W.Frag} {x qual y : Str} {st : Stmt} {f : Addr} {fd : FuncData} (F : Fun K x qual st f fd)
    (h : ∀ (kV doc pm : Value) (an : Option Addr) (cdv ct : Value) (us : List Value), us.length = [y].length → bindArgs (PySem.W.fnOf x qual (defArgs st) (defBody st) (defScope st) .none kV doc pm an cdv ct) ⟨us, []⟩ = pure ([y].zip us)) (s : Shared) (v : Value) : BindsTo s fd ⟨[v], []⟩ [(y, v)] := by
  obtain ⟨oc, od, kV, doc, pm, an, cdv, ct, osl, rfl, lk, hcd⟩ := F.ex
  exact .of_eq (h kV doc pm an cdv ct [v] rfl)
end L2
set_option Elab.async false
set_option linter.all false
set_option maxRecDepth 100000
set_option maxHeartbeats 4000000
/-! == by an own __eq__ that may say False -/
namespace L2
open PySem PySem.Spec PyProof.Rows
def rOwn (K : PySem.W.Frag) (C : Addr) (sp : Sp) : R2 := fun x y H Q => ∃ (a dx : Addr) (fs : List (Str × V)) (t : Value), x = .ref a ∧ H a = some (.ins C dx fs) ∧ TyX K H y t ∧ PySem.W.notFirst K C t = true ∧ sp [x, y] H (fun v H' => (∃ b, v = .bl b) ∧ Q v H') E0
theorem op_own {X : Cx} {CX : CXT} {C : Addr} {k : Nat} {ps : List Str} {sp : Sp} (c : CalM X.prog X.w X.K X.mg X.base CX k C "__eq__" ps sp) (hr : Room k X.A) (hx : Passes CX X E0 := by first | exact pass0 | exact passL) : OpR X (compareOp .Eq) (rOwn X.K C sp) := by
  intro pins s σ H x y v u Q I rx ry h
  obtain ⟨f, fd, h1, h2, h4⟩ := c
  obtain ⟨a, dx, fs, t, rfl, ha, hy, hn, q⟩ := h
  obtain rfl : v = Value.ref a := rx
  obtain ⟨mA, J, _⟩ := ins_get I.hok ha
  obtain ⟨od, J, _⟩ := J.look
  obtain ⟨Pz, Z, pz, _⟩ := kit_of I ry hy
  obtain ⟨m, hF⟩ := I.fr
  show wpAny (model X.prog X.w) X.A (richCompare .Eq (.ref a) u) (EP X pins σ Q) X.xe s
  refine PySem.W.cmp_K (op := .Eq) (tb := t) hr.units0 hF I.ok.mod.kin J (Z.ty _ _ I.kIn pz) hn h2.at_ h2.fn ?_
  refine wpAny_mono (run_fn (us := [.ref a, u]) (vs := [.ref a, y]) (dvs := []) h1 hr h4 .nil hx I (.cons (show RelV (.ref a) (.ref a) from rfl) (.cons ry .nil)) q) (fun r s' hq => ?_) fun _ _ z => z
  obtain ⟨v', H', I', rv, ⟨b, rfl⟩, q'⟩ := hq
  obtain rfl : r = Value.bool b := rv
  exact ⟨.bl b, H', I', rfl, q'⟩
end L2
set_option Elab.async false
set_option linter.all false
set_option maxRecDepth 100000
set_option maxHeartbeats 400000
/-! len(o), a walk over o, o.f: by the class's own __len__, __iter__, properties -/
namespace L2
open PySem PySem.Spec PyProof.Rows
section
variable {X : Cx} {CX : CXT} {C : Addr} {k : Nat} {ps : List Str} {sp : Sp}
/-- a call of a def at one more level down -/
theorem run_in1 {pins : List (Addr × Obj)} {σ : St} {H : Hp} {s : Shared} {Q : VK} {f : Addr} {fd : FuncData} {us : List Value} {vs : List V} (F : FnOk X.prog X.w X.K X.mg X.base CX k f fd ps sp) (hr : Room (k + 1) X.A) (hb : Binds X.K fd ps [])
    (hx : Passes CX X E0) (I : Inv X pins σ H s) (r : Vals vs us) (h : sp vs H Q E0) : wpAny (model X.prog X.w) X.A.in1 (call (.ref f) us) (EP X pins σ Q) X.xe s := by
  have hl : (us ++ []).length = ps.length := by
    rw [List.append_nil, ← r.length]
    exact F.len _ _ _ _ h
  have hb' := hb s us I.kIn hl
  rw [List.append_nil] at hb'
  refine wpAny_call (codeAny_mono (F.run X.A.in1 X.stack s H ⟨us, []⟩ us vs Q E0 hr.in1 I.env0.in1 hb' r h) fun z s' hq => ?_)
  match z, hq with
  | .error e, hq => exact (hx pins σ H s e s' I hq)
  | .ok (.ret u), hq => exact I.after hq
/-- len(o) -/
def rLenOwn (C : Addr) (sp : Sp) : List V → Hp → VK → Prop := fun xs H Q => ∃ (a dx : Addr) (fs : List (Str × V)), xs = [.ref a] ∧ H a = some (.ins C dx fs) ∧ sp [.ref a] H (fun v H' => ∃ n : Nat, v = .int n ∧ n < 1000000 ∧ Q (.int n) H') E0
theorem call_lenOwn (c : CalM X.prog X.w X.K X.mg X.base CX k C "__len__" ps sp) (hr : Room (k + 1) X.A) (hx : Passes CX X E0 := by first | exact pass0 | exact passL) : CallR X (.builtin "len") (rLenOwn C sp) := by
  intro pins s σ H xs us Q I r h
  obtain ⟨f, fd, h1, h2, h4⟩ := c
  obtain ⟨a, dx, fs, rfl, ha, q⟩ := h
  obtain ⟨u, rfl, ru⟩ := vals1 r
  obtain rfl : u = Value.ref a := ru
  obtain ⟨mA, J, _⟩ := ins_get I.hok ha
  obtain ⟨od, J, _⟩ := J.look
  refine Calls.call_function_entry kind_len plain_len entry_len (args_len1 _) ?_
  unfold Builtin.«len»
  refine wpAny_bind (m := oneArg "len" _) (wpAny_pure ?_)
  refine wpAny_bind (m := callSpecial? (.ref a) (Str.ofString "__len__")) (PySem.W.special_fn I.kIn J h2.at_ (beq_iff_eq.mp h2.fn) (wpAny_mono (run_in1 h1 hr h4 hx I (show Vals [V.ref a] [Value.ref a] from .cons rfl .nil) q) (fun v s' hv => ?_) fun _ _ z => z))
  obtain ⟨v', H', I', rv, n, rfl, hn, q'⟩ := hv
  obtain ⟨t, rfl⟩ := rv
  refine wpAny_bind (wpAny_holding (wpAny_pure ?_))
  refine wpAny_bind (wpAny_letGo ?_)
  show wpAny _ _ (if (n : Int) < 0 then _ else _) _ _ _
  rw [if_neg (show ¬ ((n : Int) < 0) by omega)]
  show wpAny _ _ (if (n : Int) ≥ 2 ^ 63 then _ else _) _ _ _
  rw [if_neg (show ¬ ((n : Int) ≥ 2 ^ 63) by omega)]
  exact wpAny_bind (wpAny_mkInt (wpAny_pure ⟨_, rfl, .int n, H', I'.tok _, ⟨_, rfl⟩, q'⟩))
end
/-- as FnOk, the promise told the size of the memory at the call -/
structure FnN (P : Program) (w : World) (K : PySem.W.Frag) (mg : Str → Option Value) (base : Heap) (CX : CXT) (k : Nat) (f : Addr) (fd : FuncData) (ps : List Str) (sp : Nat → Sp) : Prop where
  len : ∀ n vs H Q E, sp n vs H Q E → vs.length = ps.length
  run : ∀ (A : Around) (outer : List Env) (s : Shared) (H : Hp) (us : List Value) (vs : List V) (Q : VK) (E : XK), Room k A → Env0 P w K mg base A outer s H → BindsTo s fd ⟨us, []⟩ (ps.zip us) → Vals vs us → sp s.heap.objs.size vs H Q E →
    codeAny (model P w) A (.call (.ref f) ⟨us, []⟩) (CR CX outer P w H s Q E) s
section
variable {P : Program} {w : World} {K : PySem.W.Frag} {mg : Str → Option Value} {base : Heap}
theorem Fun.okN {x qual : Str} {st : Stmt} {f : Addr} {fd : FuncData} {N ps : List Str} {k : Nat} {sp : Nat → Sp} (F : Fun K x qual st f fd) (S : FnScope N ps (defScope st)) (len : ∀ n vs H Q E, sp n vs H Q E → vs.length = ps.length)
    (body : ∀ (cdv : Value) (A : Around) (outer : List Env) (s : Shared) (H : Hp) (vs : List V) (Q : VK) (E : XK), Room k (A.deeper (envOfC qual (defScope st) s.heap.objs.size f cdv)) → sp s.heap.objs.size vs H Q E →
      ∃ t, PSs (cxOf CX0 P w K mg base N qual (defScope st) f cdv A outer s H E).nox (defBody st) t ∧ t { nx := fun _ H' => Q .non H', rt := Q } (start N vs) H) : FnN P w K mg base CX0 (k + 1) f fd ps sp := by
  obtain ⟨oc, od, kV, doc, pm, an, cdv, ct, osl, rfl, lk, hcd⟩ := F.ex
  refine ⟨len, fun A outer s H us vs Q E room env0 binds rel promise => ?_⟩
  have hlen := len _ _ _ _ _ promise
  have kin : K.In s.heap := env0.mod.kin.keeps fun b o e => (env0.bs b o e).1
  have nolim : s.heap.NoLimit := env0.mod.nolimit.keeps fun b o e => (env0.bs b o e).1
  have kinds : ∀ y ∈ ps.zip us, (defScope st).names.lookup y.1 = some .local ∨ ((defScope st).names.lookup y.1 = some .cell ∧ ((cellsFrom (s.heap.objs.size + 1) (defScope st).names []).lookup y.1).isSome = true) := by
    rintro ⟨n, v⟩ hy
    cases S.par n (List.of_mem_zip hy).1 with
    | inl q => exact .inl q
    | inr q => exact .inr ⟨q, PySem.W.cellsFrom_some _ _ _ (.inl q)⟩
  refine codeAny_call_function room.depth (kin _ _ lk) rfl S.co S.gen rfl (PySem.W.codeRec_of kin hcd) (binds _ _ _ _ (wpAny_newFunctionEnv_cells S.kind kinds fun env he s1 x => ?_))
  subst he
  refine ⟨nolim.keeps x.toInCall.keep, codeAny_func ?_⟩
  obtain ⟨t, ht, hq⟩ := body cdv A outer s H vs Q E (room.deeper _) promise
  have start_ok := inv_start (CX := CX0) (E := E) S room.hd env0 hlen rel x
  refine wpAny_mono (ht.nox.run [] s1 (start N vs) H _ start_ok hq) (fun fl s' hs => ?_) fun e s' hs => hs
  cases fl with
  | brk => exact False.elim (let ⟨_, _, _, q⟩ := hs; q)
  | cont => exact False.elim (let ⟨_, _, _, q⟩ := hs; q)
  | next =>
    obtain ⟨σ', H', J, q⟩ := hs
    exact ⟨V.non, H', J.os, J.bare, J.base, J.hok, rfl, q⟩
  | ret u =>
    obtain ⟨v, σ', H', J, rv, q⟩ := hs
    exact ⟨v, H', J.os, J.bare, J.base, J.hok, rv, q⟩
end
/-- at it the iterator of the tuple at t -/
def ItT (t it : Addr) : HO := .ext fun h => h.get? it = some { cls := .type "tuple_iterator", data := .fields #[.ref t, .int 0 0] }
theorem itT_ok {P : Program} {w : World} {H : Hp} {h : Heap} {t it : Addr} (e : h.get? it = some { cls := .type "tuple_iterator", data := .fields #[.ref t, .int 0 0] }) : ObjOk P w H h it (ItT t it) := ⟨e, ⟨_, e⟩, fun _ _ q k => k _ q⟩
/-- iter(t), t a tuple; the new thing lies behind n -/
def rIterT (K : PySem.W.Frag) (n : Nat) : List V → Hp → VK → Prop := fun xs H Q => ∃ (l : Addr) (zs : List V), xs = [.ref l] ∧ SqT K H l zs ∧ ∀ it, H it = none → n ≤ it → Q (.ref it) (upd H it (ItT l it))
theorem call_iterT {X : Cx} : CallR X (.builtin "iter") (rIterT X.K X.s_0.heap.objs.size) := by
  intro pins s σ H xs us Q I r h
  obtain ⟨l, zs, rfl, hq, q⟩ := h
  obtain ⟨u, rfl, ru⟩ := vals1 r
  obtain rfl : u = Value.ref l := ru
  obtain ⟨its, rv, pl, hz⟩ := I.tuple hq
  refine Calls.call_function_entry (by decide +kernel) (by decide +kernel) PySem.W.kdk_entry_iter (PySem.W.kdk_args_iter _) ?_
  unfold Builtin.«iter»
  refine wpAny_bind (m := someArgs "iter" 1 2 _) (wpAny_of_eq (a := [Value.ref l]) (by first | rfl | kernel_rfl!) ?_)
  show wpAny _ _ (pyIter (.ref l) >>= _) _ _ _
  refine wpAny_bind (wpAny_pyIter_tuple (show s.heap.IsTuple l its.toArray from pl) (wpAny_pure ⟨_, rfl, ?_⟩))
  have e : (s.heap.push { cls := .type "tuple_iterator", data := .fields #[.ref l, .int 0 0] }).get? s.heap.objs.size = some { cls := .type "tuple_iterator", data := .fields #[.ref l, .int 0 0] } := Heap.get?_push_size _ rfl
  exact ⟨.ref s.heap.objs.size, _, I.laid (o := ItT l s.heap.objs.size) (t' := s.toks) (fun b u e => Heap.get?_push_of_some _ e) (Nat.le_refl _) (itT_ok e), rfl, q _ (I.hok.fresh (Nat.le_refl _)) I.sz⟩
/-- what such an __iter__ promises -/
def spItT (K : PySem.W.Frag) (C : Addr) (f : Str) (n : Nat) : Sp := fun vs H Q _ => ∃ (a dx t : Addr) (fs : List (Str × V)) (zs : List V), vs = [.ref a] ∧ H a = some (.ins C dx fs) ∧ fs.lookup f = some (.ref t) ∧ SqT K H t zs ∧ ∀ it, H it = none → n ≤ it → Q (.ref it) (upd H it (ItT t it))
/-- the class at C walks over the tuple in its field f -/
def CalI (P : Program) (w : World) (K : PySem.W.Frag) (mg : Str → Option Value) (base : Heap) (k : Nat) (C : Addr) (f : Str) : Prop :=
  ∃ (g : Addr) (fd : FuncData), FnN P w K mg base CX0 k g fd ["self"] (spItT K C f) ∧ Meth K C "__iter__" g ∧ Binds K fd ["self"] []
def iOwn (K : PySem.W.Frag) (C : Addr) (f : Str) (tl : TE) : TI := fun σ H R => tl σ H fun x H1 => ∃ (a dx t : Addr) (fs : List (Str × V)), x = .ref a ∧ H1 a = some (.ins C dx fs) ∧ fs.lookup f = some (.ref t) ∧ (∃ zs, SqT K H1 t zs) ∧ R (Itt K t) H1
theorem looks_next {M : Model} {A : Around} {E : Value → Shared → Prop} {s : Shared} {it t : Addr} {Q : Option Value → Shared → Prop} (e : s.heap.get? it = some { cls := .type "tuple_iterator", data := .fields #[.ref t, .int 0 0] }) (h : ∀ g, Q (some g) s) : wpAny M A (specialOf (.ref it) "__next__") Q E s := by
  unfold specialOf
  refine wpAny_bind (wpAny_typeOf (T := "tuple_iterator") ⟨_, e, rfl⟩ (wpAny_of_eq (F.slot_tuple_iterator_next.lookup) (h _)))
theorem pi_own {X : Cx} {tg l : Expr} {tl : TE} {k : Nat} {C : Addr} {f : Str} (c : CalI X.prog X.w X.K X.mg X.base k C f) (hr : Room k X.A) (hl : PE X l tl) : PI X tg l (iOwn X.K C f tl) := by
  refine ⟨fun pins s σ H R I h => ?_⟩
  obtain ⟨g, fd, h1, h2, h4⟩ := c
  refine thn (hl.run pins s σ H _ I h) fun v s1 ⟨x, H1, I1, r1, q1⟩ => ?_
  obtain ⟨a, dx, t, fs, e, ha, hf, ⟨zs, hz⟩, q⟩ := q1
  subst e
  obtain rfl : v = Value.ref a := r1
  obtain ⟨mA, J, _⟩ := ins_get I1.hok ha
  obtain ⟨od, J, _⟩ := J.look
  obtain ⟨m0, hF⟩ := I1.fr
  refine PySem.W.owit_iter hF I1.ok.mod.kin J h2.at_ h2.fn ?_
  have pr : spItT X.K C f s1.heap.objs.size [.ref a] H1 (fun v H' => ∃ it, v = .ref it ∧ H1 it = none ∧ s1.heap.objs.size ≤ it ∧ H' = upd H1 it (ItT t it)) E0 := ⟨a, dx, t, fs, zs, rfl, ha, hf, hz, fun it n1 n2 => ⟨it, rfl, n1, n2, rfl⟩⟩
  have hb' := h4 s1 [.ref a] I1.kIn rfl
  rw [List.append_nil] at hb'
  refine wpAny_call (codeAny_mono (h1.run X.A X.stack s1 H1 [.ref a] [.ref a] _ E0 hr I1.env0 hb' (.cons rfl .nil) pr) fun z s' hq => ?_)
  match z, hq with
  | .error e, hq => exact hq.elim
  | .ok (.ret u), hq =>
    obtain ⟨v, H', I', rv, it, rfl, n1, n2, rfl⟩ := I1.after hq
    obtain rfl : u = Value.ref it := rv
    have eo := (I'.hok it _ upd_same).1
    unfold PySem.W.OwitIt
    refine looks_next eo fun _ => ?_
    have I2 := ItX.inv_drop I' (a := it) (φ := fun h => h.get? it = some { cls := .type "tuple_iterator", data := .fields #[.ref t, .int 0 0] }) upd_same
    have fp := ItX.inv_fp I' (a := it) (u := ItT t it) upd_same (Nat.le_trans I1.sz n2)
    rw [ItX.dropH_upd n1] at I2 fp
    refine ⟨it, [it], _, _, H1, rfl, I2, turn_tuple t it, ⟨_, eo, rfl, rfl⟩, fun b hb => ?_, q⟩
    obtain rfl : b = it := by simpa using hb
    exact fp
/-- the class at C has the property f, its getter keeps sp -/
def CalP (P : Program) (w : World) (K : PySem.W.Frag) (mg : Str → Option Value) (base : Heap) (k : Nat) (C : Addr) (f : Str) (sp : Sp) : Prop :=
  ∃ (p g : Addr) (fd : FuncData), FnOk P w K mg base CX0 k g fd ["self"] sp ∧ PropOf K C f p g ∧ Binds K fd ["self"] []
/-- o.f, a property -/
theorem pe_prp {X : Cx} {e : Expr} {pos : Pos} {ta : TE} {k : Nat} {C : Addr} {f : Str} {sp : Sp} (c : Cls X.K C) (h : CalP X.prog X.w X.K X.mg X.base k C f sp) (hr : Room (k + 1) X.A) (he : PE X e ta) (hab : attributeBase e f X.env (eval e X.env) = eval e X.env := by rfl) :
    PE X (.Attribute e f pos) (tProp C sp [] E0 ta) := by
  obtain ⟨p, g, fd, h1, h2, h3⟩ := h
  exact pe_prop he c h2 h1 hr h3 .nil pass0 hab
end L2
set_option Elab.async false
set_option linter.all false
set_option maxRecDepth 100000
set_option maxHeartbeats 1000000
/-! for i, x in enumerate(v), v a list or a tuple -/
namespace EnT
open PySem
open Sem (wp)
open AutoSeq1 (wpAny_loadPart')
def itTup (l : Addr) : Obj := { cls := .type "tuple_iterator", data := .fields #[.ref l, .int 0 0] }
def enumNew (n : Nat) : Obj := { cls := .type "enumerate", data := .fields #[.none, .bool false, .ref n, rawInt 0, .none, .none] }
theorem meets_newT (l : Addr) (items : Array Value) :
    Meets (Builtin.«enumerate.__new__» ⟨[.type "enumerate", .ref l], []⟩) (fun _ R s => s.heap.IsTuple l items ∧ R (.ok (.ret (.ref (s.heap.push (itTup l)).objs.size))) { s with heap := (s.heap.push (itTup l)).push (enumNew s.heap.objs.size) }) :=
  .of_wp fun prog w A R s h => by
    obtain ⟨hp, g, d, tk, os⟩ := s
    obtain ⟨hT, h⟩ := h
    have hsub := sub_enumerate
    have q : ∀ {A : Around} {E : Value → Shared → Prop} {Q : Value → Shared → Prop}, Q (.ref hp.objs.size) ⟨hp.push (itTup l), g, d, tk, os⟩ → wpAny (model prog w) A (pyIter (.ref l)) Q E ⟨hp, g, d, tk, os⟩ := fun q => wpAny_pyIter_tuple hT q
    wp_walk using q
    refine wpAny_stack_any fun st => wpAny_pure ?_
    split
    · rename_i c _ _ _ _ _
      cases (c == Value.type "enumerate") <;> (wp_walk using q; exact ⟨_, rfl, h⟩)
    · wp_walk using q; exact ⟨_, rfl, h⟩
theorem call_enumT {prog : Program} {w : World} {A : Around} {E : Value → Shared → Prop} {s : Shared} {l : Addr} {items : Array Value} {Q : Value → Shared → Prop} (hT : s.heap.IsTuple l items)
    (h : ∀ h', IsEnum h' (s.heap.objs.size + 1) s.heap.objs.size 0 .none → h'.IsTupleIter s.heap.objs.size l 0 → (∀ b o, s.heap.get? b = some o → h'.get? b = some o) → Q (.ref (s.heap.objs.size + 1)) { s with heap := h' }) :
    wpAny (model prog w) A (call (.type "enumerate") [.ref l]) Q E s := by
  have hz : (s.heap.push (itTup l)).objs.size = s.heap.objs.size + 1 := Heap.size_push ..
  have he : IsEnum ((s.heap.push (itTup l)).push (enumNew s.heap.objs.size)) (s.heap.objs.size + 1) s.heap.objs.size 0 .none := by
    have q := Heap.get?_push_size (s.heap.push (itTup l)) (o := enumNew s.heap.objs.size) rfl
    rw [hz] at q
    exact q
  refine callType_new F.called_enumerate (by decide) (F.typeCall_enumerate_1 _) (F.newCall_enumerate_1 _) (fun obj => F.args_object_init_2 obj _) F.entry_enumerate_new (meets_newT l items) ⟨hT, ?_⟩
  show _ ∧ _
  rw [hz]
  exact ⟨⟨_, he, rfl⟩, h _ he ⟨_, Heap.get?_push_of_some _ (Heap.get?_push_size _ rfl), rfl, rfl⟩ fun b o x => Heap.get?_push_of_some _ (Heap.get?_push_of_some _ x)⟩
end EnT
namespace L2
open PySem PySem.Spec PyProof.Rows
/-- the tuple at a, each item in a new pair -/
def IteT (K : PySem.W.Frag) (a : Addr) : It :=
  ⟨fun i H => ∃ (xs : List V) (x : V), SqT K H a xs ∧ xs[i]? = some x, fun i H v H' => ∃ T x, v = .ref T ∧ H T = none ∧ H' = upd H T (.tup [.int (i : Nat), x]) ∧ ∀ xs, SqT K H a xs → xs[i]? = some x, fun i H => ∃ xs : List V, SqT K H a xs ∧ xs.length ≤ i⟩
theorem tup_inj {X : Cx} {pins : List (Addr × Obj)} {σ : St} {H : Hp} {s : Shared} {a : Addr} {xs ys : List V} (I : Inv X pins σ H s) (h1 : SqT X.K H a xs) (h2 : SqT X.K H a ys) : xs = ys := by
  obtain ⟨i1, r1, ⟨o1, p1, c1⟩, _⟩ := I.tuple h1
  obtain ⟨i2, r2, ⟨o2, p2, c2⟩, _⟩ := I.tuple h2
  rw [p1] at p2
  cases p2
  obtain ⟨_, n1, d1⟩ := c1
  obtain ⟨_, n2, d2⟩ := c2
  rw [d1] at d2
  injection d2 with e _
  have e' : i1 = i2 := by simpa using e
  subst e'
  exact r1.inj r2
theorem turn_enumT {P : Program} {w : World} {K : PySem.W.Frag} {elts : List Expr} {kk : Nat} {tpos : Pos} (a e it : Addr) :
    Turn P w K (.Tuple elts kk tpos) (IteT K a) [e, it] e (fun i h => (∃ old, IsEnum h e it ((i : Nat) : Int) old) ∧ h.IsTupleIter it a i ∧ e ≠ it) where
  mem := by simp
  obj := fun i h st b hb => by
    obtain ⟨⟨old, he⟩, ⟨o, ho, hc, hd⟩, _⟩ := st
    rcases (show b = e ∨ b = it by simpa using hb) with rfl | rfl
    · exact ⟨_, he, fun v q => nomatch q⟩
    · exact ⟨o, ho, fun v q => by rw [hd] at q; cases q⟩
  keep := fun i h h' ⟨⟨old, he⟩, hi, hne⟩ k => ⟨⟨old, k e (by simp) _ he⟩, hi.at fun o q => k it (by simp) o q, hne⟩
  item := by
    intro X hP hw hK hc i pins s σ H E I hf st hg
    subst hP hw hK
    obtain ⟨⟨old, he⟩, hit, hne⟩ := st
    obtain ⟨xs, x, hq, hx⟩ := hg
    obtain ⟨its, rv, p, hz⟩ := I.tuple hq
    obtain ⟨u, hu, ru⟩ := rv.get hx
    have hat : a ≠ it := by
      rintro rfl
      obtain ⟨o1, p1, c1, _⟩ := p
      obtain ⟨o2, p2, c2, _⟩ := hit
      rw [p1] at p2
      cases p2
      rw [c1] at c2
      simp at c2
    have hae : a ≠ e := by
      rintro rfl
      obtain ⟨o1, p1, c1, _⟩ := p
      have he' : s.heap.get? a = some _ := he
      rw [p1] at he'
      cases he'
      simp at c1
    have hel : e < s.heap.objs.size := Heap.lt_size he
    have hil : it < s.heap.objs.size := by obtain ⟨_, q, _⟩ := hit; exact Heap.lt_size q
    have D := Draws.tuple (prog := X.prog) (w := X.w) (A := X.A.in1) (I.ok.hd hc) it a hat its.toArray
    have hlt : i < its.length := (List.getElem?_eq_some_iff.mp hu).1
    refine wpAny_pyNext_enum_itemD D he ⟨hit, show s.heap.IsTuple a its.toArray from p⟩ (by simpa using hlt) hne (by simp [hne, Ne.symm hae]) fun z h' tk hP ho hs' hT hsz hk => ?_
    have hzu : z = u := by
      have h1 : its.toArray[i]? = some z := hP
      rw [List.getElem?_toArray, hu] at h1
      exact (Option.some.inj h1).symm
    subst hzu
    refine ⟨_, rfl, wpAny_letOwnedTupleGo_enum (s := { s with heap := h', toks := tk + 1 }) ho fun h'' he' sb => ?_⟩
    have hT2 : h''.get? s.heap.objs.size = some { cls := .type "tuple", data := .seq #[.int i tk, z] } := (sb.2 _ (Nat.ne_of_gt hel)).trans hT
    have new : ObjOk X.prog X.w (upd H s.heap.objs.size (.tup [.int (i : Nat), x])) h'' s.heap.objs.size (.tup [.int (i : Nat), x]) :=
      ⟨by show 2 ≤ sizeLine; decide, [.int i tk, z], .cons ⟨_, rfl⟩ (.cons ru .nil), ⟨_, hT2, rfl, _, rfl⟩⟩
    have I1 : Inv X pins σ (upd H s.heap.objs.size (.tup [.int (i : Nat), x])) { s with heap := h'', toks := tk + 1 } :=
      I.turnedNew (t' := tk + 1) (ch := [e, it]) (fun b ob hb q => (sb.2 b (fun z => hb (by simp [z]))).trans (hk b ob (fun z => hb (by simp [z])) (fun z => hb (by simp [z])) q)) hf (Nat.le_refl _) new
    refine ⟨.ref s.heap.objs.size, _, I1, rfl, ⟨_, x, rfl, I.hok.fresh (Nat.le_refl _), rfl, fun ys hy => by rw [tup_inj I hy hq]; exact hx⟩, ⟨⟨z, ?_⟩, hs'.1.at fun o q => (sb.2 it (Ne.symm hne)).trans q, hne⟩, fun b hb => ?_⟩
    · rw [show ((i + 1 : Nat) : Int) = (i : Int) + 1 by omega]
      exact he'
    · have hb' : b < s.heap.objs.size := by
        rcases (show b = e ∨ b = it by simpa using hb) with rfl | rfl
        · exact hel
        · exact hil
      rw [upd_ne (Nat.ne_of_lt hb')]
      exact (hf b hb).1
  done := by
    intro X hP hw hK hc i pins s σ H E I hf st hg
    subst hP hw hK
    obtain ⟨⟨old, he⟩, hit, hne⟩ := st
    obtain ⟨xs, hq, hx⟩ := hg
    obtain ⟨its, rv, p, hz⟩ := I.tuple hq
    obtain ⟨f0, f1, f2, f3, f4, f5⟩ := hf it (by simp)
    have hat : a ≠ it := by
      rintro rfl
      obtain ⟨o1, p1, c1, _⟩ := p
      obtain ⟨o2, p2, c2, _⟩ := hit
      rw [p1] at p2
      cases p2
      rw [c1] at c2
      simp at c2
    have hl := rv.length
    have hi : its.toArray[i]? = none := by rw [List.getElem?_toArray]; exact List.getElem?_eq_none_iff.mpr (by omega)
    have D : Draws X.prog X.w X.A.in1 it [it, a] i (fun _ _ => True) (fun j h => h.IsTupleIter it a j ∧ h.IsTuple a its.toArray ∧ j = i) := {
      live := fun _ _ st => let ⟨o, ho, _⟩ := st.1; ⟨o, ho⟩
      frame := fun _ _ _ st hk => ⟨st.1.at fun o e => hk it (by simp) o e, st.2.1.at fun o e => hk a (by simp) o e, st.2.2⟩
      item := fun j s Q E hi st hQ => absurd st.2.2 (Nat.ne_of_lt hi)
      done := fun s Q E st hE => wpAny_nextOf_tuple_end (I.ok.hd hc) st.1 st.2.1 hi hE }
    exact wpAny_pyNext_enum_endD D he ⟨hit, show s.heap.IsTuple a its.toArray from p, rfl⟩ fun h' eb => ⟨rfl, I.turned (t' := s.toks) (fun b o hb q => eb b o hb q) f0 f1 f3 f4 f5⟩
  self := fun A i s Q E ⟨⟨_, he⟩, _⟩ h => wpAny_pyIter_enum he h
/-- v a list or a tuple: its items xs in new pairs with their index -/
def iEnu2 (K : PySem.W.Frag) (ta : TA) : TI := fun σ H R => ta σ H fun vs H1 => ∃ (a : Addr) (xs : List V), vs = [.ref a] ∧ (H1 a = some (.lst xs) ∨ H1 a = some (.tup xs)) ∧
  ∀ J, Walk J xs.length (fun H' => H' a = H1 a) (YPair (fun i => some (.int (i : Nat))) (fun i => xs[i]?)) → R J H1
theorem walk_enumT {K : PySem.W.Frag} {a : Addr} {xs : List V} : Walk (IteT K a) xs.length (fun H => SqT K H a xs) (YPair (fun i => some (.int (i : Nat))) (fun i => xs[i]?)) := by
  refine ⟨fun i _ hi q => ⟨xs, xs[i], q, List.getElem?_eq_getElem hi⟩, fun _ q => ⟨xs, q, Nat.le_refl _⟩, fun i H v H' _ q y => ?_⟩
  obtain ⟨T, x, h1, h2, h3, h4⟩ := y
  exact ⟨T, .int (i : Nat), x, h1, h2, h3, rfl, h4 xs q⟩
theorem pi_enu2 {X : Cx} {e : Expr} {ta : TA} {p pos tpos : Pos} {elts : List Expr} {kk : Nat} (hg : Gl X "enumerate") (hm : X.mg "enumerate" = none) (ha : PA X [e] ta) (hs : starEach [e] X.env = [(false, eval e X.env)] := by rfl) :
    PI X (.Tuple elts kk tpos) (.Call (.Name "enumerate" p) [e] [] pos) (iEnu2 X.K ta) := by
  refine ⟨fun pins s σ H R I h => ?_⟩
  refine Call_ (ld_blt I hg hm boot_enumerate (PyProof.Rows.callWith_type1 (thn (ha.run pos pins s σ H _ I h) fun us s1 ⟨vs, H1, I1, r1, q1⟩ => ?_) hs rfl))
  obtain ⟨a, xs, rfl, ho, q⟩ := q1
  obtain ⟨u, rfl, ru⟩ := vals1 r1
  obtain rfl : u = Value.ref a := ru
  have fresh : ∀ b ∈ [s1.heap.objs.size + 1, s1.heap.objs.size], s1.heap.objs.size ≤ b := fun b hb => by
    rcases (show b = s1.heap.objs.size + 1 ∨ b = s1.heap.objs.size by simpa using hb) with rfl | rfl
    · exact Nat.le_add_right _ _
    · exact Nat.le_refl _
  rcases ho with ho | ho
  · obtain ⟨its, rv, p', hz⟩ := I1.list (SqL.of ho)
    refine call_enumerate_list p'.isList fun h' he hit hsz hk => wpAny_pyIter_enum he ?_
    exact ⟨s1.heap.objs.size + 1, [s1.heap.objs.size + 1, s1.heap.objs.size], _, _, H1, rfl, I1.kept (t' := s1.toks) hk, turn_enum a _ _, ⟨⟨.none, he⟩, hit, Nat.succ_ne_self _⟩, fun b hb => I1.fpOk (fresh b hb) (I1.hok.fresh (fresh b hb)),
      q _ (walk_enum.mono (fun H' hh => SqL.of (hh.trans ho)) fun _ _ _ _ _ _ y => y)⟩
  · obtain ⟨its, rv, p', hz⟩ := I1.tuple (SqT.of ho)
    refine EnT.call_enumT (show s1.heap.IsTuple a its.toArray from p') fun h' he hit hk => wpAny_pyIter_enum he ?_
    exact ⟨s1.heap.objs.size + 1, [s1.heap.objs.size + 1, s1.heap.objs.size], _, _, H1, rfl, I1.kept (t' := s1.toks) hk, turn_enumT a _ _, ⟨⟨.none, he⟩, hit, Nat.succ_ne_self _⟩, fun b hb => I1.fpOk (fresh b hb) (I1.hok.fresh (fresh b hb)),
      q _ (walk_enumT.mono (fun H' hh => SqT.of (hh.trans ho)) fun _ _ _ _ _ _ y => y)⟩
/-- one of two ways to take a value apart -/
theorem pg_or {X : Cx} {tg : Expr} {g1 g2 : TG} (h1 : PG X tg g1) (h2 : PG X tg g2) : PG X tg (fun v σ H Q => g1 v σ H Q ∨ g2 v σ H Q) := by
  refine ⟨fun pins s σ H v u Q I r hw => ?_⟩
  rcases hw with hw | hw
  · exact h1.run pins s σ H v u Q I r hw
  · exact h2.run pins s σ H v u Q I r hw
/-- a list or a tuple, walked -/
def iSeq (tl : TE) : TI := fun σ H R => tl σ H fun x H1 => ∃ (a : Addr) (xs : List V), x = .ref a ∧ (H1 a = some (.lst xs) ∨ H1 a = some (.tup xs)) ∧ ∀ J, Walk J xs.length (fun H' => H' a = H1 a) (YAt xs) → R J H1
theorem pi_seq {X : Cx} {tg l : Expr} {tl : TE} (hl : PE X l tl) : PI X tg l (iSeq tl) := by
  refine ⟨fun pins s σ H R I h => thn (hl.run pins s σ H _ I h) fun v s1 ⟨x, H1, I1, r1, q1⟩ => ?_⟩
  obtain ⟨a, xs, rfl, ho, q⟩ := q1
  obtain rfl : v = Value.ref a := r1
  have new : ∀ b ∈ [s1.heap.objs.size], FpOk X pins H1 b := fun b hb => by
    obtain rfl : b = s1.heap.objs.size := by simpa using hb
    exact I1.fpOk (Nat.le_refl _) (I1.hok.fresh (Nat.le_refl _))
  rcases ho with ho | ho
  · obtain ⟨its, rv, p, hz⟩ := I1.list (SqL.of ho)
    refine wpAny_pyIter_list p.isList ⟨s1.heap.objs.size, [s1.heap.objs.size], _, _, H1, rfl, I1.kept (t' := s1.toks) fun b o e => Heap.get?_push_of_some _ e, turn_list a _, ⟨_, Heap.get?_push_size _ rfl, rfl, rfl⟩, new, ?_⟩
    exact q _ (walk_list.mono (fun H' hh => SqL.of (hh.trans ho)) fun _ _ _ _ _ _ y => y)
  · obtain ⟨its, rv, p, hz⟩ := I1.tuple (SqT.of ho)
    refine wpAny_pyIter_tuple (show s1.heap.IsTuple a its.toArray from p) ⟨s1.heap.objs.size, [s1.heap.objs.size], _, _, H1, rfl, I1.kept (t' := s1.toks) fun b o e => Heap.get?_push_of_some _ e, turn_tuple a _, ⟨_, Heap.get?_push_size _ rfl, rfl, rfl⟩, new, ?_⟩
    exact q _ (walk_tup.mono (fun H' hh => SqT.of (hh.trans ho)) fun _ _ _ _ _ _ y => y)
/-- an item of a list or a tuple -/
theorem ix_either {X : Cx} : IxR X (fun x y H Q => rIxL X.K x y H Q ∨ rIxT X.K x y H Q) := ix_list.or ix_tup
theorem ix_eitherK {X : Cx} {K : PySem.W.Frag} (h : X.K = K) : IxR X (fun x y H Q => rIxL K x y H Q ∨ rIxT K x y H Q) := h ▸ ix_either
end L2
set_option Elab.async false
set_option linter.all false
set_option maxRecDepth 100000
namespace L2
open PySem PySem.Spec PyProof.Rows
theorem eqvAll_ints : ∀ ns ms : List Int, PyData.eqvAll (ns.map PyData.int) (ms.map PyData.int) = decide (ns = ms)
  | [], [] => by simp [PyData.eqvAll]
  | [], m :: ms => by simp [PyData.eqvAll]
  | n :: ns, [] => by simp [PyData.eqvAll]
  | n :: ns, m :: ms => by
    have ih := eqvAll_ints ns ms
    by_cases e : n = m
    · subst e
      simp [PyData.eqvAll, PyData.eqv, ih]
    · simp [PyData.eqvAll, PyData.eqv, e]
theorem eqv_tupI (ns ms : List Int) : PyData.eqv (.tuple (ns.map PyData.int)) (.tuple (ms.map PyData.int)) = decide (ns = ms) := by rw [← eqvAll_ints]; simp [PyData.eqv]
theorem eqv_lstI (ns ms : List Int) : PyData.eqv (.list (ns.map PyData.int)) (.list (ms.map PyData.int)) = decide (ns = ms) := by rw [← eqvAll_ints]; simp [PyData.eqv]
theorem dpAll_ints {K : PySem.W.Frag} {H : Hp} : ∀ ns : List Int, DpAll K H (ns.map V.int) (ns.map PyData.int)
  | [] => .nil
  | n :: ns => .cons (.int n) (dpAll_ints ns)
theorem depthAll_ints : ∀ ns : List Int, PyData.depthAll (ns.map PyData.int) = 0
  | [] => by simp [PyData.depthAll]
  | n :: ns => by simp [PyData.depthAll, PyData.depth, depthAll_ints ns]
theorem layAll_ints : ∀ ns : List Int, PyData.canLayAll0 (ns.map PyData.int) = true
  | [] => by simp [PyData.canLayAll0]
  | n :: ns => by simp [PyData.canLayAll0, PyData.canLay0, layAll_ints ns]
theorem shaped_tupI (ns : List Int) : SeqAt.shaped (.tuple (ns.map PyData.int)) = true := by simp [SeqAt.shaped, PyData.canLay0, PyData.depth, layAll_ints, depthAll_ints]
theorem shaped_lstI (ns : List Int) : SeqAt.shaped (.list (ns.map PyData.int)) = true := by simp [SeqAt.shaped, PyData.canLay0, PyData.depth, layAll_ints, depthAll_ints]
theorem eqD_tup {K : PySem.W.Frag} {H : Hp} {p q : Addr} {ns ms : List Int} {Q : VK} (hp : SqT K H p (ns.map V.int)) (hq : SqT K H q (ms.map V.int)) (h : Q (.bl (decide (ns = ms))) H) : rEqD K (.ref p) (.ref q) H Q :=
  ⟨_, _, .tup hp (dpAll_ints ns), .tup hq (dpAll_ints ms), shaped_tupI ns, shaped_tupI ms, by rw [eqv_tupI]; exact h⟩
theorem eqD_lst {K : PySem.W.Frag} {H : Hp} {p q : Addr} {ns ms : List Int} {Q : VK} (hp : SqL K H p (ns.map V.int)) (hq : SqL K H q (ms.map V.int)) (h : Q (.bl (decide (ns = ms))) H) : rEqD K (.ref p) (.ref q) H Q :=
  ⟨_, _, .lst hp (dpAll_ints ns), .lst hq (dpAll_ints ms), shaped_lstI ns, shaped_lstI ms, by rw [eqv_lstI]; exact h⟩
theorem neD_lst {K : PySem.W.Frag} {H : Hp} {p q : Addr} {ns ms : List Int} {Q : VK} (hp : SqL K H p (ns.map V.int)) (hq : SqL K H q (ms.map V.int)) (h : Q (.bl (!decide (ns = ms))) H) : rNeD K (.ref p) (.ref q) H Q :=
  ⟨_, _, .lst hp (dpAll_ints ns), .lst hq (dpAll_ints ms), shaped_lstI ns, shaped_lstI ms, by rw [eqv_lstI]; exact h⟩
end L2
set_option Elab.async false
set_option linter.all false
set_option maxRecDepth 100000
set_option maxHeartbeats 1000000
/-! plain values as data: shapes, equality of lists and tuples of them, two deep -/
namespace L2
open PySem PySem.Spec PyProof.Rows
def vD : V → PyData
  | .bl b => .bool b
  | .int i => .int i
  | .str x => .str x
  | _ => .none
/-- a sequence's kind: a list or a tuple of these -/
def sqD (l : Bool) (ds : List PyData) : PyData := if l then .list ds else .tuple ds
/-- a plain value whose text can be laid -/
def okV : V → Bool
  | .non => true
  | .bl _ => true
  | .int _ => true
  | .str x => PyData.strOk x
  | _ => false
theorem okV.flat {v : V} (h : okV v = true) : flatV v = true := by cases v <;> first | rfl | cases h
theorem vD_lay {v : V} (h : okV v = true) : (vD v).canLay0 = true := by cases v <;> first | (simp only [vD, PyData.canLay0]; done) | (simp only [vD, PyData.canLay0]; exact h)
theorem vD_depth (v : V) : (vD v).depth = 0 := by cases v <;> simp [vD, PyData.depth]
theorem vDs_lay : ∀ {xs : List V}, (∀ x ∈ xs, okV x = true) → PyData.canLayAll0 (xs.map vD) = true
  | [], _ => by simp [PyData.canLayAll0]
  | v :: xs, h => by simp [PyData.canLayAll0, vD_lay (h v (List.mem_cons_self)), vDs_lay fun y hy => h y (List.mem_cons_of_mem _ hy)]
theorem vDs_depth : ∀ xs : List V, PyData.depthAll (xs.map vD) = 0
  | [] => by simp [PyData.depthAll]
  | v :: xs => by simp [PyData.depthAll, vD_depth v, vDs_depth xs]
theorem vD_shaped {v : V} (h : okV v = true) : SeqAt.shaped (vD v) = true := by simp [SeqAt.shaped, vD_lay h, vD_depth]
theorem row_lay (l : Bool) {xs : List V} (h : ∀ x ∈ xs, okV x = true) : (sqD l (xs.map vD)).canLay0 = true := by cases l <;> simp [sqD, PyData.canLay0, vDs_lay h]
theorem row_depth (l : Bool) (xs : List V) : (sqD l (xs.map vD)).depth = 1 := by cases l <;> simp [sqD, PyData.depth, vDs_depth]
theorem row_shaped (l : Bool) {xs : List V} (h : ∀ x ∈ xs, okV x = true) : SeqAt.shaped (sqD l (xs.map vD)) = true := by simp [SeqAt.shaped, row_lay l h, row_depth]
/-- data of one level: a plain value, a list or tuple of such -/
def Fl1 (d : PyData) : Prop := d.canLay0 = true ∧ d.depth ≤ 1
theorem fl_v {v : V} (h : okV v = true) : Fl1 (vD v) := ⟨vD_lay h, by rw [vD_depth]; omega⟩
theorem fl_row (l : Bool) {xs : List V} (h : ∀ x ∈ xs, okV x = true) : Fl1 (sqD l (xs.map vD)) := ⟨row_lay l h, by rw [row_depth]; omega⟩
theorem fls_lay : ∀ {ds : List PyData}, (∀ d ∈ ds, Fl1 d) → PyData.canLayAll0 ds = true
  | [], _ => by simp [PyData.canLayAll0]
  | d :: ds, h => by simp [PyData.canLayAll0, (h d (List.mem_cons_self)).1, fls_lay fun e he => h e (List.mem_cons_of_mem _ he)]
theorem fls_depth : ∀ {ds : List PyData}, (∀ d ∈ ds, Fl1 d) → PyData.depthAll ds ≤ 1
  | [], _ => by simp [PyData.depthAll]
  | d :: ds, h => by
    have h1 := (h d (List.mem_cons_self)).2
    have h2 := fls_depth fun e he => h e (List.mem_cons_of_mem d he)
    simp only [PyData.depthAll]
    omega
theorem fls_shaped (l : Bool) {ds : List PyData} (h : ∀ d ∈ ds, Fl1 d) : SeqAt.shaped (sqD l ds) = true := by
  have h1 := fls_lay h
  have h2 := fls_depth h
  cases l with
  | true =>
    show ((PyData.list ds).canLay0 && decide ((PyData.list ds).depth ≤ 64)) = true
    have e : (PyData.list ds).depth ≤ 64 := by
      have : (PyData.list ds).depth = PyData.depthAll ds + 1 := by simp only [PyData.depth]
      omega
    rw [decide_eq_true e, Bool.and_true]
    simp only [PyData.canLay0, h1]
  | false =>
    show ((PyData.tuple ds).canLay0 && decide ((PyData.tuple ds).depth ≤ 64)) = true
    have e : (PyData.tuple ds).depth ≤ 64 := by
      have : (PyData.tuple ds).depth = PyData.depthAll ds + 1 := by simp only [PyData.depth]
      omega
    rw [decide_eq_true e, Bool.and_true]
    simp only [PyData.canLay0, h1]
theorem vD_self (v : V) : PyData.eqv (vD v) (vD v) = true := by cases v <;> simp [vD, PyData.eqv]
theorem eqvAll_self : ∀ {ds : List PyData}, (∀ d ∈ ds, PyData.eqv d d = true) → PyData.eqvAll ds ds = true
  | [], _ => by simp [PyData.eqvAll]
  | d :: ds, h => by simp [PyData.eqvAll, h d (List.mem_cons_self), eqvAll_self fun e he => h e (List.mem_cons_of_mem _ he)]
theorem sqD_self (l : Bool) {ds : List PyData} (h : ∀ d ∈ ds, PyData.eqv d d = true) : PyData.eqv (sqD l ds) (sqD l ds) = true := by
  cases l <;> (simp only [sqD, PyData.eqv]; exact eqvAll_self h)
theorem row_self (l : Bool) (xs : List V) : PyData.eqv (sqD l (xs.map vD)) (sqD l (xs.map vD)) = true := sqD_self l fun d hd => by
  obtain ⟨v, _, rfl⟩ := List.mem_map.mp hd
  exact vD_self v
theorem eqvAll_append : ∀ {as bs cs ds : List PyData}, as.length = cs.length → PyData.eqvAll (as ++ bs) (cs ++ ds) = (PyData.eqvAll as cs && PyData.eqvAll bs ds)
  | [], bs, [], ds, _ => by simp [PyData.eqvAll]
  | [], _, _ :: _, _, h => by simp at h
  | _ :: _, _, [], _, h => by simp at h
  | a :: as, bs, c :: cs, ds, h => by
    have ih := eqvAll_append (as := as) (bs := bs) (cs := cs) (ds := ds) (by simpa using h)
    simp only [List.cons_append, PyData.eqvAll, ih, Bool.and_assoc]
section
variable {K : PySem.W.Frag} {H : Hp}
theorem dpv {v : V} (h : flatV v = true) : Dp K H v (vD v) := by
  cases v with
  | non => exact .non
  | bl b => exact .bl b
  | int i => exact .int i
  | str x => exact .str x
  | _ => cases h
theorem dpvs : ∀ {xs : List V}, (∀ x ∈ xs, flatV x = true) → DpAll K H xs (xs.map vD)
  | [], _ => .nil
  | x :: xs, h => .cons (dpv (h x (List.mem_cons_self))) (dpvs fun y hy => h y (List.mem_cons_of_mem _ hy))
theorem dp_lst {a : Addr} {xs : List V} {ds : List PyData} (h : SqL K H a xs) (d : DpAll K H xs ds) : Dp K H (.ref a) (sqD true ds) := .lst h d
theorem dp_tup {a : Addr} {xs : List V} {ds : List PyData} (h : SqT K H a xs) (d : DpAll K H xs ds) : Dp K H (.ref a) (sqD false ds) := .tup h d
end
end L2
set_option Elab.async false
set_option linter.all false
set_option maxRecDepth 100000
set_option maxHeartbeats 1000000
/-! comprehensions whose elements make nothing; lists side by side -/
namespace L2
open PySem PySem.Spec PyProof.Rows
def PvF (H : Hp) (D : Addr) (xs : List V) (f : V → Option V) (i : Nat) (H' : Hp) : Prop := H' = upd H D (.lst ((xs.take i).filterMap f))
section
variable {H : Hp} {D : Addr} {xs : List V} {f : V → Option V} {i : Nat} {x y : V}
theorem take_snoc {α : Type} {xs : List α} {i : Nat} {x : α} (hx : xs[i]? = some x) : xs.take (i + 1) = xs.take i ++ [x] := by rw [List.take_add_one, hx]; rfl
theorem fm_put (hx : xs[i]? = some x) (hf : f x = some y) (hz : xs.length < sizeLine) : ∃ acc, (upd H D (.lst ((xs.take i).filterMap f))) D = some (.lst acc) ∧ acc.length < sizeLine ∧ PvF H D xs f (i + 1) (upd (upd H D (.lst ((xs.take i).filterMap f))) D (.lst (acc ++ [y]))) := by
  refine ⟨_, upd_same, Nat.lt_of_le_of_lt (Nat.le_trans (List.length_filterMap_le _ _) (List.length_take_le' _ _)) hz, ?_⟩
  unfold PvF
  rw [upd_upd, take_snoc hx, List.filterMap_append]
  rw [show List.filterMap f [x] = [y] by rw [List.filterMap_cons, hf]; rfl]
theorem fm_skip (hx : xs[i]? = some x) (hf : f x = none) : PvF H D xs f (i + 1) (upd H D (.lst ((xs.take i).filterMap f))) := by
  unfold PvF
  rw [take_snoc hx, List.filterMap_append, show List.filterMap f [x] = [] by rw [List.filterMap_cons, hf]; rfl, List.append_nil]
theorem fm_end {H' : Hp} (h : PvF H D xs f xs.length H') : H' = upd H D (.lst (xs.filterMap f)) := by
  unfold PvF at h
  rw [List.take_length] at h
  exact h
end
theorem Paired.at {α β : Type} {F : α → β → Prop} : ∀ {xs : List α} {ys : List β} {i : Nat} {x : α}, Paired F xs ys → xs[i]? = some x → ∃ y, ys[i]? = some y ∧ F x y
  | _, _, i, _, .nil, h => by simp at h
  | _, _, 0, _, .cons h _, e => by
    cases (show some _ = some _ from e)
    exact ⟨_, rfl, h⟩
  | _, _, i + 1, _, .cons _ t, e => Paired.at (i := i) t e
theorem Paired.at' {α β : Type} {F : α → β → Prop} : ∀ {xs : List α} {ys : List β} {i : Nat} {y : β}, Paired F xs ys → ys[i]? = some y → ∃ x, xs[i]? = some x ∧ F x y
  | _, _, i, _, .nil, h => by simp at h
  | _, _, 0, _, .cons h _, e => by
    cases (show some _ = some _ from e)
    exact ⟨_, rfl, h⟩
  | _, _, i + 1, _, .cons _ t, e => Paired.at' (i := i) t e
theorem Paired.takeP {α β : Type} {F : α → β → Prop} : ∀ {xs : List α} {ys : List β} (n : Nat), Paired F xs ys → Paired F (xs.take n) (ys.take n)
  | _, _, 0, _ => .nil
  | _, _, _ + 1, .nil => .nil
  | _, _, n + 1, .cons h t => .cons h (Paired.takeP n t)
theorem Paired.appendP {α β : Type} {F : α → β → Prop} : ∀ {xs xs' : List α} {ys ys' : List β}, Paired F xs ys → Paired F xs' ys' → Paired F (xs ++ xs') (ys ++ ys')
  | _, _, _, _, .nil, s => s
  | _, _, _, _, .cons h t, s => .cons h (Paired.appendP t s)
theorem Paired.mapL {α β γ : Type} {F : α → β → Prop} {f : α → γ} {g : β → γ} (h : ∀ a b, F a b → f a = g b) : ∀ {xs : List α} {ys : List β}, Paired F xs ys → xs.map f = ys.map g
  | _, _, .nil => rfl
  | _, _, .cons r t => by rw [List.map_cons, List.map_cons, h _ _ r, Paired.mapL h t]
theorem call_tuple_ofK {X : Cx} {K : PySem.W.Frag} (h : X.K = K) : CallR X (.type "tuple") (fun xs H Q => ∃ p ys, xs = [.ref p] ∧ ((SqL K H p ys ∧ ∀ l, H l = none → Q (.ref l) (upd H l (.tup ys))) ∨ (SqT K H p ys ∧ Q (.ref p) H))) := h ▸ call_tuple_of
theorem call_list_ofK {X : Cx} {K : PySem.W.Frag} (h : X.K = K) : CallR X (.type "list") (fun xs H Q => ∃ p ys, xs = [.ref p] ∧ (SqL K H p ys ∨ SqT K H p ys) ∧ ∀ l, H l = none → Q (.ref l) (upd H l (.lst ys))) := h ▸ call_list_of
/-- what is known of the value, and no more, goes on -/
def tCutE (t : TE) : TE := fun σ H Q => ∃ R : V → Hp → Prop, t σ H R ∧ ∀ v H', R v H' → Q v H'
theorem pe_cut {X : Cx} {e : Expr} {t : TE} (h : PE X e t) : PE X e (tCutE t) := ⟨fun pins s σ H Q I ⟨R, h1, h2⟩ => wpAny_mono (h.run pins s σ H R I h1) (fun u s' ⟨v, H', I', r, q⟩ => ⟨v, H', I', r, h2 _ _ q⟩) fun _ _ z => z⟩
end L2
set_option Elab.async false
set_option linter.all false
set_option maxRecDepth 100000
set_option maxHeartbeats 1000000
namespace My
open PySem L2 Dw
open C8 (pss_cut tCut)
def top (i : Nat) : Stmt := PySem.Challenge.pw_lastlife_k02_lives_made_and_refused.main.body.getD i (.Pass ⟨0, 0, 0, 0⟩)
abbrev s_BadCustoms_init : Stmt := inClass (top 2) 0
abbrev s_BadLives_init : Stmt := inClass (top 3) 0
abbrev s_BadRecord_init : Stmt := inClass (top 4) 0
abbrev s_NoLife_init : Stmt := inClass (top 5) 0
abbrev s_is_whole : Stmt := top 9
theorem sc_is_whole : FnScope ["thing", "low", "high"] ["thing", "low", "high"] (defScope s_is_whole) := ⟨rfl, rfl, rfl, by decide +kernel, rfl, by decide +kernel, by decide +kernel⟩
abbrev s_is_name : Stmt := top 10
theorem sc_is_name : FnScope ["thing", "sign"] ["thing"] (defScope s_is_name) := ⟨rfl, rfl, rfl, by decide +kernel, rfl, by decide +kernel, by decide +kernel⟩
abbrev s_Customs_init : Stmt := inClass (top 13) 0
theorem sc_Customs_init : FnScope ["self", "parent_age", "years_after", "wed_age", "limit"] ["self", "parent_age", "years_after", "wed_age", "limit"] (defScope s_Customs_init) := ⟨rfl, rfl, rfl, by decide +kernel, rfl, by decide +kernel, by decide +kernel⟩
abbrev s_Customs_as_tuple : Stmt := inClass (top 13) 1
theorem sc_Customs_as_tuple : FnScope ["self"] ["self"] (defScope s_Customs_as_tuple) := ⟨rfl, rfl, rfl, by decide +kernel, rfl, by decide +kernel, by decide +kernel⟩
abbrev s_Customs_eq : Stmt := inClass (top 13) 2
theorem sc_Customs_eq : FnScope ["self", "other"] ["self", "other"] (defScope s_Customs_eq) := ⟨rfl, rfl, rfl, by decide +kernel, rfl, by decide +kernel, by decide +kernel⟩
abbrev s_row_fault : Stmt := top 16
theorem sc_row_fault : FnScope ["row", "customs", "ages", "name", "age", "parent"] ["row", "customs", "ages"] (defScope s_row_fault) := ⟨rfl, rfl, rfl, by decide +kernel, rfl, by decide +kernel, by decide +kernel⟩
abbrev s_Lives_init : Stmt := inClass (top 17) 0
theorem sc_Lives_init : FnScope ["self", "customs", "rows", "ages", "parents", "index", "row", "word"] ["self", "customs", "rows"] (defScope s_Lives_init) := ⟨rfl, rfl, rfl, by decide +kernel, rfl, by decide +kernel, by decide +kernel⟩
abbrev s_Lives_names : Stmt := inClass (top 17) 1
theorem sc_Lives_names : FnScope ["self", "row"] ["self"] (defScope s_Lives_names) := ⟨rfl, rfl, rfl, by decide +kernel, rfl, by decide +kernel, by decide +kernel⟩
abbrev s_Lives_has : Stmt := inClass (top 17) 2
theorem sc_Lives_has : FnScope ["self", "name"] ["self", "name"] (defScope s_Lives_has) := ⟨rfl, rfl, rfl, by decide +kernel, rfl, by decide +kernel, by decide +kernel⟩
abbrev s_Lives_age : Stmt := inClass (top 17) 3
theorem sc_Lives_age : FnScope ["self", "name"] ["self", "name"] (defScope s_Lives_age) := ⟨rfl, rfl, rfl, by decide +kernel, rfl, by decide +kernel, by decide +kernel⟩
abbrev s_Lives_parent : Stmt := inClass (top 17) 4
theorem sc_Lives_parent : FnScope ["self", "name"] ["self", "name"] (defScope s_Lives_parent) := ⟨rfl, rfl, rfl, by decide +kernel, rfl, by decide +kernel, by decide +kernel⟩
abbrev s_Lives_eq : Stmt := inClass (top 17) 5
theorem sc_Lives_eq : FnScope ["self", "other"] ["self", "other"] (defScope s_Lives_eq) := ⟨rfl, rfl, rfl, by decide +kernel, rfl, by decide +kernel, by decide +kernel⟩
abbrev s_Lives_len : Stmt := inClass (top 17) 6
theorem sc_Lives_len : FnScope ["self"] ["self"] (defScope s_Lives_len) := ⟨rfl, rfl, rfl, by decide +kernel, rfl, by decide +kernel, by decide +kernel⟩
abbrev s_Lives_iter : Stmt := inClass (top 17) 7
theorem sc_Lives_iter : FnScope ["self"] ["self"] (defScope s_Lives_iter) := ⟨rfl, rfl, rfl, by decide +kernel, rfl, by decide +kernel, by decide +kernel⟩
abbrev s_digits : Stmt := top 19
theorem sc_digits : FnScope ["_law_script", "_law_many", "_law_seed", "_law_cell"] ["_law_script", "_law_many"] (defScope s_digits) := ⟨rfl, rfl, rfl, by decide +kernel, rfl, by decide +kernel, by decide +kernel⟩
abbrev s_next : Stmt := top 20
theorem sc_next : FnScope ["_law_draws", "_law_many", "_law_cell", "_law_digit"] ["_law_draws", "_law_many"] (defScope s_next) := ⟨rfl, rfl, rfl, by decide +kernel, rfl, by decide +kernel, by decide +kernel⟩
abbrev s_far : Stmt := top 21
theorem sc_far : FnScope ["_law_draws", "_law_many", "_law_whole", "_law_turn"] ["_law_draws", "_law_many"] (defScope s_far) := ⟨rfl, rfl, rfl, by decide +kernel, rfl, by decide +kernel, by decide +kernel⟩
abbrev s_customs : Stmt := top 22
theorem sc_customs : FnScope ["_law_draws"] ["_law_draws"] (defScope s_customs) := ⟨rfl, rfl, rfl, by decide +kernel, rfl, by decide +kernel, by decide +kernel⟩
abbrev s_row_word : Stmt := top 23
theorem sc_row_word : FnScope ["_law_row", "_law_customs_here", "_law_before", "_law_name", "_law_age", "_law_parent", "_law_letters", "_law_ages", "_law_sign", "_law_x"] ["_law_row", "_law_customs_here", "_law_before"] (defScope s_row_word) := ⟨rfl, rfl, rfl, by decide +kernel, rfl, by decide +kernel, by decide +kernel⟩
abbrev s_due : Stmt := top 24
theorem sc_due : FnScope ["_law_rows", "_law_customs_here", "_law_index", "_law_word"] ["_law_rows", "_law_customs_here"] (defScope s_due) := ⟨rfl, rfl, rfl, by decide +kernel, rfl, by decide +kernel, by decide +kernel⟩
abbrev s_drawn : Stmt := top 25
theorem sc_drawn : FnScope ["_law_draws", "_law_customs_here", "_law_many", "_law_rows", "_law_place", "_law_name", "_law_age", "_law_parent", "_law_elder"] ["_law_draws", "_law_customs_here"] (defScope s_drawn) := ⟨rfl, rfl, rfl, by decide +kernel, rfl, by decide +kernel, by decide +kernel⟩
abbrev s_spoilt : Stmt := top 26
theorem sc_spoilt : FnScope ["_law_draws", "_law_rows", "_law_at", "_law_kind", "_law_x"] ["_law_draws", "_law_rows"] (defScope s_spoilt) := ⟨rfl, rfl, rfl, by decide +kernel, rfl, by decide +kernel, by decide +kernel⟩
abbrev s_told : Stmt := top 27
theorem sc_told : FnScope ["_law_rows", "_law_customs_here", "_law_made", "e"] ["_law_rows", "_law_customs_here"] (defScope s_told) := ⟨rfl, rfl, rfl, by decide +kernel, rfl, by decide +kernel, by decide +kernel⟩
abbrev s_right : Stmt := top 28
theorem sc_right : FnScope ["_law_rows", "_law_customs_here", "_law_made", "_law_given", "_law_lives", "_law_kept", "_law_name", "_law_age", "_law_parent", "_law_odd", "_law_told_here", "e", "_law_again", "_law_other", "_law_same", "_law_x"] ["_law_rows", "_law_customs_here"] (defScope s_right) := ⟨rfl, rfl, rfl, by decide +kernel, rfl, by decide +kernel, by decide +kernel⟩
abbrev s_says : Stmt := top 29
theorem sc_says : FnScope ["_law_told_here", "_law_due_here"] ["_law_told_here", "_law_due_here"] (defScope s_says) := ⟨rfl, rfl, rfl, by decide +kernel, rfl, by decide +kernel, by decide +kernel⟩
abbrev s_law : Stmt := top 30
theorem sc_law : FnScope ["_law_script", "_law_draws", "_law_customs_here", "_law_turn", "_law_rows", "_law_due_here", "_law_told_here", "e"] ["_law_script"] (defScope s_law) := ⟨rfl, rfl, rfl, by decide +kernel, rfl, by decide +kernel, by decide +kernel⟩
def okI : List Value → Prop := fun us => ∀ v, us[0]? = some v → ∃ i t, v = .int i t ∧ i.natAbs.log2 < 1920
def okVI : List V → Prop := fun vs => ∃ i r, vs = .int i :: r ∧ i.natAbs.log2 < 1920
theorem okVI_ok : ∀ vs us, Vals vs us → okVI vs → okI us := fun vs us r ⟨i, rest, e, h⟩ v hv => by
  subst e
  cases r with
  | cons ra rb =>
    obtain ⟨t, rfl⟩ := ra
    cases hv
    exact ⟨i, t, rfl, h⟩
/-- what the top has written -/
structure Txt (P : Program) (w : World) (K : PySem.W.Frag) (mg : Str → Option Value) (cl : String → Addr) : Prop where
  n_len : mg "len" = none
  n_int : mg "int" = none
  n_str : mg "str" = none
  n_bool : mg "bool" = none
  n_list : mg "list" = none
  n_tuple : mg "tuple" = none
  n_isinstance : mg "isinstance" = none
  n_range : mg "range" = none
  n_all : mg "all" = none
  n_ValueError : mg "ValueError" = none
  n_super : mg "super" = none
  n_max : mg "max" = none
  n_iter : mg "iter" = none
  n_enumerate : mg "enumerate" = none
  n_property : mg "property" = none
  c_LETTERS : ∃ u, mg "LETTERS" = some u ∧ RelV (.str "abcdefghijklmnopqrstuvwxyz") u
  c_MOST : ∃ u, mg "MOST" = some u ∧ RelV (.int 1000000) u
  c_WIDEST : ∃ u, mg "WIDEST" = some u ∧ RelV (.int 1000) u
  c_MOST_LIVES : ∃ u, mg "MOST_LIVES" = some u ∧ RelV (.int 6) u
  m_DeedError : mg "DeedError" = some (.ref (cl "DeedError"))
  m_BadCustoms : mg "BadCustoms" = some (.ref (cl "BadCustoms"))
  m_BadLives : mg "BadLives" = some (.ref (cl "BadLives"))
  m_BadRecord : mg "BadRecord" = some (.ref (cl "BadRecord"))
  m_NoLife : mg "NoLife" = some (.ref (cl "NoLife"))
  m_Customs : mg "Customs" = some (.ref (cl "Customs"))
  m_Lives : mg "Lives" = some (.ref (cl "Lives"))
  e_BadCustoms : PySem.ErrL.Makes P w K mg (cl "BadCustoms") ["what"] (fun _ => True)
  e_BadLives : PySem.ErrL.Makes P w K mg (cl "BadLives") ["index", "what"] okI
  e_NoLife : PySem.ErrL.Makes P w K mg (cl "NoLife") ["name"] (fun _ => True)
  x_BadLives : ExcC K (cl "BadLives")
  x_NoLife : ExcC K (cl "NoLife")
  xf_BadLives_index : PySem.W.findIn K (.ref (cl "BadLives")) "index" = some none
  xf_BadLives_what : PySem.W.findIn K (.ref (cl "BadLives")) "what" = some none
  xf_NoLife_name : PySem.W.findIn K (.ref (cl "NoLife")) "name" = some none
  is_BadLives : PySem.W.exmOne K (.ref (cl "BadLives")) (.ref (cl "BadLives")) = some true
  is_NoLife : PySem.W.exmOne K (.ref (cl "NoLife")) (.ref (cl "NoLife")) = some true
  k_bl_de : PySem.W.kitOne K (.ref (cl "BadLives")) (.ref (cl "DeedError")) = some true
  k_bl_br : PySem.W.kitOne K (.ref (cl "BadLives")) (.ref (cl "BadRecord")) = some false
  cl_Customs : Cls K (cl "Customs")
  na_Customs : ∀ f : Str, f ∈ (["parent_age", "years_after", "wed_age", "limit"] : List Str) → NoAttr K (cl "Customs") f
  y_Customs : PySem.W.findIn K (.ref (cl "Customs")) "__class__" = some (some (.builtin "object.__class__"))
  z3_Customs : PySem.W.mroIn K (cl "Customs") (.type "object") = some true
  cl_Lives : Cls K (cl "Lives")
  na_Lives : ∀ f : Str, f ∈ (["customs", "rows", "ages", "parents"] : List Str) → NoAttr K (cl "Lives") f
  y_Lives : PySem.W.findIn K (.ref (cl "Lives")) "__class__" = some (some (.builtin "object.__class__"))
  z3_Lives : PySem.W.mroIn K (cl "Lives") (.type "object") = some true
  k_in_Cu : ∀ n : String, n ∈ (["NoneType", "bool", "int", "str", "list", "tuple"] : List String) → PySem.W.kitOne K (.type n) (.ref (cl "Customs")) = some false
  nf_Customs : ∀ n : String, n ∈ (["NoneType", "bool", "int", "str", "list", "tuple"] : List String) → PySem.W.notFirst K (cl "Customs") (.type n) = true
  nf2_Customs : PySem.W.notFirst K (cl "Customs") (.ref (cl "Customs")) = true
  k_Cu_Cu : PySem.W.kitOne K (.ref (cl "Customs")) (.ref (cl "Customs")) = some true
  k_in_Li : ∀ n : String, n ∈ (["NoneType", "bool", "int", "str", "list", "tuple"] : List String) → PySem.W.kitOne K (.type n) (.ref (cl "Lives")) = some false
  nf_Lives : ∀ n : String, n ∈ (["NoneType", "bool", "int", "str", "list", "tuple"] : List String) → PySem.W.notFirst K (cl "Lives") (.type n) = true
  nf2_Lives : PySem.W.notFirst K (cl "Lives") (.ref (cl "Lives")) = true
  k_Li_Li : PySem.W.kitOne K (.ref (cl "Lives")) (.ref (cl "Lives")) = some true
  i_Customs : ∃ (f : Addr) (fd : FuncData), FunD K "__init__" "Customs.__init__" (defArgs s_Customs_init) (defBody s_Customs_init) (defScope s_Customs_init) [.int 1] [("years_after", .int 1), ("wed_age", .int 0), ("limit", .int 21)] f fd ∧ Mk K (cl "Customs") f
  i_Lives : DefC K (cl "Lives") "Lives.__init__" s_Lives_init
  d_as_tuple : DefM K (cl "Customs") "as_tuple" "Customs.as_tuple" s_Customs_as_tuple
  d_eq : DefM K (cl "Customs") "__eq__" "Customs.__eq__" s_Customs_eq
  d_Lives_has : DefM K (cl "Lives") "has" "Lives.has" s_Lives_has
  d_Lives_age : DefM K (cl "Lives") "age" "Lives.age" s_Lives_age
  d_Lives_parent : DefM K (cl "Lives") "parent" "Lives.parent" s_Lives_parent
  d_Lives_eq : DefM K (cl "Lives") "__eq__" "Lives.__eq__" s_Lives_eq
  d_Lives_len : DefM K (cl "Lives") "__len__" "Lives.__len__" s_Lives_len
  d_Lives_iter : DefM K (cl "Lives") "__iter__" "Lives.__iter__" s_Lives_iter
  d_Lives_names : ∃ (p g : Addr) (fd : FuncData), PropOf K (cl "Lives") "names" p g ∧ Fun K "names" "Lives.names" s_Lives_names g fd
  d_is_whole : Def K mg "is_whole" s_is_whole
  d_is_name : Def K mg "is_name" s_is_name
  d_row_fault : Def K mg "row_fault" s_row_fault
  d_digits : Def K mg "_law_digits" s_digits
  d_next : Def K mg "_law_next" s_next
  d_far : Def K mg "_law_far" s_far
  d_customs : Def K mg "_law_customs" s_customs
  d_row_word : Def K mg "_law_row_word" s_row_word
  d_due : Def K mg "_law_due" s_due
  d_drawn : Def K mg "_law_drawn" s_drawn
  d_spoilt : Def K mg "_law_spoilt" s_spoilt
  d_told : Def K mg "_law_told" s_told
  d_right : Def K mg "_law_right" s_right
  d_says : Def K mg "_law_says" s_says
  d_law : Def K mg "law" s_law
  z1 : PySem.W.specialIn K (.builtin "object.__class__") "__get__" = some (some (.builtin "getset_descriptor.__get__"))
  z2 : PySem.W.takesIn K (.builtin "object.__class__") = some true
/-! plain functions -/
def isW (lo hi : Int) : V → Bool
  | .int i => decide (lo ≤ i) && decide (i ≤ hi)
  | _ => false
def letters : List Nat := ("abcdefghijklmnopqrstuvwxyz" : Str).cps.toList
def isN : V → Bool
  | .str s => decide (1 ≤ s.length) && decide (s.length ≤ 8) && s.cps.toList.all fun c => decide (c ∈ letters)
  | _ => false
/-! promises -/
def spW (K : PySem.W.Frag) : Sp := fun vs H Q _ => ∃ (v : V) (n : String) (lo hi : Int), vs = [v, .int lo, .int hi] ∧ Dm K H v n ∧ Q (.bl (isW lo hi v)) H
def spN (K : PySem.W.Frag) : Sp := fun vs H Q _ => ∃ (v : V) (n : String), vs = [v] ∧ Dm K H v n ∧ ∀ H', Same H H' → Q (.bl (isN v)) H'
section
variable {P : Program} {w : World} {K : PySem.W.Frag} {mg : Str → Option Value} {base : Heap} {cl : String → Addr}
theorem kb {v : V} {H : Hp} {n m : String} {b : Bool} (d : Dm K H v n) (h : kitB n m = some b) : PySem.W.kitOne K (.type n) (.type m) = some b := kit_ty h
theorem ok_is_whole {f : Addr} {fd : FuncData} (F : Fun K "is_whole" "is_whole" s_is_whole f fd) (T : Txt P w K mg cl) : FnOk P w K mg base CX0 1 f fd ["thing", "low", "high"] (spW K) := by
  refine F.ok sc_is_whole (fun vs H Q E h => ?_) (fun cdv A outer s H vs Q E hr h => ?_)
  · obtain ⟨v, n, lo, hi, rfl, _⟩ := h
    rfl
  · obtain ⟨v, n, lo, hi, rfl, d, k⟩ := h
    have hu := hu_of hr
    refine ⟨_, (pss_one (ps_ret (pe_and (pe_callB call_isi (by rfl) T.n_isinstance (by decide +kernel) (pa_cons (pv 0) (pa_cons (pe_ty "int" T.n_int) pa_nil))) (pe_and (pe_not (pe_callB call_isi (by rfl) T.n_isinstance (by decide +kernel) (pa_cons (pv 0) (pa_cons (pe_ty "bool" T.n_bool) pa_nil)))) (pe_one (pe_chain op_le op_le (pv 1) (pv 0) (pv 2))))))), ?_⟩
    cases d with
    | int i =>
      refine ⟨_, rfl, _, _, _, _, _, rfl, .ty "int", .base (.int i), kit_ty (by decide +kernel), true, rfl, iteT ?_⟩
      refine ⟨_, rfl, _, _, _, _, _, rfl, .ty "bool", .base (.int i), kit_ty (by decide +kernel), false, rfl, _, rfl, iteT ?_⟩
      refine ⟨_, rfl, _, rfl, _, _, rfl, rfl, _, rfl, ?_⟩
      refine ite2 (fun h1 => ?_) (fun h1 => ?_)
      · refine ⟨_, rfl, _, _, rfl, rfl, ?_⟩
        have e : isW lo hi (.int i) = decide (i ≤ hi) := by show (decide (lo ≤ i) && decide (i ≤ hi)) = _; rw [h1]; rfl
        rw [e] at k
        exact k
      · have e : isW lo hi (.int i) = false := by show (decide (lo ≤ i) && decide (i ≤ hi)) = _; rw [Bool.eq_false_iff.mpr h1]; rfl
        rw [e] at k
        exact k
    | bl b =>
      refine ⟨_, rfl, _, _, _, _, _, rfl, .ty "int", .base (.bl b), kit_ty (by decide +kernel), true, rfl, iteT ?_⟩
      exact ⟨_, rfl, _, _, _, _, _, rfl, .ty "bool", .base (.bl b), kit_ty (by decide +kernel), true, rfl, _, rfl, iteF k⟩
    | non => exact ⟨_, rfl, _, _, _, _, _, rfl, .ty "int", .base .non, kit_ty (by decide +kernel), false, rfl, iteF k⟩
    | str x hx => exact ⟨_, rfl, _, _, _, _, _, rfl, .ty "int", .base (.str x), kit_ty (by decide +kernel), false, rfl, iteF k⟩
    | lst e => exact ⟨_, rfl, _, _, _, _, _, rfl, .ty "int", .base (.lst e), kit_ty (by decide +kernel), false, rfl, iteF k⟩
    | tup e => exact ⟨_, rfl, _, _, _, _, _, rfl, .ty "int", .base (.tup e), kit_ty (by decide +kernel), false, rfl, iteF k⟩
theorem cal_is_whole (T : Txt P w K mg cl) : Cal P w K mg base CX0 1 "is_whole" ["thing", "low", "high"] (spW K) := by
  obtain ⟨f, fd, F, m⟩ := T.d_is_whole
  exact ⟨f, fd, ok_is_whole F T, m, F.kp, F.binds fun _ _ _ _ _ _ us hl => match us, hl with | [_, _, _], _ => rfl⟩
theorem all_filter {α : Type} (l : List α) (p : α → Bool) : l.all p = (l.filter fun c => !p c).isEmpty := by
  induction l with
  | nil => rfl
  | cons a l ih =>
    cases h : p a with
    | true => rw [List.all_cons, h, Bool.true_and, List.filter_cons_of_neg (by simp [h])]; exact ih
    | false => rw [List.all_cons, h, Bool.false_and, List.filter_cons_of_pos (by simp [h])]; rfl
theorem ok_is_name {f : Addr} {fd : FuncData} (F : Fun K "is_name" "is_name" s_is_name f fd) (T : Txt P w K mg cl) : FnOk P w K mg base CX0 1 f fd ["thing"] (spN K) := by
  refine F.ok sc_is_name (fun vs H Q E h => ?_) (fun cdv A outer s H vs Q E hr h => ?_)
  · obtain ⟨v, n, rfl, _⟩ := h
    rfl
  · obtain ⟨v, n, rfl, d, k⟩ := h
    have hu := hu_of hr
    refine ⟨_, (pss_cons (ps_if (PW.pt (pw_or (pt_not (pt_val (pe_callB call_isi (by rfl) T.n_isinstance (by decide +kernel) (pa_cons (pv 0) (pa_cons (pe_ty "str" T.n_str) pa_nil))))) (pw_or1 (pt_not (pt_chain op_le op_le pe_int (pe_callB call_len_str (by rfl) T.n_len PySem.boot_len (pa_cons (pv 0) pa_nil)) pe_int)))))
          (pss_one (ps_ret pe_bl)) pss_nil)
        (pss_one (ps_ret (pe_notT (pe_lc (own := [("sign", 1)]) (g := gName 1)  rfl sc_is_name.nd (pi_str (pv 0)) (blkOk_by (own := [("sign", 1)]) (N := ["thing", "sign"]) (sc := defScope s_is_name) (by decide +kernel)) (fun _ _ _ _ _ => pg_name (i := 1) sc_is_name.nd rfl (Or.inl rfl)) (fun _ _ _ _ _ => pts_one (pt_cmpR op_notIn_sign (pv 1) (pe_gl T.c_LETTERS) (by rfl))) (fun _ _ _ _ _ => (pv 1))))))), ?_⟩
    cases d with
    | str x hx =>
      refine ⟨_, rfl, _, _, _, _, _, rfl, .ty "str", .base (.str x), kit_ty (by decide +kernel), true, rfl, iteF ?_⟩
      refine ⟨_, rfl, _, rfl, hx, _, _, rfl, rfl, _, rfl, ?_⟩
      have no : ∀ b : Bool, isN (.str x) = b → Q (.bl b) H := fun b e => by rw [← e]; exact k H (Same.refl H)
      refine ite2 (fun h1 => ?_) (fun h1 => ?_)
      · refine ⟨_, _, rfl, rfl, _, rfl, ?_⟩
        have g1 : (1 : Int) ≤ x.length := of_decide_eq_true h1
        have e1 : isN (.str x) = (decide (x.length ≤ 8) && x.cps.toList.all fun c => decide (c ∈ letters)) := by
          show (decide (1 ≤ x.length) && decide (x.length ≤ 8) && _) = _
          rw [decide_eq_true (show 1 ≤ x.length by omega), Bool.true_and]
        refine ite2 (fun h2 => ?_) (fun h2 => ?_)
        · refine no false ?_
          have g2 : ¬ x.length ≤ 8 := by
            have := (Bool.not_eq_true' _).mp h2
            have := of_decide_eq_false this
            omega
          rw [e1, decide_eq_false g2, Bool.false_and]
        · have g2 : x.length ≤ 8 := by
            have := Bool.eq_false_iff.mpr h2
            have := of_decide_eq_true ((Bool.not_eq_false' _).mp this)
            omega
          rw [decide_eq_true g2, Bool.true_and] at e1
          refine ⟨_, rfl, x, rfl, fun D hD => lc_str (x := x) (fun i H' => H' = upd H D (.lst (((x.cps.toList.take i).filter fun c => !decide (c ∈ letters)).map fun c => V.str ⟨#[c]⟩))) rfl ?_ ?_⟩
          · rintro i c H' hc rfl
            have hi : i < x.cps.size := (Array.getElem?_eq_some_iff.mp hc).1
            have hc2 : x.cps.toList[i]? = some c := by rw [← hc]; simp
            have ht : x.cps.toList.take (i + 1) = x.cps.toList.take i ++ [c] := by rw [List.take_add_one, hc2]; rfl
            refine ⟨rfl, _, rfl, c, _, rfl, rfl, _, rfl, ?_⟩
            refine ite2 (fun h3 => ?_) (fun h3 => ?_)
            · refine ⟨_, rfl, _, upd_same, small1000 ?_, ?_⟩
              · rw [List.length_map]
                refine Nat.le_trans (List.length_filter_le _ _) (Nat.le_trans (List.length_take_le _ _) ?_)
                have : x.length = x.cps.size := rfl
                omega
              · rw [upd_upd, ht, List.filter_append, List.map_append, show List.filter (fun c => !decide (c ∈ letters)) [c] = [c] by rw [List.filter_cons_of_pos (by exact h3)]; rfl]
                rfl
            · rw [ht, List.filter_append, List.map_append, show List.filter (fun c => !decide (c ∈ letters)) [c] = [] by rw [List.filter_cons_of_neg (by exact h3)]; rfl]
              rw [List.map_nil, List.append_nil]
          · rintro H' rfl
            refine ⟨_, .inl ⟨_, SqL.of upd_same, rfl⟩, ?_⟩
            have sm : Same H (upd H D (.lst (((x.cps.toList.take x.cps.size).filter fun c => !decide (c ∈ letters)).map fun c => V.str ⟨#[c]⟩))) := fun b o e => by rw [upd_ne (ne_of_none e hD)]; exact e
            have q := k _ sm
            rw [e1] at q
            have ea : (x.cps.toList.all fun c => decide (c ∈ letters)) = !!(((x.cps.toList.take x.cps.size).filter fun c => !decide (c ∈ letters)).map fun c => V.str ⟨#[c]⟩).isEmpty := by
              rw [Bool.not_not, List.isEmpty_map, show x.cps.toList.take x.cps.size = x.cps.toList from List.take_of_length_le (by simp)]
              exact all_filter _ _
            rw [ea] at q
            exact q
      · refine ⟨_, rfl, iteT (no false ?_)⟩
        have g1 : ¬ (1 : Int) ≤ x.length := fun z => h1 (decide_eq_true z)
        show (decide (1 ≤ x.length) && decide (x.length ≤ 8) && _) = false
        rw [decide_eq_false (show ¬ 1 ≤ x.length by omega), Bool.false_and, Bool.false_and]
    | int x => exact ⟨_, rfl, _, _, _, _, _, rfl, .ty "str", .base (.int x), kit_ty (by decide +kernel), false, rfl, iteT (iteT (k H (Same.refl H)))⟩
    | bl b => exact ⟨_, rfl, _, _, _, _, _, rfl, .ty "str", .base (.bl b), kit_ty (by decide +kernel), false, rfl, iteT (iteT (k H (Same.refl H)))⟩
    | non => exact ⟨_, rfl, _, _, _, _, _, rfl, .ty "str", .base .non, kit_ty (by decide +kernel), false, rfl, iteT (iteT (k H (Same.refl H)))⟩
    | lst e => exact ⟨_, rfl, _, _, _, _, _, rfl, .ty "str", .base (.lst e), kit_ty (by decide +kernel), false, rfl, iteT (iteT (k H (Same.refl H)))⟩
    | tup e => exact ⟨_, rfl, _, _, _, _, _, rfl, .ty "str", .base (.tup e), kit_ty (by decide +kernel), false, rfl, iteT (iteT (k H (Same.refl H)))⟩
theorem cal_is_name (T : Txt P w K mg cl) : Cal P w K mg base CX0 1 "is_name" ["thing"] (spN K) := by
  obtain ⟨f, fd, F, m⟩ := T.d_is_name
  exact ⟨f, fd, ok_is_name F T, m, F.kp, F.binds fun _ _ _ _ _ _ us hl => match us, hl with | [_], _ => rfl⟩
end
end My
set_option Elab.async false
set_option linter.all false
set_option maxRecDepth 100000
set_option maxHeartbeats 1000000
namespace My
open PySem L2 Dw
open C8 (pss_cut tCut)
/-- the first wrong value of customs -/
def cuWord (a b c d : V) : Option Str :=
  if isW 1 1000 a = false then some "parent_age" else if isW 0 1000 b = false then some "years_after" else if isW 0 1000 c = false then some "wed_age" else if isW 0 1000000 d = false then some "limit" else none
def cuF (a b c d : V) : List (Str × V) := [("parent_age", a), ("years_after", b), ("wed_age", c), ("limit", d)]
def spCu (K : PySem.W.Frag) (C CB : Addr) : Sp := fun vs H Q E => ∃ (p dx : Addr) (a b c d : V) (n1 n2 n3 n4 : String), vs = [.ref p, a, b, c, d] ∧ H p = some (.ins C dx []) ∧ Dm K H a n1 ∧ Dm K H b n2 ∧ Dm K H c n3 ∧ Dm K H d n4 ∧
  (∀ s, cuWord a b c d = some s → ∀ e, H e = none → E (.ref CB) (some e) (upd H e (.xd [("what", .str s)]))) ∧ (cuWord a b c d = none → Q .non (upd H p (.ins C dx (cuF a b c d))))
section
variable {P : Program} {w : World} {K : PySem.W.Frag} {mg : Str → Option Value} {base : Heap} {cl : String → Addr}
theorem ok_Customs_init {f : Addr} {fd : FuncData} (F : FunD K "__init__" "Customs.__init__" (defArgs s_Customs_init) (defBody s_Customs_init) (defScope s_Customs_init) [.int 1] [("years_after", .int 1), ("wed_age", .int 0), ("limit", .int 21)] f fd) (T : Txt P w K mg cl) :
    FnOk P w K mg base (L2.CX P w) 4 f fd ["self", "parent_age", "years_after", "wed_age", "limit"] (spCu K (cl "Customs") (cl "BadCustoms")) := by
  refine F.ok sc_Customs_init (fun vs H Q E h => ?_) (fun cdv A outer s H vs Q E hr h => ?_)
  · obtain ⟨p, dx, a, b, c, d, n1, n2, n3, n4, rfl, _⟩ := h
    rfl
  · obtain ⟨p, dx, a, b, c, d, n1, n2, n3, n4, rfl, hp, d1, d2, d3, d4, ke, kn⟩ := h
    have hu := hu_of hr
    have C_is_whole : Cal P w K mg base CX0 1 "is_whole" _ (spW K) := cal_is_whole T
    refine ⟨_, (pss_cons (ps_if (pt_not (pt_val (pe_cal C_is_whole (hr.mono (by decide)) (pa_cons (pv 1) (pa_cons pe_int (pa_cons (pe_gl T.c_WIDEST) pa_nil))))))
          (pss_one (ps_raiseErr (k := 1) (okV := fun _ => True) rfl T.e_BadCustoms (fun _ _ _ _ => trivial) T.m_BadCustoms (hr.mono (by decide)) (takes_of rfl rfl rfl rfl) (by exact (pa_cons pe_str pa_nil)))) pss_nil)
        (pss_cons (ps_if (pt_not (pt_val (pe_cal C_is_whole (hr.mono (by decide)) (pa_cons (pv 2) (pa_cons pe_int (pa_cons (pe_gl T.c_WIDEST) pa_nil))))))
          (pss_one (ps_raiseErr (k := 1) (okV := fun _ => True) rfl T.e_BadCustoms (fun _ _ _ _ => trivial) T.m_BadCustoms (hr.mono (by decide)) (takes_of rfl rfl rfl rfl) (by exact (pa_cons pe_str pa_nil)))) pss_nil)
        (pss_cons (ps_if (pt_not (pt_val (pe_cal C_is_whole (hr.mono (by decide)) (pa_cons (pv 3) (pa_cons pe_int (pa_cons (pe_gl T.c_WIDEST) pa_nil))))))
          (pss_one (ps_raiseErr (k := 1) (okV := fun _ => True) rfl T.e_BadCustoms (fun _ _ _ _ => trivial) T.m_BadCustoms (hr.mono (by decide)) (takes_of rfl rfl rfl rfl) (by exact (pa_cons pe_str pa_nil)))) pss_nil)
        (pss_cons (ps_if (pt_not (pt_val (pe_cal C_is_whole (hr.mono (by decide)) (pa_cons (pv 4) (pa_cons pe_int (pa_cons (pe_gl T.c_MOST) pa_nil))))))
          (pss_one (ps_raiseErr (k := 1) (okV := fun _ => True) rfl T.e_BadCustoms (fun _ _ _ _ => trivial) T.m_BadCustoms (hr.mono (by decide)) (takes_of rfl rfl rfl rfl) (by exact (pa_cons pe_str pa_nil)))) pss_nil)
        (pss_cons (ps_fld (pv 0) (pv 1) rfl)
        (pss_cons (ps_fld (pv 0) (pv 2) rfl)
        (pss_cons (ps_fld (pv 0) (pv 3) rfl)
        (pss_one (ps_fld (pv 0) (pv 4) rfl))))))))), ?_⟩
    have bad : ∀ s (H' : Hp), cuWord a b c d = some s → H' = H → ∀ e, H' e = none → E (.ref (cl "BadCustoms")) (some e) (upd H' e (.xd (List.zip ["what"] [V.str s]))) := fun s H' q1 q2 e he => by subst q2; exact ke s q1 e he
    refine ⟨_, rfl, _, _, _, _, rfl, d1, _, rfl, ?_⟩
    refine ite2 (fun h => ?_) (fun h => ?_)
    · have g1 : isW 1 1000 a = false := by simpa using h
      exact ⟨rfl, trivial, bad _ _ (if_pos g1) rfl⟩
    have g1 : ¬ isW 1 1000 a = false := by simpa using h
    refine ⟨_, rfl, _, _, _, _, rfl, d2, _, rfl, ?_⟩
    refine ite2 (fun h => ?_) (fun h => ?_)
    · have g2 : isW 0 1000 b = false := by simpa using h
      exact ⟨rfl, trivial, bad _ _ (by unfold cuWord; rw [if_neg g1, if_pos g2]) rfl⟩
    have g2 : ¬ isW 0 1000 b = false := by simpa using h
    refine ⟨_, rfl, _, _, _, _, rfl, d3, _, rfl, ?_⟩
    refine ite2 (fun h => ?_) (fun h => ?_)
    · have g3 : isW 0 1000 c = false := by simpa using h
      exact ⟨rfl, trivial, bad _ _ (by unfold cuWord; rw [if_neg g1, if_neg g2, if_pos g3]) rfl⟩
    have g3 : ¬ isW 0 1000 c = false := by simpa using h
    refine ⟨_, rfl, _, _, _, _, rfl, d4, _, rfl, ?_⟩
    refine ite2 (fun h => ?_) (fun h => ?_)
    · have g4 : isW 0 1000000 d = false := by simpa using h
      exact ⟨rfl, trivial, bad _ _ (by unfold cuWord; rw [if_neg g1, if_neg g2, if_neg g3, if_pos g4]) rfl⟩
    have g4 : ¬ isW 0 1000000 d = false := by simpa using h
    refine ⟨_, rfl, _, rfl, p, _, dx, _, rfl, hp, T.cl_Customs, T.na_Customs _ (by decide), (by show 0 < 1000; decide), ?_⟩
    refine ⟨_, rfl, _, rfl, p, _, dx, _, rfl, upd_same, T.cl_Customs, T.na_Customs _ (by decide), (by show 1 < 1000; decide), ?_⟩
    refine ⟨_, rfl, _, rfl, p, _, dx, _, rfl, upd_same, T.cl_Customs, T.na_Customs _ (by decide), (by show 2 < 1000; decide), ?_⟩
    refine ⟨_, rfl, _, rfl, p, _, dx, _, rfl, upd_same, T.cl_Customs, T.na_Customs _ (by decide), (by show 3 < 1000; decide), ?_⟩
    have q := kn (by unfold cuWord; rw [if_neg g1, if_neg g2, if_neg g3, if_neg g4])
    rw [upd_upd, upd_upd, upd_upd]
    exact q
/-- customs stand at p -/
def CuAt (C : Addr) (H : Hp) (p : Addr) (a b c d : V) : Prop := ∃ dx, H p = some (.ins C dx (cuF a b c d))
/-- as_tuple: a new tuple -/
def spTup (C : Addr) : Sp := fun vs H Q _ => ∃ (p : Addr) (a b c d : V), vs = [.ref p] ∧ CuAt C H p a b c d ∧ ∀ t, H t = none → Q (.ref t) (upd H t (.tup [a, b, c, d]))
theorem ok_as_tuple {f : Addr} {fd : FuncData} (F : Fun K "as_tuple" "Customs.as_tuple" s_Customs_as_tuple f fd) (T : Txt P w K mg cl) : FnOk P w K mg base CX0 1 f fd ["self"] (spTup (cl "Customs")) := by
  refine F.ok sc_Customs_as_tuple (fun vs H Q E h => ?_) (fun cdv A outer s H vs Q E hr h => ?_)
  · obtain ⟨p, a, b, c, d, rfl, _⟩ := h
    rfl
  · obtain ⟨p, a, b, c, d, rfl, ⟨dx, hp⟩, k⟩ := h
    refine ⟨_, (pss_one (ps_ret (pe_tup (pa_cons (pe_fld (pv 0) rfl) (pa_cons (pe_fld (pv 0) rfl) (pa_cons (pe_fld (pv 0) rfl) (pa_cons (pe_fld (pv 0) rfl) pa_nil))))))), ?_⟩
    refine ⟨_, rfl, p, _, dx, _, _, rfl, hp, T.cl_Customs, T.na_Customs _ (by decide), rfl, ?_⟩
    refine ⟨_, rfl, p, _, dx, _, _, rfl, hp, T.cl_Customs, T.na_Customs _ (by decide), rfl, ?_⟩
    refine ⟨_, rfl, p, _, dx, _, _, rfl, hp, T.cl_Customs, T.na_Customs _ (by decide), rfl, ?_⟩
    refine ⟨_, rfl, p, _, dx, _, _, rfl, hp, T.cl_Customs, T.na_Customs _ (by decide), rfl, ?_⟩
    exact ⟨by show 4 ≤ sizeLine; decide, k⟩
theorem cal_as_tuple (T : Txt P w K mg cl) : CalM P w K mg base CX0 1 (cl "Customs") "as_tuple" ["self"] (spTup (cl "Customs")) := by
  obtain ⟨f, fd, F, m⟩ := T.d_as_tuple
  exact ⟨f, fd, ok_as_tuple F T, m, F.binds fun _ _ _ _ _ _ us hl => match us, hl with | [_], _ => rfl⟩
/-- ==: with other customs of whole numbers, or with a plain value -/
def spEq (K : PySem.W.Frag) (C : Addr) : Sp := fun vs H Q _ => ∃ (p : Addr) (a b c d : Int) (o : V), vs = [.ref p, o] ∧ CuAt C H p (.int a) (.int b) (.int c) (.int d) ∧
  ((∃ q a' b' c' d', o = .ref q ∧ CuAt C H q (.int a') (.int b') (.int c') (.int d') ∧ ∀ H', Same H H' → Q (.bl (decide ([a, b, c, d] = [a', b', c', d']))) H') ∨ ((∃ n, Dm K H o n) ∧ Q (.bl false) H))
theorem ok_eq {f : Addr} {fd : FuncData} (F : Fun K "__eq__" "Customs.__eq__" s_Customs_eq f fd) (T : Txt P w K mg cl) : FnOk P w K mg base CX0 2 f fd ["self", "other"] (spEq K (cl "Customs")) := by
  refine F.ok sc_Customs_eq (fun vs H Q E h => ?_) (fun cdv A outer s H vs Q E hr h => ?_)
  · obtain ⟨p, a, b, c, d, o, rfl, _⟩ := h
    rfl
  · obtain ⟨p, a, b, c, d, o, rfl, hp, h⟩ := h
    have hu := hu_of hr
    have C_Customs_as_tuple : CalM P w K mg base CX0 1 (cl "Customs") "as_tuple" _ (spTup (cl "Customs")) := cal_as_tuple T
    refine ⟨_, (pss_one (ps_ret (pe_and (pe_callB call_isi (by rfl) T.n_isinstance (by decide +kernel) (pa_cons (pv 1) (pa_cons (pe_cls T.m_Customs) pa_nil))) (pe_one (pe_cmpR (op_eqD hr.units) (pe_mth0 T.cl_Customs C_Customs_as_tuple (hr.mono (by decide)) (pv 0)) (pe_mth0 T.cl_Customs C_Customs_as_tuple (hr.mono (by decide)) (pv 1)) (nomark _)))))), ?_⟩
    rcases h with ⟨q, a', b', c', d', rfl, hq, k⟩ | ⟨⟨n, hd⟩, k⟩
    · obtain ⟨dx, hp⟩ := hp
      obtain ⟨dy, hq⟩ := hq
      refine ⟨_, rfl, _, _, _, _, _, rfl, .own (cl "Customs"), .base (.ins hq T.cl_Customs T.y_Customs T.z1 T.z2 T.z3_Customs), T.k_Cu_Cu, _, rfl, iteT ?_⟩
      refine ⟨_, rfl, p, dx, _, rfl, hp, rfl, p, _, _, _, _, rfl, ⟨dx, hp⟩, fun t ht => ?_⟩
      have hq' : ∀ o, (upd H t o) q = some (.ins (cl "Customs") dy (cuF (.int a') (.int b') (.int c') (.int d'))) := fun o => by rw [upd_ne (ne_of_none hq ht)]; exact hq
      refine ⟨_, rfl, q, dy, _, rfl, hq' _, rfl, q, _, _, _, _, rfl, ⟨dy, hq' _⟩, fun u hu' => ?_⟩
      have ntu : t ≠ u := ne_of_none upd_same hu'
      refine eqD_tup (ns := [a, b, c, d]) (ms := [a', b', c', d']) (SqT.of (by rw [upd_ne ntu]; exact upd_same)) (SqT.of upd_same) ?_
      exact k _ fun x o e => by rw [upd_ne (ne_of_none (show (upd H t _) x = some o by rw [upd_ne (ne_of_none e ht)]; exact e) hu'), upd_ne (ne_of_none e ht)]; exact e
    · have kt : ∀ m, Dm K H o m → m ∈ ["NoneType", "bool", "int", "str", "list", "tuple"] := fun m x => by cases x <;> decide
      exact ⟨_, rfl, _, _, _, _, _, rfl, .own (cl "Customs"), hd.ty, T.k_in_Cu n (kt n hd), _, rfl, iteF k⟩
theorem cal_eq (T : Txt P w K mg cl) : CalM P w K mg base CX0 2 (cl "Customs") "__eq__" ["self", "other"] (spEq K (cl "Customs")) := by
  obtain ⟨f, fd, F, m⟩ := T.d_eq
  exact ⟨f, fd, ok_eq F T, m, F.binds fun _ _ _ _ _ _ us hl => match us, hl with | [_, _], _ => rfl⟩
end
end My
set_option Elab.async false
set_option linter.all false
set_option maxRecDepth 100000
set_option maxHeartbeats 1000000
namespace My
open PySem L2 Dw
open C8 (pss_cut tCut)
section
variable {P : Program} {w : World} {K : PySem.W.Frag} {mg : Str → Option Value} {base : Heap} {cl : String → Addr}
theorem ok_next {f : Addr} {fd : FuncData} (F : Fun K "_law_next" "_law_next" s_next f fd) (T : Txt P w K mg cl) : FnOk P w K mg base CX0 1 f fd ["_law_draws", "_law_many"] spNext := by
  refine F.ok sc_next (fun vs H Q E h => ?_) (fun cdv A outer s H vs Q E hr h => ?_)
  · obtain ⟨d, c, many, rfl, _⟩ := h
    rfl
  · obtain ⟨d, c, many, rfl, D, hm0, hm1, k⟩ := h
    have hu := hu_of hr
    refine ⟨_, (pss_cons (ps_dput hu (pv 0) pe_str (pe_op op_add (pe_dget hu (pv 0) pe_str (fun _ _ => rfl)) pe_int) rfl)
        (pss_cut (ps_if (PW.pt (pw_and (pt_cmpR op_eq (pe_dget hu (pv 0) pe_str (fun _ _ => rfl)) pe_int (nomark _)) (pw_and1 (pt_cmpR op_lt (pe_dget hu (pv 0) pe_str (fun _ _ => rfl)) (pe_callB call_len_seq (by rfl) T.n_len PySem.boot_len (pa_cons (pe_dget hu (pv 0) pe_str (fun _ _ => rfl)) pa_nil)) (nomark _)))))
          (pss_cons (ps_set (i := 2) sc_next.nd rfl (Or.inl rfl) (pe_callTy call_int1 (by rfl) T.n_int (by decide +kernel) (pa_cons (pe_ix ix_list (pe_dget hu (pv 0) pe_str (fun _ _ => rfl)) (pe_dget hu (pv 0) pe_str (fun _ _ => rfl)) (fun _ _ => rfl)) pa_nil)))
            (pss_cons (ps_dput hu (pv 0) pe_str (pe_op op_add (pe_dget hu (pv 0) pe_str (fun _ _ => rfl)) pe_int) rfl)
            (pss_one (ps_if (pt_cmpR op_ge (pv 2) (pe_op op_pow pe_int pe_int) (nomark _))
              (pss_cons (ps_dput hu (pv 0) pe_str (pe_op op_sub (pv 2) (pe_op op_pow pe_int pe_int)) rfl)
                (pss_one (ps_dput hu (pv 0) pe_str pe_int rfl))) (pss_one (ps_dput hu (pv 0) pe_str (pe_op op_mod (pe_callTy call_int1 (by rfl) T.n_int (by decide +kernel) (pa_cons (pe_op op_add (pe_op op_add (pe_op op_mul (pe_dget hu (pv 0) pe_str (fun _ _ => rfl)) pe_int) (pe_op op_mod (pv 2) pe_int)) pe_int) pa_nil)) pe_int) rfl)))))) pss_nil)
        (pss_cons (ps_if (pt_cmpR op_gt (pe_dget hu (pv 0) pe_str (fun _ _ => rfl)) pe_int (nomark _))
          (pss_cons (ps_dput hu (pv 0) pe_str (pe_op op_sub (pe_dget hu (pv 0) pe_str (fun _ _ => rfl)) pe_int) rfl)
            (pss_cons (ps_set (i := 3) sc_next.nd rfl (Or.inl rfl) (pe_op op_mod (pe_callTy call_int1 (by rfl) T.n_int (by decide +kernel) (pa_cons (pe_dget hu (pv 0) pe_str (fun _ _ => rfl)) pa_nil)) (pv 1)))
            (pss_cons (ps_dput hu (pv 0) pe_str (pe_op op_fdiv (pe_dget hu (pv 0) pe_str (fun _ _ => rfl)) (pv 1)) rfl)
            (pss_one (ps_ret (pv 3)))))) pss_nil)
        (pss_cons (ps_dput hu (pv 0) pe_str (pe_op op_mod (pe_callTy call_int1 (by rfl) T.n_int (by decide +kernel) (pa_cons (pe_op op_add (pe_op op_add (pe_op op_mul (pe_dget hu (pv 0) pe_str (fun _ _ => rfl)) pe_int) (pe_op op_mul pe_int (pe_dget hu (pv 0) pe_str (fun _ _ => rfl)))) pe_int) pa_nil)) pe_int) rfl)
        (pss_one (ps_ret (pe_op op_mod (pe_op op_fdiv (pe_op op_mod (pe_callTy call_int1 (by rfl) T.n_int (by decide +kernel) (pa_cons (pe_op op_mul (pe_dget hu (pv 0) pe_str (fun _ _ => rfl)) pe_int) pa_nil)) pe_int) pe_int) (pv 1)))))))), ?_⟩
    obtain ⟨ndc, ns, nx, dg, rs, sd, tn, hd, hc, hl, hn⟩ := D
    -- the count of the turns
    refine ⟨_, rfl, _, _, rfl, dgs hd g_turn, _, _, rfl, rfl, _, rfl, _, _, rfl, dps hd p_turn dr_len, ?_⟩
    generalize htn : tn + 1 = tn1
    have hc1 : ∀ o, (upd H d o) c = some (.lst (ns.map V.int)) := fun o => by rw [upd_ne (Ne.symm ndc)]; exact hc
    refine ⟨fun σ' H' => ∃ (nx dg rs sd : Int) (v : Option V), 0 ≤ nx ∧ σ' = [some (.ref d), some (.int many), v, none] ∧ H' = upd H d (.dK (drK c nx dg rs sd tn1)), ?_, ?_⟩
    · refine ⟨_, rfl, _, _, rfl, dgs upd_same g_digits, rfl, _, rfl, ?_⟩
      refine ite2 (fun h0 => ?_) (fun h0 => ?_)
      · refine ⟨_, rfl, _, _, rfl, dgs upd_same g_next, _, rfl, _, _, rfl, dgs upd_same g_cells, _, _, rfl, .inl (SqL.of (hc1 _)), _, _, rfl, rfl, _, rfl, ?_⟩
        refine ite2 (fun h1 => ?_) (fun h1 => ?_)
        · have h1 : nx < (ns.length : Int) := by simpa using h1
          obtain ⟨z, hz⟩ : ∃ z, ns[nx.toNat]? = some z := ⟨_, List.getElem?_eq_getElem (by omega)⟩
          have hz2 : (ns.map V.int)[nx.toNat]? = some (.int z) := by rw [List.getElem?_map, hz]; rfl
          refine ⟨_, rfl, _, _, rfl, dgs upd_same g_cells, _, rfl, _, _, rfl, dgs upd_same g_next, _, _, _, _, rfl, rfl, SqL.of (hc1 _), at_of (by omega) hz2, .inl ⟨_, rfl, ?_⟩⟩
          refine ⟨_, rfl, _, _, rfl, dgs upd_same g_next, _, _, rfl, rfl, _, rfl, _, _, rfl, dpu p_next dr_len, ?_⟩
          refine ⟨_, rfl, _, _, rfl, rfl, ⟨by decide, by decide, by decide⟩, _, _, rfl, rfl, _, rfl, ?_⟩
          refine ite2 (fun h2 => ?_) (fun h2 => ?_)
          · refine ⟨_, rfl, _, _, rfl, rfl, ⟨by decide, by decide, by decide⟩, _, _, rfl, rfl, _, rfl, _, _, rfl, dpu p_rest dr_len, ?_⟩
            exact ⟨_, rfl, _, _, rfl, dpu p_digits dr_len, _, _, _, _, _, by omega, rfl, rfl⟩
          · refine ⟨_, rfl, _, _, rfl, dgs upd_same g_seed, _, _, rfl, rfl, .inr ⟨by decide, by decide⟩, _, rfl, _, _, rfl, rfl, (by show (0 : Int) < _; decide), _, _, rfl, rfl, _, _, rfl, rfl, .inl ⟨_, rfl, _, _, rfl, rfl, (by show (0 : Int) < _; decide), ?_⟩⟩
            exact ⟨_, rfl, _, _, rfl, dpu p_seed dr_len, _, _, _, _, _, by omega, rfl, rfl⟩
        · exact ⟨nx, dg, rs, sd, none, hn, rfl, rfl⟩
      · exact iteF ⟨nx, dg, rs, sd, none, hn, rfl, rfl⟩
    · rintro σ' H' ⟨nx, dg, rs, sd, v2, hn, rfl, rfl⟩
      have fin : ∀ kvs, But d H (upd H d kvs) := fun kvs => But.upd d H kvs
      refine ⟨_, rfl, _, _, rfl, dgs upd_same g_digits, _, _, rfl, rfl, _, rfl, ?_⟩
      refine ite2 (fun h0 => ?_) (fun h0 => ?_)
      · refine ⟨_, rfl, _, _, rfl, dgs upd_same g_digits, _, _, rfl, rfl, _, rfl, _, _, rfl, dpu p_digits dr_len, ?_⟩
        refine ⟨_, rfl, _, _, rfl, dgs upd_same g_rest, .inl ⟨_, rfl, _, rfl, _, _, rfl, rfl, by show 0 < many; omega, ?_⟩⟩
        refine ⟨_, rfl, _, _, rfl, dgs upd_same g_rest, _, rfl, _, _, rfl, rfl, ⟨by omega, by omega⟩, _, rfl, _, _, rfl, dpu p_rest dr_len, ?_⟩
        exact ⟨_, rfl, k _ _ (Int.emod_nonneg _ (by omega)) (Int.emod_lt_of_pos _ (by omega)) ⟨ndc, ns, _, _, _, _, _, upd_same, hc1 _, hl, hn⟩ (fin _)⟩
      · refine ⟨_, rfl, _, _, rfl, dgs upd_same g_seed, _, _, rfl, rfl, .inr ⟨by decide, by decide⟩, _, rfl, _, _, rfl, dgs upd_same g_turn, _, _, rfl, rfl, .inl ⟨by decide, by decide⟩, _, _, rfl, rfl, _, _, rfl, rfl, .inl ⟨_, rfl, _, _, rfl, rfl, (by show (0 : Int) < _; decide), ?_⟩⟩
        refine ⟨_, rfl, _, _, rfl, dpu p_seed dr_len, ?_⟩
        refine ⟨_, rfl, _, _, rfl, dgs upd_same g_seed, _, _, rfl, rfl, .inr ⟨by decide, by decide⟩, .inl ⟨_, rfl, _, _, rfl, rfl, (by show (0 : Int) < _; decide), _, _, rfl, rfl, ⟨by decide, by decide⟩, _, rfl, _, _, rfl, rfl, by show 0 < many; omega, ?_⟩⟩
        exact k _ _ (Int.emod_nonneg _ (by omega)) (Int.emod_lt_of_pos _ (by omega)) ⟨ndc, ns, _, _, _, _, _, upd_same, hc1 _, hl, hn⟩ (fin _)
theorem cal_next (T : Txt P w K mg cl) : Cal P w K mg base CX0 1 "_law_next" ["_law_draws", "_law_many"] spNext := by
  obtain ⟨f, fd, F, m⟩ := T.d_next
  exact ⟨f, fd, ok_next F T, m, F.kp, F.binds fun _ _ _ _ _ _ us hl => match us, hl with | [_, _], _ => rfl⟩
theorem ok_digits {f : Addr} {fd : FuncData} (F : Fun K "_law_digits" "_law_digits" s_digits f fd) (T : Txt P w K mg cl) : FnOk P w K mg base CX0 1 f fd ["_law_script", "_law_many"] (spDigits K) := by
  refine F.ok sc_digits (fun vs H Q E h => ?_) (fun cdv A outer s H vs Q E hr h => ?_)
  · obtain ⟨a, ns, many, rfl, _⟩ := h
    rfl
  · obtain ⟨a, ns, many, rfl, hS, hl, k⟩ := h
    refine ⟨_, (pss_cons (ps_set (i := 2) sc_digits.nd rfl (Or.inl rfl) pe_int)
        (pss_cons (ps_for PassesOwn.never rfl (pi_list (pv 0)) (pg_name (i := 3) sc_digits.nd rfl (Or.inl rfl))
          (pss_one (ps_set (i := 2) sc_digits.nd rfl (Or.inl rfl) (pe_op op_mod (pe_callTy call_int1 (by rfl) T.n_int (by decide +kernel) (pa_cons (pe_op op_add (pe_op op_add (pe_op op_mul (pv 2) pe_int) (pe_op op_mod (pe_callTy call_int1 (by rfl) T.n_int (by decide +kernel) (pa_cons (pv 3) pa_nil)) pe_int)) pe_int) pa_nil)) pe_int))))
        (pss_one (ps_ret (pe_disp (pps_cons pe_str (pe_callTy call_list_of (by rfl) T.n_list (by decide +kernel) (pa_cons (pv 0) pa_nil)) (pps_cons pe_str pe_int (pps_cons pe_str pe_int (pps_cons pe_str pe_int (pps_cons pe_str (pv 2) (pps_cons pe_str pe_int pps_nil)))))) (by rfl) (by rfl) (fun z => by cases z) (by decide)))))), ?_⟩
    refine ⟨_, rfl, a, rfl, ⟨_, hS⟩, for_list (K := K) (a := a) (xs := ns.map V.int) (fun i σ H' => H' = H ∧ ∃ (sd : Int) (v : Option V), σ = [some (.ref a), some many, some (.int sd), v]) ⟨rfl, _, _, rfl⟩ (fun i σ H' _ q => by rw [q.1]; exact hS) ?_ ?_⟩
    · rintro i y σ H' hi ⟨rfl, sd, v, rfl⟩
      obtain ⟨z, rfl⟩ : ∃ z, y = V.int z := by
        rw [List.getElem?_map] at hi
        cases e : ns[i]? with
        | none => rw [e] at hi; cases hi
        | some z => rw [e] at hi; exact ⟨z, (Option.some.inj hi).symm⟩
      refine ⟨_, rfl, _, _, rfl, rfl, .inr ⟨by decide, by decide⟩, _, rfl, .inl ⟨_, rfl, _, _, rfl, rfl, (by show (0 : Int) < _; decide), _, _, rfl, rfl, _, _, rfl, rfl, .inl ⟨_, rfl, _, _, rfl, rfl, (by show (0 : Int) < _; decide), ?_⟩⟩⟩
      exact ⟨rfl, _, _, rfl⟩
    · rintro σ H' ⟨rfl, sd, v, rfl⟩
      refine fun p hp => ⟨_, rfl, a, _, rfl, .inl ((Same.seq (fun b o e => by rw [upd_ne (ne_of_none e hp)]; exact e) hS)), fun l hl' => ?_⟩
      have npl : p ≠ l := ne_of_none upd_same hl'
      have hl0 : H' l = none := by
        have q := hl'
        rw [upd_ne (Ne.symm npl)] at q
        exact q
      have fin := k p l (upd (upd (upd H' p (.dK [])) l (.lst (ns.map V.int))) p (.dK (drK l 0 0 0 sd 0))) hp hl0 ⟨npl, ns, 0, 0, 0, sd, 0, upd_same, by rw [upd_ne (Ne.symm npl), upd_same], hl, Int.le_refl _⟩
        (fun b o e => by rw [upd_ne (ne_of_none e hp), upd_ne (ne_of_none e hl0), upd_ne (ne_of_none e hp)]; exact e)
      exact ⟨_, rfl, by rw [upd_ne npl]; exact upd_same, drK l 0 0 0 sd 0, rfl, by show 6 ≤ 15; decide, fin⟩
theorem cal_digits (T : Txt P w K mg cl) : Cal P w K mg base CX0 1 "_law_digits" ["_law_script", "_law_many"] (spDigits K) := by
  obtain ⟨f, fd, F, m⟩ := T.d_digits
  exact ⟨f, fd, ok_digits F T, m, F.kp, F.binds fun _ _ _ _ _ _ us hl => match us, hl with | [_, _], _ => rfl⟩
theorem ok_far {f : Addr} {fd : FuncData} (F : Fun K "_law_far" "_law_far" s_far f fd) (T : Txt P w K mg cl) : FnOk P w K mg base CX0 2 f fd ["_law_draws", "_law_many"] spNext := by
  refine F.ok sc_far (fun vs H Q E h => ?_) (fun cdv A outer s H vs Q E hr h => ?_)
  · obtain ⟨d, c, many, rfl, _⟩ := h
    rfl
  · obtain ⟨d, c, many, rfl, D, h0, h1, k⟩ := h
    have C_next : Cal P w K mg base CX0 1 "_law_next" _ spNext := cal_next T
    refine ⟨_, (pss_cons (ps_set (i := 2) sc_far.nd rfl (Or.inl rfl) pe_int)
        (pss_cons (ps_for PassesOwn.never rfl (pi_range1 rfl T.n_range (pa_cons pe_int pa_nil)) (pg_name (i := 3) sc_far.nd rfl (Or.inl rfl))
          (pss_one (ps_set (i := 2) sc_far.nd rfl (Or.inl rfl) (pe_op op_add (pe_op op_mul (pv 2) pe_int) (pe_cal C_next (hr.mono (by decide)) (pa_cons (pv 0) (pa_cons pe_int pa_nil)))))))
        (pss_one (ps_ret (pe_op op_mod (pe_callTy call_int1 (by rfl) T.n_int (by decide +kernel) (pa_cons (pv 2) pa_nil)) (pv 1)))))), ?_⟩
    refine ⟨_, rfl, by decide, by decide, for_range (n := 4) (fun i σ H' => ∃ (wh : Int) (v : Option V), σ = [some (.ref d), some (.int many), some (.int wh), v] ∧ Dr H' d c ∧ But d H H') ⟨0, _, rfl, D, But.refl d H⟩ ?_ ?_⟩
    · rintro i σ H' hi ⟨wh, v, rfl, D', B⟩
      refine ⟨_, rfl, _, _, rfl, rfl, .inr ⟨by decide, by decide⟩, _, rfl, d, c, _, rfl, D', by decide, by decide, fun j H2 _ _ D2 B2 => ⟨_, _, rfl, rfl, ?_⟩⟩
      exact ⟨_, _, rfl, D2, B.trans B2⟩
    · rintro σ H' ⟨wh, v, rfl, D', B⟩
      exact ⟨_, rfl, .inl ⟨_, rfl, _, rfl, _, _, rfl, rfl, (by show 0 < many; omega), k _ _ (Int.emod_nonneg _ (by omega)) (Int.emod_lt_of_pos _ (by omega)) D' B⟩⟩
theorem cal_far (T : Txt P w K mg cl) : Cal P w K mg base CX0 2 "_law_far" ["_law_draws", "_law_many"] spNext := by
  obtain ⟨f, fd, F, m⟩ := T.d_far
  exact ⟨f, fd, ok_far F T, m, F.kp, F.binds fun _ _ _ _ _ _ us hl => match us, hl with | [_, _], _ => rfl⟩
end
end My
set_option Elab.async false
set_option linter.all false
set_option maxRecDepth 100000
set_option maxHeartbeats 1000000
namespace My
open PySem L2 Dw
open C8 (pss_cut tCut)
/-- a row's data: a list or tuple of plain things, or a text -/
inductive Rwd where
  | sq (xs : List V)
  | tx (x : Str)
/-- plain, its text short -/
def Sc : V → Prop
  | .non => True
  | .bl _ => True
  | .int _ => True
  | .str x => x.length ≤ 20 ∧ PyData.strOk x = true ∧ x ≠ "nobodyis"
  | _ => False
theorem Sc.ok {v : V} (h : Sc v) : okV v = true := by
  cases v with
  | str x => exact h.2.1
  | _ => first | rfl | exact h.elim
theorem Sc.dm {K : PySem.W.Frag} {H : Hp} {v : V} (h : Sc v) : ∃ n, Dm K H v n ∧ n ≠ "list" ∧ n ≠ "tuple" := by
  cases v with
  | non => exact ⟨_, .non, by decide, by decide⟩
  | bl b => exact ⟨_, .bl b, by decide, by decide⟩
  | int i => exact ⟨_, .int i, by decide, by decide⟩
  | str x => exact ⟨_, .str x (Nat.le_of_lt (small1000 (Nat.le_trans h.1 (by decide)))), by decide, by decide⟩
  | _ => exact h.elim
def Rok : Rwd → Prop
  | .sq xs => xs.length ≤ 5 ∧ ∀ x ∈ xs, Sc x
  | .tx x => x.length ≤ 30
abbrev Bf := List (Str × Int)
def ageOf (bf : Bf) : V → Option Int
  | .str s => bf.lookup s
  | _ => none
def iV : V → Int
  | .int i => i
  | _ => 0
/-- the first word that applies to a row behind rows of these names and ages -/
def rowP (c : Int) (a : V) : Option Int → Option Str
  | none => some "parent"
  | some e => if e - iV a < c then some "young" else none
def rowA (c : Int) (bf : Bf) (a p : V) : Option Str :=
  if isW 0 1000000 a = false then some "age" else if p = .non then none else rowP c a (ageOf bf p)
def rowW (c : Int) (bf : Bf) : Rwd → Option Str
  | .sq [n, a, p] => if isN n = false then some "name" else if (ageOf bf n).isSome = true then some "double" else rowA c bf a p
  | _ => some "row"
def optV : Option Str → V
  | some s => .str s
  | none => .non
/-- names and ages as a dict's entries -/
def bfK (bf : Bf) : List (Key × V) := bf.map fun q => (.inr q.1, .int q.2)
theorem valV_bf (s : Str) : ∀ bf : Bf, valV (bfK bf) (.inr s) = (bf.lookup s).map V.int
  | [] => rfl
  | (t, a) :: bf => by
    have ih := valV_bf s bf
    by_cases h : t = s
    · subst h
      rw [show valV (bfK ((t, a) :: bf)) (.inr t) = some (.int a) from valV_pos (p := ((.inr t : Key), V.int a)) rfl, List.lookup_cons_self]
      rfl
    · rw [show valV (bfK ((t, a) :: bf)) (.inr s) = valV (bfK bf) (.inr s) from valV_neg (p := ((.inr t : Key), V.int a)) (fun e => h (Sum.inr.inj e)), ih, List.lookup_cons]
      rw [show (s == t) = false from beq_eq_false_iff_ne.mpr (Ne.symm h)]
theorem isN_str {v : V} (h : isN v = true) : ∃ s, v = .str s := by
  cases v with
  | str s => exact ⟨s, rfl⟩
  | _ => cases h
theorem isW_int {lo hi : Int} {v : V} (h : isW lo hi v = true) : ∃ i, v = .int i ∧ lo ≤ i ∧ i ≤ hi := by
  cases v with
  | int i =>
    obtain ⟨h1, h2⟩ := Bool.and_eq_true_iff.mp (show (decide (lo ≤ i) && decide (i ≤ hi)) = true from h)
    exact ⟨i, rfl, of_decide_eq_true h1, of_decide_eq_true h2⟩
  | _ => cases h
theorem look_mem {s : Str} {i : Int} : ∀ {bf : Bf}, bf.lookup s = some i → ∃ q ∈ bf, q.1 = s
  | [], h => by cases h
  | (t, a) :: bf, h => by
    rw [List.lookup_cons] at h
    split at h
    · rename_i e
      exact ⟨_, List.mem_cons_self, (beq_iff_eq.mp e).symm⟩
    · obtain ⟨q, h1, h2⟩ := look_mem h
      exact ⟨q, List.mem_cons_of_mem _ h1, h2⟩
/-- at v a list or a tuple of these, or the text -/
def RowAt2 (H : Hp) (v : V) : Rwd → Prop
  | .sq xs => ∃ b, v = .ref b ∧ (H b = some (.lst xs) ∨ H b = some (.tup xs))
  | .tx x => v = .str x
theorem RowAt2.same {H H' : Hp} {v : V} {r : Rwd} (h : RowAt2 H v r) (S : Same H H') : RowAt2 H' v r := by
  cases r with
  | sq xs =>
    obtain ⟨b, e, hb⟩ := h
    exact ⟨b, e, hb.imp (S _ _) (S _ _)⟩
  | tx x => exact h
def isSq : Rwd → Bool
  | .sq _ => true
  | .tx _ => false
theorem isLT {K : PySem.W.Frag} {H : Hp} {v : V} {n : String} (dm : Dm K H v n) : PySem.W.kitAny K (.type n) [.type "list", .type "tuple"] = some (decide (n = "list") || decide (n = "tuple")) := by
  cases dm <;> first | (exact kitAny_cons (b := false) (kit_ty (by decide +kernel)) (fun _ => kitAny_cons (b := false) (kit_ty (by decide +kernel)) (fun _ => kitAny_nil) (fun h => nomatch h)) (fun h => nomatch h)) | (exact kitAny_cons (b := true) (kit_ty (by decide +kernel)) (fun h => nomatch h) (fun _ => rfl)) | (exact kitAny_cons (b := false) (kit_ty (by decide +kernel)) (fun _ => kitAny_cons (b := true) (kit_ty (by decide +kernel)) (fun h => nomatch h) (fun _ => rfl)) (fun h => nomatch h))
theorem isLT_row {K : PySem.W.Frag} {H : Hp} {v : V} {r : Rwd} (h : RowAt2 H v r) (ok : Rok r) : ∃ n, Dm K H v n ∧ PySem.W.kitAny K (.type n) [.type "list", .type "tuple"] = some (isSq r) := by
  cases r with
  | sq xs =>
    obtain ⟨b, rfl, hb | hb⟩ := h
    · exact ⟨_, .lst hb, isLT (K := K) (H := H) (.lst hb)⟩
    · exact ⟨_, .tup hb, isLT (K := K) (H := H) (.tup hb)⟩
  | tx x =>
    obtain rfl : v = .str x := h
    have hx := Nat.le_of_lt (small1000 (Nat.le_trans (show x.length ≤ 30 from ok) (by decide)))
    exact ⟨_, .str x hx, isLT (K := K) (H := H) (.str x hx)⟩
theorem gOr {K : PySem.W.Frag} {n : Nat} {t : TGs} {b : Addr} {xs : List V} {σ : St} {H : Hp} {Q : St → Hp → Prop} (hb : H b = some (.lst xs) ∨ H b = some (.tup xs)) (hl : xs.length = n) (k : t xs σ H Q) : gTup K n t (.ref b) σ H Q ∨ gLst K n t (.ref b) σ H Q :=
  hb.elim (fun h => .inr ⟨b, xs, rfl, SqL.of h, hl, k⟩) fun h => .inl ⟨b, xs, rfl, SqT.of h, hl, k⟩
/-- row_fault -/
def spRF (C : Addr) : Sp := fun vs H Q _ => ∃ (v : V) (cu ad : Addr) (r : Rwd) (c0 : Int) (c1 c2 c3 : V) (bf : Bf), vs = [v, .ref cu, .ref ad] ∧ RowAt2 H v r ∧ Rok r ∧ CuAt C H cu (.int c0) c1 c2 c3 ∧ H ad = some (.dK (bfK bf)) ∧ (∀ q ∈ bf, isN (.str q.1) = true) ∧
  ∀ H', Same H H' → Q (optV (rowW c0 bf r)) H'
section
variable {P : Program} {w : World} {K : PySem.W.Frag} {mg : Str → Option Value} {base : Heap} {cl : String → Addr}
theorem ok_row_fault {f : Addr} {fd : FuncData} (F : Fun K "row_fault" "row_fault" s_row_fault f fd) (T : Txt P w K mg cl) : FnOk P w K mg base CX0 2 f fd ["row", "customs", "ages"] (spRF (cl "Customs")) := by
  refine F.ok sc_row_fault (fun vs H Q E h => ?_) (fun cdv A outer s H vs Q E hr h => ?_)
  · obtain ⟨v, cu, ad, r, c0, c1, c2, c3, bf, rfl, _⟩ := h
    rfl
  · obtain ⟨v, cu, ad, r, c0, c1, c2, c3, bf, rfl, hv, ok, hc, had, hbf, k⟩ := h
    have hu := hu_of hr
    have C_is_whole : Cal P w K mg base CX0 1 "is_whole" _ (spW K) := cal_is_whole T
    have C_is_name : Cal P w K mg base CX0 1 "is_name" _ (spN K) := cal_is_name T
    refine ⟨_, (pss_cons (ps_if (PW.pt (pw_or (pt_not (pt_val (pe_callB call_isiT (by rfl) T.n_isinstance (by decide +kernel) (pa_cons (pv 0) (pa_cons (pe_tup (pa_cons (pe_ty "list" T.n_list) (pa_cons (pe_ty "tuple" T.n_tuple) pa_nil))) pa_nil))))) (pw_or1 (pt_cmpR op_ne (pe_callB call_len_seq (by rfl) T.n_len PySem.boot_len (pa_cons (pv 0) pa_nil)) pe_int (nomark _)))))
          (pss_one (ps_ret pe_str)) pss_nil)
        (pss_cons (ps_asg (pv 0) (pg_or (pg_tup rfl (pgs_cons (pg_name (i := 3) sc_row_fault.nd rfl (Or.inl rfl)) (pgs_cons (pg_name (i := 4) sc_row_fault.nd rfl (Or.inl rfl)) (pgs_cons (pg_name (i := 5) sc_row_fault.nd rfl (Or.inl rfl)) pgs_nil)))) (pg_lst rfl (pgs_cons (pg_name (i := 3) sc_row_fault.nd rfl (Or.inl rfl)) (pgs_cons (pg_name (i := 4) sc_row_fault.nd rfl (Or.inl rfl)) (pgs_cons (pg_name (i := 5) sc_row_fault.nd rfl (Or.inl rfl)) pgs_nil))))))
        (pss_cons (ps_if (pt_not (pt_val (pe_cal C_is_name (hr.mono (by decide)) (pa_cons (pv 3) pa_nil))))
          (pss_one (ps_ret pe_str)) pss_nil)
        (pss_cons (ps_if (pt_cmp (pc_din hu (pv 3) (pv 2)))
          (pss_one (ps_ret pe_str)) pss_nil)
        (pss_cons (ps_if (pt_not (pt_val (pe_cal C_is_whole (hr.mono (by decide)) (pa_cons (pv 4) (pa_cons pe_int (pa_cons (pe_gl T.c_MOST) pa_nil))))))
          (pss_one (ps_ret pe_str)) pss_nil)
        (pss_cons (ps_if (pt_cmpR op_isN (pv 5) pe_non (nomark _))
          (pss_one (ps_ret pe_non)) pss_nil)
        (pss_cons (ps_if (PW.pt (pw_or (pt_not (pt_val (pe_cal C_is_name (hr.mono (by decide)) (pa_cons (pv 5) pa_nil)))) (pw_or1 (pt_cmp (pc_dnotin hu (pv 5) (pv 2))))))
          (pss_one (ps_ret pe_str)) pss_nil)
        (pss_cons (ps_if (pt_cmpR op_lt (pe_op op_sub (pe_dget hu (pv 2) (pv 5) (fun _ _ => rfl)) (pv 4)) (pe_fld (pv 1) rfl) (nomark _))
          (pss_one (ps_ret pe_str)) pss_nil)
        (pss_one (ps_ret pe_non)))))))))), ?_⟩
    refine ⟨_, rfl, by show 2 ≤ sizeLine; decide, fun tp htp => ?_⟩
    have S0 := sNew (o := .tup [.ty "list", .ty "tuple"]) htp
    obtain ⟨nv, dv, ka⟩ := isLT_row (K := K) (hv.same S0) ok
    refine ⟨v, tp, _, .type nv, _, _, rfl, upd_same, .cons (.ty "list") (.cons (.ty "tuple") .nil), dv.ty, ka, _, rfl, ?_⟩
    cases r with
    | tx x => exact iteT (iteT (k _ S0))
    | sq xs =>
      refine iteF ?_
      obtain ⟨b, rfl, hb⟩ := hv.same S0
      refine ⟨_, rfl, b, xs, rfl, hb.imp SqL.of SqT.of, rfl, _, rfl, ?_⟩
      match xs, ok with
      | [n, a, p], ok =>
        refine iteF ?_
        obtain ⟨tn, dn, _⟩ := (ok.2 n (by simp)).dm (K := K) (H := upd H tp (.tup [.ty "list", .ty "tuple"]))
        refine ⟨_, rfl, gOr hb rfl ⟨_, _, rfl, _, _, rfl, _, _, rfl, rfl, ?_⟩⟩
        refine ⟨_, rfl, n, tn, rfl, dn, fun H1 S1 => ⟨_, rfl, ?_⟩⟩
        have S1 := S0.trans S1
        have fin : ∀ H', Same H H' → ∀ o, rowW c0 bf (.sq [n, a, p]) = o → Q (optV o) H' := fun H' S' o e => by rw [← e]; exact k H' S'
        refine ite2 (fun g => ?_) (fun g => ?_)
        · exact fin _ S1 (some "name") (if_pos (by simpa using g))
        have g1 : isN n = true := by simpa using g
        have q1 : ¬ isN n = false := by rw [g1]; decide
        obtain ⟨sn, rfl⟩ := isN_str g1
        refine ⟨_, rfl, _, rfl, ad, _, rfl, DGet.k (k := .inr sn) (S1 _ _ had), _, rfl, ?_⟩
        rw [valV_bf]
        refine ite2 (fun g => ?_) (fun g => ?_)
        · refine fin _ S1 (some "double") ?_
          show (if isN (.str sn) = false then _ else if (ageOf bf (.str sn)).isSome = true then _ else _) = _
          rw [if_neg q1, if_pos (by simpa [ageOf] using g)]
        have q2 : ¬ (ageOf bf (.str sn)).isSome = true := by simpa [ageOf] using g
        obtain ⟨ta, da, _⟩ := (ok.2 a (by simp)).dm (K := K) (H := H1)
        refine ⟨_, rfl, _, _, _, _, rfl, da, _, rfl, ?_⟩
        have w1 : rowW c0 bf (.sq [.str sn, a, p]) = rowA c0 bf a p := by
          show (if isN (.str sn) = false then _ else if (ageOf bf (.str sn)).isSome = true then _ else _) = _
          rw [if_neg q1, if_neg q2]
        refine ite2 (fun g => ?_) (fun g => ?_)
        · exact fin _ S1 (some "age") (by rw [w1]; exact if_pos (by simpa using g))
        have g3 : isW 0 1000000 a = true := by simpa using g
        obtain ⟨ia, rfl, _⟩ := isW_int g3
        rw [show rowA c0 bf (.int ia) p = if p = .non then none else rowP c0 (.int ia) (ageOf bf p) from if_neg (by rw [g3]; decide)] at w1
        refine ⟨_, rfl, rfl, _, rfl, ?_⟩
        refine ite2 (fun g => ?_) (fun g => ?_)
        · exact fin _ S1 none (by rw [w1, if_pos (of_decide_eq_true g)])
        rw [if_neg (fun e => g (decide_eq_true e))] at w1
        obtain ⟨tp', dp, _⟩ := (ok.2 p (by simp)).dm (K := K) (H := H1)
        refine ⟨_, rfl, p, tp', rfl, dp, fun H2 S2 => ⟨_, rfl, ?_⟩⟩
        have S2 := S1.trans S2
        refine ite2 (fun g => ?_) (fun g => ?_)
        · refine iteT (fin _ S2 (some "parent") ?_)
          have g4 : isN p = false := by simpa using g
          rw [w1]
          have e0 : ageOf bf p = none := by
            cases p with
            | str s =>
              cases e : bf.lookup s with
              | none => exact e
              | some i =>
                obtain ⟨q, hq, rfl⟩ := look_mem e
                rw [hbf q hq] at g4
                cases g4
            | _ => rfl
          rw [e0]
          rfl
        have g4 : isN p = true := by simpa using g
        obtain ⟨s, rfl⟩ := isN_str g4
        refine ⟨_, rfl, _, rfl, ad, _, rfl, DGet.k (k := .inr s) (S2 _ _ had), _, rfl, ?_⟩
        rw [valV_bf]
        cases e : bf.lookup s with
        | none =>
          refine iteT (fin _ S2 (some "parent") ?_)
          rw [w1, show ageOf bf (.str s) = none from e]
          rfl
        | some i =>
          refine iteF ?_
          rw [show ageOf bf (.str s) = some i from e] at w1
          obtain ⟨dx, hc⟩ := hc
          have dg : DGet H2 ad (.str s) (some (.int i)) := by
            have q := DGet.k (k := .inr s) (S2 _ _ had)
            rw [valV_bf, e] at q
            exact q
          refine ⟨_, rfl, _, rfl, ad, _, rfl, dg, _, rfl, _, _, rfl, rfl, _, rfl, cu, _, dx, _, _, rfl, S2 _ _ hc, T.cl_Customs, T.na_Customs _ (by decide), rfl, _, _, rfl, rfl, _, rfl, ?_⟩
          refine ite2 (fun g => ?_) (fun g => ?_)
          · exact fin _ S2 (some "young") (by rw [w1]; exact if_pos (of_decide_eq_true g))
          · exact fin _ S2 none (by rw [w1]; exact if_neg (fun z => g (decide_eq_true z)))
      | [], ok => exact iteT (k _ S0)
      | [_], ok => exact iteT (k _ S0)
      | [_, _], ok => exact iteT (k _ S0)
      | _ :: _ :: _ :: _ :: ys, ok =>
        refine ite2 (fun _ => k _ S0) (fun g => ?_)
        exfalso
        simp at g
        omega
theorem cal_row_fault (T : Txt P w K mg cl) : Cal P w K mg base CX0 2 "row_fault" ["row", "customs", "ages"] (spRF (cl "Customs")) := by
  obtain ⟨f, fd, F, m⟩ := T.d_row_fault
  exact ⟨f, fd, ok_row_fault F T, m, F.kp, F.binds fun _ _ _ _ _ _ us hl => match us, hl with | [_, _, _], _ => rfl⟩
end
end My
set_option Elab.async false
set_option linter.all false
set_option maxRecDepth 100000
set_option maxHeartbeats 1000000
namespace My
open PySem L2 Dw
open C8 (pss_cut tCut)
/-- at v a list of these, or the text -/
def RowAt (H : Hp) (v : V) : Rwd → Prop
  | .sq xs => ∃ b, v = .ref b ∧ H b = some (.lst xs)
  | .tx x => v = .str x
theorem RowAt.two {H : Hp} {v : V} {r : Rwd} (h : RowAt H v r) : RowAt2 H v r := by
  cases r with
  | sq xs => obtain ⟨b, e, hb⟩ := h; exact ⟨b, e, .inl hb⟩
  | tx x => exact h
theorem RowAt.same {H H' : Hp} {v : V} {r : Rwd} (h : RowAt H v r) (S : Same H H') : RowAt H' v r := by
  cases r with
  | sq xs => obtain ⟨b, e, hb⟩ := h; exact ⟨b, e, S _ _ hb⟩
  | tx x => exact h
/-- a good row's name and age -/
def BfAt (H : Hp) (v : V) (q : Str × Int) : Prop := ∃ b p, v = .ref b ∧ H b = some (.lst [.str q.1, .int q.2, p])
theorem BfAt.same {H H' : Hp} {v : V} {q : Str × Int} (h : BfAt H v q) (S : Same H H') : BfAt H' v q := by
  obtain ⟨b, p, e, hb⟩ := h
  exact ⟨b, p, e, S _ _ hb⟩
def spRW : Sp := fun vs H Q _ => ∃ (v : V) (cu bb : Addr) (r : Rwd) (c0 : Int) (cs : List V) (ws : List V) (bf : Bf), vs = [v, .ref cu, .ref bb] ∧ RowAt H v r ∧ Rok r ∧ H cu = some (.tup (.int c0 :: cs)) ∧ H bb = some (.lst ws) ∧ Paired (BfAt H) ws bf ∧ bf.length ≤ 10 ∧
  ∀ H', Same H H' → Q (optV (rowW c0 bf r)) H'
/-- an item of the list at v -/
def headAt (H : Hp) (j : Nat) : V → Option V
  | .ref b => match H b with
    | some (.lst xs) => xs[j]?
    | _ => none
  | _ => none
theorem headAt_bf {H : Hp} {v : V} {q : Str × Int} (h : BfAt H v q) : headAt H 0 v = some (.str q.1) ∧ headAt H 1 v = some (.int q.2) := by
  obtain ⟨b, p, rfl, hb⟩ := h
  simp [headAt, hb]
theorem names_bf {H : Hp} : ∀ {ws : List V} {bf : Bf}, Paired (BfAt H) ws bf → ws.filterMap (headAt H 0) = bf.map fun q => V.str q.1
  | _, _, .nil => rfl
  | _, _, .cons h t => by rw [List.filterMap_cons, (headAt_bf h).1, List.map_cons, names_bf t]
theorem inV_bf (x : Str) : ∀ bf : Bf, inV (.str x) (bf.map fun q => V.str q.1) = (bf.lookup x).isSome
  | [] => rfl
  | (s, i) :: bf => by
    have ih := inV_bf x bf
    rw [List.map_cons, List.lookup_cons]
    show (eqV (.str s) (.str x) || inV (.str x) _) = _
    rw [ih]
    show ((s == x) || _) = _
    by_cases e : x = s
    · subst e; simp
    · rw [show (x == s) = false from beq_eq_false_iff_ne.mpr e, show (s == x) = false from beq_eq_false_iff_ne.mpr (Ne.symm e)]
      rfl
/-- the age of the row at v, if its name is p -/
def ageF (H : Hp) (p : V) (v : V) : Option V := if headAt H 0 v = some p then headAt H 1 v else none
def agesL (bf : Bf) (p : V) : List Int := bf.filterMap fun q => if V.str q.1 = p then some q.2 else none
theorem ages_bf {H : Hp} (p : V) : ∀ {ws : List V} {bf : Bf}, Paired (BfAt H) ws bf → ws.filterMap (ageF H p) = (agesL bf p).map V.int
  | _, _, .nil => rfl
  | v :: ws, q :: bf, .cons h t => by
    have ih := ages_bf p t
    obtain ⟨h0, h1⟩ := headAt_bf h
    unfold agesL at ih ⊢
    rw [List.filterMap_cons, List.filterMap_cons, ih]
    unfold ageF
    rw [h0, h1]
    by_cases e : V.str q.1 = p
    · rw [if_pos (congrArg some e), if_pos e]; rfl
    · rw [if_neg (fun z => e (Option.some.inj z)), if_neg e]
theorem ages_head (p : V) : ∀ bf : Bf, (agesL bf p).head? = ageOf bf p
  | [] => by cases p <;> rfl
  | (s, i) :: bf => by
    have ih := ages_head p bf
    unfold agesL at ih ⊢
    rw [List.filterMap_cons]
    cases p with
    | str x =>
      by_cases e : x = s
      · subst e
        rw [if_pos rfl]
        show some i = List.lookup x ((x, i) :: bf)
        rw [List.lookup_cons_self]
      · rw [if_neg (fun z => e (V.str.inj z).symm)]
        show _ = List.lookup x ((s, i) :: bf)
        rw [List.lookup_cons, show (x == s) = false from beq_eq_false_iff_ne.mpr e]
        exact ih
    | _ => rw [if_neg (fun z => nomatch z)]; exact ih
theorem isN_len {x : Str} (e : isN (.str x) = true) : x.length ≤ 8 := by
  have := Bool.and_eq_true_iff.mp (Bool.and_eq_true_iff.mp (show (decide (1 ≤ x.length) && decide (x.length ≤ 8) && _) = true from e)).1
  exact of_decide_eq_true this.2
section
variable {P : Program} {w : World} {K : PySem.W.Frag} {mg : Str → Option Value} {base : Heap} {cl : String → Addr}
theorem ok_row_word {f : Addr} {fd : FuncData} (F : Fun K "_law_row_word" "_law_row_word" s_row_word f fd) (T : Txt P w K mg cl) : FnOk P w K mg base CX0 1 f fd ["_law_row", "_law_customs_here", "_law_before"] spRW := by
  refine F.ok sc_row_word (fun vs H Q E h => ?_) (fun cdv A outer s H vs Q E hr h => ?_)
  · obtain ⟨v, cu, bb, r, c0, cs, ws, bf, rfl, _⟩ := h
    rfl
  · obtain ⟨v, cu, bb, r, c0, cs, ws, bf, rfl, hv, ok, hc, hb, hp, hz, k⟩ := h
    have hu := hu_of hr
    refine ⟨_, (pss_cons (ps_if (PW.pt (pw_or (pt_not (pt_val (pe_callB call_isiT (by rfl) T.n_isinstance (by decide +kernel) (pa_cons (pv 0) (pa_cons (pe_tup (pa_cons (pe_ty "list" T.n_list) (pa_cons (pe_ty "tuple" T.n_tuple) pa_nil))) pa_nil))))) (pw_or1 (pt_cmpR op_ne (pe_callB call_len_seq (by rfl) T.n_len PySem.boot_len (pa_cons (pv 0) pa_nil)) pe_int (nomark _)))))
          (pss_one (ps_ret pe_str)) pss_nil)
        (pss_cons (ps_asg (pe_tup (pa_cons (pe_ix ix_list (pv 0) pe_int (fun _ _ => rfl)) (pa_cons (pe_ix ix_list (pv 0) pe_int (fun _ _ => rfl)) (pa_cons (pe_ix ix_list (pv 0) pe_int (fun _ _ => rfl)) pa_nil)))) (pg_tup rfl (pgs_cons (pg_name (i := 3) sc_row_word.nd rfl (Or.inl rfl)) (pgs_cons (pg_name (i := 4) sc_row_word.nd rfl (Or.inl rfl)) (pgs_cons (pg_name (i := 5) sc_row_word.nd rfl (Or.inr rfl)) pgs_nil)))))
        (pss_cons (ps_set (i := 6) sc_row_word.nd rfl (Or.inl rfl) (pe_and (pe_callB call_isi (by rfl) T.n_isinstance (by decide +kernel) (pa_cons (pv 3) (pa_cons (pe_ty "str" T.n_str) pa_nil))) (pe_one (pe_callB (cr_all rfl) (by rfl) T.n_all (by decide +kernel) (pa_cons (pe_lc (own := [("_law_sign", 8)]) (g := gName 8) (tt := tYes) rfl sc_row_word.nd (pi_str (pv 3)) (blkOk_by (own := [("_law_sign", 8)]) (N := ["_law_row", "_law_customs_here", "_law_before", "_law_name", "_law_age", "_law_parent", "_law_letters", "_law_ages", "_law_sign", "_law_x"]) (sc := defScope s_row_word) (by decide +kernel)) (fun _ _ _ _ _ => pg_name (i := 8) sc_row_word.nd rfl (Or.inl rfl)) (fun _ _ _ _ _ => pts_nil) (fun _ _ _ _ _ => (pe_cmpR op_in_sign (pv 8) pe_str (by rfl)))) pa_nil)))))
        (pss_cons (ps_if (PW.pt (pw_or (pt_not (pt_val (pv 6))) (pw_or1 (pt_not (pt_chain op_le op_le pe_int (pe_callB call_len_str (by rfl) T.n_len PySem.boot_len (pa_cons (pv 3) pa_nil)) pe_int)))))
          (pss_one (ps_ret pe_str)) pss_nil)
        (pss_cons (ps_if (pt_cmpR op_in_seq (pv 3) (pe_lc (own := [("_law_x", 9)]) (g := gName 9) (tt := tYes) rfl sc_row_word.nd (pi_list (pv 2)) (blkOk_by (own := [("_law_x", 9)]) (N := ["_law_row", "_law_customs_here", "_law_before", "_law_name", "_law_age", "_law_parent", "_law_letters", "_law_ages", "_law_sign", "_law_x"]) (sc := defScope s_row_word) (by decide +kernel)) (fun _ _ _ _ _ => pg_name (i := 9) sc_row_word.nd rfl (Or.inl rfl)) (fun _ _ _ _ _ => pts_nil) (fun _ _ _ _ _ => (pe_ix (ix_listK (K := K) rfl) (pv 9) pe_int (fun _ _ => rfl)))) (by rfl))
          (pss_one (ps_ret pe_str)) pss_nil)
        (pss_cons (ps_if (PW.pt (pw_or (pt_not (pt_val (pe_callB call_isi (by rfl) T.n_isinstance (by decide +kernel) (pa_cons (pv 4) (pa_cons (pe_ty "int" T.n_int) pa_nil))))) (pw_or (pt_val (pe_callB call_isi (by rfl) T.n_isinstance (by decide +kernel) (pa_cons (pv 4) (pa_cons (pe_ty "bool" T.n_bool) pa_nil)))) (pw_or1 (pt_not (pt_chain op_le op_le pe_int (pv 4) pe_int))))))
          (pss_one (ps_ret pe_str)) pss_nil)
        (pss_cons (ps_if (pt_cmpR op_isN (pv 5) pe_non (nomark _))
          (pss_one (ps_ret pe_non)) pss_nil)
        (pss_cons (ps_setLc (i := 7) (own := [("_law_x", 9)]) (g := gName 9)  rfl sc_row_word.nd rfl rfl (sw_true rfl rfl rfl (by decide +kernel)) (pi_list (pv 2)) (blkOk_by (own := [("_law_x", 9)]) (N := ["_law_row", "_law_customs_here", "_law_before", "_law_name", "_law_age", "_law_parent", "_law_letters", "_law_ages", "_law_sign", "_law_x"]) (sc := defScope s_row_word) (by decide +kernel)) (fun _ _ _ _ _ => pg_name (i := 9) sc_row_word.nd rfl (Or.inl rfl)) (fun _ _ _ _ _ => pts_one (PW.pt (pw_and (pt_val (pe_callB (call_isiK' (K := K) rfl) (by rfl) T.n_isinstance (by decide +kernel) (pa_cons (pv 5) (pa_cons (pe_ty "str" T.n_str) pa_nil)))) (pw_and1 (pt_cmpR op_eq (pe_ix (ix_listK (K := K) rfl) (pv 9) pe_int (fun _ _ => rfl)) (pv 5) (nomark _)))))) (fun _ _ _ _ _ => (pe_ix (ix_listK (K := K) rfl) (pv 9) pe_int (fun _ _ => rfl))))
        (pss_cons (ps_if (pt_cmpR (op_eqD hr.units) (pv 7) (pe_lst pa_nil) (nomark _))
          (pss_one (ps_ret pe_str)) pss_nil)
        (pss_one (ps_ret (pe_ifExp (pt_cmpR op_lt (pe_op op_sub (pe_ix ix_list (pv 7) pe_int (fun _ _ => rfl)) (pv 4)) (pe_ix ix_tup (pv 1) pe_int (fun _ _ => rfl)) (nomark _)) pe_str pe_non)))))))))))), ?_⟩
    refine ⟨_, rfl, by show 2 ≤ sizeLine; decide, fun tp htp => ?_⟩
    have S0 := sNew (o := .tup [.ty "list", .ty "tuple"]) htp
    obtain ⟨nv, dv, ka⟩ := isLT_row (K := K) (hv.two.same S0) ok
    refine ⟨v, tp, _, .type nv, _, _, rfl, upd_same, .cons (.ty "list") (.cons (.ty "tuple") .nil), dv.ty, ka, _, rfl, ?_⟩
    cases r with
    | tx x => exact iteT (iteT (k _ S0))
    | sq xs =>
      refine iteF ?_
      obtain ⟨b, rfl, hx⟩ := hv.same S0
      refine ⟨_, rfl, b, xs, rfl, .inl (SqL.of hx), rfl, _, rfl, ?_⟩
      match xs, ok with
      | [n, a, p], ok =>
        refine iteF ?_
        generalize hH0 : upd H tp (.tup [.ty "list", .ty "tuple"]) = H0 at S0 hx ka dv
        have hb0 := S0 _ _ hb
        have hc0 := S0 _ _ hc
        have hp0 : Paired (BfAt H0) ws bf := L2.Paired.mapP hp fun v q h => h.same S0
        refine ⟨_, rfl, _, _, _, _, rfl, rfl, SqL.of hx, atI_nat (j := 0) rfl, _, rfl, _, _, _, _, rfl, rfl, SqL.of hx, atI_nat (j := 1) rfl, _, rfl, _, _, _, _, rfl, rfl, SqL.of hx, atI_nat (j := 2) rfl, ?_⟩
        refine ⟨by show 3 ≤ sizeLine; decide, fun t ht => ⟨t, _, rfl, SqT.of upd_same, rfl, _, _, rfl, _, _, rfl, _, _, rfl, rfl, ?_⟩⟩
        have S1 := S0.trans (sNew (o := .tup [n, a, p]) ht)
        have hp1 : Paired (BfAt (upd H0 t (.tup [n, a, p]))) ws bf := L2.Paired.mapP hp0 fun v q h => h.same (sNew ht)
        have hb1 := sNew (o := .tup [n, a, p]) ht _ _ hb0
        have hc1 := sNew (o := .tup [n, a, p]) ht _ _ hc0
        generalize hH1 : upd H0 t (.tup [n, a, p]) = H1 at S1 hp1 hb1 hc1
        clear ka dv hp0 hb0 hc0 S0 ht hx hH0 hH1 htp hv
        obtain ⟨tn, dn, _⟩ := (ok.2 n (by simp)).dm (K := K) (H := H1)
        obtain ⟨ta, da, _⟩ := (ok.2 a (by simp)).dm (K := K) (H := H1)
        have fin : ∀ H', Same H H' → ∀ o, rowW c0 bf (.sq [n, a, p]) = o → Q (optV o) H' := fun H' S' o e => by rw [← e]; exact k H' S'
        have bad : isN n = false → rowW c0 bf (.sq [n, a, p]) = some ("name" : Str) := fun e => if_pos e
        by_cases hs : ∃ s, n = .str s
        · obtain ⟨x, rfl⟩ := hs
          have hxl : x.length ≤ 20 := (ok.2 (.str x) (by simp)).1
          have hxs : x.length ≤ sizeLine := Nat.le_of_lt (small1000 (Nat.le_trans hxl (by decide)))
          refine ⟨_, rfl, _, _, _, _, _, rfl, .ty "str", .base (.str x), kit_ty (by decide +kernel), true, rfl, iteT ?_⟩
          refine ⟨_, rfl, x, rfl, fun L hL => lc_str (x := x) (fun i H' => H' = upd H1 L (.lst ((x.cps.toList.take i).map fun c => V.bl (decide (c ∈ letters))))) rfl ?_ ?_⟩
          · rintro i z H' hz rfl
            have hi : i < x.cps.size := (Array.getElem?_eq_some_iff.mp hz).1
            have hz2 : x.cps.toList[i]? = some z := by rw [← hz]; simp
            have ht : x.cps.toList.take (i + 1) = x.cps.toList.take i ++ [z] := by rw [List.take_add_one, hz2]; rfl
            refine ⟨rfl, ?_⟩
            refine ⟨_, rfl, z, _, rfl, rfl, _, upd_same, small1000 ?_, ?_⟩
            · rw [List.length_map]
              have : x.length = x.cps.size := rfl
              exact Nat.le_trans (List.length_take_le _ _) (by omega)
            · rw [upd_upd, ht, List.map_append]
              rfl
          · rintro H' rfl
            refine ⟨L, x.cps.toList.map fun c => decide (c ∈ letters), rfl, SqL.of (by rw [upd_same, List.map_map]; rw [show x.cps.toList.take x.cps.size = x.cps.toList from List.take_of_length_le (by simp)]; rfl), ?_⟩
            have S2 := S1.trans (sNew (o := .lst ((x.cps.toList.take x.cps.size).map fun c => V.bl (decide (c ∈ letters)))) hL)
            have hp2 : Paired (BfAt (upd H1 L (.lst ((x.cps.toList.take x.cps.size).map fun c => V.bl (decide (c ∈ letters)))))) ws bf := L2.Paired.mapP hp1 fun v q h => h.same (sNew hL)
            have hb2 := sNew (o := .lst ((x.cps.toList.take x.cps.size).map fun c => V.bl (decide (c ∈ letters)))) hL _ _ hb1
            have hc2 := sNew (o := .lst ((x.cps.toList.take x.cps.size).map fun c => V.bl (decide (c ∈ letters)))) hL _ _ hc1
            generalize hH2 : upd H1 L (.lst ((x.cps.toList.take x.cps.size).map fun c => V.bl (decide (c ∈ letters)))) = H2 at S2 hp2 hb2 hc2
            clear hp1 hb1 hc1 S1 hL hH2
            have hN : isN (.str x) = (decide (1 ≤ x.length) && decide (x.length ≤ 8) && (x.cps.toList.map fun c => decide (c ∈ letters)).all id) := by
              show (_ && _ && _) = _
              rw [List.all_map]
              rfl
            generalize hal : (x.cps.toList.map fun c => decide (c ∈ letters)).all id = al at hN
            refine ⟨_, rfl, _, rfl, ?_⟩
            cases al with
            | false => exact iteT (iteT (fin _ S2 _ (bad (by rw [hN, Bool.and_false]))))
            | true =>
              rw [Bool.and_true] at hN
              refine iteF ⟨_, rfl, _, rfl, hxs, _, _, rfl, rfl, _, rfl, ?_⟩
              refine ite2 (fun h1 => ?_) (fun h1 => ?_)
              · refine ⟨_, _, rfl, rfl, _, rfl, ?_⟩
                have g1 : 1 ≤ x.length := by have := of_decide_eq_true h1; omega
                rw [decide_eq_true g1, Bool.true_and] at hN
                refine ite2 (fun h2 => ?_) (fun h2 => ?_)
                · refine fin _ S2 _ (bad ?_)
                  rw [hN]
                  have : ¬ (x.length : Int) ≤ 8 := of_decide_eq_false (by simpa using h2)
                  exact decide_eq_false (by omega)
                · have g2 : x.length ≤ 8 := by
                    have : (x.length : Int) ≤ 8 := of_decide_eq_true (by simpa using h2)
                    omega
                  rw [decide_eq_true g2] at hN
                  have hws : ws.length < sizeLine := small1000 (by have := hp2.length; omega)
                  have hw : rowW c0 bf (.sq [.str x, a, p]) = if (bf.lookup x).isSome = true then some ("double" : Str) else rowA c0 bf a p := if_neg (show ¬ isN (.str x) = false by rw [hN]; decide)
                  refine ⟨_, rfl, _, rfl, bb, rfl, ⟨_, SqL.of hb2⟩, fun D hD => lc_list (xs := ws) (PvF H2 D ws (headAt H2 0)) rfl (fun i H' _ e => by rw [e]; exact SqL.of (by rw [upd_ne (ne_of_none hb2 hD)]; exact hb2)) ?_ ?_⟩
                  · rintro i v H' hv rfl
                    obtain ⟨q, hq, hbf⟩ := Paired.at hp2 hv
                    obtain ⟨h0, h1⟩ := headAt_bf hbf
                    obtain ⟨r, pp, rfl, hr'⟩ := hbf
                    exact ⟨rfl, _, rfl, _, _, _, _, rfl, rfl, SqL.of (by rw [upd_ne (ne_of_none hr' hD)]; exact hr'), atI_nat (j := 0) rfl, fm_put hv h0 hws⟩
                  · intro H' e
                    obtain rfl := fm_end e
                    rw [names_bf hp2]
                    have S3 := S2.trans (sNew (o := .lst (bf.map fun q => V.str q.1)) hD)
                    refine ⟨D, _, rfl, .inl (SqL.of upd_same), rfl, by rw [List.all_map]; exact List.all_eq_true.mpr fun _ _ => rfl, _, rfl, ?_⟩
                    rw [show (if false = true then !inV (.str x) (bf.map fun q => V.str q.1) else inV (.str x) (bf.map fun q => V.str q.1)) = (bf.lookup x).isSome from inV_bf x bf]
                    refine ite2 (fun g => fin _ S3 (some "double") (by rw [hw]; exact if_pos g)) (fun g => ?_)
                    rw [if_neg g] at hw
                    have hp3 : Paired (BfAt (upd H2 D (.lst (bf.map fun q => V.str q.1)))) ws bf := L2.Paired.mapP hp2 fun v q h => h.same (sNew hD)
                    have hb3 := sNew (o := .lst (bf.map fun q => V.str q.1)) hD _ _ hb2
                    have hc3 := sNew (o := .lst (bf.map fun q => V.str q.1)) hD _ _ hc2
                    generalize hH3 : upd H2 D (.lst (bf.map fun q => V.str q.1)) = H3 at S3 hp3 hb3 hc3
                    clear hp2 hb2 hc2 S2 hD hH3
                    obtain ⟨ta, da, _⟩ := (ok.2 a (by simp)).dm (K := K) (H := H3)
                    have badA : isW 0 1000000 a = false → rowW c0 bf (.sq [.str x, a, p]) = some ("age" : Str) := fun e => hw.trans (if_pos e)
                    cases da with
                    | int i =>
                      refine ⟨_, rfl, _, _, _, _, _, rfl, .ty "int", .base (.int i), kit_ty (by decide +kernel), true, rfl, iteF ?_⟩
                      refine ⟨_, rfl, _, _, _, _, _, rfl, .ty "bool", .base (.int i), kit_ty (by decide +kernel), false, rfl, iteF ?_⟩
                      refine ⟨_, rfl, _, _, rfl, rfl, _, rfl, ?_⟩
                      refine ite2 (fun h1 => ?_) (fun h1 => ?_)
                      · refine ⟨_, _, rfl, rfl, _, rfl, ?_⟩
                        refine ite2 (fun h2 => ?_) (fun h2 => ?_)
                        · refine fin _ S3 (some "age") (badA ?_)
                          show (decide ((0 : Int) ≤ i) && decide (i ≤ 1000000)) = false
                          rw [show decide (i ≤ 1000000) = false by simpa using h2, Bool.and_false]
                        · have hg : isW 0 1000000 (.int i) = true := by
                            show (decide ((0 : Int) ≤ i) && decide (i ≤ 1000000)) = true
                            rw [h1, show decide (i ≤ 1000000) = true by simpa using h2]
                            rfl
                          rw [show rowA c0 bf (.int i) p = if p = .non then none else rowP c0 (.int i) (ageOf bf p) from if_neg (by rw [hg]; decide)] at hw
                          refine ⟨_, rfl, rfl, _, rfl, ?_⟩
                          refine ite2 (fun g => fin _ S3 none (by rw [hw]; exact if_pos (of_decide_eq_true g))) (fun g => ?_)
                          rw [if_neg (fun e => g (decide_eq_true e))] at hw
                          obtain ⟨tp', dp, _⟩ := (ok.2 p (by simp)).dm (K := K) (H := H3)
                          refine ⟨_, rfl, bb, rfl, ⟨_, SqL.of hb3⟩, fun D hD => lc_list (xs := ws) (PvF H3 D ws (ageF H3 p)) rfl (fun i H' _ e => by rw [e]; exact SqL.of (by rw [upd_ne (ne_of_none hb3 hD)]; exact hb3)) ?_ ?_⟩
                          · rintro j v H' hv rfl
                            obtain ⟨q, hq, hbf⟩ := Paired.at hp3 hv
                            obtain ⟨h0, h1⟩ := headAt_bf hbf
                            have e0 : ageF H3 p v = if V.str q.1 = p then some (.int q.2) else none := by
                              unfold ageF
                              rw [h0, h1]
                              by_cases e : V.str q.1 = p
                              · rw [if_pos (congrArg some e), if_pos e]
                              · rw [if_neg (fun z => e (Option.some.inj z)), if_neg e]
                            obtain ⟨r, pp, rfl, hr'⟩ := hbf
                            have rd : SqL K (upd H3 D (.lst ((ws.take j).filterMap (ageF H3 p)))) r [.str q.1, .int q.2, pp] := SqL.of (by rw [upd_ne (ne_of_none hr' hD)]; exact hr')
                            have dpD := dp.same (sNew (o := .lst ((ws.take j).filterMap (ageF H3 p))) hD)
                            by_cases hs : ∃ s, p = .str s
                            · obtain ⟨s, rfl⟩ := hs
                              refine ⟨rfl, _, rfl, _, _, _, _, _, rfl, .ty "str", .base (.str s), kit_ty (by decide +kernel), true, rfl, iteT ?_⟩
                              refine ⟨_, rfl, _, _, _, _, rfl, rfl, rd, atI_nat (j := 0) rfl, _, rfl, rfl, _, rfl, ?_⟩
                              refine ite2 (fun e => ?_) (fun e => ?_)
                              · have e := of_decide_eq_true e
                                exact ⟨_, rfl, _, _, _, _, rfl, rfl, rd, atI_nat (j := 1) rfl, fm_put hv (by rw [e0, if_pos e]) hws⟩
                              · exact fm_skip hv (by rw [e0, if_neg (fun z => e (decide_eq_true z))])
                            · have kk : PySem.W.kitOne K (.type tp') (.type "str") = some false := by
                                cases dp <;> first | exact kit_ty (by decide +kernel) | exact absurd ⟨_, rfl⟩ hs
                              refine ⟨rfl, _, rfl, _, _, _, _, _, rfl, .ty "str", dpD.ty, kk, false, rfl, iteF (iteF (fm_skip hv ?_))⟩
                              rw [e0, if_neg (fun z => hs ⟨_, z.symm⟩)]
                          · intro H' e
                            obtain rfl := fm_end e
                            rw [ages_bf p hp3]
                            refine ⟨_, rfl, by show 0 ≤ sizeLine; exact Nat.zero_le _, fun e he => eqD_lst (ns := agesL bf p) (ms := []) (SqL.of (by rw [upd_ne (ne_of_none upd_same he)]; exact upd_same)) (SqL.of upd_same) ⟨_, rfl, ?_⟩⟩
                            have S4 := (S3.trans (sNew (o := .lst ((agesL bf p).map V.int)) hD)).trans (sNew (o := .lst []) he)
                            have hh := ages_head p bf
                            refine ite2 (fun g => ?_) (fun g => ?_)
                            · refine fin _ S4 (some "parent") ?_
                              rw [of_decide_eq_true g] at hh
                              rw [hw, ← hh]
                              rfl
                            · cases hl : agesL bf p with
                              | nil => exact absurd (decide_eq_true hl) g
                              | cons e0 es =>
                                rw [hl] at hh
                                rw [← hh] at hw
                                rw [hl] at he S4
                                have hD4 : (upd (upd H3 D (.lst ((e0 :: es).map V.int))) e (.lst [])) D = some (.lst (.int e0 :: es.map V.int)) := by rw [upd_ne (ne_of_none upd_same he)]; exact upd_same
                                refine ⟨_, rfl, _, _, _, _, rfl, rfl, SqL.of hD4, atI_nat (j := 0) rfl, _, rfl, _, _, rfl, rfl, _, rfl, _, _, _, _, rfl, rfl, SqT.of (S4 _ _ hc), atI_nat (j := 0) rfl, _, _, rfl, rfl, _, rfl, ?_⟩
                                refine ite2 (fun g => ?_) (fun g => ?_)
                                · exact fin _ S4 (some "young") (by rw [hw]; exact if_pos (of_decide_eq_true g))
                                · exact fin _ S4 none (by rw [hw]; exact if_neg (fun z => g (decide_eq_true z)))
                      · refine ⟨_, rfl, iteT (fin _ S3 (some "age") (badA ?_))⟩
                        show (decide ((0 : Int) ≤ i) && decide (i ≤ 1000000)) = false
                        rw [Bool.eq_false_iff.mpr h1]
                        rfl
                    | bl b =>
                      refine ⟨_, rfl, _, _, _, _, _, rfl, .ty "int", .base (.bl b), kit_ty (by decide +kernel), true, rfl, iteF ?_⟩
                      exact ⟨_, rfl, _, _, _, _, _, rfl, .ty "bool", .base (.bl b), kit_ty (by decide +kernel), true, rfl, iteT (iteT (fin _ S3 (some "age") (badA rfl)))⟩
                    | non => exact ⟨_, rfl, _, _, _, _, _, rfl, .ty "int", .base .non, kit_ty (by decide +kernel), false, rfl, iteT (iteT (fin _ S3 (some "age") (badA rfl)))⟩
                    | str x hx => exact ⟨_, rfl, _, _, _, _, _, rfl, .ty "int", .base (.str x), kit_ty (by decide +kernel), false, rfl, iteT (iteT (fin _ S3 (some "age") (badA rfl)))⟩
                    | @lst z _ e => exact (show Sc (.ref z) from ok.2 (.ref z) (by simp)).elim
                    | @tup z _ e => exact (show Sc (.ref z) from ok.2 (.ref z) (by simp)).elim
              · refine ⟨_, rfl, iteT (fin _ S2 _ (bad ?_))⟩
                rw [hN, decide_eq_false (show ¬ 1 ≤ x.length from fun z => h1 (decide_eq_true (by omega))), Bool.false_and]
        · have e0 : isN n = false := by
            cases e : isN n with
            | false => rfl
            | true => exact absurd (isN_str e) hs
          have kk : PySem.W.kitOne K (.type tn) (.type "str") = some false := by
            cases dn <;> first | exact kit_ty (by decide +kernel) | exact absurd ⟨_, rfl⟩ hs
          exact ⟨_, rfl, _, _, _, _, _, rfl, .ty "str", dn.ty, kk, false, rfl, iteF ⟨_, rfl, _, rfl, iteT (iteT (fin _ S1 _ (bad e0)))⟩⟩
      | [], ok => exact iteT (k _ S0)
      | [_], ok => exact iteT (k _ S0)
      | [_, _], ok => exact iteT (k _ S0)
      | _ :: _ :: _ :: _ :: ys, ok =>
        refine ite2 (fun _ => k _ S0) (fun g => ?_)
        exfalso
        simp at g
        omega
theorem cal_row_word (T : Txt P w K mg cl) : Cal P w K mg base CX0 1 "_law_row_word" ["_law_row", "_law_customs_here", "_law_before"] spRW := by
  obtain ⟨f, fd, F, m⟩ := T.d_row_word
  exact ⟨f, fd, ok_row_word F T, m, F.kp, F.binds fun _ _ _ _ _ _ us hl => match us, hl with | [_, _, _], _ => rfl⟩
end
end My
set_option Elab.async false
set_option linter.all false
set_option maxRecDepth 100000
set_option maxHeartbeats 1000000
namespace My
open PySem L2 Dw
open C8 (pss_cut tCut)
theorem rowW_none {c : Int} {bf : Bf} {r : Rwd} (h : rowW c bf r = none) : ∃ (n : Str) (a : Int) (p : V), r = .sq [.str n, .int a, p] ∧ isN (.str n) = true ∧ bf.lookup n = none ∧ 0 ≤ a ∧ a ≤ 1000000 ∧ (p = .non ∨ ∃ s e, p = .str s ∧ bf.lookup s = some e ∧ ¬ e - a < c) := by
  match r, h with
  | .sq [n, a, p], h =>
    have hh : (if isN n = false then some ("name" : Str) else if (ageOf bf n).isSome = true then some ("double" : Str) else rowA c bf a p) = none := h
    clear h
    by_cases h1 : isN n = false
    · rw [if_pos h1] at hh
      cases hh
    rw [if_neg h1] at hh
    by_cases h2 : (ageOf bf n).isSome = true
    · rw [if_pos h2] at hh
      cases hh
    rw [if_neg h2] at hh
    unfold rowA at hh
    by_cases h3 : isW 0 1000000 a = false
    · rw [if_pos h3] at hh
      cases hh
    rw [if_neg h3] at hh
    obtain ⟨x, rfl⟩ := isN_str (by simpa using h1)
    obtain ⟨i, rfl, i0, i1⟩ := isW_int (show isW 0 1000000 a = true by simpa using h3)
    have h2' : bf.lookup x = none := by
      cases e : bf.lookup x with
      | none => rfl
      | some z => exact absurd (show (bf.lookup x).isSome = true by rw [e]; rfl) h2
    refine ⟨x, i, p, rfl, by simpa using h1, h2', i0, i1, ?_⟩
    by_cases h4 : p = .non
    · exact .inl h4
    rw [if_neg h4] at hh
    cases p with
    | str s =>
      cases e : bf.lookup s with
      | none => rw [show ageOf bf (.str s) = none from e] at hh; cases hh
      | some z =>
        rw [show ageOf bf (.str s) = some z from e] at hh
        refine .inr ⟨s, z, rfl, e, fun g => ?_⟩
        have hh : (if z - iV (.int i) < c then some ("young" : Str) else none) = none := hh
        rw [if_pos (show z - iV (.int i) < c from g)] at hh
        cases hh
    | _ => cases hh
def keyOf : Rwd → Str × Int
  | .sq (.str n :: .int a :: _) => (n, a)
  | _ => ("", 0)
def dueGo (c : Int) : Bf → Nat → List Rwd → Option (Nat × Str)
  | _, _, [] => none
  | bf, i, r :: rs => match rowW c bf r with
    | some s => some (i, s)
    | none => dueGo c (bf ++ [keyOf r]) (i + 1) rs
def dueW (c : Int) (rs : List Rwd) : Option (Nat × Str) := if rs.length = 0 ∨ 6 < rs.length then some (0, "rows") else dueGo c [] 0 rs
def DueV (H : Hp) (v : V) : Option (Nat × Str) → Prop
  | none => v = .non
  | some (i, s) => ∃ t, v = .ref t ∧ H t = some (.tup [.int i, .str s])
theorem dueGo_cons {c : Int} {bf : Bf} {i : Nat} {r : Rwd} {rs : List Rwd} : dueGo c bf i (r :: rs) = match rowW c bf r with
    | some s => some (i, s)
    | none => dueGo c (bf ++ [keyOf r]) (i + 1) rs := rfl
theorem cut_take (xs : List V) (i : Nat) : cutV xs none (some (i : Int)) = xs.take i := by
  unfold cutV
  rw [HT.sIx_nat, HT.sIx_none, List.drop_zero, Nat.sub_zero]
  by_cases h : i ≤ xs.length
  · rw [Nat.min_eq_left h]
  · rw [Nat.min_eq_right (by omega), List.take_of_length_le (Nat.le_refl _), List.take_of_length_le (by omega)]
def spDue : Sp := fun vs H Q _ => ∃ (r cu : Addr) (ws : List V) (rs : List Rwd) (c0 : Int) (cs : List V), vs = [.ref r, .ref cu] ∧ H r = some (.lst ws) ∧ Paired (RowAt H) ws rs ∧ (∀ x ∈ rs, Rok x) ∧ rs.length ≤ 9 ∧ H cu = some (.tup (.int c0 :: cs)) ∧
  ∀ H' v, Same H H' → DueV H' v (dueW c0 rs) → Q v H'
theorem take_drop_at {α : Type} {xs : List α} {i : Nat} {x : α} (h : xs[i]? = some x) : xs.drop i = x :: xs.drop (i + 1) := by
  obtain ⟨h1, h2⟩ := List.getElem?_eq_some_iff.mp h
  rw [List.drop_eq_getElem_cons h1, h2]
theorem key_good {H : Hp} {v : V} {r : Rwd} {c : Int} {bf : Bf} (h : RowAt H v r) (g : rowW c bf r = none) : BfAt H v (keyOf r) := by
  obtain ⟨n, a, p, rfl, _⟩ := rowW_none g
  obtain ⟨b, rfl, hb⟩ := h
  exact ⟨b, p, rfl, hb⟩
section
variable {P : Program} {w : World} {K : PySem.W.Frag} {mg : Str → Option Value} {base : Heap} {cl : String → Addr}
theorem ok_due {f : Addr} {fd : FuncData} (F : Fun K "_law_due" "_law_due" s_due f fd) (T : Txt P w K mg cl) : FnOk P w K mg base CX0 2 f fd ["_law_rows", "_law_customs_here"] spDue := by
  refine F.ok sc_due (fun vs H Q E h => ?_) (fun cdv A outer s H vs Q E hr h => ?_)
  · obtain ⟨r, cu, ws, rs, c0, cs, rfl, _⟩ := h
    rfl
  · obtain ⟨r, cu, ws, rs, c0, cs, rfl, hw, hp, ok, hz, hc, k⟩ := h
    have C_row_word : Cal P w K mg base CX0 1 "_law_row_word" _ spRW := cal_row_word T
    refine ⟨_, (pss_cons (ps_if (pt_not (pt_chain op_le op_le pe_int (pe_callB call_len_seq (by rfl) T.n_len PySem.boot_len (pa_cons (pv 0) pa_nil)) pe_int))
          (pss_one (ps_ret (pe_tup (pa_cons pe_int (pa_cons pe_str pa_nil))))) pss_nil)
        (pss_cons (ps_for PassesOwn.never rfl (pi_range1 rfl T.n_range (pa_cons (pe_callB call_len_seq (by rfl) T.n_len PySem.boot_len (pa_cons (pv 0) pa_nil)) pa_nil)) (pg_name (i := 2) sc_due.nd rfl (Or.inl rfl))
          (pss_cons (ps_set (i := 3) sc_due.nd rfl (Or.inl rfl) (pe_cal C_row_word (hr.mono (by decide)) (pa_cons (pe_ix ix_list (pv 0) (pv 2) (fun _ _ => rfl)) (pa_cons (pv 1) (pa_cons (pe_slice sl_list (pv 0) po_none (po_some (pv 2))) pa_nil)))))
            (pss_one (ps_if (pt_cmpR op_notN (pv 3) pe_non (nomark _))
              (pss_one (ps_ret (pe_tup (pa_cons (pv 2) (pa_cons (pv 3) pa_nil))))) pss_nil))))
        (pss_one (ps_ret pe_non)))), ?_⟩
    have hl := hp.length
    refine ⟨_, rfl, r, ws, rfl, .inl (SqL.of hw), _, _, rfl, rfl, _, rfl, ?_⟩
    have short : (rs.length = 0 ∨ 6 < rs.length) → ∀ t, H t = none → Q (.ref t) (upd H t (.tup [.int 0, .str "rows"])) := fun g t ht => k _ _ (sNew ht) (by unfold dueW; rw [if_pos g]; exact ⟨t, rfl, upd_same⟩)
    refine ite2 (fun h1 => ?_) (fun h1 => ?_)
    · refine ⟨_, _, rfl, rfl, _, rfl, ?_⟩
      have h1 : (1 : Int) ≤ ws.length := of_decide_eq_true h1
      refine ite2 (fun h2 => ?_) (fun h2 => ?_)
      · have h2 : ¬ (ws.length : Int) ≤ 6 := of_decide_eq_false (by simpa using h2)
        exact ⟨by show 2 ≤ sizeLine; decide, short (.inr (by omega))⟩
      have h2 : (ws.length : Int) ≤ 6 := of_decide_eq_true (by simpa using h2)
      have hd : dueW c0 rs = dueGo c0 [] 0 rs := if_neg (by omega)
      refine ⟨_, rfl, r, ws, rfl, .inl (SqL.of hw), _, rfl, by omega, by omega, for_range (n := ws.length) (fun i σ H' => Same H H' ∧ dueGo c0 [] 0 rs = dueGo c0 ((rs.take i).map keyOf) i (rs.drop i) ∧ Paired (BfAt H) (ws.take i) ((rs.take i).map keyOf) ∧ ∃ (v2 v3 : Option V), σ = [some (.ref r), some (.ref cu), v2, v3]) ⟨Same.refl H, rfl, .nil, _, _, rfl⟩ ?_ ?_⟩
      · rintro i σ H' hi ⟨S, hg, hb, v2, v3, rfl⟩
        obtain ⟨v, hv⟩ : ∃ v, ws[i]? = some v := ⟨_, List.getElem?_eq_getElem hi⟩
        obtain ⟨x, hx, hvx⟩ := Paired.at hp hv
        have hsl : cutV ws none (some (0 + (i : Int))) = ws.take i := by rw [Int.zero_add]; exact cut_take ws i
        refine ⟨_, rfl, _, rfl, _, _, _, _, rfl, rfl, SqL.of (S _ _ hw), at_of (Int.zero_add _) hv, _, rfl, _, rfl, _, rfl, _, rfl, r, _, rfl, SqL.of (S _ _ hw), fun l hl' => ?_⟩
        rw [hsl]
        have S1 := S.trans (sNew (o := .lst (ws.take i)) hl')
        have hbl : ((rs.take i).map keyOf).length ≤ 10 := by rw [List.length_map]; exact Nat.le_trans (List.length_take_le _ _) (by omega)
        refine ⟨v, cu, l, x, c0, cs, ws.take i, (rs.take i).map keyOf, rfl, hvx.same S1, ok x (List.mem_of_getElem? hx), S1 _ _ hc, upd_same, L2.Paired.mapP hb fun _ _ h => h.same S1, hbl, fun H2 S2 => ?_⟩
        have S2 := S1.trans S2
        rw [take_drop_at hx, dueGo_cons] at hg
        cases e : rowW c0 ((rs.take i).map keyOf) x with
        | none =>
          rw [e] at hg
          refine ⟨_, rfl, rfl, _, rfl, iteF ⟨S2, ?_, ?_, _, _, rfl⟩⟩
          · rw [hg, take_snoc hx, List.map_append]
            rfl
          · rw [take_snoc hv, take_snoc hx, List.map_append]
            exact Paired.appendP hb (.cons (key_good hvx e) .nil)
        | some s =>
          rw [e] at hg
          refine ⟨_, rfl, rfl, _, rfl, iteT ⟨_, rfl, _, rfl, by show 2 ≤ sizeLine; decide, fun t ht => ?_⟩⟩
          refine k _ _ (S2.trans (sNew ht)) ?_
          rw [hd, hg, Int.zero_add]
          exact ⟨t, rfl, upd_same⟩
      · rintro σ H' ⟨S, hg, hb, v2, v3, rfl⟩
        refine k _ _ S ?_
        rw [hd, hg, List.drop_of_length_le (by omega)]
        rfl
    · have h1 : ¬ (1 : Int) ≤ ws.length := fun z => h1 (decide_eq_true z)
      exact ⟨_, rfl, iteT ⟨by show 2 ≤ sizeLine; decide, short (.inl (by omega))⟩⟩
theorem cal_due (T : Txt P w K mg cl) : Cal P w K mg base CX0 2 "_law_due" ["_law_rows", "_law_customs_here"] spDue := by
  obtain ⟨f, fd, F, m⟩ := T.d_due
  exact ⟨f, fd, ok_due F T, m, F.kp, F.binds fun _ _ _ _ _ _ us hl => match us, hl with | [_, _], _ => rfl⟩
end
end My
set_option Elab.async false
set_option linter.all false
set_option maxRecDepth 100000
set_option maxHeartbeats 1000000
namespace My
open PySem L2 Dw
open C8 (pss_cut tCut)
/-! rows that are right -/
abbrev Gd := Str × Int × V
def mkR (g : Gd) : Rwd := .sq [.str g.1, .int g.2.1, g.2.2]
def vvK (L : List (Str × V)) : List (Key × V) := L.map fun q => (.inr q.1, q.2)
theorem valV_vv (s : Str) : ∀ L : List (Str × V), valV (vvK L) (.inr s) = L.lookup s
  | [] => rfl
  | (t, a) :: L => by
    have ih := valV_vv s L
    by_cases h : t = s
    · subst h
      rw [show valV (vvK ((t, a) :: L)) (.inr t) = some a from valV_pos (p := ((.inr t : Key), a)) rfl, List.lookup_cons_self]
    · rw [show valV (vvK ((t, a) :: L)) (.inr s) = valV (vvK L) (.inr s) from valV_neg (p := ((.inr t : Key), a)) (fun e => h (Sum.inr.inj e)), ih, List.lookup_cons]
      rw [show (s == t) = false from beq_eq_false_iff_ne.mpr (Ne.symm h)]
theorem put_new {kvs : List (Key × V)} {k : Key} {v : V} (h : valV kvs k = none) : putK kvs k v = kvs ++ [(k, v)] := by
  unfold putK
  rw [valV_any k kvs, h]
  rfl
def ageL (r : Rwd) : Str × V := ((keyOf r).1, .int (keyOf r).2)
def parL : Rwd → Str × V
  | .sq (.str n :: _ :: p :: _) => (n, p)
  | _ => ("", .non)
theorem bfK_vv (bf : Bf) : bfK bf = vvK (bf.map fun q => (q.1, .int q.2)) := by
  unfold bfK vvK
  rw [List.map_map]
  rfl
theorem look_map {α : Type} (f : Int → V) (s : Str) : ∀ bf : Bf, (bf.map fun q => (q.1, f q.2)).lookup s = (bf.lookup s).map f
  | [] => rfl
  | (t, a) :: bf => by
    rw [List.map_cons, List.lookup_cons, List.lookup_cons]
    cases s == t with
    | true => rfl
    | false => exact look_map (α := α) f s bf
theorem look_none {α β : Type} {s : Str} : ∀ {L : List (Str × α)} {M : List (Str × β)}, L.map (·.1) = M.map (·.1) → L.lookup s = none → M.lookup s = none
  | [], [], _, _ => rfl
  | [], _ :: _, h, _ => by cases h
  | _ :: _, [], h, _ => by cases h
  | (t, a) :: L, (u, b) :: M, h, e => by
    injection h with h1 h2
    have h1 : t = u := h1
    subst h1
    rw [List.lookup_cons] at e ⊢
    cases hs : s == t with
    | true => rw [hs] at e; cases e
    | false => rw [hs] at e; exact look_none h2 e
/-- what is known of rows that are right behind bf -/
def GoodL (bf : Bf) (gs : List Gd) : Prop := (∀ g ∈ gs, isN (.str g.1) = true ∧ bf.lookup g.1 = none ∧ (g.2.2 = .non ∨ ∃ s, g.2.2 = .str s)) ∧ (gs.map (·.1)).Nodup
theorem look_snoc {s : Str} {k : Str × Int} : ∀ {bf : Bf}, (bf ++ [k]).lookup s = none → bf.lookup s = none ∧ s ≠ k.1
  | [], h => by
    rw [List.nil_append, List.lookup_cons] at h
    refine ⟨rfl, fun e => ?_⟩
    rw [e, beq_self_eq_true] at h
    cases h
  | (t, a) :: bf, h => by
    rw [List.cons_append, List.lookup_cons] at h
    rw [List.lookup_cons]
    cases hs : s == t with
    | true => rw [hs] at h; cases h
    | false => rw [hs] at h; exact look_snoc h
theorem dueGo_good {c : Int} : ∀ {rs : List Rwd} {bf : Bf} {i : Nat}, dueGo c bf i rs = none → ∃ gs : List Gd, rs = gs.map mkR ∧ GoodL bf gs
  | [], _, _, _ => ⟨[], rfl, by simp, by simp⟩
  | r :: rs, bf, i, h => by
    rw [dueGo_cons] at h
    cases e : rowW c bf r with
    | some s => rw [e] at h; cases h
    | none =>
      rw [e] at h
      obtain ⟨gs, rfl, g1, g2⟩ := dueGo_good h
      obtain ⟨n, a, p, rfl, h1, h2, h3, h4, h5⟩ := rowW_none e
      refine ⟨(n, a, p) :: gs, rfl, fun g hg => ?_, ?_⟩
      · rcases List.mem_cons.mp hg with rfl | hg
        · exact ⟨h1, h2, h5.imp id fun ⟨s, _, e, _⟩ => ⟨s, e⟩⟩
        · obtain ⟨q1, q2, q3⟩ := g1 g hg
          exact ⟨q1, (look_snoc q2).1, q3⟩
      · rw [List.map_cons, List.nodup_cons]
        refine ⟨fun hn => ?_, g2⟩
        obtain ⟨g, hg, e⟩ := List.mem_map.mp hn
        exact (look_snoc (g1 g hg).2.1).2 e
theorem dueW_good {c : Int} {rs : List Rwd} (h : dueW c rs = none) : ∃ gs : List Gd, rs = gs.map mkR ∧ GoodL [] gs ∧ 1 ≤ gs.length ∧ gs.length ≤ 6 := by
  unfold dueW at h
  by_cases g : rs.length = 0 ∨ 6 < rs.length
  · rw [if_pos g] at h
    cases h
  · rw [if_neg g] at h
    obtain ⟨gs, rfl, q⟩ := dueGo_good h
    rw [List.length_map] at g
    exact ⟨gs, rfl, q, by omega, by omega⟩
/-! lives -/
def TupAt (H : Hp) (v : V) (r : Rwd) : Prop := ∃ b xs, r = .sq xs ∧ v = .ref b ∧ H b = some (.tup xs)
def agK (gs : List Gd) : List (Key × V) := vvK (gs.map fun g => (g.1, .int g.2.1))
def prK (gs : List Gd) : List (Key × V) := vvK (gs.map fun g => (g.1, g.2.2))
def liF (cu t ad pd : Addr) : List (Str × V) := [("customs", .ref cu), ("rows", .ref t), ("ages", .ref ad), ("parents", .ref pd)]
structure LiAt (C : Addr) (H : Hp) (p cu t : Addr) (us : List V) (gs : List Gd) : Prop where
  ex : ∃ dx ad pd, H p = some (.ins C dx (liF cu t ad pd)) ∧ H ad = some (.dK (agK gs)) ∧ H pd = some (.dK (prK gs))
  rows : H t = some (.tup us)
  each : Paired (TupAt H) us (gs.map mkR)
theorem TupAt.keep {H H' : Hp} {v : V} {r : Rwd} (h : TupAt H v r) (k : ∀ b xs, H b = some (.tup xs) → H' b = some (.tup xs)) : TupAt H' v r := by
  obtain ⟨b, xs, h1, h2, h3⟩ := h
  exact ⟨b, xs, h1, h2, k _ _ h3⟩
theorem LiAt.keep {C : Addr} {H H' : Hp} {p cu t : Addr} {us : List V} {gs : List Gd} (h : LiAt C H p cu t us gs) (k : ∀ b o, H b = some o → (∀ xs, o ≠ .lst xs) → H' b = some o) : LiAt C H' p cu t us gs := by
  obtain ⟨⟨dx, ad, pd, h1, h2, h3⟩, h4, h5⟩ := h
  exact ⟨⟨dx, ad, pd, k _ _ h1 (fun _ z => nomatch z), k _ _ h2 (fun _ z => nomatch z), k _ _ h3 (fun _ z => nomatch z)⟩, k _ _ h4 (fun _ z => nomatch z), L2.Paired.mapP h5 fun _ _ z => z.keep fun b xs e => k _ _ e fun _ z => nomatch z⟩
theorem LiAt.same {C : Addr} {H H' : Hp} {p cu t : Addr} {us : List V} {gs : List Gd} (h : LiAt C H p cu t us gs) (S : Same H H') : LiAt C H' p cu t us gs := h.keep fun b o e _ => S b o e
theorem ixOr {K : PySem.W.Frag} {H : Hp} {b : Addr} {xs : List V} {j : Nat} {v : V} {Q : VK} (hb : H b = some (.lst xs) ∨ H b = some (.tup xs)) (ha : xs[j]? = some v) (q : Q v H) : rIxL K (.ref b) (.int (j : Int)) H Q ∨ rIxT K (.ref b) (.int (j : Int)) H Q :=
  hb.imp (fun h => ⟨b, xs, j, v, rfl, rfl, SqL.of h, atI_nat ha, q⟩) fun h => ⟨b, xs, j, v, rfl, rfl, SqT.of h, atI_nat ha, q⟩
/-- the rows that are handed in: a list or a tuple of rows; or another thing -/
def RwsAt (H : Hp) (v : V) : Option (List Rwd) → Prop
  | some rs => ∃ r ws, v = .ref r ∧ (H r = some (.lst ws) ∨ H r = some (.tup ws)) ∧ Paired (RowAt2 H) ws rs ∧ (∀ x ∈ rs, Rok x) ∧ rs.length ≤ 9
  | none => ∃ x : Str, v = .str x ∧ x.length ≤ 1000
def dueO (c : Int) : Option (List Rwd) → Option (Nat × Str)
  | some rs => dueW c rs
  | none => some (0, "rows")
theorem log_small {n : Nat} (h : n < 1000) : n.log2 < 1920 := Nat.lt_of_le_of_lt (Nat.log2_le_self n) (by omega)
def spLi (K : PySem.W.Frag) (C CC CB : Addr) : Sp := fun vs H Q E => ∃ (p dx : Addr) (cv rv : V), vs = [.ref p, cv, rv] ∧ H p = some (.ins C dx []) ∧
  ((∃ n, Dm K H cv n ∧ ∀ H' e, Same H H' → H' e = none → E (.ref CB) (some e) (upd H' e (.xd [("index", .int 0), ("what", .str "customs")]))) ∨
   ∃ (cu : Addr) (c0 : Int) (c1 c2 c3 : V) (ro : Option (List Rwd)), cv = .ref cu ∧ CuAt CC H cu (.int c0) c1 c2 c3 ∧ RwsAt H rv ro ∧
     (∀ i s H' e, dueO c0 ro = some (i, s) → Same H H' → H' e = none → E (.ref CB) (some e) (upd H' e (.xd [("index", .int (i : Nat)), ("what", .str s)]))) ∧
     (∀ gs t us H', ro = some (gs.map mkR) → dueO c0 ro = none → But p H H' → LiAt C H' p cu t us gs → Q .non H'))
end My
set_option Elab.async false
set_option linter.all false
set_option maxRecDepth 100000
set_option maxHeartbeats 1000000
namespace My
open PySem L2 Dw
open C8 (pss_cut tCut)
theorem cuSame {C : Addr} {H H' : Hp} {x : Addr} {a b c d : V} (S : Same H H') (h : CuAt C H x a b c d) : CuAt C H' x a b c d := by
  obtain ⟨dx, h⟩ := h
  exact ⟨dx, S _ _ h⟩
theorem same_upd {H H' : Hp} {a : Addr} {o : HO} (S : Same H H') (h : H a = none) : Same H (upd H' a o) := fun b u e => by rw [upd_ne (ne_of_none e h)]; exact S _ _ e
section
variable {P : Program} {w : World} {K : PySem.W.Frag} {mg : Str → Option Value} {base : Heap} {cl : String → Addr}
theorem ok_Lives_init {f : Addr} {fd : FuncData} (F : Fun K "__init__" "Lives.__init__" s_Lives_init f fd) (T : Txt P w K mg cl) :
    FnOk P w K mg base (L2.CX P w) 3 f fd ["self", "customs", "rows"] (spLi K (cl "Lives") (cl "Customs") (cl "BadLives")) := by
  refine F.okX sc_Lives_init (fun vs H Q E h => ?_) (fun cdv A outer s H vs Q E hr h => ?_)
  · obtain ⟨p, dx, cv, rv, rfl, _⟩ := h
    rfl
  · obtain ⟨p, dx, cv, rv, rfl, hp, h⟩ := h
    have hu := hu_of hr
    have C_row_fault : Cal P w K mg base CX0 2 "row_fault" _ (spRF (cl "Customs")) := cal_row_fault T
    refine ⟨_, (pss_cons (ps_if (pt_not (pt_val (pe_callB call_isi (by rfl) T.n_isinstance (by decide +kernel) (pa_cons (pv 1) (pa_cons (pe_cls T.m_Customs) pa_nil)))))
          (pss_one (ps_raiseErr (k := 1) (okV := okVI) rfl T.e_BadLives okVI_ok T.m_BadLives (hr.mono (by decide)) (takes_of rfl rfl rfl rfl) (by exact (pa_cons pe_int (pa_cons pe_str pa_nil))))) pss_nil)
        (pss_cons (ps_if (PW.pt (pw_or (pt_not (pt_val (pe_callB call_isiT (by rfl) T.n_isinstance (by decide +kernel) (pa_cons (pv 2) (pa_cons (pe_tup (pa_cons (pe_ty "list" T.n_list) (pa_cons (pe_ty "tuple" T.n_tuple) pa_nil))) pa_nil))))) (pw_or1 (pt_not (pt_chain op_le op_le pe_int (pe_callB call_len_seq (by rfl) T.n_len PySem.boot_len (pa_cons (pv 2) pa_nil)) (pe_gl T.c_MOST_LIVES))))))
          (pss_one (ps_raiseErr (k := 1) (okV := okVI) rfl T.e_BadLives okVI_ok T.m_BadLives (hr.mono (by decide)) (takes_of rfl rfl rfl rfl) (by exact (pa_cons pe_int (pa_cons pe_str pa_nil))))) pss_nil)
        (pss_cons (ps_set (i := 3) sc_Lives_init.nd rfl (Or.inl rfl) pe_dnewK)
        (pss_cons (ps_set (i := 4) sc_Lives_init.nd rfl (Or.inl rfl) pe_dnewK)
        (pss_cons (ps_for (passes_of rfl) rfl (pi_enu2 (by rfl) T.n_enumerate (pa_cons (pv 2) pa_nil)) (pg_tup rfl (pgs_cons (pg_name (i := 5) sc_Lives_init.nd rfl (Or.inl rfl)) (pgs_cons (pg_name (i := 6) sc_Lives_init.nd rfl (Or.inl rfl)) pgs_nil)))
          (pss_cons (ps_set (i := 7) sc_Lives_init.nd rfl (Or.inl rfl) (pe_cal C_row_fault (hr.mono (by decide)) (pa_cons (pv 6) (pa_cons (pv 1) (pa_cons (pv 3) pa_nil)))))
            (pss_cons (ps_if (pt_cmpR op_notN (pv 7) pe_non (nomark _))
              (pss_one (ps_raiseErr (k := 1) (okV := okVI) rfl T.e_BadLives okVI_ok T.m_BadLives (hr.mono (by decide)) (takes_of rfl rfl rfl rfl) (by exact (pa_cons (pv 5) (pa_cons (pv 7) pa_nil))))) pss_nil)
            (pss_cons (ps_dput hu (pv 3) (pe_ix ix_either (pv 6) pe_int (fun _ _ => rfl)) (pe_ix ix_either (pv 6) pe_int (fun _ _ => rfl)) rfl)
            (pss_one (ps_dput hu (pv 4) (pe_ix ix_either (pv 6) pe_int (fun _ _ => rfl)) (pe_ix ix_either (pv 6) pe_int (fun _ _ => rfl)) rfl))))))
        (pss_cons (ps_fld (pv 0) (pv 1) rfl)
        (pss_cons (ps_fld (pv 0) (pe_callTy call_tuple_of (by rfl) T.n_tuple (by decide +kernel) (pa_cons (pe_lc (own := [("row", 6)]) (g := gName 6) (tt := tYes) rfl sc_Lives_init.nd (pi_seq (pv 2)) (blkOk_by (own := [("row", 6)]) (N := ["self", "customs", "rows", "ages", "parents", "index", "row", "word"]) (sc := defScope s_Lives_init) (by decide +kernel)) (fun _ _ _ _ _ => pg_name (i := 6) sc_Lives_init.nd rfl (Or.inl rfl)) (fun _ _ _ _ _ => pts_nil) (fun _ _ _ _ _ => (pe_callTy (call_tuple_ofK (K := K) rfl) (by rfl) T.n_tuple (by decide +kernel) (pa_cons (pv 6) pa_nil)))) pa_nil)) rfl)
        (pss_cons (ps_fld (pv 0) (pv 3) rfl)
        (pss_one (ps_fld (pv 0) (pv 4) rfl)))))))))), ?_⟩
    rcases h with ⟨n, dn, kb⟩ | ⟨cu, c0, c1, c2, c3, ro, rfl, hc, hrw, kb, kg⟩
    · have hm : n ∈ (["NoneType", "bool", "int", "str", "list", "tuple"] : List String) := by cases dn <;> decide
      exact ⟨_, rfl, _, _, _, _, _, rfl, .own (cl "Customs"), dn.ty, T.k_in_Cu n hm, _, rfl, iteT ⟨rfl, ⟨0, _, rfl, by decide⟩, fun e he => kb H e (Same.refl H) he⟩⟩
    · obtain ⟨dc, hc0⟩ := id hc
      refine ⟨_, rfl, _, _, _, _, _, rfl, .own (cl "Customs"), .base (.ins hc0 T.cl_Customs T.y_Customs T.z1 T.z2 T.z3_Customs), T.k_Cu_Cu, _, rfl, iteF ?_⟩
      refine ⟨_, rfl, by show 2 ≤ sizeLine; decide, fun tp htp => ?_⟩
      have S0 := sNew (o := .tup [.ty "list", .ty "tuple"]) htp
      cases ro with
      | none =>
        obtain ⟨x, rfl, hx⟩ := hrw
        have dx' : Dm K (upd H tp (.tup [.ty "list", .ty "tuple"])) (.str x) "str" := .str x (Nat.le_of_lt (small1000 hx))
        exact ⟨_, tp, _, _, _, _, rfl, upd_same, .cons (.ty "list") (.cons (.ty "tuple") .nil), dx'.ty, isLT dx', _, rfl, iteT (iteT ⟨rfl, ⟨0, _, rfl, by decide⟩, fun e he => kb 0 "rows" _ e rfl S0 he⟩)⟩
      | some rs =>
        obtain ⟨r, ws, rfl, hw, hpw, ok, hz⟩ := hrw
        have hw1 := hw.imp (S0 _ _) (S0 _ _)
        have dmr : ∃ n, Dm K (upd H tp (.tup [.ty "list", .ty "tuple"])) (.ref r) n ∧ PySem.W.kitAny K (.type n) [.type "list", .type "tuple"] = some true := by
          rcases hw1 with h | h
          · exact ⟨_, .lst h, isLT (.lst h)⟩
          · exact ⟨_, .tup h, isLT (.tup h)⟩
        obtain ⟨nr, dr, ka⟩ := dmr
        refine ⟨_, tp, _, _, _, _, rfl, upd_same, .cons (.ty "list") (.cons (.ty "tuple") .nil), dr.ty, ka, _, rfl, iteF ?_⟩
        have hl := hpw.length
        refine ⟨_, rfl, r, ws, rfl, hw1.imp SqL.of SqT.of, _, _, rfl, rfl, _, rfl, ?_⟩
        have short : (rs.length = 0 ∨ 6 < rs.length) → dueO c0 (some rs) = some (0, ("rows" : Str)) := fun g => (show dueW c0 rs = some (0, ("rows" : Str)) from if_pos g)
        refine ite2 (fun h1 => ?_) (fun h1 => ?_)
        rotate_left
        · have h1 : ¬ (1 : Int) ≤ ws.length := fun z => h1 (decide_eq_true z)
          exact ⟨_, rfl, iteT ⟨rfl, ⟨0, _, rfl, by decide⟩, fun e he => kb 0 "rows" _ e (short (.inl (by omega))) S0 he⟩⟩
        have h1 : (1 : Int) ≤ ws.length := of_decide_eq_true h1
        refine ⟨_, _, rfl, rfl, _, rfl, ?_⟩
        refine ite2 (fun h2 => ?_) (fun h2 => ?_)
        · have h2 : ¬ (ws.length : Int) ≤ 6 := of_decide_eq_false (by simpa using h2)
          exact ⟨rfl, ⟨0, _, rfl, by decide⟩, fun e he => kb 0 "rows" _ e (short (.inr (by omega))) S0 he⟩
        have h2 : (ws.length : Int) ≤ 6 := of_decide_eq_true (by simpa using h2)
        have hd : dueW c0 rs = dueGo c0 [] 0 rs := if_neg (by omega)
        refine fun ad had => ?_
        refine fun pd hpd => ?_
        have hadH : H ad = none := by
          cases e : H ad with
          | none => rfl
          | some o => rw [S0 _ _ e] at had; cases had
        have nap : ad ≠ pd := ne_of_none upd_same hpd
        have hpdH : H pd = none := by
          cases e : H pd with
          | none => rfl
          | some o => rw [sNew had _ _ (S0 _ _ e)] at hpd; cases hpd
        have S1 : Same H (upd (upd (upd H tp (.tup [.ty "list", .ty "tuple"])) ad (.dK [])) pd (.dK [])) := same_upd (same_upd S0 hadH) hpdH
        have hA : (upd (upd (upd H tp (.tup [.ty "list", .ty "tuple"])) ad (.dK [])) pd (.dK [])) ad = some (.dK []) := by rw [upd_ne nap]; exact upd_same
        have hB : (upd (upd (upd H tp (.tup [.ty "list", .ty "tuple"])) ad (.dK [])) pd (.dK [])) pd = some (.dK []) := upd_same
        generalize hH1 : upd (upd (upd H tp (.tup [.ty "list", .ty "tuple"])) ad (.dK [])) pd (.dK []) = H1 at S1 hA hB
        clear dr ka hw1 S0 had hpd hH1
        refine ⟨_, rfl, r, ws, rfl, hw.imp (S1 _ _) (S1 _ _), fun J wk => for_it wk (fun i σ H' => Same H H' ∧ H' ad = some (.dK (vvK ((rs.take i).map ageL))) ∧ H' pd = some (.dK (vvK ((rs.take i).map parL))) ∧ dueGo c0 [] 0 rs = dueGo c0 ((rs.take i).map keyOf) i (rs.drop i) ∧
          (∀ q ∈ (rs.take i).map keyOf, isN (.str q.1) = true) ∧ ((rs.take i).map keyOf).map (·.1) = ((rs.take i).map parL).map (·.1) ∧ ∃ (v5 v6 v7 : Option V), σ = [some (.ref p), some (.ref cu), some (.ref r), some (.ref ad), some (.ref pd), v5, v6, v7])
          ⟨S1, hA, hB, rfl, by simp, rfl, _, _, _, rfl⟩ (fun i σ H' _ q => ?_) ?_ ?_⟩
        · rcases hw with h | h
          · rw [S1 _ _ h, q.1 _ _ h]
          · rw [S1 _ _ h, q.1 _ _ h]
        · rintro i xv σ H3 H4 hi ⟨S3, ha3, hp3, hg, hN, hK, v5, v6, v7, rfl⟩ ⟨Tt, x1, y1, rfl, hT, rfl, e1, e2⟩
          cases e1
          obtain ⟨x, hx, hvx⟩ := Paired.at hpw e2
          have S4 := S3.trans (sNew (o := .tup [.int (i : Nat), y1]) hT)
          have ha4 := sNew (o := .tup [.int (i : Nat), y1]) hT _ _ ha3
          have hp4 := sNew (o := .tup [.int (i : Nat), y1]) hT _ _ hp3
          refine ⟨Tt, _, rfl, SqT.of upd_same, rfl, _, _, rfl, _, _, rfl, rfl, ?_⟩
          have hbf : vvK ((rs.take i).map ageL) = bfK ((rs.take i).map keyOf) := by rw [bfK_vv, List.map_map]; rfl
          refine ⟨_, rfl, _, rfl, _, rfl, y1, cu, ad, x, c0, c1, c2, c3, _, rfl, hvx.same S4, ok x (List.mem_of_getElem? hx), cuSame S4 hc, by rw [ha4, hbf], hN, fun H5 S5 => ?_⟩
          have ha5 := S5 _ _ ha4
          have hp5 := S5 _ _ hp4
          have S6 := S4.trans S5
          rw [take_drop_at hx, dueGo_cons] at hg
          cases e : rowW c0 ((rs.take i).map keyOf) x with
          | some s =>
            rw [e] at hg
            exact ⟨_, rfl, rfl, _, rfl, iteT ⟨_, rfl, _, rfl, rfl, ⟨i, _, rfl, log_small (by omega)⟩, fun e he => kb i s H5 e (hd.trans hg) S6 he⟩⟩
          | none =>
            rw [e] at hg
            obtain ⟨n, a, q, rfl, g1, g2, g3, g4, g5⟩ := rowW_none e
            obtain ⟨b, rfl, hb⟩ := hvx.same S6
            have nb1 : b ≠ ad := by rcases hb with h | h <;> exact ne_of h ha5 (fun z => nomatch z)
            have nb2 : b ≠ pd := by rcases hb with h | h <;> exact ne_of h hp5 (fun z => nomatch z)
            have l1 : ((rs.take i).map keyOf).length < sizeLine := small1000 (by rw [List.length_map]; exact Nat.le_trans (List.length_take_le _ _) (by omega))
            have pn : putK (vvK ((rs.take i).map ageL)) (.inr n) (.int a) = vvK ((rs.take (i + 1)).map ageL) := by
              rw [putK_new _ (by rw [hbf, valV_bf, g2]; rfl), take_snoc hx, List.map_append]
              unfold vvK
              rw [List.map_append]
              rfl
            have pp : putK (vvK ((rs.take i).map parL)) (.inr n) q = vvK ((rs.take (i + 1)).map parL) := by
              rw [putK_new _ (by rw [valV_vv]; exact look_none hK g2), take_snoc hx, List.map_append]
              unfold vvK
              rw [List.map_append]
              rfl
            refine ⟨_, rfl, rfl, _, rfl, iteF ⟨_, rfl, ixOr hb (j := 1) rfl ⟨_, rfl, _, rfl, ixOr hb (j := 0) rfl ⟨ad, _, rfl, dps ha5 pn (by unfold vvK; rw [List.length_map, List.length_map]; rw [List.length_map] at l1; exact l1), ?_⟩⟩⟩⟩
            have hb6 := hb.imp (fun h => (upd_ne (o := .dK (vvK ((rs.take (i + 1)).map ageL))) nb1).trans h) (fun h => (upd_ne (o := .dK (vvK ((rs.take (i + 1)).map ageL))) nb1).trans h)
            have hp6 := (upd_ne (o := .dK (vvK ((rs.take (i + 1)).map ageL))) (Ne.symm nap)).trans hp5
            refine ⟨_, rfl, ixOr hb6 (j := 2) rfl ⟨_, rfl, _, rfl, ixOr hb6 (j := 0) rfl ⟨pd, _, rfl, dps hp6 pp (by unfold vvK; rw [List.length_map, List.length_map]; rw [List.length_map] at l1; exact l1), ?_⟩⟩⟩
            refine ⟨same_upd (same_upd S6 hadH) hpdH, by rw [upd_ne nap]; exact upd_same, upd_same, ?_, ?_, ?_, _, _, _, rfl⟩
            · rw [hg, take_snoc hx, List.map_append]
              rfl
            · rw [take_snoc hx, List.map_append]
              intro z hz
              rcases List.mem_append.mp hz with hz | hz
              · exact hN z hz
              · obtain rfl : z = (n, a) := by simpa [keyOf] using hz
                exact g1
            · rw [take_snoc hx, List.map_append, List.map_append, List.map_append, List.map_append, hK]
              rfl
        · rintro σ H3 ⟨S3, ha3, hp3, hg, hN, hK, v5, v6, v7, rfl⟩
          rw [List.drop_of_length_le (Nat.le_of_eq hl.symm)] at hg
          have hn : dueW c0 rs = none := hd.trans hg
          obtain ⟨gs, rfl, good, _, _⟩ := dueW_good hn
          rw [List.take_of_length_le (Nat.le_of_eq hl.symm)] at ha3 hp3
          have ha3 : H3 ad = some (.dK (agK gs)) := by rw [ha3, List.map_map]; rfl
          have hp3 : H3 pd = some (.dK (prK gs)) := by rw [hp3, List.map_map]; rfl
          have hself := S3 _ _ hp
          refine ⟨_, rfl, _, rfl, p, _, dx, _, rfl, hself, T.cl_Lives, T.na_Lives _ (by decide), (by show 0 < 1000; decide), ?_⟩
          have npr : r ≠ p := by rcases hw with h | h <;> exact ne_of h hp (fun z => nomatch z)
          have ws3 := hw.imp (S3 _ _) (S3 _ _)
          have hw4 : ∀ o, (upd H3 p o) r = some (.lst ws) ∨ (upd H3 p o) r = some (.tup ws) := fun o => ws3.imp (fun h => (upd_ne npr).trans h) fun h => (upd_ne npr).trans h
          have B4 : ∀ o, But p H (upd H3 p o) := fun o b u e n => (upd_ne n).trans (S3 _ _ e)
          have self4 : ∀ o, (upd H3 p o) p = some o := fun o => upd_same
          have ha4 : ∀ o, (upd H3 p o) ad = some (.dK (agK gs)) := fun o => (upd_ne (ne_of ha3 hself (fun z => nomatch z))).trans ha3
          have hp4 : ∀ o, (upd H3 p o) pd = some (.dK (prK gs)) := fun o => (upd_ne (ne_of hp3 hself (fun z => nomatch z))).trans hp3
          have hpw4 : ∀ o, Paired (RowAt2 (upd H3 p o)) ws (gs.map mkR) := fun o => L2.Paired.mapP hpw fun v x h => by
            cases x with
            | sq xs =>
              obtain ⟨b, e, hb⟩ := h
              have nb : b ≠ p := by rcases hb with h | h <;> exact ne_of h hp (fun z => nomatch z)
              exact ⟨b, e, hb.imp (fun h => (upd_ne nb).trans (S3 _ _ h)) fun h => (upd_ne nb).trans (S3 _ _ h)⟩
            | tx x => exact h
          refine ⟨_, rfl, r, ws, rfl, hw4 _, fun J wk D hD => lc_it wk (fun i H' => ∃ us, H' D = some (.lst us) ∧ us.length = i ∧ Paired (TupAt H') us ((gs.map mkR).take i) ∧ Same (upd H3 p (.ins (cl "Lives") dx [("customs", .ref cu)])) H') ⟨[], upd_same, rfl, .nil, sNew hD⟩ (fun i H' _ ⟨us, _, _, _, S⟩ => ?_) ?_ ?_⟩
          · rcases hw4 (.ins (cl "Lives") dx [("customs", .ref cu)]) with h | h
            · exact (S _ _ h).trans h.symm
            · exact (S _ _ h).trans h.symm
          · rintro i v H5 H6 hi ⟨us, hD5, hlen, hp5, S5⟩ ⟨rfl, hv⟩
            obtain ⟨x, hx, hvx⟩ := Paired.at (hpw4 (.ins (cl "Lives") dx [("customs", .ref cu)])) hv
            obtain ⟨g, _, rfl⟩ := List.mem_map.mp (List.mem_of_getElem? hx)
            obtain ⟨b, rfl, hb⟩ := hvx.same S5
            have hlz : us.length < sizeLine := small1000 (by have := List.length_map (f := mkR) (as := gs); omega)
            refine ⟨rfl, _, rfl, b, [.str g.1, .int g.2.1, g.2.2], rfl, ?_⟩
            rcases hb with hb | hb
            · refine .inl ⟨SqL.of hb, fun l hl => ⟨us, by rw [upd_ne (ne_of_none hD5 hl)]; exact hD5, hlz, us ++ [.ref l], upd_same, by simp [hlen], ?_, fun b' o e => ?_⟩⟩
              · rw [take_snoc hx]
                have nlD : l ≠ D := Ne.symm (ne_of_none hD5 hl)
                refine Paired.appendP (L2.Paired.mapP hp5 fun _ _ h => h.keep fun b' xs e => ?_) (.cons ⟨l, _, rfl, rfl, by rw [upd_ne nlD]; exact upd_same⟩ .nil)
                rw [upd_ne (ne_of e hD5 (fun z => nomatch z)), upd_ne (ne_of_none e hl)]
                exact e
              · rw [upd_ne (ne_of_none e hD), upd_ne (ne_of_none (S5 _ _ e) hl)]
                exact S5 _ _ e
            · refine .inr ⟨SqT.of hb, us, hD5, hlz, us ++ [.ref b], upd_same, by simp [hlen], ?_, fun b' o e => ?_⟩
              · rw [take_snoc hx]
                have nbD : b ≠ D := ne_of hb hD5 (fun z => nomatch z)
                refine Paired.appendP (L2.Paired.mapP hp5 fun _ _ h => h.keep fun b' xs e => ?_) (.cons ⟨b, _, rfl, rfl, by rw [upd_ne nbD]; exact hb⟩ .nil)
                rw [upd_ne (ne_of e hD5 (fun z => nomatch z))]
                exact e
              · rw [upd_ne (ne_of_none e hD)]
                exact S5 _ _ e
          · rintro H5 ⟨us, hD5, hlen, hp5, S5⟩
            rw [List.take_of_length_le (by have := hpw.length; omega)] at hp5
            refine ⟨D, us, rfl, .inl ⟨SqL.of hD5, fun t ht => ?_⟩⟩
            have hs5 := S5 _ _ (self4 (.ins (cl "Lives") dx [("customs", .ref cu)]))
            have npt : p ≠ t := ne_of_none hs5 ht
            refine ⟨_, rfl, p, _, dx, _, rfl, (upd_ne npt).trans hs5, T.cl_Lives, T.na_Lives _ (by decide), (by show 1 < 1000; decide), ?_⟩
            refine ⟨_, rfl, _, rfl, p, _, dx, _, rfl, upd_same, T.cl_Lives, T.na_Lives _ (by decide), (by show 2 < 1000; decide), ?_⟩
            refine ⟨_, rfl, _, rfl, p, _, dx, _, rfl, upd_same, T.cl_Lives, T.na_Lives _ (by decide), (by show 3 < 1000; decide), ?_⟩
            rw [upd_upd, upd_upd]
            have stay : ∀ b u, H5 b = some u → b ≠ p → ∀ o, (upd (upd H5 t (.tup us)) p o) b = some u := fun b u e n o => (upd_ne n).trans ((upd_ne (ne_of_none e ht)).trans e)
            refine kg gs t us _ rfl hn (fun b u e n => stay _ _ (S5 _ _ (B4 _ _ _ e n)) n _) ⟨⟨dx, ad, pd, upd_same, ?_, ?_⟩, (upd_ne (Ne.symm npt)).trans upd_same, L2.Paired.mapP hp5 fun _ _ h => h.keep fun b xs e => stay _ _ e (ne_of e hs5 (fun z => nomatch z)) _⟩
            · exact stay _ _ (S5 _ _ (ha4 _)) (ne_of ha3 hself (fun z => nomatch z)) _
            · exact stay _ _ (S5 _ _ (hp4 _)) (ne_of hp3 hself (fun z => nomatch z)) _
theorem cal_Lives_init (T : Txt P w K mg cl) : CalC P w K mg base (L2.CX P w) 3 (cl "Lives") ["self", "customs", "rows"] (spLi K (cl "Lives") (cl "Customs") (cl "BadLives")) := by
  obtain ⟨f, fd, F, m⟩ := T.i_Lives
  exact ⟨f, fd, ok_Lives_init F T, m, F.binds fun _ _ _ _ _ _ us hl => match us, hl with | [_, _, _], _ => rfl⟩
end
end My
set_option Elab.async false
set_option linter.all false
set_option maxRecDepth 100000
set_option maxHeartbeats 1000000
namespace My
open PySem L2 Dw
open C8 (pss_cut tCut)
theorem ownEq {K : PySem.W.Frag} {P : Program} {w : World} {mg : Str → Option Value} {cl : String → Addr} (T : Txt P w K mg cl) {H : Hp} {x y : Addr} {a b c d a' b' c' d' : Int} {Q : VK} (hx : CuAt (cl "Customs") H x (.int a) (.int b) (.int c) (.int d)) (hy : CuAt (cl "Customs") H y (.int a') (.int b') (.int c') (.int d'))
    (k : ∀ H', Same H H' → Q (.bl (decide ([a, b, c, d] = [a', b', c', d']))) H') : rOwn K (cl "Customs") (spEq K (cl "Customs")) (.ref x) (.ref y) H Q := by
  obtain ⟨dx, hx'⟩ := id hx
  obtain ⟨dy, hy'⟩ := id hy
  exact ⟨x, dx, _, _, rfl, hx', .base (.ins hy' T.cl_Customs T.y_Customs T.z1 T.z2 T.z3_Customs), T.nf2_Customs, x, a, b, c, d, _, rfl, hx, .inl ⟨y, a', b', c', d', rfl, hy, fun H' S => ⟨⟨_, rfl⟩, k H' S⟩⟩⟩
theorem ownNo {K : PySem.W.Frag} {P : Program} {w : World} {mg : Str → Option Value} {cl : String → Addr} (T : Txt P w K mg cl) {H : Hp} {x : Addr} {o : V} {n : String} {a b c d : Int} {Q : VK} (hx : CuAt (cl "Customs") H x (.int a) (.int b) (.int c) (.int d)) (ho : Dm K H o n)
    (k : Q (.bl false) H) : rOwn K (cl "Customs") (spEq K (cl "Customs")) (.ref x) o H Q := by
  obtain ⟨dx, hx'⟩ := id hx
  have kt : ∀ m, Dm K H o m → m ∈ ["NoneType", "bool", "int", "str", "list", "tuple"] := fun m x => by cases x <;> decide
  exact ⟨x, dx, _, _, rfl, hx', ho.ty, T.nf_Customs n (kt n ho), x, a, b, c, d, _, rfl, hx, .inr ⟨⟨n, ho⟩, ⟨_, rfl⟩, k⟩⟩
/-- an item of the tuple at v -/
def tupAt0 (H : Hp) (j : Nat) : V → Option V
  | .ref b => match H b with
    | some (.tup xs) => xs[j]?
    | _ => none
  | _ => none
theorem tup0 {H : Hp} {v : V} {g : Gd} (h : TupAt H v (mkR g)) : ∃ b, v = .ref b ∧ H b = some (.tup [.str g.1, .int g.2.1, g.2.2]) := by
  obtain ⟨b, xs, h1, h2, h3⟩ := h
  cases h1
  exact ⟨b, h2, h3⟩
theorem names_tup {H : Hp} : ∀ {us : List V} {gs : List Gd}, Paired (TupAt H) us (gs.map mkR) → us.filterMap (tupAt0 H 0) = gs.map fun g => V.str g.1
  | _, [], h => by cases h; rfl
  | _, g :: gs, h => by
    cases h with
    | cons a t =>
      obtain ⟨b, rfl, hb⟩ := tup0 a
      rw [List.filterMap_cons, show tupAt0 H 0 (.ref b) = some (.str g.1) by simp [tupAt0, hb], List.map_cons, names_tup t]
def lkA (gs : List Gd) (s : Str) : Option V := (gs.map fun g => (g.1, V.int g.2.1)).lookup s
def lkP (gs : List Gd) (s : Str) : Option V := (gs.map fun g => (g.1, g.2.2)).lookup s
def hasN (gs : List Gd) : V → Bool
  | .str s => (lkA gs s).isSome
  | _ => false
def rowD (g : Gd) : PyData := sqD false ([V.str g.1, .int g.2.1, g.2.2].map vD)
def rowsD (gs : List Gd) : PyData := sqD false (gs.map rowD)
theorem rok_row {g : Gd} (h : Rok (mkR g)) : ∀ x ∈ ([V.str g.1, .int g.2.1, g.2.2] : List V), okV x = true := fun x hx => (h.2 x hx).ok
theorem dpAll_rows {K : PySem.W.Frag} {H : Hp} : ∀ {us : List V} {gs : List Gd}, Paired (TupAt H) us (gs.map mkR) → (∀ g ∈ gs, Rok (mkR g)) → DpAll K H us (gs.map rowD)
  | _, [], h, _ => by cases h; exact .nil
  | _, g :: gs, h, ok => by
    cases h with
    | cons a t =>
      obtain ⟨b, rfl, hb⟩ := tup0 a
      exact .cons (dp_tup (SqT.of hb) (dpvs fun x hx => okV.flat (rok_row (ok g List.mem_cons_self) x hx))) (dpAll_rows t fun g' h' => ok g' (List.mem_cons_of_mem _ h'))
theorem rows_shaped (l : Bool) {gs : List Gd} (ok : ∀ g ∈ gs, Rok (mkR g)) : SeqAt.shaped (sqD l (gs.map rowD)) = true := fls_shaped l fun d hd => by
  obtain ⟨g, hg, rfl⟩ := List.mem_map.mp hd
  exact fl_row false (rok_row (ok g hg))
theorem rows_self (l : Bool) (gs : List Gd) : PyData.eqv (sqD l (gs.map rowD)) (sqD l (gs.map rowD)) = true := sqD_self l fun d hd => by
  obtain ⟨g, _, rfl⟩ := List.mem_map.mp hd
  exact row_self false _
/-! promises -/
def spNames (C : Addr) : Sp := fun vs H Q _ => ∃ (p cu t : Addr) (us : List V) (gs : List Gd), vs = [.ref p] ∧ LiAt C H p cu t us gs ∧ gs.length ≤ 9 ∧ ∀ n H', Same H H' → H' n = some (.tup (gs.map fun g => V.str g.1)) → Q (.ref n) H'
def spHas (K : PySem.W.Frag) (C : Addr) : Sp := fun vs H Q _ => ∃ (p cu t : Addr) (us : List V) (gs : List Gd) (v : V) (n : String), vs = [.ref p, v] ∧ LiAt C H p cu t us gs ∧ Dm K H v n ∧ Q (.bl (hasN gs v)) H
def spAge (K : PySem.W.Frag) (C CN : Addr) (lk : List Gd → Str → Option V) : Sp := fun vs H Q E => ∃ (p cu t : Addr) (us : List V) (gs : List Gd) (v : V) (n : String), vs = [.ref p, v] ∧ LiAt C H p cu t us gs ∧ Dm K H v n ∧
  (hasN gs v = false → ∀ e, H e = none → E (.ref CN) (some e) (upd H e (.xd [("name", v)]))) ∧ (∀ s a, v = .str s → lk gs s = some a → Q a H)
def spLen (C : Addr) : Sp := fun vs H Q _ => ∃ (p cu t : Addr) (us : List V) (gs : List Gd), vs = [.ref p] ∧ LiAt C H p cu t us gs ∧ Q (.int us.length) H
def spLiEq (K : PySem.W.Frag) (C CC : Addr) : Sp := fun vs H Q _ => ∃ (p cu t : Addr) (us : List V) (gs : List Gd) (o : V) (a b c d : Int), vs = [.ref p, o] ∧ LiAt C H p cu t us gs ∧ (∀ g ∈ gs, Rok (mkR g)) ∧ CuAt CC H cu (.int a) (.int b) (.int c) (.int d) ∧
  ((∃ q t' us' gs', o = .ref q ∧ LiAt C H q cu t' us' gs' ∧ (∀ g ∈ gs', Rok (mkR g)) ∧ ∀ H', Same H H' → Q (.bl (PyData.eqv (rowsD gs) (rowsD gs'))) H') ∨ ((∃ n, Dm K H o n) ∧ Q (.bl false) H))
section
variable {P : Program} {w : World} {K : PySem.W.Frag} {mg : Str → Option Value} {base : Heap} {cl : String → Addr}
theorem ok_names {f : Addr} {fd : FuncData} (F : Fun K "names" "Lives.names" s_Lives_names f fd) (T : Txt P w K mg cl) : FnOk P w K mg base CX0 1 f fd ["self"] (spNames (cl "Lives")) := by
  refine F.ok sc_Lives_names (fun vs H Q E h => ?_) (fun cdv A outer s H vs Q E hr h => ?_)
  · obtain ⟨p, cu, t, us, gs, rfl, _⟩ := h
    rfl
  · obtain ⟨p, cu, t, us, gs, rfl, L, hz, k⟩ := h
    refine ⟨_, (pss_one (ps_ret (pe_callTy call_tuple_of (by rfl) T.n_tuple (by decide +kernel) (pa_cons (pe_lc (own := [("row", 1)]) (g := gName 1) (tt := tYes) rfl sc_Lives_names.nd (pi_tup (pe_fld (pv 0) rfl)) (blkOk_by (own := [("row", 1)]) (N := ["self", "row"]) (sc := defScope s_Lives_names) (by decide +kernel)) (fun _ _ _ _ _ => pg_name (i := 1) sc_Lives_names.nd rfl (Or.inl rfl)) (fun _ _ _ _ _ => pts_nil) (fun _ _ _ _ _ => (pe_ix (ix_tupK (K := K) rfl) (pv 1) pe_int (fun _ _ => rfl)))) pa_nil)))), ?_⟩
    obtain ⟨⟨dx, ad, pd, h1, h2, h3⟩, h4, h5⟩ := id L
    have hl := h5.length
    rw [List.length_map] at hl
    have hus : us.length < sizeLine := small1000 (by omega)
    refine ⟨_, rfl, p, _, dx, _, _, rfl, h1, T.cl_Lives, T.na_Lives _ (by decide), rfl, t, rfl, ⟨_, SqT.of h4⟩, fun D hD => lc_it (walk_tup (xs := us)) (PvF H D us (tupAt0 H 0)) rfl (fun i H' _ e => by rw [e]; exact SqT.of (by rw [upd_ne (ne_of_none h4 hD)]; exact h4)) ?_ ?_⟩
    · rintro i v H1 H2 hi rfl ⟨rfl, hv⟩
      obtain ⟨q, hq, hbf⟩ := Paired.at h5 hv
      obtain ⟨g, _, rfl⟩ := List.mem_map.mp (List.mem_of_getElem? hq)
      obtain ⟨b, rfl, hb⟩ := tup0 hbf
      exact ⟨rfl, _, rfl, _, _, _, _, rfl, rfl, SqT.of (by rw [upd_ne (ne_of_none hb hD)]; exact hb), atI_nat (j := 0) rfl, fm_put hv (by simp [tupAt0, hb]) hus⟩
    · intro H1 e
      obtain rfl := fm_end e
      rw [names_tup h5]
      exact ⟨D, _, rfl, .inl ⟨SqL.of upd_same, fun n hn => k n _ ((sNew hD).trans (sNew hn)) upd_same⟩⟩
theorem cal_names (T : Txt P w K mg cl) : CalP P w K mg base 1 (cl "Lives") "names" (spNames (cl "Lives")) := by
  obtain ⟨p, g, fd, hp, F⟩ := T.d_Lives_names
  exact ⟨p, g, fd, ok_names F T, hp, F.binds fun _ _ _ _ _ _ us hl => match us, hl with | [_], _ => rfl⟩
theorem ok_has {f : Addr} {fd : FuncData} (F : Fun K "has" "Lives.has" s_Lives_has f fd) (T : Txt P w K mg cl) : FnOk P w K mg base CX0 1 f fd ["self", "name"] (spHas K (cl "Lives")) := by
  refine F.ok sc_Lives_has (fun vs H Q E h => ?_) (fun cdv A outer s H vs Q E hr h => ?_)
  · obtain ⟨p, cu, t, us, gs, v, n, rfl, _⟩ := h
    rfl
  · obtain ⟨p, cu, t, us, gs, v, n, rfl, L, dv, k⟩ := h
    have hu := hu_of hr
    refine ⟨_, (pss_one (ps_ret (pe_and (pe_callB call_isi (by rfl) T.n_isinstance (by decide +kernel) (pa_cons (pv 1) (pa_cons (pe_ty "str" T.n_str) pa_nil))) (pe_one (pe_cmp (pc_din hu (pv 1) (pe_fld (pv 0) rfl)) rfl))))), ?_⟩
    obtain ⟨⟨dx, ad, pd, h1, h2, h3⟩, h4, h5⟩ := id L
    by_cases hs : ∃ s, v = .str s
    · obtain ⟨s, rfl⟩ := hs
      refine ⟨_, rfl, _, _, _, _, _, rfl, .ty "str", .base (.str s), kit_ty (by decide +kernel), true, rfl, iteT ?_⟩
      refine ⟨_, rfl, _, rfl, p, _, dx, _, _, rfl, h1, T.cl_Lives, T.na_Lives _ (by decide), rfl, ad, _, rfl, DGet.k (k := .inr s) h2, ?_⟩
      rw [show (valV (agK gs) (.inr s)).isSome = hasN gs (.str s) by unfold agK; rw [valV_vv]; rfl]
      exact k
    · have kk : PySem.W.kitOne K (.type n) (.type "str") = some false := by
        cases dv <;> first | exact kit_ty (by decide +kernel) | exact absurd ⟨_, rfl⟩ hs
      refine ⟨_, rfl, _, _, _, _, _, rfl, .ty "str", dv.ty, kk, false, rfl, iteF ?_⟩
      have e : hasN gs v = false := by
        cases v with
        | str s => exact absurd ⟨_, rfl⟩ hs
        | _ => rfl
      rw [e] at k
      exact k
theorem cal_has (T : Txt P w K mg cl) : CalM P w K mg base CX0 1 (cl "Lives") "has" ["self", "name"] (spHas K (cl "Lives")) := by
  obtain ⟨f, fd, F, m⟩ := T.d_Lives_has
  exact ⟨f, fd, ok_has F T, m, F.binds fun _ _ _ _ _ _ us hl => match us, hl with | [_, _], _ => rfl⟩
theorem has_look {gs : List Gd} {v : V} (h : hasN gs v = true) : ∃ s a b, v = .str s ∧ lkA gs s = some a ∧ lkP gs s = some b := by
  cases v with
  | str s =>
    have h : (lkA gs s).isSome = true := h
    obtain ⟨a, e⟩ := Option.isSome_iff_exists.mp h
    have : lkP gs s ≠ none := fun z => by
      have q := look_none (M := gs.map fun g => (g.1, V.int g.2.1)) (by rw [List.map_map, List.map_map]; rfl) z
      unfold lkA at e
      rw [q] at e
      cases e
    cases e2 : lkP gs s with
    | none => exact absurd e2 this
    | some b => exact ⟨s, a, b, rfl, e, e2⟩
  | _ => cases h
theorem ok_age {f : Addr} {fd : FuncData} (F : Fun K "age" "Lives.age" s_Lives_age f fd) (T : Txt P w K mg cl) : FnOk P w K mg base (L2.CX P w) 2 f fd ["self", "name"] (spAge K (cl "Lives") (cl "NoLife") lkA) := by
  refine F.okX sc_Lives_age (fun vs H Q E h => ?_) (fun cdv A outer s H vs Q E hr h => ?_)
  · obtain ⟨p, cu, t, us, gs, v, n, rfl, _⟩ := h
    rfl
  · obtain ⟨p, cu, t, us, gs, v, n, rfl, L, dv, k1, k2⟩ := h
    have hu := hu_of hr
    have C_Lives_has : CalM P w K mg base CX0 1 (cl "Lives") "has" _ (spHas K (cl "Lives")) := cal_has T
    refine ⟨_, (pss_cons (ps_if (pt_not (pt_val (pe_mth T.cl_Lives C_Lives_has (hr.mono (by decide)) (pv 0) (pa_cons (pv 1) pa_nil))))
          (pss_one (ps_raiseErr (k := 1) (okV := fun _ => True) rfl T.e_NoLife (fun _ _ _ _ => trivial) T.m_NoLife (hr.mono (by decide)) (takes_of rfl rfl rfl rfl) (by exact (pa_cons (pv 1) pa_nil)))) pss_nil)
        (pss_one (ps_ret (pe_dget hu (pe_fld (pv 0) rfl) (pv 1) (fun _ _ => rfl))))), ?_⟩
    obtain ⟨⟨dx, ad, pd, h1, h2, h3⟩, h4, h5⟩ := id L
    refine ⟨_, rfl, p, dx, _, rfl, h1, rfl, _, rfl, p, cu, t, us, gs, v, n, rfl, L, dv, _, rfl, ?_⟩
    refine ite2 (fun g => ?_) (fun g => ?_)
    · exact ⟨_, rfl, rfl, trivial, fun e he => k1 (by simpa using g) e he⟩
    · obtain ⟨s, a, b, rfl, ea, eb⟩ := has_look (gs := gs) (v := v) (by simpa using g)
      have dg : DGet H ad (.str s) (some a) := dgs h2 (by unfold agK; rw [valV_vv]; exact ea)
      exact ⟨_, rfl, p, _, dx, _, _, rfl, h1, T.cl_Lives, T.na_Lives _ (by decide), rfl, _, rfl, ad, _, rfl, dg, k2 s a rfl ea⟩
theorem cal_age (T : Txt P w K mg cl) : CalM P w K mg base (L2.CX P w) 2 (cl "Lives") "age" ["self", "name"] (spAge K (cl "Lives") (cl "NoLife") lkA) := by
  obtain ⟨f, fd, F, m⟩ := T.d_Lives_age
  exact ⟨f, fd, ok_age F T, m, F.binds fun _ _ _ _ _ _ us hl => match us, hl with | [_, _], _ => rfl⟩
theorem ok_parent {f : Addr} {fd : FuncData} (F : Fun K "parent" "Lives.parent" s_Lives_parent f fd) (T : Txt P w K mg cl) : FnOk P w K mg base (L2.CX P w) 2 f fd ["self", "name"] (spAge K (cl "Lives") (cl "NoLife") lkP) := by
  refine F.okX sc_Lives_parent (fun vs H Q E h => ?_) (fun cdv A outer s H vs Q E hr h => ?_)
  · obtain ⟨p, cu, t, us, gs, v, n, rfl, _⟩ := h
    rfl
  · obtain ⟨p, cu, t, us, gs, v, n, rfl, L, dv, k1, k2⟩ := h
    have hu := hu_of hr
    have C_Lives_has : CalM P w K mg base CX0 1 (cl "Lives") "has" _ (spHas K (cl "Lives")) := cal_has T
    refine ⟨_, (pss_cons (ps_if (pt_not (pt_val (pe_mth T.cl_Lives C_Lives_has (hr.mono (by decide)) (pv 0) (pa_cons (pv 1) pa_nil))))
          (pss_one (ps_raiseErr (k := 1) (okV := fun _ => True) rfl T.e_NoLife (fun _ _ _ _ => trivial) T.m_NoLife (hr.mono (by decide)) (takes_of rfl rfl rfl rfl) (by exact (pa_cons (pv 1) pa_nil)))) pss_nil)
        (pss_one (ps_ret (pe_dget hu (pe_fld (pv 0) rfl) (pv 1) (fun _ _ => rfl))))), ?_⟩
    obtain ⟨⟨dx, ad, pd, h1, h2, h3⟩, h4, h5⟩ := id L
    refine ⟨_, rfl, p, dx, _, rfl, h1, rfl, _, rfl, p, cu, t, us, gs, v, n, rfl, L, dv, _, rfl, ?_⟩
    refine ite2 (fun g => ?_) (fun g => ?_)
    · exact ⟨_, rfl, rfl, trivial, fun e he => k1 (by simpa using g) e he⟩
    · obtain ⟨s, a, b, rfl, ea, eb⟩ := has_look (gs := gs) (v := v) (by simpa using g)
      have dg : DGet H pd (.str s) (some b) := dgs h3 (by unfold prK; rw [valV_vv]; exact eb)
      exact ⟨_, rfl, p, _, dx, _, _, rfl, h1, T.cl_Lives, T.na_Lives _ (by decide), rfl, _, rfl, pd, _, rfl, dg, k2 s b rfl eb⟩
theorem cal_parent (T : Txt P w K mg cl) : CalM P w K mg base (L2.CX P w) 2 (cl "Lives") "parent" ["self", "name"] (spAge K (cl "Lives") (cl "NoLife") lkP) := by
  obtain ⟨f, fd, F, m⟩ := T.d_Lives_parent
  exact ⟨f, fd, ok_parent F T, m, F.binds fun _ _ _ _ _ _ us hl => match us, hl with | [_, _], _ => rfl⟩
theorem ok_len {f : Addr} {fd : FuncData} (F : Fun K "__len__" "Lives.__len__" s_Lives_len f fd) (T : Txt P w K mg cl) : FnOk P w K mg base CX0 1 f fd ["self"] (spLen (cl "Lives")) := by
  refine F.ok sc_Lives_len (fun vs H Q E h => ?_) (fun cdv A outer s H vs Q E hr h => ?_)
  · obtain ⟨p, cu, t, us, gs, rfl, _⟩ := h
    rfl
  · obtain ⟨p, cu, t, us, gs, rfl, L, k⟩ := h
    refine ⟨_, (pss_one (ps_ret (pe_callB call_len_seq (by rfl) T.n_len PySem.boot_len (pa_cons (pe_fld (pv 0) rfl) pa_nil)))), ?_⟩
    obtain ⟨⟨dx, ad, pd, h1, h2, h3⟩, h4, h5⟩ := id L
    exact ⟨_, rfl, p, _, dx, _, _, rfl, h1, T.cl_Lives, T.na_Lives _ (by decide), rfl, t, us, rfl, .inr (SqT.of h4), k⟩
theorem cal_len (T : Txt P w K mg cl) : CalM P w K mg base CX0 1 (cl "Lives") "__len__" ["self"] (spLen (cl "Lives")) := by
  obtain ⟨f, fd, F, m⟩ := T.d_Lives_len
  exact ⟨f, fd, ok_len F T, m, F.binds fun _ _ _ _ _ _ us hl => match us, hl with | [_], _ => rfl⟩
theorem ok_iter {f : Addr} {fd : FuncData} (F : Fun K "__iter__" "Lives.__iter__" s_Lives_iter f fd) (T : Txt P w K mg cl) : FnN P w K mg base CX0 1 f fd ["self"] (spItT K (cl "Lives") "rows") := by
  refine F.okN sc_Lives_iter (fun n vs H Q E h => ?_) (fun cdv A outer s H vs Q E hr h => ?_)
  · obtain ⟨a, dx, t, fs, zs, rfl, _⟩ := h
    rfl
  · obtain ⟨a, dx, t, fs, zs, rfl, h1, h2, h3, k⟩ := h
    refine ⟨_, (pss_one (ps_ret (pe_callB call_iterT (by rfl) T.n_iter (by decide +kernel) (pa_cons (pe_fld (pv 0) rfl) pa_nil)))), ?_⟩
    exact ⟨_, rfl, a, _, dx, _, _, rfl, h1, T.cl_Lives, T.na_Lives _ (by decide), h2, t, zs, rfl, h3, k⟩
theorem cal_iter (T : Txt P w K mg cl) : CalI P w K mg base 1 (cl "Lives") "rows" := by
  obtain ⟨f, fd, F, m⟩ := T.d_Lives_iter
  exact ⟨f, fd, ok_iter F T, m, F.binds fun _ _ _ _ _ _ us hl => match us, hl with | [_], _ => rfl⟩
theorem ok_Lives_eq {f : Addr} {fd : FuncData} (F : Fun K "__eq__" "Lives.__eq__" s_Lives_eq f fd) (T : Txt P w K mg cl) : FnOk P w K mg base CX0 3 f fd ["self", "other"] (spLiEq K (cl "Lives") (cl "Customs")) := by
  refine F.ok sc_Lives_eq (fun vs H Q E h => ?_) (fun cdv A outer s H vs Q E hr h => ?_)
  · obtain ⟨p, cu, t, us, gs, o, a, b, c, d, rfl, _⟩ := h
    rfl
  · obtain ⟨p, cu, t, us, gs, o, a, b, c, d, rfl, L, ok, hc, h⟩ := h
    have C_Customs_eq : CalM P w K mg base CX0 2 (cl "Customs") "__eq__" _ (spEq K (cl "Customs")) := cal_eq T
    refine ⟨_, (pss_one (ps_ret (pe_and (pe_callB call_isi (by rfl) T.n_isinstance (by decide +kernel) (pa_cons (pv 1) (pa_cons (pe_cls T.m_Lives) pa_nil))) (pe_and (pe_cmpR (op_own C_Customs_eq (hr.mono (by decide))) (pe_fld (pv 0) rfl) (pe_fld (pv 1) rfl) (nomark _)) (pe_one (pe_cmpR (op_eqD hr.units) (pe_fld (pv 0) rfl) (pe_fld (pv 1) rfl) (nomark _))))))), ?_⟩
    obtain ⟨⟨dx, ad, pd, h1, h2, h3⟩, h4, h5⟩ := id L
    rcases h with ⟨q, t', us', gs', rfl, L', ok', k⟩ | ⟨⟨n, dn⟩, k⟩
    · obtain ⟨⟨dx', ad', pd', h1', h2', h3'⟩, h4', h5'⟩ := id L'
      refine ⟨_, rfl, _, _, _, _, _, rfl, .own (cl "Lives"), .base (.ins h1' T.cl_Lives T.y_Lives T.z1 T.z2 T.z3_Lives), T.k_Li_Li, _, rfl, iteT ?_⟩
      refine ⟨_, rfl, p, _, dx, _, _, rfl, h1, T.cl_Lives, T.na_Lives _ (by decide), rfl, _, rfl, q, _, dx', _, _, rfl, h1', T.cl_Lives, T.na_Lives _ (by decide), rfl, ownEq T hc hc fun H1 S1 => ⟨_, rfl, ?_⟩⟩
      rw [decide_eq_true (show [a, b, c, d] = [a, b, c, d] from rfl)]
      refine iteT ?_
      refine ⟨_, rfl, p, _, dx, _, _, rfl, S1 _ _ h1, T.cl_Lives, T.na_Lives _ (by decide), rfl, _, rfl, q, _, dx', _, _, rfl, S1 _ _ h1', T.cl_Lives, T.na_Lives _ (by decide), rfl, ?_⟩
      refine ⟨rowsD gs, rowsD gs', dp_tup (SqT.of (S1 _ _ h4)) (dpAll_rows (L2.Paired.mapP h5 fun _ _ z => z.keep fun b xs e => S1 _ _ e) ok), dp_tup (SqT.of (S1 _ _ h4')) (dpAll_rows (L2.Paired.mapP h5' fun _ _ z => z.keep fun b xs e => S1 _ _ e) ok'), rows_shaped false ok, rows_shaped false ok', ?_⟩
      exact k H1 S1
    · have kt : ∀ m, Dm K H o m → m ∈ ["NoneType", "bool", "int", "str", "list", "tuple"] := fun m x => by cases x <;> decide
      exact ⟨_, rfl, _, _, _, _, _, rfl, .own (cl "Lives"), dn.ty, T.k_in_Li n (kt n dn), _, rfl, iteF k⟩
theorem cal_Lives_eq (T : Txt P w K mg cl) : CalM P w K mg base CX0 3 (cl "Lives") "__eq__" ["self", "other"] (spLiEq K (cl "Lives") (cl "Customs")) := by
  obtain ⟨f, fd, F, m⟩ := T.d_Lives_eq
  exact ⟨f, fd, ok_Lives_eq F T, m, F.binds fun _ _ _ _ _ _ us hl => match us, hl with | [_, _], _ => rfl⟩
end
end My
set_option Elab.async false
set_option linter.all false
set_option maxRecDepth 100000
set_option maxHeartbeats 1000000
namespace My
open PySem L2 Dw
open C8 (pss_cut tCut)
/-- four numbers in a new tuple -/
def spCus : Sp := fun vs H Q _ => ∃ (d c : Addr), vs = [.ref d] ∧ Dr H d c ∧ ∀ (n0 n1 n2 n3 : Int) (t : Addr) (H' : Hp), 1 ≤ n0 → n0 ≤ 14 → 0 ≤ n1 → n1 ≤ 3 → 0 ≤ n2 → n2 ≤ 17 → 0 ≤ n3 → n3 ≤ 39 → H' t = some (.tup [.int n0, .int n1, .int n2, .int n3]) → Dr H' d c → But d H H' → Q (.ref t) H'
/-- a drawn row -/
def DRow (H : Hp) (v : V) : Prop := ∃ (b : Addr) (s : Str) (a : Int) (p : V), v = .ref b ∧ H b = some (.lst [.str s, .int a, p]) ∧ Sc (.str s) ∧ Sc p ∧ (p = .non ∨ ∃ t, p = .str t)
theorem DRow.keep {H H' : Hp} {v : V} (h : DRow H v) (k : ∀ b xs, v = .ref b → H b = some (.lst xs) → H' b = some (.lst xs)) : DRow H' v := by
  obtain ⟨b, s, a, p, rfl, h1, h2⟩ := h
  exact ⟨b, s, a, p, rfl, k _ _ rfl h1, h2⟩
def Drw (H : Hp) (r : Addr) (n : Nat) : Prop := ∃ vs, H r = some (.lst vs) ∧ vs.length = n ∧ ∀ v ∈ vs, DRow H v
theorem Drw.keep {H H' : Hp} {r : Addr} {n : Nat} (h : Drw H r n) (k : ∀ b xs, H b = some (.lst xs) → H' b = some (.lst xs)) : Drw H' r n := by
  obtain ⟨vs, h1, h2, h3⟩ := h
  exact ⟨vs, k _ _ h1, h2, fun v hv => (h3 v hv).keep fun b xs _ => k b xs⟩
/-- the draws' dict is no list -/
theorem butLst {d c b : Addr} {H H' : Hp} {xs : List V} (D : Dr H d c) (B : But d H H') (h : H b = some (.lst xs)) : H' b = some (.lst xs) := by
  obtain ⟨n, ns, nx, dg, rs, sd, tn, h1, h2, h3, h4⟩ := D
  exact B _ _ h (ne_of h h1 (fun z => nomatch z))
theorem butTup {d c b : Addr} {H H' : Hp} {xs : List V} (D : Dr H d c) (B : But d H H') (h : H b = some (.tup xs)) : H' b = some (.tup xs) := by
  obtain ⟨n, ns, nx, dg, rs, sd, tn, h1, h2, h3, h4⟩ := D
  exact B _ _ h (ne_of h h1 (fun z => nomatch z))
theorem Drw.but {d c r : Addr} {H H' : Hp} {n : Nat} (h : Drw H r n) (D : Dr H d c) (B : But d H H') : Drw H' r n := h.keep fun _ _ e => butLst D B e
theorem DRow.dat {K : PySem.W.Frag} {H : Hp} {v : V} (h : DRow H v) : ∃ d, Dp K H v d ∧ Fl1 d := by
  obtain ⟨b, s, a, p, rfl, h1, h2, h3, h4⟩ := h
  have ok : ∀ x ∈ ([.str s, .int a, p] : List V), okV x = true := fun x hx => by
    rcases (show x = .str s ∨ x = .int a ∨ x = p by simpa using hx) with rfl | rfl | rfl
    · exact h2.ok
    · rfl
    · exact h3.ok
  exact ⟨_, dp_lst (SqL.of h1) (dpvs fun x hx => okV.flat (ok x hx)), fl_row true ok⟩
theorem dats {K : PySem.W.Frag} {H : Hp} : ∀ {vs : List V}, (∀ v ∈ vs, ∃ d, Dp K H v d ∧ Fl1 d) → ∃ ds, DpAll K H vs ds ∧ (∀ d ∈ ds, Fl1 d) ∧ ds.length = vs.length
  | [], _ => ⟨[], .nil, by simp, rfl⟩
  | v :: vs, h => by
    obtain ⟨d, h1, h2⟩ := h v List.mem_cons_self
    obtain ⟨ds, h3, h4, h5⟩ := dats fun x hx => h x (List.mem_cons_of_mem _ hx)
    exact ⟨d :: ds, .cons h1 h3, fun e he => by rcases List.mem_cons.mp he with rfl | he; exact h2; exact h4 e he, by simp [h5]⟩
theorem eqv_nil (ds : List PyData) : PyData.eqv (sqD true ds) (sqD true []) = ds.isEmpty := by
  cases ds <;> simp [sqD, PyData.eqv, PyData.eqvAll]
theorem two_ok {a b : Nat} (ha : a ∈ ("abcdefgh" : Str).cps.toList) (hb : b ∈ ("xyz" : Str).cps.toList) : Sc (.str (⟨#[a]⟩ ++ ⟨#[b]⟩)) := by
  have h1 : ∀ c ∈ ("abcdefgh" : Str).cps.toList, c < 0x110000 := by decide +kernel
  have h2 : ∀ c ∈ ("xyz" : Str).cps.toList, c < 0x110000 := by decide +kernel
  refine ⟨by rw [Str.length_append]; show 1 + 1 ≤ 20; decide, ?_, fun e => ?_⟩
  · show (#[a] ++ #[b]).all (· < 0x110000) = true
    simp [h1 a ha, h2 b hb]
  · have := congrArg Str.length e
    rw [Str.length_append] at this
    revert this
    show ¬ (1 + 1 = _)
    decide +kernel
theorem menu_ok {m : Nat} (h : m < 6) : ∃ s, (["a", "b", "c", "anna", "zz", "ba"] : List Str)[m]? = some s ∧ Sc (.str s) := by
  match m, h with
  | 0, _ => exact ⟨_, rfl, by decide, by decide +kernel, by decide +kernel⟩
  | 1, _ => exact ⟨_, rfl, by decide, by decide +kernel, by decide +kernel⟩
  | 2, _ => exact ⟨_, rfl, by decide, by decide +kernel, by decide +kernel⟩
  | 3, _ => exact ⟨_, rfl, by decide, by decide +kernel, by decide +kernel⟩
  | 4, _ => exact ⟨_, rfl, by decide, by decide +kernel, by decide +kernel⟩
  | 5, _ => exact ⟨_, rfl, by decide, by decide +kernel, by decide +kernel⟩
theorem drow_ne {H : Hp} {r : Addr} {vs : List V} {v : V} (h1 : H r = some (.lst vs)) (hv : v ∈ vs) (h : DRow H v) : ∀ b, v = .ref b → b ≠ r := by
  rintro b rfl rfl
  obtain ⟨b', s, a, p, e, hb, _, _, hp⟩ := h
  cases e
  rw [h1] at hb
  cases hb
  rcases (show V.ref b = .str s ∨ V.ref b = .int a ∨ V.ref b = p by simpa using hv) with q | q | q
  · cases q
  · cases q
  · rcases hp with rfl | ⟨t, rfl⟩ <;> cases q
def spDrawn : Sp := fun vs H Q _ => ∃ (d c cu : Addr) (n0 : Int) (cs : List V), vs = [.ref d, .ref cu] ∧ Dr H d c ∧ H cu = some (.tup (.int n0 :: cs)) ∧ ∀ (r : Addr) (n : Nat) (H' : Hp), 1 ≤ n → n ≤ 7 → H r = none → Drw H' r n → Dr H' d c → But d H H' → Q (.ref r) H'
section
variable {P : Program} {w : World} {K : PySem.W.Frag} {mg : Str → Option Value} {base : Heap} {cl : String → Addr}
theorem ok_customs {f : Addr} {fd : FuncData} (F : Fun K "_law_customs" "_law_customs" s_customs f fd) (T : Txt P w K mg cl) : FnOk P w K mg base CX0 2 f fd ["_law_draws"] spCus := by
  refine F.ok sc_customs (fun vs H Q E h => ?_) (fun cdv A outer s H vs Q E hr h => ?_)
  · obtain ⟨d, c, rfl, _⟩ := h
    rfl
  · obtain ⟨d, c, rfl, D, k⟩ := h
    have C_next : Cal P w K mg base CX0 1 "_law_next" _ spNext := cal_next T
    refine ⟨_, (pss_one (ps_ret (pe_tup (pa_cons (pe_op op_add pe_int (pe_cal C_next (hr.mono (by decide)) (pa_cons (pv 0) (pa_cons pe_int pa_nil)))) (pa_cons (pe_cal C_next (hr.mono (by decide)) (pa_cons (pv 0) (pa_cons pe_int pa_nil))) (pa_cons (pe_cal C_next (hr.mono (by decide)) (pa_cons (pv 0) (pa_cons pe_int pa_nil))) (pa_cons (pe_cal C_next (hr.mono (by decide)) (pa_cons (pv 0) (pa_cons pe_int pa_nil))) pa_nil))))))), ?_⟩
    refine ⟨_, rfl, d, c, _, rfl, D, by decide, by decide, fun j0 H0 p0 q0 D0 B0 => ⟨_, _, rfl, rfl, ?_⟩⟩
    refine ⟨_, rfl, d, c, _, rfl, D0, by decide, by decide, fun j1 H1 p1 q1 D1 B1 => ?_⟩
    refine ⟨_, rfl, d, c, _, rfl, D1, by decide, by decide, fun j2 H2 p2 q2 D2 B2 => ?_⟩
    refine ⟨_, rfl, d, c, _, rfl, D2, by decide, by decide, fun j3 H3 p3 q3 D3 B3 => ?_⟩
    refine ⟨by show 4 ≤ sizeLine; decide, fun t ht => ?_⟩
    exact k _ _ _ _ t _ (by omega) (by omega) (by omega) (by omega) (by omega) (by omega) (by omega) (by omega) upd_same (D3.new ht) ((((B0.trans B1).trans B2).trans B3).trans (But.of (sNew ht)))
theorem cal_customs (T : Txt P w K mg cl) : Cal P w K mg base CX0 2 "_law_customs" ["_law_draws"] spCus := by
  obtain ⟨f, fd, F, m⟩ := T.d_customs
  exact ⟨f, fd, ok_customs F T, m, F.kp, F.binds fun _ _ _ _ _ _ us hl => match us, hl with | [_], _ => rfl⟩
theorem ok_drawn {f : Addr} {fd : FuncData} (F : Fun K "_law_drawn" "_law_drawn" s_drawn f fd) (T : Txt P w K mg cl) : FnOk P w K mg base CX0 3 f fd ["_law_draws", "_law_customs_here"] spDrawn := by
  refine F.ok sc_drawn (fun vs H Q E h => ?_) (fun cdv A outer s H vs Q E hr h => ?_)
  · obtain ⟨d, c, cu, n0, cs, rfl, _⟩ := h
    rfl
  · obtain ⟨d, c, cu, n0, cs, rfl, D, hcu, k⟩ := h
    have hu := hu_of hr
    have C_next : Cal P w K mg base CX0 1 "_law_next" _ spNext := cal_next T
    have C_far : Cal P w K mg base CX0 2 "_law_far" _ spNext := cal_far T
    refine ⟨_, (pss_cons (ps_set (i := 2) sc_drawn.nd rfl (Or.inl rfl) (pe_op op_add pe_int (pe_cal C_next (hr.mono (by decide)) (pa_cons (pv 0) (pa_cons pe_int pa_nil)))))
        (pss_cons (ps_set (i := 3) sc_drawn.nd rfl (Or.inl rfl) (pe_lst pa_nil))
        (pss_cons (ps_for PassesOwn.never rfl (pi_range1 rfl T.n_range (pa_cons (pv 2) pa_nil)) (pg_name (i := 4) sc_drawn.nd rfl (Or.inl rfl))
          (pss_cons (ps_set (i := 5) sc_drawn.nd rfl (Or.inl rfl) (pe_cut (pe_ifExp (pt_cmpR op_eq (pe_cal C_next (hr.mono (by decide)) (pa_cons (pv 0) (pa_cons pe_int pa_nil))) pe_int (nomark _)) (pe_ix ix_list (pe_lst (pa_cons pe_str (pa_cons pe_str (pa_cons pe_str (pa_cons pe_str (pa_cons pe_str (pa_cons pe_str pa_nil))))))) (pe_cal C_next (hr.mono (by decide)) (pa_cons (pv 0) (pa_cons pe_int pa_nil))) (fun _ _ => rfl)) (pe_op op_add_str (pe_ix ix_str pe_str (pv 4) (fun _ _ => rfl)) (pe_ix ix_str pe_str (pe_cal C_next (hr.mono (by decide)) (pa_cons (pv 0) (pa_cons pe_int pa_nil))) (fun _ _ => rfl))))))
            (pss_cons (ps_set (i := 6) sc_drawn.nd rfl (Or.inl rfl) (pe_cut (pe_ifExp (pt_cmpR op_gt (pe_cal C_next (hr.mono (by decide)) (pa_cons (pv 0) (pa_cons pe_int pa_nil))) pe_int (nomark _)) (pe_cal C_next (hr.mono (by decide)) (pa_cons (pv 0) (pa_cons pe_int pa_nil))) (pe_op op_sub (pe_cal C_far (hr.mono (by decide)) (pa_cons (pv 0) (pa_cons pe_int pa_nil))) pe_int))))
            (pss_cons (ps_set (i := 7) sc_drawn.nd rfl (Or.inl rfl) pe_non)
            (pss_cut (ps_if (PW.pt (pw_and (pt_cmpR (op_neD hr.units) (pv 3) (pe_lst pa_nil) (nomark _)) (pw_and1 (pt_cmpR op_eq (pe_cal C_next (hr.mono (by decide)) (pa_cons (pv 0) (pa_cons pe_int pa_nil))) pe_int (nomark _)))))
              (pss_cons (ps_set (i := 8) sc_drawn.nd rfl (Or.inl rfl) (pe_ix ix_list (pv 3) (pe_cal C_next (hr.mono (by decide)) (pa_cons (pv 0) (pa_cons (pe_callB call_len_seq (by rfl) T.n_len PySem.boot_len (pa_cons (pv 3) pa_nil)) pa_nil))) (fun _ _ => rfl)))
                (pss_cons (ps_set (i := 7) sc_drawn.nd rfl (Or.inl rfl) (pe_ix ix_list (pv 8) pe_int (fun _ _ => rfl)))
                (pss_one (ps_if (PW.pt (pw_and (pt_val (pe_callB call_isi (by rfl) T.n_isinstance (by decide +kernel) (pa_cons (pe_ix ix_list (pv 8) pe_int (fun _ _ => rfl)) (pa_cons (pe_ty "int" T.n_int) pa_nil)))) (pw_and1 (pt_cmpR op_gt (pe_cal C_next (hr.mono (by decide)) (pa_cons (pv 0) (pa_cons pe_int pa_nil))) pe_int (nomark _)))))
                  (pss_one (ps_set (i := 6) sc_drawn.nd rfl (Or.inl rfl) (pe_callB (call_max2 rfl) (by rfl) T.n_max (by decide +kernel) (pa_cons pe_int (pa_cons (pe_op op_sub (pe_op op_sub (pe_ix ix_list (pv 8) pe_int (fun _ _ => rfl)) (pe_ix ix_tup (pv 1) pe_int (fun _ _ => rfl))) (pe_cal C_next (hr.mono (by decide)) (pa_cons (pv 0) (pa_cons pe_int pa_nil)))) pa_nil))))) pss_nil)))) pss_nil)
            (pss_one (ps_expr (pe_app1 (by exact (pv 3)) (by exact (pa_cons (pe_lst (pa_cons (pv 5) (pa_cons (pv 6) (pa_cons (pv 7) pa_nil)))) pa_nil))))))))))
        (pss_one (ps_ret (pv 3)))))), ?_⟩
    refine ⟨_, rfl, d, c, _, rfl, D, by decide, by decide, fun j H1 j0 j1 D1 B1 => ⟨_, _, rfl, rfl, ?_⟩⟩
    refine ⟨by show 0 ≤ sizeLine; exact Nat.zero_le _, fun r hr1 => ?_⟩
    have hrH : H r = none := B1.free (fun _ _ => trivial) hr1 (Ne.symm (D1.ne hr1).1)
    have nrd : r ≠ d := Ne.symm (D1.ne hr1).1
    have nrc : r ≠ c := Ne.symm (D1.ne hr1).2
    refine ⟨_, rfl, _, rfl, by omega, by omega, for_range (n := (1 + j).toNat) (fun i σ H' => Dr H' d c ∧ But d H H' ∧ Drw H' r i ∧ ∃ (v4 v5 v6 v7 v8 : Option V), σ = [some (.ref d), some (.ref cu), some (.int (1 + j)), some (.ref r), v4, v5, v6, v7, v8]) ⟨D1.new hr1, B1.trans (But.of (sNew hr1)), ⟨[], upd_same, rfl, by simp⟩, _, _, _, _, _, rfl⟩ ?_ ?_⟩
    · rintro i σ H2 hi ⟨D2, B2, W2, v4, v5, v6, v7, v8, rfl⟩
      -- the name
      refine ⟨fun v H' => Sc v ∧ (∃ s, v = .str s) ∧ Dr H' d c ∧ But d H H' ∧ Drw H' r i, ?_, ?_⟩
      · refine ⟨_, rfl, d, c, _, rfl, D2, by decide, by decide, fun j2 H3 p0 p1 D3 B3 => ⟨rfl, _, rfl, ?_⟩⟩
        refine ite2 (fun g => ?_) (fun g => ?_)
        · refine ⟨by show 6 ≤ sizeLine; decide, fun q hq => ⟨_, rfl, d, c, _, rfl, D3.new hq, by decide, by decide, fun j3 H4 q0 q1 D4 B4 => ?_⟩⟩
          obtain ⟨m, rfl⟩ : ∃ m : Nat, j3 = (m : Int) := ⟨j3.toNat, by omega⟩
          obtain ⟨s, hs, sc⟩ := menu_ok (show m < 6 by omega)
          have hs2 : ([.str "a", .str "b", .str "c", .str "anna", .str "zz", .str "ba"] : List V)[m]? = some (.str s) := by
            have q := congrArg (Option.map V.str) hs
            rw [← List.getElem?_map] at q
            exact q
          refine ⟨_, _, _, _, rfl, rfl, SqL.of (butLst (D3.new hq) B4 upd_same), atI_nat hs2, sc, ⟨s, rfl⟩, D4, ((B2.trans B3).trans (But.of (sNew hq))).trans B4, (W2.but D2 B3).keep fun b xs e => butLst (D3.new hq) B4 (sNew hq _ _ e)⟩
        · obtain ⟨a, ha⟩ : ∃ a, ("abcdefgh" : Str).cps.toList[i]? = some a := ⟨_, List.getElem?_eq_getElem (by show i < 8; omega)⟩
          refine ⟨_, rfl, _, _, a, rfl, rfl, by decide, by rw [Int.zero_add]; exact atI_nat ha, ?_⟩
          refine ⟨_, rfl, d, c, _, rfl, D3, by decide, by decide, fun j3 H4 q0 q1 D4 B4 => ?_⟩
          obtain ⟨m, rfl⟩ : ∃ m : Nat, j3 = (m : Int) := ⟨j3.toNat, by omega⟩
          obtain ⟨b, hb⟩ : ∃ b, ("xyz" : Str).cps.toList[m]? = some b := ⟨_, List.getElem?_eq_getElem (by show m < 3; omega)⟩
          exact ⟨_, _, b, rfl, rfl, by decide, atI_nat hb, _, _, rfl, rfl, by show 1 + 1 ≤ sizeLine; decide, two_ok (List.mem_of_getElem? ha) (List.mem_of_getElem? hb), ⟨_, rfl⟩, D4, (B2.trans B3).trans B4, (W2.but D2 B3).but D3 B4⟩
      · rintro v H3 ⟨sc, ⟨nm, rfl⟩, D3, B3, W3⟩
        clear D2 B2 W2
        -- the age
        refine ⟨fun v H' => (∃ a, v = .int a) ∧ Dr H' d c ∧ But d H H' ∧ Drw H' r i, ?_, ?_⟩
        · refine ⟨_, rfl, d, c, _, rfl, D3, by decide, by decide, fun j2 H4 p0 p1 D4 B4 => ⟨_, _, rfl, rfl, _, rfl, ?_⟩⟩
          refine ite2 (fun g => ?_) (fun g => ?_)
          · exact ⟨_, rfl, d, c, _, rfl, D4, by decide, by decide, fun j3 H5 q0 q1 D5 B5 => ⟨⟨_, rfl⟩, D5, (B3.trans B4).trans B5, (W3.but D3 B4).but D4 B5⟩⟩
          · exact ⟨_, rfl, d, c, _, rfl, D4, by decide, by decide, fun j3 H5 q0 q1 D5 B5 => ⟨_, _, rfl, rfl, ⟨_, rfl⟩, D5, (B3.trans B4).trans B5, (W3.but D3 B4).but D4 B5⟩⟩
        · rintro v H4 ⟨⟨a, rfl⟩, D4, B4, W4⟩
          clear D3 B3 W3
          refine ⟨fun σ' H' => ∃ (a : Int) (p : V) (e : Option V), σ' = [some (.ref d), some (.ref cu), some (.int (1 + j)), some (.ref r), some (.int (0 + (i : Int))), some (.str nm), some (.int a), some p, e] ∧ Sc p ∧ (p = .non ∨ ∃ t, p = .str t) ∧ Dr H' d c ∧ But d H H' ∧ Drw H' r i, ?_, ?_⟩
          · obtain ⟨vs, h1, h2, h3⟩ := id W4
            refine ⟨_, rfl, by show 0 ≤ sizeLine; exact Nat.zero_le _, fun e he => ?_⟩
            have S5 := sNew (o := .lst []) he
            obtain ⟨ds, g1, g2, g3⟩ := dats (K := K) (H := upd H4 e (.lst [])) fun v hv => ((h3 v hv).keep fun b xs _ z => S5 _ _ z).dat
            refine ⟨_, _, dp_lst (SqL.of (S5 _ _ h1)) g1, dp_lst (SqL.of upd_same) .nil, fls_shaped true g2, fls_shaped true (ds := []) (by simp), _, rfl, ?_⟩
            rw [eqv_nil]
            have D5 := D4.new (o := .lst []) he
            have B5 := B4.trans (But.of S5)
            have W5 : Drw (upd H4 e (.lst [])) r i := W4.keep fun b xs z => S5 _ _ z
            have stay : ∀ H', Dr H' d c → But d H H' → Drw H' r i → ∃ (a' : Int) (p : V) (e : Option V), [some (V.ref d), some (.ref cu), some (.int (1 + j)), some (.ref r), some (.int (0 + (i : Int))), some (.str nm), some (.int a), some .non, v8] = [some (.ref d), some (.ref cu), some (.int (1 + j)), some (.ref r), some (.int (0 + (i : Int))), some (.str nm), some (.int a'), some p, e] ∧ Sc p ∧ (p = .non ∨ ∃ t, p = .str t) ∧ Dr H' d c ∧ But d H H' ∧ Drw H' r i :=
              fun H' x y z => ⟨a, .non, v8, rfl, trivial, .inl rfl, x, y, z⟩
            refine ite2 (fun g => ?_) (fun g => ?_)
            · refine ⟨_, rfl, d, c, _, rfl, D5, by decide, by decide, fun j2 H6 p0 p1 D6 B6 => ⟨rfl, _, rfl, ?_⟩⟩
              have W6 := W5.but D5 B6
              refine ite2 (fun g2 => ?_) (fun g2 => stay _ D6 (B5.trans B6) W6)
              have hvs : 1 ≤ vs.length := by
                cases ds with
                | nil => cases g
                | cons _ _ => rw [← g3]; simp
              obtain ⟨vs', h1', h2', h3'⟩ := id W6
              have hvs' : vs'.length = vs.length := h2'.trans h2.symm
              refine ⟨_, rfl, _, rfl, _, rfl, r, vs', rfl, .inl (SqL.of h1'), d, c, _, rfl, D6, by omega, by omega, fun j3 H7 q0 q1 D7 B7 => ?_⟩
              obtain ⟨m, rfl⟩ : ∃ m : Nat, j3 = (m : Int) := ⟨j3.toNat, by omega⟩
              obtain ⟨ev, hev⟩ : ∃ x, vs'[m]? = some x := ⟨_, List.getElem?_eq_getElem (by omega)⟩
              obtain ⟨b, s, a2, p2, rfl, hb, sc1, sc2, sp⟩ := (h3' ev (List.mem_of_getElem? hev)).keep fun b xs _ z => butLst D6 B7 z
              have W7 := W6.but D6 B7
              have B7' := (B5.trans B6).trans B7
              refine ⟨_, _, _, _, rfl, rfl, SqL.of (butLst D6 B7 h1'), atI_nat hev, _, rfl, _, _, _, _, rfl, rfl, SqL.of hb, atI_nat (j := 0) rfl, ?_⟩
              refine ⟨_, rfl, _, _, _, _, rfl, rfl, SqL.of hb, atI_nat (j := 1) rfl, _, _, _, _, _, rfl, .ty "int", .base (.int a2), kit_ty (by decide +kernel), true, rfl, iteT ?_⟩
              refine ⟨_, rfl, d, c, _, rfl, D7, by decide, by decide, fun j4 H8 r0 r1 D8 B8 => ⟨_, _, rfl, rfl, _, rfl, ?_⟩⟩
              have W8 := W7.but D7 B8
              refine ite2 (fun g3 => ?_) (fun g3 => ⟨a, .str s, some (.ref b), rfl, sc1, .inr ⟨s, rfl⟩, D8, B7'.trans B8, W8⟩)
              have hb8 := butLst D7 B8 hb
              have hcu8 : H8 cu = some (.tup (.int n0 :: cs)) := butTup D7 B8 (butTup D (B7') hcu)
              refine ⟨_, rfl, _, _, _, _, rfl, rfl, SqL.of hb8, atI_nat (j := 1) rfl, _, rfl, _, _, _, _, rfl, rfl, SqT.of hcu8, atI_nat (j := 0) rfl, _, _, rfl, rfl, ?_⟩
              refine ⟨_, rfl, d, c, _, rfl, D8, by decide, by decide, fun j5 H9 s0 s1 D9 B9 => ⟨_, _, rfl, rfl, _, _, rfl, ?_⟩⟩
              exact ⟨_, .str s, some (.ref b), rfl, sc1, .inr ⟨s, rfl⟩, D9, (B7'.trans B8).trans B9, W8.but D8 B9⟩
            · exact stay _ D5 B5 W5
          · rintro σ' H5 ⟨a, p, e, rfl, scp, hp, D5, B5, W5⟩
            obtain ⟨vs, h1, h2, h3⟩ := W5
            refine ⟨_, rfl, .inl ⟨rfl, _, .inl (.inl h1)⟩, _, rfl, _, rfl, _, rfl, by show 3 ≤ sizeLine; decide, fun l hl => ?_⟩
            have nrl : r ≠ l := ne_of_none h1 hl
            refine ⟨r, _, _, rfl, rfl, (upd_ne nrl).trans h1, small1000 (by omega), ?_⟩
            refine ⟨(D5.new hl).upd (Ne.symm nrd) (Ne.symm nrc), ?_, ⟨vs ++ [.ref l], upd_same, by simp [h2], fun v hv => ?_⟩, _, _, _, _, _, rfl⟩
            · exact fun b o e n => (upd_ne (ne_of_none e hrH)).trans (sNew hl _ _ (B5 b o e n))
            · rcases List.mem_append.mp hv with hv | hv
              · exact (h3 v hv).keep fun b xs eb z => (upd_ne (drow_ne h1 hv (h3 v hv) b eb)).trans (sNew hl _ _ z)
              · obtain rfl : v = .ref l := by simpa using hv
                exact ⟨l, nm, a, p, rfl, (upd_ne (Ne.symm nrl)).trans upd_same, sc, scp, hp⟩
    · rintro σ H2 ⟨D2, B2, W2, v4, v5, v6, v7, v8, rfl⟩
      exact ⟨_, rfl, k r _ H2 (by omega) (by omega) hrH W2 D2 B2⟩
theorem cal_drawn (T : Txt P w K mg cl) : Cal P w K mg base CX0 3 "_law_drawn" ["_law_draws", "_law_customs_here"] spDrawn := by
  obtain ⟨f, fd, F, m⟩ := T.d_drawn
  exact ⟨f, fd, ok_drawn F T, m, F.kp, F.binds fun _ _ _ _ _ _ us hl => match us, hl with | [_, _], _ => rfl⟩
end
end My
set_option Elab.async false
set_option linter.all false
set_option maxRecDepth 100000
set_option maxHeartbeats 1000000
namespace My
open PySem L2 Dw
open C8 (pss_cut tCut)
theorem ixN_of {n m : Nat} (h : m < n) : ixN n (m : Int) = some m := by
  unfold ixN
  rw [if_pos (by omega), if_pos (by omega)]
  simp
theorem atI_neg {α : Type} {xs : List α} (h : 0 < xs.length) : ∃ x ∈ xs, atI xs (-1) = some x := by
  refine ⟨xs[xs.length - 1], List.getElem_mem _, ?_⟩
  unfold atI
  rw [show ixN xs.length (-1) = some (xs.length - 1) by unfold ixN; rw [if_neg (by decide), if_pos (by omega)]; congr 1; omega]
  exact List.getElem?_eq_getElem _
/-- a new row of three plain things -/
def R3 (H0 H : Hp) (v : V) : Prop := ∃ b xs, v = .ref b ∧ H b = some (.lst xs) ∧ xs.length = 3 ∧ (∀ x ∈ xs, Sc x) ∧ H0 b = none
structure F3 (H0 H : Hp) (r : Addr) (vs : List V) : Prop where
  at_ : H r = some (.lst vs)
  new : H0 r = none
  each : ∀ v ∈ vs, R3 H0 H v
theorem R3.ne {H0 H : Hp} {r : Addr} {vs : List V} {v : V} (F : H r = some (.lst vs)) (hv : v ∈ vs) (h : R3 H0 H v) : ∀ b, v = .ref b → b ≠ r := by
  rintro b rfl rfl
  obtain ⟨b', xs, e, hb, _, hs, _⟩ := h
  cases e
  rw [F] at hb
  cases hb
  exact (show Sc (.ref b) from hs _ hv).elim
theorem R3.keep {H0 H H' : Hp} {v : V} (h : R3 H0 H v) (k : ∀ b xs, H b = some (.lst xs) → H' b = some (.lst xs)) : R3 H0 H' v := by
  obtain ⟨b, xs, h1, h2, h3⟩ := h
  exact ⟨b, xs, h1, k _ _ h2, h3⟩
theorem F3.keep {H0 H H' : Hp} {r : Addr} {vs : List V} (F : F3 H0 H r vs) (k : ∀ b xs, H b = some (.lst xs) → H' b = some (.lst xs)) : F3 H0 H' r vs := ⟨k _ _ F.at_, F.new, fun v hv => (F.each v hv).keep k⟩
/-- an entry of a row is set -/
theorem F3.set {H0 H : Hp} {r b : Addr} {vs xs : List V} {w : V} (F : F3 H0 H r vs) (hv : V.ref b ∈ vs) (hb : H b = some (.lst xs)) (hl : xs.length = 3) (hs : ∀ x ∈ xs, Sc x) (hw : Sc w) (j : Nat) : F3 H0 (upd H b (.lst (xs.set j w))) r vs := by
  have nbr := (F.each _ hv).ne F.at_ hv b rfl
  refine ⟨(upd_ne (Ne.symm nbr)).trans F.at_, F.new, fun v hv' => ?_⟩
  obtain ⟨b', xs', rfl, hb', l', s', n'⟩ := F.each v hv'
  by_cases e : b' = b
  · subst e
    rw [hb] at hb'
    cases hb'
    refine ⟨b', _, rfl, upd_same, by rw [List.length_set]; exact l', fun x hx => ?_, n'⟩
    rcases List.mem_or_eq_of_mem_set hx with h | h
    · exact s' x h
    · rw [h]; exact hw
  · exact ⟨b', xs', rfl, (upd_ne e).trans hb', l', s', n'⟩
/-- a row: three or four plain things, or a text -/
def RowV (H : Hp) (v : V) : Prop := (∃ b xs, v = .ref b ∧ H b = some (.lst xs) ∧ xs.length ≤ 4 ∧ ∀ x ∈ xs, Sc x) ∨ v = .str "abc"
def Rws (H : Hp) (r : Addr) : Prop := ∃ vs, H r = some (.lst vs) ∧ vs.length ≤ 8 ∧ ∀ v ∈ vs, RowV H v
theorem R3.row {H0 H : Hp} {v : V} (h : R3 H0 H v) : RowV H v := by
  obtain ⟨b, xs, h1, h2, h3, h4, _⟩ := h
  exact .inl ⟨b, xs, h1, h2, by omega, h4⟩
theorem RowV.keep {H H' : Hp} {v : V} (h : RowV H v) (k : ∀ b xs, H b = some (.lst xs) → H' b = some (.lst xs)) : RowV H' v := by
  rcases h with ⟨b, xs, h1, h2, h3⟩ | h
  · exact .inl ⟨b, xs, h1, k _ _ h2, h3⟩
  · exact .inr h
theorem F3.rws {H0 H : Hp} {r : Addr} {vs : List V} (F : F3 H0 H r vs) (h : vs.length ≤ 8) : Rws H r := ⟨vs, F.at_, h, fun v hv => (F.each v hv).row⟩
/-- a row is put in another's place -/
theorem F3.put {H0 H H' : Hp} {r : Addr} {vs : List V} {w : V} {i : Nat} (F : F3 H0 H r vs) (h : vs.length ≤ 8) (k : ∀ b xs, b ≠ r → H b = some (.lst xs) → H' b = some (.lst xs)) (hr : H' r = some (.lst (vs.set i w))) (hw : RowV H' w) : Rws H' r := by
  refine ⟨_, hr, by rw [List.length_set]; exact h, fun v hv => ?_⟩
  rcases List.mem_or_eq_of_mem_set hv with hv | rfl
  · obtain ⟨b, xs, rfl, hb, l, s, n⟩ := F.each v hv
    exact .inl ⟨b, xs, rfl, k b xs ((F.each _ hv).ne F.at_ hv b rfl) hb, by omega, s⟩
  · exact hw
theorem odd_name {m : Nat} (h : m < 6) : ∃ v, ([.str "", .str "A", .str "abcdefghi", .int 5, .bl true, .non] : List V)[m]? = some v ∧ Sc v := by
  match m, h with
  | 0, _ => exact ⟨_, rfl, by decide, by decide +kernel, by decide +kernel⟩
  | 1, _ => exact ⟨_, rfl, by decide, by decide +kernel, by decide +kernel⟩
  | 2, _ => exact ⟨_, rfl, by decide, by decide +kernel, by decide +kernel⟩
  | 3, _ => exact ⟨_, rfl, trivial⟩
  | 4, _ => exact ⟨_, rfl, trivial⟩
  | 5, _ => exact ⟨_, rfl, trivial⟩
theorem odd_age {m : Nat} (h : m < 5) : ∃ v, ([.int (-1), .bl true, .non, .str "3", .int 1000001] : List V)[m]? = some v ∧ Sc v := by
  match m, h with
  | 0, _ => exact ⟨_, rfl, trivial⟩
  | 1, _ => exact ⟨_, rfl, trivial⟩
  | 2, _ => exact ⟨_, rfl, trivial⟩
  | 3, _ => exact ⟨_, rfl, by decide, by decide +kernel, by decide +kernel⟩
  | 4, _ => exact ⟨_, rfl, trivial⟩
theorem odd_par {m : Nat} {x y : V} (hx : Sc x) (hy : Sc y) (h : m < 5) : ∃ v, ([.str "nobody", .int 5, .bl true, x, y] : List V)[m]? = some v ∧ Sc v := by
  match m, h with
  | 0, _ => exact ⟨_, rfl, by decide, by decide +kernel, by decide +kernel⟩
  | 1, _ => exact ⟨_, rfl, trivial⟩
  | 2, _ => exact ⟨_, rfl, trivial⟩
  | 3, _ => exact ⟨_, rfl, hx⟩
  | 4, _ => exact ⟨_, rfl, hy⟩
def spSpoilt : Sp := fun vs H Q _ => ∃ (d c r : Addr) (n : Nat), vs = [.ref d, .ref r] ∧ Dr H d c ∧ Drw H r n ∧ 1 ≤ n ∧ n ≤ 7 ∧ ∀ (r' : Addr) (H' : Hp), Rws H' r' → Dr H' d c → But d H H' → Q (.ref r') H'
theorem get3 {xs : List V} (h : xs.length = 3) (hs : ∀ x ∈ xs, Sc x) {j : Nat} (hj : j < 3) : ∃ x, xs[j]? = some x ∧ Sc x := ⟨xs[j], List.getElem?_eq_getElem (by omega), hs _ (List.getElem_mem _)⟩
section
variable {P : Program} {w : World} {K : PySem.W.Frag} {mg : Str → Option Value} {base : Heap} {cl : String → Addr}
theorem ok_spoilt {f : Addr} {fd : FuncData} (F : Fun K "_law_spoilt" "_law_spoilt" s_spoilt f fd) (T : Txt P w K mg cl) : FnOk P w K mg base CX0 2 f fd ["_law_draws", "_law_rows"] spSpoilt := by
  refine F.ok sc_spoilt (fun vs H Q E h => ?_) (fun cdv A outer s H vs Q E hr h => ?_)
  · obtain ⟨d, c, r, n, rfl, _⟩ := h
    rfl
  · obtain ⟨d, c, r, n, rfl, D, W, hn1, hn7, k⟩ := h
    have C_next : Cal P w K mg base CX0 1 "_law_next" _ spNext := cal_next T
    refine ⟨_, (pss_cons (ps_setLc (i := 1) (own := [("_law_x", 4)]) (g := gName 4) (tt := tYes) rfl sc_spoilt.nd rfl rfl (sw_true rfl rfl rfl (by decide +kernel)) (pi_list (pv 1)) (blkOk_by (own := [("_law_x", 4)]) (N := ["_law_draws", "_law_rows", "_law_at", "_law_kind", "_law_x"]) (sc := defScope s_spoilt) (by decide +kernel)) (fun _ _ _ _ _ => pg_name (i := 4) sc_spoilt.nd rfl (Or.inl rfl)) (fun _ _ _ _ _ => pts_nil) (fun _ _ _ _ _ => (pe_callTy (call_list_ofK (K := K) rfl) (by rfl) T.n_list (by decide +kernel) (pa_cons (pv 4) pa_nil))))
        (pss_cons (ps_set (i := 2) sc_spoilt.nd rfl (Or.inl rfl) (pe_cal C_next (hr.mono (by decide)) (pa_cons (pv 0) (pa_cons (pe_callB call_len_seq (by rfl) T.n_len PySem.boot_len (pa_cons (pv 1) pa_nil)) pa_nil))))
        (pss_cons (ps_set (i := 3) sc_spoilt.nd rfl (Or.inl rfl) (pe_cal C_next (hr.mono (by decide)) (pa_cons (pv 0) (pa_cons pe_int pa_nil))))
        (pss_cut (ps_if (pt_cmpR op_eq (pv 3) pe_int (nomark _))
          (pss_one (ps_asg (pe_op op_cat (pe_ix ix_list (pv 1) (pv 2) (fun _ _ => rfl)) (pe_lst (pa_cons pe_non pa_nil))) (pg_sub (pv 1) (pv 2) set_list))) (pss_one (ps_if (pt_cmpR op_eq (pv 3) pe_int (nomark _))
              (pss_one (ps_asg pe_str (pg_sub (pv 1) (pv 2) set_list))) (pss_one (ps_if (pt_cmpR op_eq (pv 3) pe_int (nomark _))
                  (pss_one (ps_asg (pe_ix ix_list (pe_lst (pa_cons pe_str (pa_cons pe_str (pa_cons pe_str (pa_cons pe_int (pa_cons pe_bl (pa_cons pe_non pa_nil))))))) (pe_cal C_next (hr.mono (by decide)) (pa_cons (pv 0) (pa_cons pe_int pa_nil))) (fun _ _ => rfl)) (pg_sub (pe_ix ix_list (pv 1) (pv 2) (fun _ _ => rfl)) pe_int set_list))) (pss_one (ps_if (pt_cmpR op_eq (pv 3) pe_int (nomark _))
                      (pss_one (ps_asg (pe_ix ix_list (pe_ix ix_list (pv 1) (pe_cal C_next (hr.mono (by decide)) (pa_cons (pv 0) (pa_cons (pe_callB call_len_seq (by rfl) T.n_len PySem.boot_len (pa_cons (pv 1) pa_nil)) pa_nil))) (fun _ _ => rfl)) pe_int (fun _ _ => rfl)) (pg_sub (pe_ix ix_list (pv 1) (pv 2) (fun _ _ => rfl)) pe_int set_list))) (pss_one (ps_if (pt_cmpR op_eq (pv 3) pe_int (nomark _))
                          (pss_one (ps_asg (pe_ix ix_list (pe_lst (pa_cons (pe_un un_neg pe_int) (pa_cons pe_bl (pa_cons pe_non (pa_cons pe_str (pa_cons pe_int pa_nil)))))) (pe_cal C_next (hr.mono (by decide)) (pa_cons (pv 0) (pa_cons pe_int pa_nil))) (fun _ _ => rfl)) (pg_sub (pe_ix ix_list (pv 1) (pv 2) (fun _ _ => rfl)) pe_int set_list))) (pss_one (ps_if (pt_cmpR op_eq (pv 3) pe_int (nomark _))
                              (pss_one (ps_asg (pe_ix ix_list (pe_lst (pa_cons pe_str (pa_cons pe_int (pa_cons pe_bl (pa_cons (pe_ix ix_list (pe_ix ix_list (pv 1) (pe_un un_neg pe_int) (fun _ _ => rfl)) pe_int (fun _ _ => rfl)) (pa_cons (pe_ix ix_list (pe_ix ix_list (pv 1) (pv 2) (fun _ _ => rfl)) pe_int (fun _ _ => rfl)) pa_nil)))))) (pe_cal C_next (hr.mono (by decide)) (pa_cons (pv 0) (pa_cons pe_int pa_nil))) (fun _ _ => rfl)) (pg_sub (pe_ix ix_list (pv 1) (pv 2) (fun _ _ => rfl)) pe_int set_list))) (pss_one (ps_if (pt_cmpR op_eq (pv 3) pe_int (nomark _))
                                  (pss_cons (ps_asg (pe_ix ix_list (pe_ix ix_list (pv 1) pe_int (fun _ _ => rfl)) pe_int (fun _ _ => rfl)) (pg_sub (pe_ix ix_list (pv 1) (pv 2) (fun _ _ => rfl)) pe_int set_list))
                                    (pss_one (ps_asg (pe_ix ix_list (pe_ix ix_list (pv 1) pe_int (fun _ _ => rfl)) pe_int (fun _ _ => rfl)) (pg_sub (pe_ix ix_list (pv 1) (pv 2) (fun _ _ => rfl)) pe_int set_list)))) (pss_one (ps_if (pt_cmpR op_eq (pv 3) pe_int (nomark _))
                                      (pss_one (ps_set (i := 1) sc_spoilt.nd rfl (Or.inl rfl) (pe_slice sl_list (pv 1) po_none (po_some (pv 2))))) (pss_one (ps_set (i := 1) sc_spoilt.nd rfl (Or.inl rfl) (pe_op op_cat (pv 1) (pe_lst (pa_cons (pe_lst (pa_cons pe_str (pa_cons pe_int (pa_cons pe_non pa_nil)))) pa_nil))))))))))))))))))))
        (pss_one (ps_ret (pv 1))))))), ?_⟩
    obtain ⟨ws, hr0, hwl, hws⟩ := W
    refine ⟨_, rfl, r, rfl, ⟨_, SqL.of hr0⟩, fun R hR => lc_list (xs := ws) (fun i H' => ∃ vs, F3 H H' R vs ∧ vs.length = i ∧ Same H H') ⟨[], ⟨upd_same, hR, by simp⟩, rfl, sNew hR⟩ (fun i H' _ ⟨vs, _, _, S⟩ => SqL.of (S _ _ hr0)) ?_ ?_⟩
    · rintro i v H1 hv ⟨vs, F1, hl, S1⟩
      obtain ⟨b, s, a, p, rfl, hb, sc1, sc2, sp⟩ := hws v (List.mem_of_getElem? hv)
      have hi : i < ws.length := (List.getElem?_eq_some_iff.mp hv).1
      refine ⟨rfl, _, rfl, b, _, rfl, .inl (SqL.of (S1 _ _ hb)), fun l hl' => ⟨vs, (upd_ne (ne_of_none F1.at_ hl')).trans F1.at_, small1000 (by omega), vs ++ [.ref l], ⟨upd_same, hR, fun v hv' => ?_⟩, by simp [hl], fun b' o e => ?_⟩⟩
      · rcases List.mem_append.mp hv' with hv' | hv'
        · obtain ⟨b', xs, rfl, hb', q⟩ := F1.each v hv'
          exact ⟨b', xs, rfl, (upd_ne ((F1.each _ hv').ne F1.at_ hv' b' rfl)).trans ((upd_ne (ne_of_none hb' hl')).trans hb'), q⟩
        · obtain rfl : v = .ref l := by simpa using hv'
          have lH : H l = none := by
            cases e : H l with
            | none => rfl
            | some o => rw [S1 _ _ e] at hl'; cases hl'
          refine ⟨l, _, rfl, (upd_ne (Ne.symm (ne_of_none F1.at_ hl'))).trans upd_same, rfl, fun x hx => ?_, lH⟩
          rcases (show x = .str s ∨ x = .int a ∨ x = p by simpa using hx) with rfl | rfl | rfl
          · exact sc1
          · trivial
          · exact sc2
      · exact (upd_ne (ne_of_none e hR)).trans ((upd_ne (ne_of_none (S1 _ _ e) hl')).trans (S1 _ _ e))
    · rintro H1 ⟨vs, F1, hl, S1⟩
      have D1 := D.same S1
      have hvl : vs.length ≤ 7 := by omega
      refine ⟨_, rfl, _, rfl, R, vs, rfl, .inl (SqL.of F1.at_), d, c, _, rfl, D1, by omega, by omega, fun j H2 j0 j1 D2 B2 => ?_⟩
      obtain ⟨m, rfl⟩ : ∃ m : Nat, j = (m : Int) := ⟨j.toNat, by omega⟩
      have hm : m < vs.length := by omega
      have F2 := F1.keep fun b xs e => butLst D1 B2 e
      refine ⟨_, rfl, d, c, _, rfl, D2, by decide, by decide, fun kd H3 k0 k1 D3 B3 => ?_⟩
      have F3' := F2.keep fun b xs e => butLst D2 B3 e
      have B3' : But d H H3 := ((But.of S1).trans B2).trans B3
      clear F1 F2 D1 D2 S1 B2 B3
      obtain ⟨rv, hrv⟩ : ∃ v, vs[m]? = some v := ⟨_, List.getElem?_eq_getElem hm⟩
      have hrm := List.mem_of_getElem? hrv
      obtain ⟨b, xs, rfl, hb, hxl, hxs, hbn⟩ := F3'.each rv hrm
      have nbR := (F3'.each _ hrm).ne F3'.at_ hrm b rfl
      have nRd : R ≠ d := by rintro rfl; obtain ⟨_, _, _, _, _, _, _, h1, _⟩ := D; rw [hR] at h1; cases h1
      have nRc : R ≠ c := by rintro rfl; obtain ⟨_, _, _, _, _, _, _, _, h1, _⟩ := D; rw [hR] at h1; cases h1
      have nbd : b ≠ d := by rintro rfl; obtain ⟨_, _, _, _, _, _, _, h1, _⟩ := D; rw [hbn] at h1; cases h1
      have nbc : b ≠ c := by rintro rfl; obtain ⟨_, _, _, _, _, _, _, _, h1, _⟩ := D; rw [hbn] at h1; cases h1
      refine ⟨fun σ' H' => ∃ (r' : Addr) (v : Option V), σ' = [some (.ref d), some (.ref r'), some (.int (m : Int)), some (.int kd), v] ∧ Rws H' r' ∧ Dr H' d c ∧ But d H H', ?_, ?_⟩
      · -- one entry of the row is set
        have sety : ∀ (H4 : Hp) (x : V) (i : Nat) (ys : List V), F3 H H4 R vs → H4 b = some (.lst ys) → ys.length = 3 → (∀ y ∈ ys, Sc y) → Dr H4 d c → But d H H4 → Sc x → F3 H (upd H4 b (.lst (ys.set i x))) R vs ∧ Dr (upd H4 b (.lst (ys.set i x))) d c ∧ But d H (upd H4 b (.lst (ys.set i x))) := fun H4 x i ys F4 hb4 l s D4 B4 sx =>
          ⟨F4.set hrm hb4 l s sx i, D4.upd (Ne.symm nbd) (Ne.symm nbc), fun a o e n => (upd_ne (ne_of_none e hbn)).trans (B4 a o e n)⟩
        have seti : ∀ (H4 : Hp) (x : V) (i : Nat), F3 H H4 R vs → H4 b = some (.lst xs) → Dr H4 d c → But d H H4 → Sc x → Rws (upd H4 b (.lst (xs.set i x))) R ∧ Dr (upd H4 b (.lst (xs.set i x))) d c ∧ But d H (upd H4 b (.lst (xs.set i x))) := fun H4 x i F4 hb4 D4 B4 sx =>
          let q := sety H4 x i xs F4 hb4 hxl hxs D4 B4 sx
          ⟨q.1.rws (by omega), q.2⟩
        refine ⟨_, rfl, rfl, _, rfl, ?_⟩
        refine ite2 (fun g => ?_) (fun g => ?_)
        · refine ⟨_, rfl, _, rfl, _, _, _, _, rfl, rfl, SqL.of F3'.at_, atI_nat hrv, by show 1 ≤ sizeLine; decide, fun e he => ?_⟩
          have hbe := ne_of_none hb he
          refine ⟨b, e, _, _, rfl, rfl, (upd_ne hbe).trans hb, upd_same, Nat.le_of_lt (small1000 (by rw [hxl]; decide)), fun q hq => ?_⟩
          have hRe := ne_of_none F3'.at_ he
          have hRq : R ≠ q := ne_of_none ((upd_ne hRe).trans F3'.at_) hq
          refine ⟨_, rfl, _, rfl, R, _, _, m, rfl, rfl, (upd_ne hRq).trans ((upd_ne hRe).trans F3'.at_), ixN_of hm, R, _, rfl, ?_⟩
          have st : ∀ z o, H3 z = some o → (upd (upd H3 e (.lst [.non])) q (.lst (xs ++ [.non]))) z = some o := fun z o h => sNew hq _ _ (sNew he _ _ h)
          refine ⟨F3'.put (by omega) (fun z zs nz h => (upd_ne nz).trans (st _ _ h)) upd_same (.inl ⟨q, _, rfl, (upd_ne (Ne.symm hRq)).trans upd_same, by simp [hxl], fun x hx => ?_⟩), ((D3.new he).new hq).upd (Ne.symm nRd) (Ne.symm nRc), fun z o h n => (upd_ne (ne_of_none h hR)).trans (st _ _ (B3' _ _ h n))⟩
          rcases List.mem_append.mp hx with hx | hx
          · exact hxs x hx
          · obtain rfl : x = .non := by simpa using hx
            trivial
        refine ⟨_, rfl, rfl, _, rfl, ?_⟩
        refine ite2 (fun g => ?_) (fun g => ?_)
        · refine ⟨_, rfl, _, rfl, R, _, _, m, rfl, rfl, F3'.at_, ixN_of hm, R, _, rfl, ?_⟩
          exact ⟨F3'.put (by omega) (fun z zs nz h => (upd_ne nz).trans h) upd_same (.inr rfl), D3.upd (Ne.symm nRd) (Ne.symm nRc), fun z o h n => (upd_ne (ne_of_none h hR)).trans (B3' _ _ h n)⟩
        refine ⟨_, rfl, rfl, _, rfl, ?_⟩
        refine ite2 (fun g => ?_) (fun g => ?_)
        · refine ⟨by show 6 ≤ sizeLine; decide, fun e he => ⟨_, rfl, d, c, _, rfl, D3.new he, by decide, by decide, fun j2 H4 p0 p1 D4 B4 => ?_⟩⟩
          obtain ⟨m2, rfl⟩ : ∃ m2 : Nat, j2 = (m2 : Int) := ⟨j2.toNat, by omega⟩
          obtain ⟨x, hx, sx⟩ := odd_name (show m2 < 6 by omega)
          have st : ∀ z zs, H3 z = some (.lst zs) → H4 z = some (.lst zs) := fun z zs h => butLst (D3.new he) B4 (sNew he _ _ h)
          have F4 := F3'.keep st
          refine ⟨_, _, _, _, rfl, rfl, SqL.of (butLst (D3.new he) B4 upd_same), atI_nat hx, _, rfl, _, rfl, _, _, _, _, rfl, rfl, SqL.of F4.at_, atI_nat hrv, b, _, _, 0, rfl, rfl, st _ _ hb, ixN_of (m := 0) (by omega), R, _, rfl, ?_⟩
          exact seti H4 x 0 F4 (st _ _ hb) D4 ((B3'.trans (But.of (sNew he))).trans B4) sx
        refine ⟨_, rfl, rfl, _, rfl, ?_⟩
        refine ite2 (fun g => ?_) (fun g => ?_)
        · refine ⟨_, rfl, _, rfl, _, rfl, R, vs, rfl, .inl (SqL.of F3'.at_), d, c, _, rfl, D3, by omega, by omega, fun j2 H4 p0 p1 D4 B4 => ?_⟩
          obtain ⟨m2, rfl⟩ : ∃ m2 : Nat, j2 = (m2 : Int) := ⟨j2.toNat, by omega⟩
          have F4 := F3'.keep fun z zs h => butLst D3 B4 h
          obtain ⟨v2, hv2⟩ : ∃ v, vs[m2]? = some v := ⟨_, List.getElem?_eq_getElem (by omega)⟩
          obtain ⟨b2, xs2, rfl, hb2, l2, s2, n2⟩ := F4.each v2 (List.mem_of_getElem? hv2)
          obtain ⟨x, hx, sx⟩ := get3 l2 s2 (j := 0) (by decide)
          refine ⟨_, _, _, _, rfl, rfl, SqL.of F4.at_, atI_nat hv2, _, _, _, _, rfl, rfl, SqL.of hb2, atI_nat (j := 0) hx, ?_⟩
          refine ⟨_, rfl, _, rfl, _, _, _, _, rfl, rfl, SqL.of F4.at_, atI_nat hrv, b, _, _, 0, rfl, rfl, butLst D3 B4 hb, ixN_of (m := 0) (by omega), R, _, rfl, ?_⟩
          exact seti H4 x 0 F4 (butLst D3 B4 hb) D4 (B3'.trans B4) sx
        refine ⟨_, rfl, rfl, _, rfl, ?_⟩
        refine ite2 (fun g => ?_) (fun g => ?_)
        · refine ⟨_, rfl, by show 5 ≤ sizeLine; decide, fun e he => ⟨_, rfl, d, c, _, rfl, D3.new he, by decide, by decide, fun j2 H4 p0 p1 D4 B4 => ?_⟩⟩
          obtain ⟨m2, rfl⟩ : ∃ m2 : Nat, j2 = (m2 : Int) := ⟨j2.toNat, by omega⟩
          obtain ⟨x, hx, sx⟩ := odd_age (show m2 < 5 by omega)
          have st : ∀ z zs, H3 z = some (.lst zs) → H4 z = some (.lst zs) := fun z zs h => butLst (D3.new he) B4 (sNew he _ _ h)
          have F4 := F3'.keep st
          refine ⟨_, _, _, _, rfl, rfl, SqL.of (butLst (D3.new he) B4 upd_same), atI_nat hx, _, rfl, _, rfl, _, _, _, _, rfl, rfl, SqL.of F4.at_, atI_nat hrv, b, _, _, 1, rfl, rfl, st _ _ hb, ixN_of (m := 1) (by omega), R, _, rfl, ?_⟩
          exact seti H4 x 1 F4 (st _ _ hb) D4 ((B3'.trans (But.of (sNew he))).trans B4) sx
        refine ⟨_, rfl, rfl, _, rfl, ?_⟩
        refine ite2 (fun g => ?_) (fun g => ?_)
        · obtain ⟨v2, hv2, a2⟩ := atI_neg (xs := vs) (by omega)
          obtain ⟨b2, xs2, rfl, hb2, l2, s2, n2⟩ := F3'.each v2 hv2
          obtain ⟨x2, hx2, sx2⟩ := get3 l2 s2 (j := 0) (by decide)
          obtain ⟨x3, hx3, sx3⟩ := get3 hxl hxs (j := 0) (by decide)
          refine ⟨_, rfl, _, rfl, _, _, _, _, rfl, rfl, SqL.of F3'.at_, a2, _, _, _, _, rfl, rfl, SqL.of hb2, atI_nat (j := 0) hx2, ?_⟩
          refine ⟨_, rfl, _, rfl, _, _, _, _, rfl, rfl, SqL.of F3'.at_, atI_nat hrv, _, _, _, _, rfl, rfl, SqL.of hb, atI_nat (j := 0) hx3, ?_⟩
          refine ⟨by show 5 ≤ sizeLine; decide, fun e he => ⟨_, rfl, d, c, _, rfl, D3.new he, by decide, by decide, fun j2 H4 p0 p1 D4 B4 => ?_⟩⟩
          obtain ⟨m2, rfl⟩ : ∃ m2 : Nat, j2 = (m2 : Int) := ⟨j2.toNat, by omega⟩
          obtain ⟨x, hx, sx⟩ := odd_par sx2 sx3 (show m2 < 5 by omega)
          have st : ∀ z zs, H3 z = some (.lst zs) → H4 z = some (.lst zs) := fun z zs h => butLst (D3.new he) B4 (sNew he _ _ h)
          have F4 := F3'.keep st
          refine ⟨_, _, _, _, rfl, rfl, SqL.of (butLst (D3.new he) B4 upd_same), atI_nat hx, _, rfl, _, rfl, _, _, _, _, rfl, rfl, SqL.of F4.at_, atI_nat hrv, b, _, _, 2, rfl, rfl, st _ _ hb, ixN_of (m := 2) (by omega), R, _, rfl, ?_⟩
          exact seti H4 x 2 F4 (st _ _ hb) D4 ((B3'.trans (But.of (sNew he))).trans B4) sx
        refine ⟨_, rfl, rfl, _, rfl, ?_⟩
        refine ite2 (fun g => ?_) (fun g => ?_)
        · obtain ⟨v2, hv2⟩ : ∃ v, vs[0]? = some v := ⟨_, List.getElem?_eq_getElem (by omega)⟩
          obtain ⟨b2, xs2, rfl, hb2, l2, s2, n2⟩ := F3'.each v2 (List.mem_of_getElem? hv2)
          obtain ⟨x2, hx2, sx2⟩ := get3 l2 s2 (j := 0) (by decide)
          refine ⟨_, rfl, _, _, _, _, rfl, rfl, SqL.of F3'.at_, atI_nat (j := 0) hv2, _, _, _, _, rfl, rfl, SqL.of hb2, atI_nat (j := 0) hx2, ?_⟩
          refine ⟨_, rfl, _, rfl, _, _, _, _, rfl, rfl, SqL.of F3'.at_, atI_nat hrv, b, _, _, 2, rfl, rfl, hb, ixN_of (m := 2) (by omega), ?_⟩
          obtain ⟨F4, D4, B4⟩ := sety H3 x2 2 xs F3' hb hxl hxs D3 B3' sx2
          obtain ⟨b3, xs3, e3, hb3, l3, s3, n3⟩ := F4.each _ (List.mem_of_getElem? hv2)
          cases e3
          obtain ⟨x3, hx3, sx3⟩ := get3 l3 s3 (j := 1) (by decide)
          have hl4 : (xs.set 2 x2).length = 3 := by rw [List.length_set]; exact hxl
          have hs4 : ∀ y ∈ xs.set 2 x2, Sc y := fun y hy => by
            rcases List.mem_or_eq_of_mem_set hy with h | h
            · exact hxs y h
            · rw [h]; exact sx2
          refine ⟨_, rfl, _, _, _, _, rfl, rfl, SqL.of F4.at_, atI_nat (j := 0) hv2, _, _, _, _, rfl, rfl, SqL.of hb3, atI_nat (j := 1) hx3, ?_⟩
          refine ⟨_, rfl, _, rfl, _, _, _, _, rfl, rfl, SqL.of F4.at_, atI_nat hrv, b, _, _, 1, rfl, rfl, upd_same, ixN_of (m := 1) (by omega), R, _, rfl, ?_⟩
          obtain ⟨F5, D5, B5⟩ := sety _ x3 1 _ F4 upd_same hl4 hs4 D4 B4 sx3
          exact ⟨F5.rws (by omega), D5, B5⟩
        refine ⟨_, rfl, rfl, _, rfl, ?_⟩
        refine ite2 (fun g => ?_) (fun g => ?_)
        · refine ⟨_, rfl, _, rfl, _, rfl, R, vs, rfl, SqL.of F3'.at_, fun l hl => ?_⟩
          rw [cut_take]
          refine ⟨l, _, rfl, ⟨_, upd_same, Nat.le_trans (List.length_take_le _ _) (by omega), fun v hv => ((F3'.each v (List.mem_of_mem_take hv)).row).keep fun z zs h => sNew hl _ _ h⟩, D3.new hl, B3'.trans (But.of (sNew hl))⟩
        · refine ⟨_, rfl, by show 3 ≤ sizeLine; decide, fun e1 h1 => ⟨by show 1 ≤ sizeLine; decide, fun e2 h2 => ?_⟩⟩
          have st : ∀ z o, H3 z = some o → (upd (upd H3 e1 (.lst [.str "extra", .int 3, .non])) e2 (.lst [.ref e1])) z = some o := fun z o h => sNew h2 _ _ (sNew h1 _ _ h)
          refine ⟨R, e2, vs, [.ref e1], rfl, rfl, st _ _ F3'.at_, upd_same, Nat.le_of_lt (small1000 (by show vs.length + 1 ≤ 1000; omega)), fun q hq => ?_⟩
          refine ⟨q, _, rfl, ⟨_, upd_same, by rw [List.length_append]; show vs.length + 1 ≤ 8; omega, fun v hv => ?_⟩, ((D3.new h1).new h2).new hq, B3'.trans (But.of fun z o h => sNew hq _ _ (st _ _ h))⟩
          rcases List.mem_append.mp hv with hv | hv
          · exact ((F3'.each v hv).row).keep fun z zs h => sNew hq _ _ (st _ _ h)
          · obtain rfl : v = .ref e1 := by simpa using hv
            refine .inl ⟨e1, _, rfl, sNew hq _ _ ((upd_ne (ne_of_none upd_same h2)).trans upd_same), by decide, fun x hx => ?_⟩
            rcases (show x = .str "extra" ∨ x = .int 3 ∨ x = .non by simpa using hx) with rfl | rfl | rfl
            · exact ⟨by decide, by decide +kernel, by decide +kernel⟩
            · trivial
            · trivial
      · rintro σ' H4 ⟨r', v, rfl, W4, D4, B4⟩
        exact ⟨_, rfl, k r' H4 W4 D4 B4⟩
theorem cal_spoilt (T : Txt P w K mg cl) : Cal P w K mg base CX0 2 "_law_spoilt" ["_law_draws", "_law_rows"] spSpoilt := by
  obtain ⟨f, fd, F, m⟩ := T.d_spoilt
  exact ⟨f, fd, ok_spoilt F T, m, F.kp, F.binds fun _ _ _ _ _ _ us hl => match us, hl with | [_, _], _ => rfl⟩
end
end My
set_option Elab.async false
set_option linter.all false
set_option maxRecDepth 100000
set_option maxHeartbeats 1000000
namespace My
open PySem L2 Dw
open C8 (pss_cut tCut)
abbrev cuP : List Str := ["self", "parent_age", "years_after", "wed_age", "limit"]
section
variable {P : Program} {w : World} {K : PySem.W.Frag} {mg : Str → Option Value} {base : Heap} {cl : String → Addr}
/-- Customs(a, years_after = b, wed_age = c, limit = d) -/
theorem cu_A (T : Txt P w K mg cl) : ∃ (f : Addr) (fd : FuncData) (its mv : List Value), FnOk P w K mg base (L2.CX P w) 4 f fd cuP (spCu K (cl "Customs") (cl "BadCustoms")) ∧ Mk K (cl "Customs") f ∧
    KBn K fd cuP 2 ["years_after", "wed_age", "limit"] (fun us ws => us ++ ws) (fun vs zs => vs ++ zs) := by
  obtain ⟨f, fd, F, M⟩ := T.i_Customs
  obtain ⟨its, mv, h⟩ := F.kbinds (ps := cuP) 2 ["years_after", "wed_age", "limit"] [] (fun us _ _ ws => us ++ ws) (by decide) (by decide) (fun q hq => by cases hq) (fun a _ _ b => a.append b)
    (fun T D doc pm an cdv ct us its mv ws l1 l2 l3 l4 => match us, its, mv, ws, l1, l2, l3, l4 with
      | [_, _], [_], [], [_, _, _], _, _, _, _ => ⟨_, rfl, rfl⟩)
  exact ⟨f, fd, its, mv, ok_Customs_init F T, M, h⟩
end
theorem mkCu {K : PySem.W.Frag} {H : Hp} {C CB : Addr} {a b c d : Int} {E : XK} {Q : Addr → Hp → Prop} (hw : cuWord (.int a) (.int b) (.int c) (.int d) = none) (k : ∀ x H', Same H H' → CuAt C H' x (.int a) (.int b) (.int c) (.int d) → Q x H') :
    ∀ x dx, H x = none → H dx = none → dx ≠ x → spCu K C CB [.ref x, .int a, .int b, .int c, .int d] (upd (upd H dx (.own x)) x (.ins C dx [])) (fun v H3 => v = .non ∧ Q x H3) E := fun x dx nx ndx nex => by
  have S2 : Same H (upd (upd H dx (.own x)) x (.ins C dx [])) := (sNew ndx).trans (sNew (by rw [upd_ne (Ne.symm nex)]; exact nx))
  refine ⟨x, dx, _, _, _, _, _, _, _, _, rfl, upd_same, .int _, .int _, .int _, .int _, fun s hs => (by rw [hw] at hs; cases hs), fun _ => ⟨rfl, k x _ (fun y o hy => ?_) ⟨dx, upd_same⟩⟩⟩
  rw [upd_ne (ne_of_none hy nx)]
  exact S2 _ _ hy
theorem cuWord_ok {a b c d : Int} (h1 : 1 ≤ a ∧ a ≤ 1000) (h2 : 0 ≤ b ∧ b ≤ 1000) (h3 : 0 ≤ c ∧ c ≤ 1000) (h4 : 0 ≤ d ∧ d ≤ 1000000) : cuWord (.int a) (.int b) (.int c) (.int d) = none := by
  simp [cuWord, isW, h1.1, h1.2, h2.1, h2.2, h3.1, h3.2, h4.1, h4.2]
theorem RwsAt.same {H H' : Hp} {v : V} {ro : Option (List Rwd)} (h : RwsAt H v ro) (S : Same H H') : RwsAt H' v ro := by
  cases ro with
  | none => exact h
  | some rs =>
    obtain ⟨r, ws, h1, h2, h3, h4⟩ := h
    exact ⟨r, ws, h1, h2.imp (S _ _) (S _ _), L2.Paired.mapP h3 fun _ _ z => z.same S, h4⟩
theorem mkLi {K : PySem.W.Frag} {H : Hp} {C CC CB cu : Addr} {rv : V} {ro : Option (List Rwd)} {n0 : Int} {c1 c2 c3 : V} {E : XK} {Q : Addr → Hp → Prop} (hc : CuAt CC H cu (.int n0) c1 c2 c3) (hr : RwsAt H rv ro)
    (bad : ∀ i s H' e, dueO n0 ro = some (i, s) → Same H H' → H' e = none → E (.ref CB) (some e) (upd H' e (.xd [("index", .int (i : Nat)), ("what", .str s)])))
    (good : ∀ gs x t us H', ro = some (gs.map mkR) → dueO n0 ro = none → Same H H' → LiAt C H' x cu t us gs → Q x H') :
    ∀ x dx, H x = none → H dx = none → dx ≠ x → spLi K C CC CB [.ref x, .ref cu, rv] (upd (upd H dx (.own x)) x (.ins C dx [])) (fun v H3 => v = .non ∧ Q x H3) E := fun x dx nx ndx nex => by
  have S2 : Same H (upd (upd H dx (.own x)) x (.ins C dx [])) := (sNew ndx).trans (sNew (by rw [upd_ne (Ne.symm nex)]; exact nx))
  refine ⟨x, dx, _, _, rfl, upd_same, .inr ⟨cu, n0, c1, c2, c3, ro, rfl, cuSame S2 hc, hr.same S2, fun i s H' e h1 h2 h3 => bad i s H' e h1 (S2.trans h2) h3, fun gs t us H' h1 h2 h3 h4 => ⟨rfl, good gs x t us H' h1 h2 (fun b o e => h3 _ _ (S2 _ _ e) (ne_of_none e nx)) h4⟩⟩⟩
/-- the customs' tuple -/
structure Nums (H : Hp) (cu : Addr) (n0 n1 n2 n3 : Int) : Prop where
  at_ : H cu = some (.tup [.int n0, .int n1, .int n2, .int n3])
  ok : cuWord (.int n0) (.int n1) (.int n2) (.int n3) = none
def spTold : Sp := fun vs H Q _ => ∃ (rv : V) (cu : Addr) (n0 n1 n2 n3 : Int) (ro : Option (List Rwd)), vs = [rv, .ref cu] ∧ Nums H cu n0 n1 n2 n3 ∧ RwsAt H rv ro ∧ ∀ v H', Same H H' → DueV H' v (dueO n0 ro) → Q v H'
section
variable {P : Program} {w : World} {K : PySem.W.Frag} {mg : Str → Option Value} {base : Heap} {cl : String → Addr}
theorem ok_told {f : Addr} {fd : FuncData} (F : Fun K "_law_told" "_law_told" s_told f fd) (T : Txt P w K mg cl) : FnOk P w K mg base CX0 6 f fd ["_law_rows", "_law_customs_here"] spTold := by
  refine F.ok sc_told (fun vs H Q E h => ?_) (fun cdv A outer s H vs Q E hr h => ?_)
  · obtain ⟨rv, cu, n0, n1, n2, n3, ro, rfl, _⟩ := h
    rfl
  · obtain ⟨rv, cu, n0, n1, n2, n3, ro, rfl, N, hrw, k⟩ := h
    obtain ⟨fA, fdA, itsA, mvA, G_A, M_A, B_A⟩ := cu_A (base := base) T
    have I_Lives : CalC P w K mg base (L2.CX P w) 3 (cl "Lives") _ (spLi K (cl "Lives") (cl "Customs") (cl "BadLives")) := cal_Lives_init T
    refine ⟨_, (pss_cons (ps_set (i := 2) sc_told.nd rfl (Or.inl rfl) (pe_makeK M_A G_A (hr.mono (by decide)) rfl T.m_Customs B_A passL (pa_cons (pe_ix ix_tup (pv 1) pe_int (fun _ _ => rfl)) pa_nil) (pk_cons (pe_ix ix_tup (pv 1) pe_int (fun _ _ => rfl)) (pk_cons (pe_ix ix_tup (pv 1) pe_int (fun _ _ => rfl)) (pk_cons (pe_ix ix_tup (pv 1) pe_int (fun _ _ => rfl)) pk_nil)))))
        (pss_cut (ps_try_as (i := 3) (Wout := fun _ _ _ _ => False) rfl rfl sc_told.nd rfl rfl ⟨rfl, by decide, Or.inl T.m_BadLives⟩ takes0
            (fun W pn xe tk po => (pss_one (ps_expr (pe_mkS I_Lives T.m_Lives (hr.mono (by decide)) (fun σ => passAt tk σ) (pa_cons (pv 2) (pa_cons (pv 0) pa_nil))))))
            (fun a oe cls d pn hz hf => (pss_cons (ps_if (PW.pt (pw_or (pt_not (pt_val (pe_callB (call_isErrK (K := K) (by rfl) hz hf) (by rfl) T.n_isinstance (by decide +kernel) (pa_cons (pv 3) (pa_cons (pe_cls T.m_DeedError) pa_nil))))) (pw_or1 (pt_val (pe_callB (call_isErrK (K := K) (by rfl) hz hf) (by rfl) T.n_isinstance (by decide +kernel) (pa_cons (pv 3) (pa_cons (pe_cls T.m_BadRecord) pa_nil)))))))
                (pss_one (ps_ret (pe_tup (pa_cons pe_str (pa_cons pe_int pa_nil))))) pss_nil)
              (pss_one (ps_ret (pe_tup (pa_cons (pe_xf (T.x_BadLives).xf T.xf_BadLives_index hz hf (pv 3)) (pa_cons (pe_xf (T.x_BadLives).xf T.xf_BadLives_what hz hf (pv 3)) pa_nil))))))))
        (pss_one (ps_ret pe_non)))), ?_⟩
    refine ⟨_, rfl, _, _, _, _, rfl, rfl, SqT.of N.at_, atI_nat (j := 0) rfl, _, rfl, _, _, _, _, rfl, rfl, SqT.of N.at_, atI_nat (j := 1) rfl, _, rfl, _, _, _, _, rfl, rfl, SqT.of N.at_, atI_nat (j := 2) rfl, _, rfl, _, _, _, _, rfl, rfl, SqT.of N.at_, atI_nat (j := 3) rfl, rfl, rfl, mkCu N.ok fun x H1 S1 X1 => ?_⟩
    refine ⟨fun σ' H' => Same H H' ∧ dueO n0 ro = none, ?_, ?_⟩
    · refine ⟨_, rfl, _, rfl, mkLi X1 (hrw.same S1) (fun i s H2 e hd S2 he => ?_) (fun gs y t us H2 h1 h2 S2 L2 => ?_)⟩
      · refine ⟨true, T.is_BadLives, fun _ a0 _ => ?_, fun q => Bool.noConfusion q⟩
        refine ⟨_, rfl, _, _, true, _, e, _, rfl, rfl, rfl, upd_same, T.x_BadLives, .own _, T.k_bl_de, _, rfl, iteF ?_⟩
        refine ⟨_, rfl, _, _, false, _, e, _, rfl, rfl, rfl, upd_same, T.x_BadLives, .own _, T.k_bl_br, _, rfl, iteF ?_⟩
        refine ⟨_, rfl, rfl, rfl, e, _, _, rfl, upd_same, rfl, _, rfl, rfl, rfl, e, _, _, rfl, upd_same, rfl, by show 2 ≤ sizeLine; decide, fun t ht => ?_⟩
        refine k _ _ ((S1.trans S2).trans ((sNew he).trans (sNew ht))) ?_
        rw [hd]
        exact ⟨t, rfl, upd_same⟩
      · exact ⟨S1.trans S2, h2⟩
    · rintro σ' H' ⟨S', hd⟩
      exact k _ _ S' (by rw [hd]; rfl)
theorem cal_told (T : Txt P w K mg cl) : Cal P w K mg base CX0 6 "_law_told" ["_law_rows", "_law_customs_here"] spTold := by
  obtain ⟨f, fd, F, m⟩ := T.d_told
  exact ⟨f, fd, ok_told F T, m, F.kp, F.binds fun _ _ _ _ _ _ us hl => match us, hl with | [_, _], _ => rfl⟩
end
end My
set_option Elab.async false
set_option linter.all false
set_option maxRecDepth 100000
set_option maxHeartbeats 1000000
namespace My
open PySem L2 Dw
open C8 (pss_cut tCut)
theorem mkR_inj {a b : Gd} (h : mkR a = mkR b) : a = b := by
  obtain ⟨a1, a2, a3⟩ := a
  obtain ⟨b1, b2, b3⟩ := b
  have h : Rwd.sq [V.str a1, .int a2, a3] = Rwd.sq [V.str b1, .int b2, b3] := h
  injection h with h
  injection h with h1 h
  injection h with h2 h
  injection h with h3 h
  injection h1 with h1
  injection h2 with h2
  rw [h1, h2, h3]
theorem mkRs_inj : ∀ {as bs : List Gd}, as.map mkR = bs.map mkR → as = bs
  | [], [], _ => rfl
  | [], _ :: _, h => by cases h
  | _ :: _, [], h => by cases h
  | a :: as, b :: bs, h => by
    rw [List.map_cons, List.map_cons] at h
    injection h with h1 h2
    rw [mkR_inj h1, mkRs_inj h2]
theorem look_at {β : Type} (f : Gd → β) : ∀ {gs : List Gd} {g : Gd}, g ∈ gs → (gs.map (·.1)).Nodup → (gs.map fun g => (g.1, f g)).lookup g.1 = some (f g)
  | a :: gs, g, h, nd => by
    rw [List.map_cons, List.nodup_cons] at nd
    rw [List.map_cons, List.lookup_cons]
    rcases List.mem_cons.mp h with rfl | h
    · rw [beq_self_eq_true]
    · rw [show (g.1 == a.1) = false from beq_eq_false_iff_ne.mpr fun e => nd.1 (e ▸ List.mem_map.mpr ⟨g, h, rfl⟩)]
      exact look_at f h nd.2
theorem look_no {β : Type} (f : Gd → β) {s : Str} : ∀ {gs : List Gd}, (∀ g ∈ gs, g.1 ≠ s) → (gs.map fun g => (g.1, f g)).lookup s = none
  | [], _ => rfl
  | a :: gs, h => by
    rw [List.map_cons, List.lookup_cons, show (s == a.1) = false from beq_eq_false_iff_ne.mpr (Ne.symm (h a List.mem_cons_self))]
    exact look_no f fun g hg => h g (List.mem_cons_of_mem _ hg)
theorem dueGo_app {c : Int} : ∀ {A B : List Rwd} {bf : Bf} {i : Nat}, dueGo c bf i (A ++ B) = none → dueGo c bf i A = none ∧ dueGo c (bf ++ A.map keyOf) (i + A.length) B = none
  | [], B, bf, i, h => ⟨rfl, by simpa using h⟩
  | a :: A, B, bf, i, h => by
    rw [List.cons_append, dueGo_cons] at h
    rw [dueGo_cons]
    cases e : rowW c bf a with
    | some s => rw [e] at h; cases h
    | none =>
      rw [e] at h
      obtain ⟨h1, h2⟩ := dueGo_app h
      refine ⟨h1, ?_⟩
      rw [List.map_cons, List.length_cons, show bf ++ keyOf a :: A.map keyOf = bf ++ [keyOf a] ++ A.map keyOf by simp, show i + (A.length + 1) = i + 1 + A.length by omega]
      exact h2
theorem dueGo_join {c : Int} : ∀ {A B : List Rwd} {bf : Bf} {i : Nat}, dueGo c bf i A = none → dueGo c (bf ++ A.map keyOf) (i + A.length) B = none → dueGo c bf i (A ++ B) = none
  | [], B, bf, i, _, h => by simpa using h
  | a :: A, B, bf, i, h, h' => by
    rw [dueGo_cons] at h
    rw [List.cons_append, dueGo_cons]
    cases e : rowW c bf a with
    | some s => rw [e] at h; cases h
    | none =>
      rw [e] at h
      refine dueGo_join h ?_
      rw [List.map_cons, List.length_cons, show bf ++ keyOf a :: A.map keyOf = bf ++ [keyOf a] ++ A.map keyOf by simp, show i + (A.length + 1) = i + 1 + A.length by omega] at h'
      exact h'
def noPar (g : Gd) : Gd := (g.1, g.2.1, .non)
theorem rowW_noPar {c : Int} {bf : Bf} {g : Gd} (h : rowW c bf (mkR g) = none) : rowW c bf (mkR (noPar g)) = none := by
  obtain ⟨n, a, p, e, h1, h2, h3, h4, _⟩ := rowW_none h
  have e : mkR g = mkR (n, a, p) := e
  obtain rfl := mkR_inj e
  show (if isN (.str n) = false then some ("name" : Str) else if (bf.lookup n).isSome = true then some ("double" : Str) else rowA c bf (.int a) .non) = none
  rw [if_neg (by rw [h1]; decide), if_neg (by rw [h2]; decide)]
  unfold rowA
  rw [if_neg (show ¬ isW 0 1000000 (.int a) = false by show ¬ (decide (0 ≤ a) && decide (a ≤ 1000000)) = false; rw [decide_eq_true h3, decide_eq_true h4]; decide), if_pos rfl]
theorem due_last {c : Int} {A : List Gd} {g : Gd} (h : dueW c ((A ++ [g]).map mkR) = none) : dueW c ((A ++ [noPar g]).map mkR) = none := by
  unfold dueW at h ⊢
  simp only [List.length_map, List.length_append, List.length_singleton] at h ⊢
  by_cases z : A.length + 1 = 0 ∨ 6 < A.length + 1
  · rw [if_pos z] at h
    cases h
  · rw [if_neg z] at h ⊢
    rw [List.map_append] at h ⊢
    obtain ⟨h1, h2⟩ := dueGo_app h
    refine dueGo_join h1 ?_
    rw [List.map_cons, List.map_nil, dueGo_cons] at h2 ⊢
    cases e : rowW c ([] ++ (A.map mkR).map keyOf) (mkR g) with
    | some s => rw [e] at h2; cases h2
    | none => rw [rowW_noPar e]; rfl
theorem eqv_last {A : List Gd} {g : Gd} (hp : g.2.2 = .non ∨ ∃ s, g.2.2 = .str s) : PyData.eqv (rowsD (A ++ [g])) (rowsD (A ++ [noPar g])) = decide (g.2.2 = .non) := by
  have hA : PyData.eqvAll (A.map rowD) (A.map rowD) = true := eqvAll_self fun d hd => by
    obtain ⟨g, _, rfl⟩ := List.mem_map.mp hd
    exact row_self false _
  have e1 : PyData.eqv (rowsD (A ++ [g])) (rowsD (A ++ [noPar g])) = PyData.eqvAll (A.map rowD ++ [rowD g]) (A.map rowD ++ [rowD (noPar g)]) := by
    unfold rowsD sqD
    simp only [Bool.false_eq_true, if_false, PyData.eqv, List.map_append, List.map_cons, List.map_nil]
  rw [e1, eqvAll_append rfl, hA, Bool.true_and]
  have e2 : PyData.eqvAll [rowD g] [rowD (noPar g)] = PyData.eqv (vD g.2.2) .none := by
    simp [rowD, noPar, sqD, vD, PyData.eqv, PyData.eqvAll]
  rw [e2]
  rcases hp with h | ⟨s, h⟩
  · rw [h]; rfl
  · rw [h]; simp [vD, PyData.eqv]
theorem cut_last (xs : List V) : cutV xs none (some (-1)) = xs.dropLast := by
  unfold cutV
  rw [HT.sIx_none, List.drop_zero, Nat.sub_zero, List.dropLast_eq_take]
  have e : HT.sIx xs.length xs.length (some (-1)) = xs.length - 1 := by
    show (if (-1 : Int) < 0 then ((-1 : Int) + (xs.length : Int)).toNat else min (-1 : Int).toNat xs.length) = _
    rw [if_pos (by decide)]
    omega
  rw [e]
/-- all but lists stay, and what was there at the start -/
def NL (H H' : Hp) : Prop := ∀ b o, H b = some o → (∀ xs, o ≠ .lst xs) → H' b = some o
def spRight : Sp := fun vs H Q _ => ∃ (r cu : Addr) (n0 n1 n2 n3 : Int) (ws : List V) (gs : List Gd), vs = [.ref r, .ref cu] ∧ H r = some (.lst ws) ∧ Paired (RowAt H) ws (gs.map mkR) ∧ (∀ x ∈ gs.map mkR, Rok x) ∧ Nums H cu n0 n1 n2 n3 ∧ dueW n0 (gs.map mkR) = none ∧ ∀ H', Same H H' → Q (.bl true) H'
section
variable {P : Program} {w : World} {K : PySem.W.Frag} {mg : Str → Option Value} {base : Heap} {cl : String → Addr}
/-- the truth that is due -/
def spSays : Sp := fun vs H Q _ => ∃ a b : Bool, vs = [.bl a, .bl b] ∧ Q (.bl (a == b)) H
theorem ok_says {f : Addr} {fd : FuncData} (F : Fun K "_law_says" "_law_says" s_says f fd) (T : Txt P w K mg cl) : FnOk P w K mg base CX0 1 f fd ["_law_told_here", "_law_due_here"] spSays := by
  refine F.ok sc_says (fun vs H Q E h => ?_) (fun cdv A outer s H vs Q E hr h => ?_)
  · obtain ⟨a, b, rfl, _⟩ := h
    rfl
  · obtain ⟨a, b, rfl, k⟩ := h
    refine ⟨_, (pss_one (ps_ret (pe_ifExp (pt_val (pv 1)) (pe_cmpR op_isBl (pv 0) pe_bl (nomark _)) (pe_cmpR op_isBl (pv 0) pe_bl (nomark _))))), ?_⟩
    refine ⟨_, rfl, _, rfl, ?_⟩
    cases b with
    | true => exact iteT ⟨_, rfl, _, _, rfl, rfl, by cases a <;> exact k⟩
    | false => exact iteF ⟨_, rfl, _, _, rfl, rfl, by cases a <;> exact k⟩
theorem cal_says (T : Txt P w K mg cl) : Cal P w K mg base CX0 1 "_law_says" ["_law_told_here", "_law_due_here"] spSays := by
  obtain ⟨f, fd, F, m⟩ := T.d_says
  exact ⟨f, fd, ok_says F T, m, F.kp, F.binds fun _ _ _ _ _ _ us hl => match us, hl with | [_, _], _ => rfl⟩
theorem ownLi (T : Txt P w K mg cl) {H : Hp} {x y cu t t' : Addr} {us us' : List V} {gs gs' : List Gd} {a b c d : Int} {Q : VK} (hx : LiAt (cl "Lives") H x cu t us gs) (hy : LiAt (cl "Lives") H y cu t' us' gs') (ok : ∀ g ∈ gs, Rok (mkR g)) (ok' : ∀ g ∈ gs', Rok (mkR g)) (hc : CuAt (cl "Customs") H cu (.int a) (.int b) (.int c) (.int d))
    (k : ∀ H', Same H H' → Q (.bl (PyData.eqv (rowsD gs) (rowsD gs'))) H') : rOwn K (cl "Lives") (spLiEq K (cl "Lives") (cl "Customs")) (.ref x) (.ref y) H Q := by
  obtain ⟨⟨dx, ad, pd, h1, _⟩, _⟩ := id hx
  obtain ⟨⟨dy, ad', pd', h1', _⟩, _⟩ := id hy
  exact ⟨x, dx, _, _, rfl, h1, .base (.ins h1' T.cl_Lives T.y_Lives T.z1 T.z2 T.z3_Lives), T.nf2_Lives, x, cu, t, us, gs, _, a, b, c, d, rfl, hx, ok, hc, .inl ⟨y, t', us', gs', rfl, hy, ok', fun H' S => ⟨⟨_, rfl⟩, k H' S⟩⟩⟩
theorem ownLiNo (T : Txt P w K mg cl) {H : Hp} {x cu t : Addr} {us : List V} {gs : List Gd} {o : V} {n : String} {a b c d : Int} {Q : VK} (hx : LiAt (cl "Lives") H x cu t us gs) (ok : ∀ g ∈ gs, Rok (mkR g)) (hc : CuAt (cl "Customs") H cu (.int a) (.int b) (.int c) (.int d)) (ho : Dm K H o n)
    (k : Q (.bl false) H) : rOwn K (cl "Lives") (spLiEq K (cl "Lives") (cl "Customs")) (.ref x) o H Q := by
  obtain ⟨⟨dx, ad, pd, h1, _⟩, _⟩ := id hx
  have kt : ∀ m, Dm K H o m → m ∈ ["NoneType", "bool", "int", "str", "list", "tuple"] := fun m x => by cases x <;> decide
  exact ⟨x, dx, _, _, rfl, h1, ho.ty, T.nf_Lives n (kt n ho), x, cu, t, us, gs, _, a, b, c, d, rfl, hx, ok, hc, .inr ⟨⟨n, ho⟩, ⟨_, rfl⟩, k⟩⟩
end
end My
set_option Elab.async false
set_option linter.all false
set_option maxRecDepth 100000
set_option maxHeartbeats 1000000
namespace My
open PySem L2 Dw
open C8 (pss_cut tCut)
theorem sqlS {K : PySem.W.Frag} {H H' : Hp} (S : Same H H') {a : Addr} {xs : List V} (h : SqL K H a xs) : SqL K H' a xs := by
  rcases h with (h | ⟨o, h⟩) | h
  · exact .inl (.inl (S _ _ h))
  · exact .inl (.inr ⟨o, S _ _ h⟩)
  · exact .inr h
theorem sqtS {K : PySem.W.Frag} {H H' : Hp} (S : Same H H') {a : Addr} {xs : List V} (h : SqT K H a xs) : SqT K H' a xs := by
  rcases h with (h | ⟨o, h⟩) | h
  · exact .inl (.inl (S _ _ h))
  · exact .inl (.inr ⟨o, S _ _ h⟩)
  · exact .inr h
mutual
theorem dpS {K : PySem.W.Frag} {H H' : Hp} (S : Same H H') : ∀ {v : V} {d : PyData}, Dp K H v d → Dp K H' v d
  | _, _, .non => .non
  | _, _, .bl b => .bl b
  | _, _, .int i => .int i
  | _, _, .str x => .str x
  | _, _, .lst h r => .lst (sqlS S h) (dpSA S r)
  | _, _, .tup h r => .tup (sqtS S h) (dpSA S r)
theorem dpSA {K : PySem.W.Frag} {H H' : Hp} (S : Same H H') : ∀ {vs : List V} {ds : List PyData}, DpAll K H vs ds → DpAll K H' vs ds
  | _, _, .nil => .nil
  | _, _, .cons h r => .cons (dpS S h) (dpSA S r)
end
theorem heads_rows {H : Hp} : ∀ {ws : List V} {gs : List Gd}, Paired (RowAt H) ws (gs.map mkR) → ws.filterMap (headAt H 0) = gs.map fun g => V.str g.1
  | _, [], h => by cases h; rfl
  | _, g :: gs, h => by
    cases h with
    | cons a t =>
      obtain ⟨b, rfl, hb⟩ := a
      rw [List.filterMap_cons, show headAt H 0 (.ref b) = some (.str g.1) by simp [headAt, hb], List.map_cons, heads_rows t]
theorem Paired.snocR {α β : Type} {F : α → β → Prop} : ∀ {xs : List α} {B : List β} {b : β}, Paired F xs (B ++ [b]) → ∃ ys y, xs = ys ++ [y] ∧ Paired F ys B ∧ F y b
  | _, [], b, h => by
    cases h with
    | cons a t =>
      cases t
      exact ⟨[], _, rfl, .nil, a⟩
  | _, c :: B, b, h => by
    cases h with
    | cons a t =>
      obtain ⟨ys, y, rfl, h1, h2⟩ := Paired.snocR t
      exact ⟨_ :: ys, y, rfl, .cons a h1, h2⟩
theorem Paired.withL {α β : Type} {F G : α → β → Prop} : ∀ {xs : List α} {ys : List β}, Paired F xs ys → (∀ a b, a ∈ xs → F a b → G a b) → Paired G xs ys
  | _, _, .nil, _ => .nil
  | _, _, .cons h t, k => .cons (k _ _ List.mem_cons_self h) (Paired.withL t fun a b ha hf => k a b (List.mem_cons_of_mem _ ha) hf)
section
variable {P : Program} {w : World} {K : PySem.W.Frag} {mg : Str → Option Value} {base : Heap} {cl : String → Addr}
theorem ok_right {f : Addr} {fd : FuncData} (F : Fun K "_law_right" "_law_right" s_right f fd) (T : Txt P w K mg cl) : FnOk P w K mg base CX0 6 f fd ["_law_rows", "_law_customs_here"] spRight := by
  refine F.ok sc_right (fun vs H Q E h => ?_) (fun cdv A outer s H vs Q E hr h => ?_)
  · obtain ⟨r, cu, n0, n1, n2, n3, ws, gs, rfl, _⟩ := h
    rfl
  · obtain ⟨r, cu, n0, n1, n2, n3, ws, gs, rfl, hr0, hpw, ok, N, hdue, k⟩ := h
    have hu := hu_of hr
    obtain ⟨fA, fdA, itsA, mvA, G_A, M_A, B_A⟩ := cu_A (base := base) T
    have I_Lives : CalC P w K mg base (L2.CX P w) 3 (cl "Lives") _ (spLi K (cl "Lives") (cl "Customs") (cl "BadLives")) := cal_Lives_init T
    have C_Lives_names : CalP P w K mg base 1 (cl "Lives") "names" (spNames (cl "Lives")) := cal_names T
    have C_Lives_len : CalM P w K mg base CX0 1 (cl "Lives") "__len__" _ (spLen (cl "Lives")) := cal_len T
    have C_Lives_iter : CalI P w K mg base 1 (cl "Lives") "rows" := cal_iter T
    have C_Customs_eq : CalM P w K mg base CX0 2 (cl "Customs") "__eq__" _ (spEq K (cl "Customs")) := cal_eq T
    have C_Lives_eq : CalM P w K mg base CX0 3 (cl "Lives") "__eq__" _ (spLiEq K (cl "Lives") (cl "Customs")) := cal_Lives_eq T
    have C_Lives_age : CalM P w K mg base (L2.CX P w) 2 (cl "Lives") "age" _ (spAge K (cl "Lives") (cl "NoLife") lkA) := cal_age T
    have C_Lives_parent : CalM P w K mg base (L2.CX P w) 2 (cl "Lives") "parent" _ (spAge K (cl "Lives") (cl "NoLife") lkP) := cal_parent T
    have C_says : Cal P w K mg base CX0 1 "_law_says" _ spSays := cal_says T
    refine ⟨_, (pss_cons (ps_set (i := 2) sc_right.nd rfl (Or.inl rfl) (pe_makeK M_A G_A (hr.mono (by decide)) rfl T.m_Customs B_A passL (pa_cons (pe_ix ix_tup (pv 1) pe_int (fun _ _ => rfl)) pa_nil) (pk_cons (pe_ix ix_tup (pv 1) pe_int (fun _ _ => rfl)) (pk_cons (pe_ix ix_tup (pv 1) pe_int (fun _ _ => rfl)) (pk_cons (pe_ix ix_tup (pv 1) pe_int (fun _ _ => rfl)) pk_nil)))))
        (pss_cons (ps_setLc (i := 3) (own := [("_law_x", 15)]) (g := gName 15) (tt := tYes) rfl sc_right.nd rfl rfl (sw_true rfl rfl rfl (by decide +kernel)) (pi_list (pv 0)) (blkOk_by (own := [("_law_x", 15)]) (N := ["_law_rows", "_law_customs_here", "_law_made", "_law_given", "_law_lives", "_law_kept", "_law_name", "_law_age", "_law_parent", "_law_odd", "_law_told_here", "e", "_law_again", "_law_other", "_law_same", "_law_x"]) (sc := defScope s_right) (by decide +kernel)) (fun _ _ _ _ _ => pg_name (i := 15) sc_right.nd rfl (Or.inl rfl)) (fun _ _ _ _ _ => pts_nil) (fun _ _ _ _ _ => (pe_callTy (call_list_ofK (K := K) rfl) (by rfl) T.n_list (by decide +kernel) (pa_cons (pv 15) pa_nil))))
        (pss_cons (ps_set (i := 4) sc_right.nd rfl (Or.inl rfl) (pe_mk I_Lives T.m_Lives (hr.mono (by decide))  (pa_cons (pv 2) (pa_cons (pv 3) pa_nil))))
        (pss_cons (ps_set (i := 5) sc_right.nd rfl (Or.inl rfl) (pe_callTy call_tuple_of (by rfl) T.n_tuple (by decide +kernel) (pa_cons (pe_lc (own := [("_law_x", 15)]) (g := gName 15) (tt := tYes) rfl sc_right.nd (pi_list (pv 0)) (blkOk_by (own := [("_law_x", 15)]) (N := ["_law_rows", "_law_customs_here", "_law_made", "_law_given", "_law_lives", "_law_kept", "_law_name", "_law_age", "_law_parent", "_law_odd", "_law_told_here", "e", "_law_again", "_law_other", "_law_same", "_law_x"]) (sc := defScope s_right) (by decide +kernel)) (fun _ _ _ _ _ => pg_name (i := 15) sc_right.nd rfl (Or.inl rfl)) (fun _ _ _ _ _ => pts_nil) (fun _ _ _ _ _ => (pe_callTy (call_tuple_ofK (K := K) rfl) (by rfl) T.n_tuple (by decide +kernel) (pa_cons (pv 15) pa_nil)))) pa_nil)))
        (pss_cons (ps_asg pe_int (pg_sub (pe_ix ix_list (pv 3) pe_int (fun _ _ => rfl)) pe_int set_list))
        (pss_cons (ps_expr (pe_app1 (by exact (pv 3)) (by exact (pa_cons (pe_lst (pa_cons pe_str (pa_cons pe_int (pa_cons pe_non pa_nil)))) pa_nil))))
        (pss_cons (ps_if (PW.pt (pw_or (pt_cmpR (op_neD hr.units) (pe_fld (pv 4) rfl) (pv 5) (nomark _)) (pw_or (pt_cmpR (op_neD hr.units) (pe_prp T.cl_Lives C_Lives_names (hr.mono (by decide)) (pv 4)) (pe_callTy call_tuple_of (by rfl) T.n_tuple (by decide +kernel) (pa_cons (pe_lc (own := [("_law_x", 15)]) (g := gName 15) (tt := tYes) rfl sc_right.nd (pi_list (pv 0)) (blkOk_by (own := [("_law_x", 15)]) (N := ["_law_rows", "_law_customs_here", "_law_made", "_law_given", "_law_lives", "_law_kept", "_law_name", "_law_age", "_law_parent", "_law_odd", "_law_told_here", "e", "_law_again", "_law_other", "_law_same", "_law_x"]) (sc := defScope s_right) (by decide +kernel)) (fun _ _ _ _ _ => pg_name (i := 15) sc_right.nd rfl (Or.inl rfl)) (fun _ _ _ _ _ => pts_nil) (fun _ _ _ _ _ => (pe_ix (ix_listK (K := K) rfl) (pv 15) pe_int (fun _ _ => rfl)))) pa_nil)) (nomark _)) (pw_or1 (pt_cmpR op_ne (pe_callB (call_lenOwn C_Lives_len (hr.mono (by decide))) (by rfl) T.n_len PySem.boot_len (pa_cons (pv 4) pa_nil)) (pe_callB call_len_seq (by rfl) T.n_len PySem.boot_len (pa_cons (pv 0) pa_nil)) (nomark _))))))
          (pss_one (ps_ret pe_bl)) pss_nil)
        (pss_cons (ps_if (PW.pt (pw_or (pt_cmpR (op_neD hr.units) (pe_lc (own := [("_law_x", 15)]) (g := gName 15) (tt := tYes) rfl sc_right.nd (pi_own C_Lives_iter (hr.mono (by decide)) (pv 4)) (blkOk_by (own := [("_law_x", 15)]) (N := ["_law_rows", "_law_customs_here", "_law_made", "_law_given", "_law_lives", "_law_kept", "_law_name", "_law_age", "_law_parent", "_law_odd", "_law_told_here", "e", "_law_again", "_law_other", "_law_same", "_law_x"]) (sc := defScope s_right) (by decide +kernel)) (fun _ _ _ _ _ => pg_name (i := 15) sc_right.nd rfl (Or.inl rfl)) (fun _ _ _ _ _ => pts_nil) (fun _ _ _ _ _ => (pv 15))) (pe_callTy call_list_of (by rfl) T.n_list (by decide +kernel) (pa_cons (pv 5) pa_nil)) (nomark _)) (pw_or (pt_not (pt_val (pe_callB call_isi (by rfl) T.n_isinstance (by decide +kernel) (pa_cons (pe_fld (pv 4) rfl) (pa_cons (pe_ty "tuple" T.n_tuple) pa_nil))))) (pw_or1 (pt_cmpR op_notBl (pe_cmpR (op_own C_Customs_eq (hr.mono (by decide))) (pe_fld (pv 4) rfl) (pv 2) (nomark _)) pe_bl (nomark _))))))
          (pss_one (ps_ret pe_bl)) pss_nil)
        (pss_cons (ps_for PassesOwn.never rfl (pi_tup (pv 5)) (pg_tup rfl (pgs_cons (pg_name (i := 6) sc_right.nd rfl (Or.inl rfl)) (pgs_cons (pg_name (i := 7) sc_right.nd rfl (Or.inl rfl)) (pgs_cons (pg_name (i := 8) sc_right.nd rfl (Or.inl rfl)) pgs_nil))))
          (pss_one (ps_if (PW.pt (pw_or (pt_cmpR op_ne (pe_mth T.cl_Lives C_Lives_age (hr.mono (by decide)) (pv 4) (pa_cons (pv 6) pa_nil)) (pv 7) (nomark _)) (pw_or1 (pt_cmpR op_ne (pe_mth T.cl_Lives C_Lives_parent (hr.mono (by decide)) (pv 4) (pa_cons (pv 6) pa_nil)) (pv 8) (nomark _)))))
              (pss_one (ps_ret pe_bl)) pss_nil)))
        (pss_cons (ps_for PassesOwn.never rfl (pi_list (pe_lst (pa_cons pe_str (pa_cons pe_int (pa_cons pe_non (pa_cons pe_bl (pa_cons (pe_lst (pa_cons (pe_ix ix_list (pe_ix ix_list (pv 0) pe_int (fun _ _ => rfl)) pe_int (fun _ _ => rfl)) pa_nil)) pa_nil))))))) (pg_name (i := 9) sc_right.nd rfl (Or.inl rfl))
          (pss_cons (ps_set (i := 10) sc_right.nd rfl (Or.inl rfl) pe_str)
            (pss_cut (ps_try_as (i := 11) (Wout := fun _ _ _ _ => False) rfl rfl sc_right.nd rfl rfl ⟨rfl, by decide, Or.inl T.m_NoLife⟩ takes0
                (fun W pn xe tk po => (pss_one (ps_expr (pe_mthS T.cl_Lives C_Lives_age (hr.mono (by decide)) (pv 4) (fun σ => passAt tk σ) (pa_cons (pv 9) pa_nil)))))
                (fun a oe cls d pn hz hf => (pss_one (ps_set (i := 10) sc_right.nd rfl (Or.inl rfl) (pe_xf (T.x_NoLife).xf T.xf_NoLife_name hz hf (pv 11))))))
            (pss_cons (ps_set (i := 12) sc_right.nd rfl (Or.inl rfl) pe_str)
            (pss_cut (ps_try_as (i := 11) (Wout := fun _ _ _ _ => False) rfl rfl sc_right.nd rfl rfl ⟨rfl, by decide, Or.inl T.m_NoLife⟩ takes0
                (fun W pn xe tk po => (pss_one (ps_expr (pe_mthS T.cl_Lives C_Lives_parent (hr.mono (by decide)) (pv 4) (fun σ => passAt tk σ) (pa_cons (pv 9) pa_nil)))))
                (fun a oe cls d pn hz hf => (pss_one (ps_set (i := 12) sc_right.nd rfl (Or.inl rfl) (pe_xf (T.x_NoLife).xf T.xf_NoLife_name hz hf (pv 11))))))
            (pss_one (ps_if (PW.pt (pw_or (pt_cmpR (op_neD hr.units) (pv 10) (pv 9) (nomark _)) (pw_or (pt_cmpR (op_neD hr.units) (pv 12) (pv 9) (nomark _)) (pw_or1 (pt_cmpR op_ne (pe_callB call_isi (by rfl) T.n_isinstance (by decide +kernel) (pa_cons (pv 10) (pa_cons (pe_ty "bool" T.n_bool) pa_nil))) (pe_callB call_isi (by rfl) T.n_isinstance (by decide +kernel) (pa_cons (pv 9) (pa_cons (pe_ty "bool" T.n_bool) pa_nil))) (nomark _))))))
              (pss_one (ps_ret pe_bl)) pss_nil)))))))
        (pss_cons (ps_set (i := 13) sc_right.nd rfl (Or.inl rfl) (pe_mk I_Lives T.m_Lives (hr.mono (by decide))  (pa_cons (pv 2) (pa_cons (pe_op op_cat (pe_slice sl_list (pv 0) po_none (po_some (pe_un un_neg pe_int))) (pe_lst (pa_cons (pe_lst (pa_cons (pe_ix ix_list (pe_ix ix_list (pv 0) (pe_un un_neg pe_int) (fun _ _ => rfl)) pe_int (fun _ _ => rfl)) (pa_cons (pe_ix ix_list (pe_ix ix_list (pv 0) (pe_un un_neg pe_int) (fun _ _ => rfl)) pe_int (fun _ _ => rfl)) (pa_cons pe_non pa_nil)))) pa_nil))) pa_nil))))
        (pss_cons (ps_set (i := 14) sc_right.nd rfl (Or.inl rfl) (pe_cmpR op_isN (pe_ix ix_list (pe_ix ix_list (pv 0) (pe_un un_neg pe_int) (fun _ _ => rfl)) pe_int (fun _ _ => rfl)) pe_non (nomark _)))
        (pss_one (ps_ret (pe_and (pe_cmpR op_isBl (pe_cmpR (op_own C_Lives_eq (hr.mono (by decide))) (pv 4) (pe_mk I_Lives T.m_Lives (hr.mono (by decide))  (pa_cons (pv 2) (pa_cons (pv 5) pa_nil))) (nomark _)) pe_bl (nomark _)) (pe_and (pe_cal C_says (hr.mono (by decide)) (pa_cons (pe_cmpR (op_own C_Lives_eq (hr.mono (by decide))) (pv 4) (pv 13) (nomark _)) (pa_cons (pv 14) pa_nil))) (pe_one (pe_cmpR op_isBl (pe_cmpR (op_own C_Lives_eq (hr.mono (by decide))) (pv 4) (pv 5) (nomark _)) pe_bl (nomark _))))))))))))))))))), ?_⟩
    obtain ⟨gs', hgs, good, hg1, hg6⟩ := dueW_good hdue
    obtain rfl := mkRs_inj hgs
    clear hgs
    have okg : ∀ g ∈ gs, Rok (mkR g) := fun g hg => ok _ (List.mem_map.mpr ⟨g, hg, rfl⟩)
    have hwl : ws.length = gs.length := by rw [hpw.length, List.length_map]
    have hdO : dueO n0 (some (gs.map mkR)) = none := hdue
    have hgl : (gs.map mkR).length ≤ 9 := by rw [List.length_map]; omega
    -- customs
    refine ⟨_, rfl, _, _, _, _, rfl, rfl, SqT.of N.at_, atI_nat (j := 0) rfl, _, rfl, _, _, _, _, rfl, rfl, SqT.of N.at_, atI_nat (j := 1) rfl, _, rfl, _, _, _, _, rfl, rfl, SqT.of N.at_, atI_nat (j := 2) rfl, _, rfl, _, _, _, _, rfl, rfl, SqT.of N.at_, atI_nat (j := 3) rfl, rfl, rfl, mkCu N.ok fun x H1 S1 X1 => ?_⟩
    have hr1 := S1 _ _ hr0
    have hpw1 : Paired (RowAt H1) ws (gs.map mkR) := L2.Paired.mapP hpw fun _ _ z => z.same S1
    -- the copy
    refine ⟨_, rfl, r, rfl, ⟨_, SqL.of hr1⟩, fun G hG => lc_list (xs := ws) (fun i H' => ∃ vs, H' G = some (.lst vs) ∧ vs.length = i ∧ Paired (RowAt H') vs ((gs.map mkR).take i) ∧ (∀ v ∈ vs, ∃ b, v = .ref b ∧ H1 b = none ∧ b ≠ G) ∧ Same H1 H') ⟨[], upd_same, rfl, .nil, by simp, sNew hG⟩ (fun i H' _ ⟨vs, _, _, _, _, S⟩ => SqL.of (S _ _ hr1)) ?_ ?_⟩
    · rintro i v H2 hv ⟨vs, hG2, hl, hp2, hn2, S2⟩
      obtain ⟨q, hq, hvq⟩ := Paired.at hpw1 hv
      obtain ⟨g, _, rfl⟩ := List.mem_map.mp (List.mem_of_getElem? hq)
      obtain ⟨b, rfl, hb⟩ := hvq.same S2
      have hi : i < ws.length := (List.getElem?_eq_some_iff.mp hv).1
      refine ⟨rfl, _, rfl, b, [.str g.1, .int g.2.1, g.2.2], rfl, .inl (SqL.of hb), fun l hl' => ⟨vs, (upd_ne (ne_of_none hG2 hl')).trans hG2, small1000 (by omega), vs ++ [.ref l], upd_same, by simp [hl], ?_, fun v hv' => ?_, fun b' o e => ?_⟩⟩
      · rw [take_snoc hq]
        have nlG : l ≠ G := Ne.symm (ne_of_none hG2 hl')
        refine Paired.appendP ?_ (.cons ⟨l, rfl, by rw [upd_ne nlG]; exact upd_same⟩ .nil)
        refine Paired.withL hp2 fun v x hv' z => ?_
        cases x with
        | sq xs =>
          obtain ⟨b', e, hb'⟩ := z
          obtain ⟨b2, e2, _, n2⟩ := hn2 v hv'
          obtain rfl : b' = b2 := by rw [e] at e2; cases e2; rfl
          exact ⟨b', e, (upd_ne n2).trans ((upd_ne (ne_of_none hb' hl')).trans hb')⟩
        | tx _ => exact z
      · rcases List.mem_append.mp hv' with hv' | hv'
        · exact hn2 v hv'
        · obtain rfl : v = .ref l := by simpa using hv'
          refine ⟨l, rfl, ?_, Ne.symm (ne_of_none hG2 hl')⟩
          cases e : H1 l with
          | none => rfl
          | some o => rw [S2 _ _ e] at hl'; cases hl'
      · exact (upd_ne (ne_of_none e hG)).trans ((upd_ne (ne_of_none (S2 _ _ e) hl')).trans (S2 _ _ e))
    · rintro H2 ⟨vs, hG2, hl, hp2, hn2, S2⟩
      rw [List.take_of_length_le (by rw [List.length_map]; omega)] at hp2
      have X2 := cuSame S2 X1
      have hvl : vs.length = gs.length := by omega
      -- lives
      refine ⟨_, rfl, _, rfl, mkLi X2 (ro := some (gs.map mkR)) ⟨G, vs, rfl, .inl hG2, L2.Paired.mapP hp2 fun _ _ z => z.two, ok, hgl⟩ (fun i s H' e hd => by rw [hdO] at hd; cases hd) (fun gs2 y t us H3 e1 e2 S3 L3 => ?_)⟩
      obtain rfl := mkRs_inj (Option.some.inj e1)
      clear e1 e2
      have S13 := S2.trans S3
      have hr3 := S13 _ _ hr1
      have hG3 := S3 _ _ hG2
      have hpw3 : Paired (RowAt H3) ws (gs.map mkR) := L2.Paired.mapP hpw1 fun _ _ z => z.same S13
      have hp3 : Paired (RowAt H3) vs (gs.map mkR) := L2.Paired.mapP hp2 fun _ _ z => z.same S3
      -- kept
      refine ⟨_, rfl, r, rfl, ⟨_, SqL.of hr3⟩, fun D hD => lc_list (xs := ws) (fun i H' => ∃ us, H' D = some (.lst us) ∧ us.length = i ∧ Paired (TupAt H') us ((gs.map mkR).take i) ∧ Same H3 H') ⟨[], upd_same, rfl, .nil, sNew hD⟩ (fun i H' _ ⟨us, _, _, _, S⟩ => SqL.of (S _ _ hr3)) ?_ ?_⟩
      · rintro i v H5 hv ⟨us', hD5, hlen, hp5, S5⟩
        obtain ⟨q, hq, hvq⟩ := Paired.at hpw3 hv
        obtain ⟨g, _, rfl⟩ := List.mem_map.mp (List.mem_of_getElem? hq)
        obtain ⟨b, rfl, hb⟩ := hvq.same S5
        have hi : i < ws.length := (List.getElem?_eq_some_iff.mp hv).1
        refine ⟨rfl, _, rfl, b, [.str g.1, .int g.2.1, g.2.2], rfl, .inl ⟨SqL.of hb, fun l hl => ⟨us', (upd_ne (ne_of_none hD5 hl)).trans hD5, small1000 (by omega), us' ++ [.ref l], upd_same, by simp [hlen], ?_, fun b' o e => ?_⟩⟩⟩
        · rw [take_snoc hq]
          have nlD : l ≠ D := Ne.symm (ne_of_none hD5 hl)
          refine Paired.appendP (L2.Paired.mapP hp5 fun _ _ h => h.keep fun b' xs e => ?_) (.cons ⟨l, _, rfl, rfl, by rw [upd_ne nlD]; exact upd_same⟩ .nil)
          rw [upd_ne (ne_of e hD5 (fun z => nomatch z)), upd_ne (ne_of_none e hl)]
          exact e
        · rw [upd_ne (ne_of_none e hD), upd_ne (ne_of_none (S5 _ _ e) hl)]
          exact S5 _ _ e
      · rintro H5 ⟨ks0, hD5, hlen, hp5, S5⟩
        rw [List.take_of_length_le (by rw [List.length_map]; omega)] at hp5
        refine ⟨D, ks0, rfl, .inl ⟨SqL.of hD5, fun kt hkt => ?_⟩⟩
        have S6 := S5.trans (sNew (o := .tup ks0) hkt)
        have hk6 : (upd H5 kt (.tup ks0)) kt = some (.tup ks0) := upd_same
        have hpk6 : Paired (TupAt (upd H5 kt (.tup ks0))) ks0 (gs.map mkR) := L2.Paired.mapP hp5 fun _ _ z => z.keep fun b xs e => sNew hkt _ _ e
        generalize hH6 : upd H5 kt (.tup ks0) = H6 at S6 hk6 hpk6
        clear hD5 hp5 S5 hkt hH6 hD
        have L6 := L3.same S6
        have X6 := cuSame (S3.trans S6) X2
        have S16 := S13.trans S6
        have hG6 := S6 _ _ hG3
        have hp6 : Paired (RowAt H6) vs (gs.map mkR) := L2.Paired.mapP hp3 fun _ _ z => z.same S6
        clear L3 X2 S13 hr3 hG3 hpw3 hp3 hp2 hG2 S2 S3 S6
        -- given[0][1] = 77
        obtain ⟨v0, hv0⟩ : ∃ v, vs[0]? = some v := ⟨_, List.getElem?_eq_getElem (by omega)⟩
        obtain ⟨q0, hq0, hrow0⟩ := Paired.at hp6 hv0
        obtain ⟨g0, _, rfl⟩ := List.mem_map.mp (List.mem_of_getElem? hq0)
        obtain ⟨b0, rfl, hb0⟩ := hrow0
        obtain ⟨b0', e0, nb0, nbG⟩ := hn2 _ (List.mem_of_getElem? hv0)
        cases e0
        refine ⟨_, rfl, _, _, _, _, rfl, rfl, SqL.of hG6, atI_nat (j := 0) hv0, b0, _, _, 1, rfl, rfl, hb0, ixN_of (m := 1) (by show 1 < 3; decide), ?_⟩
        -- given.append
        refine ⟨_, rfl, .inl ⟨rfl, _, .inl (.inl ((upd_ne (Ne.symm nbG)).trans hG6))⟩, by show 3 ≤ sizeLine; decide, fun l hl => ?_⟩
        have nGl : G ≠ l := ne_of_none ((upd_ne (Ne.symm nbG)).trans hG6) hl
        refine ⟨G, _, _, rfl, rfl, (upd_ne nGl).trans ((upd_ne (Ne.symm nbG)).trans hG6), small1000 (by omega), ?_⟩
        have S17 : ∀ o1 o2 o3, Same H1 (upd (upd (upd H6 b0 o1) l o2) G o3) := fun o1 o2 o3 b o e => (upd_ne (ne_of_none e hG)).trans ((upd_ne (by
          have e6 : (upd H6 b0 (.lst ([V.str g0.1, .int g0.2.1, g0.2.2].set 1 (.int 77)))) b = some o := (upd_ne (ne_of_none e nb0)).trans (S16 _ _ e)
          exact ne_of_none e6 hl)).trans ((upd_ne (ne_of_none e nb0)).trans (S16 _ _ e)))
        have NL7 : ∀ o2 o3, NL H6 (upd (upd (upd H6 b0 (.lst ([V.str g0.1, .int g0.2.1, g0.2.2].set 1 (.int 77)))) l o2) G o3) := fun o2 o3 b o e n => by
          have nb : b ≠ b0 := ne_of e hb0 (n _)
          have nG : b ≠ G := ne_of e hG6 (n _)
          have e6 : (upd H6 b0 (.lst ([V.str g0.1, .int g0.2.1, g0.2.2].set 1 (.int 77)))) b = some o := (upd_ne nb).trans e
          exact (upd_ne nG).trans ((upd_ne (ne_of_none e6 hl)).trans e6)
        generalize hH7 : upd (upd (upd H6 b0 _) l _) G _ = H7
        have S17 : Same H1 H7 := hH7 ▸ S17 _ _ _
        have NL7 : NL H6 H7 := hH7 ▸ NL7 _ _
        clear hH7 hl nGl nbG nb0 hb0 hq0 hv0 hG6 hp6 hn2 hG S16
        have L7 : LiAt (cl "Lives") H7 y x t us gs := L6.keep NL7
        have X7 : CuAt (cl "Customs") H7 x (.int n0) (.int n1) (.int n2) (.int n3) := cuSame S17 X1
        have hk7 : H7 kt = some (.tup ks0) := NL7 _ _ hk6 (fun _ z => nomatch z)
        have hpk7 : Paired (TupAt H7) ks0 (gs.map mkR) := L2.Paired.mapP hpk6 fun _ _ z => z.keep fun b xs e => NL7 _ _ e (fun _ z => nomatch z)
        have hr7 := S17 _ _ hr1
        have hpw7 : Paired (RowAt H7) ws (gs.map mkR) := L2.Paired.mapP hpw1 fun _ _ z => z.same S17
        have S7 : Same H H7 := S1.trans S17
        clear NL7 S17 L6 X6 hk6 hpk6 X1 hr1 hpw1 S1
        obtain ⟨⟨dy, ad, pd, hy, had, hpd⟩, hrows, heach⟩ := id L7
        have hul : us.length = gs.length := by have := heach.length; rw [List.length_map] at this; exact this
        have dpU : ∀ {H'}, Same H7 H' → Dp K H' (.ref t) (rowsD gs) := fun S => dp_tup (SqT.of (S _ _ hrows)) (dpAll_rows (L2.Paired.mapP heach fun _ _ z => z.keep fun b xs e => S _ _ e) okg)
        have dpK : ∀ {H'}, Same H7 H' → Dp K H' (.ref kt) (rowsD gs) := fun S => dp_tup (SqT.of (S _ _ hk7)) (dpAll_rows (L2.Paired.mapP hpk7 fun _ _ z => z.keep fun b xs e => S _ _ e) okg)
        have okn : ∀ x ∈ (gs.map fun g => V.str g.1), okV x = true := fun x hx => by
          obtain ⟨g, hg, rfl⟩ := List.mem_map.mp hx
          exact rok_row (okg g hg) _ (by simp)
        have hz : gs.length < sizeLine := small1000 (by omega)
        have hwz : ws.length < sizeLine := small1000 (by omega)
        have huz : us.length < sizeLine := small1000 (by omega)
        -- rows, names, len
        refine ⟨_, rfl, y, _, dy, _, _, rfl, hy, T.cl_Lives, T.na_Lives _ (by decide), rfl, _, rfl, rowsD gs, rowsD gs, dpU (Same.refl _), dpK (Same.refl _), rows_shaped false okg, rows_shaped false okg, _, rfl, ?_⟩
        rw [show PyData.eqv (rowsD gs) (rowsD gs) = true from rows_self false gs]
        refine iteF ?_
        refine ⟨_, rfl, y, dy, _, rfl, hy, y, x, t, us, gs, rfl, L7, by omega, fun n H8 S8 hn => ?_⟩
        refine ⟨_, rfl, r, rfl, ⟨_, SqL.of (S8 _ _ hr7)⟩, fun D hD => lc_list (xs := ws) (PvF H8 D ws (headAt H8 0)) rfl (fun i H' _ e => by rw [e]; exact SqL.of (by rw [upd_ne (ne_of_none (S8 _ _ hr7) hD)]; exact S8 _ _ hr7)) ?_ ?_⟩
        · rintro i v H' hv rfl
          obtain ⟨q, hq, hvq⟩ := Paired.at hpw7 hv
          obtain ⟨g, _, rfl⟩ := List.mem_map.mp (List.mem_of_getElem? hq)
          obtain ⟨b, rfl, hb⟩ := hvq.same S8
          exact ⟨rfl, _, rfl, _, _, _, _, rfl, rfl, SqL.of (by rw [upd_ne (ne_of_none hb hD)]; exact hb), atI_nat (j := 0) rfl, fm_put hv (by simp [headAt, hb]) hwz⟩
        · intro H' e
          obtain rfl := fm_end e
          have hnm : ws.filterMap (headAt H8 0) = gs.map fun g => V.str g.1 := heads_rows (L2.Paired.mapP hpw7 fun _ _ z => z.same S8)
          rw [hnm]
          refine ⟨D, _, rfl, .inl ⟨SqL.of upd_same, fun m hm => ?_⟩⟩
          have hn9 := sNew hm (o := .tup (gs.map fun g => V.str g.1)) _ _ (sNew hD (o := .lst (gs.map fun g => V.str g.1)) _ _ hn)
          have S9 := S8.trans ((sNew (o := .lst (gs.map fun g => V.str g.1)) hD).trans (sNew (o := .tup (gs.map fun g => V.str g.1)) hm))
          have dpn := dpvs (K := K) (H := upd (upd H8 D (.lst (gs.map fun g => V.str g.1))) m (.tup (gs.map fun g => V.str g.1))) fun x hx => okV.flat (okn x hx)
          refine ⟨_, _, dp_tup (SqT.of hn9) dpn, dp_tup (SqT.of upd_same) dpn, row_shaped false okn, row_shaped false okn, _, rfl, ?_⟩
          rw [row_self]
          refine iteF ?_
          refine ⟨_, rfl, y, dy, _, rfl, S9 _ _ hy, y, x, t, us, gs, rfl, L7.same S9, us.length, rfl, by omega, _, rfl, r, ws, rfl, .inl (SqL.of (S9 _ _ hr7)), rfl, _, rfl, ?_⟩
          rw [hul, hwl, decide_eq_true rfl]
          refine iteF ?_
          generalize hH9 : upd (upd H8 D (.lst (gs.map fun g => V.str g.1))) m (.tup (gs.map fun g => V.str g.1)) = H9 at S9
          clear hH9 hn9 dpn hnm hn hD hm e S8
          -- the walk over lives
          refine ⟨_, rfl, y, dy, t, _, rfl, S9 _ _ hy, rfl, ⟨_, SqT.of (S9 _ _ hrows)⟩, fun D hD => lc_it (walk_tup (xs := us)) (PvF H9 D us some) rfl (fun i H' _ e => by rw [e]; exact SqT.of (by rw [upd_ne (ne_of_none (S9 _ _ hrows) hD)]; exact S9 _ _ hrows)) ?_ ?_⟩
          · rintro i v H1' H2' hi rfl ⟨rfl, hv⟩
            exact ⟨rfl, _, rfl, fm_put hv rfl huz⟩
          · intro H' e
            obtain rfl := fm_end e
            rw [List.filterMap_some]
            refine ⟨_, rfl, kt, ks0, rfl, .inr (SqT.of (sNew hD _ _ (S9 _ _ hk7))), fun l hl => ?_⟩
            have S10 := S9.trans ((sNew (o := .lst us) hD).trans (sNew (o := .lst ks0) hl))
            have hD10 : (upd (upd H9 D (.lst us)) l (.lst ks0)) D = some (.lst us) := (upd_ne (ne_of_none upd_same hl)).trans upd_same
            refine ⟨sqD true (gs.map rowD), sqD true (gs.map rowD), dp_lst (SqL.of hD10) (dpAll_rows (L2.Paired.mapP heach fun _ _ z => z.keep fun b xs e => S10 _ _ e) okg), dp_lst (SqL.of upd_same) (dpAll_rows (L2.Paired.mapP hpk7 fun _ _ z => z.keep fun b xs e => S10 _ _ e) okg), rows_shaped true okg, rows_shaped true okg, _, rfl, ?_⟩
            rw [rows_self]
            refine iteF ?_
            refine ⟨_, rfl, y, _, dy, _, _, rfl, S10 _ _ hy, T.cl_Lives, T.na_Lives _ (by decide), rfl, _, _, _, _, _, rfl, .ty "tuple", (Dm.tup (K := K) (S10 _ _ hrows)).ty, kit_ty (by decide +kernel), true, rfl, iteF ?_⟩
            refine ⟨_, rfl, y, _, dy, _, _, rfl, S10 _ _ hy, T.cl_Lives, T.na_Lives _ (by decide), rfl, _, rfl, ownEq T (cuSame S10 X7) (cuSame S10 X7) fun H11 S11 => ⟨_, _, rfl, rfl, _, rfl, ?_⟩⟩
            rw [decide_eq_true (show [n0, n1, n2, n3] = [n0, n1, n2, n3] from rfl)]
            refine iteF ?_
            have S11 := S10.trans S11
            clear hD10 hl hD S10 S9 e
            have hasT : ∀ g ∈ gs, lkA gs g.1 = some (.int g.2.1) ∧ lkP gs g.1 = some g.2.2 := fun g hg => ⟨look_at (fun g => V.int g.2.1) hg good.2, look_at (fun g => g.2.2) hg good.2⟩
            -- each life's age and parent
            refine ⟨_, rfl, kt, rfl, ⟨_, SqT.of (S11 _ _ hk7)⟩, for_it (walk_tup (xs := ks0)) (fun i σ H' => Same H7 H' ∧ ∃ (v6 v7 v8 : Option V), σ = [some (.ref r), some (.ref cu), some (.ref x), some (.ref G), some (.ref y), some (.ref kt), v6, v7, v8, none, none, none, none, none, none, none]) ⟨S11, _, _, _, rfl⟩ (fun i σ H' _ q => SqT.of (q.1 _ _ hk7)) ?_ ?_⟩
            · rintro i v σ H12 H12' hi ⟨S12, v6, v7, v8, rfl⟩ ⟨rfl, hv⟩
              obtain ⟨q, hq, hvq⟩ := Paired.at hpk7 hv
              obtain ⟨g, hg, rfl⟩ := List.mem_map.mp (List.mem_of_getElem? hq)
              obtain ⟨b, rfl, hb⟩ := tup0 hvq
              obtain ⟨la, lp⟩ := hasT g hg
              have hgn : hasN gs (.str g.1) = true := by show (lkA gs g.1).isSome = true; rw [la]; rfl
              have hgl2 : g.1.length ≤ sizeLine := Nat.le_of_lt (small1000 (Nat.le_trans (isN_len (good.1 g hg).1) (by decide)))
              refine ⟨b, _, rfl, SqT.of (S12 _ _ hb), rfl, _, _, rfl, _, _, rfl, _, _, rfl, rfl, ?_⟩
              refine ⟨_, rfl, y, dy, _, rfl, S12 _ _ hy, rfl, _, rfl, y, x, t, us, gs, .str g.1, "str", rfl, L7.same S12, .str _ hgl2, fun h => (by rw [hgn] at h; cases h), fun s a e1 e2 => ?_⟩
              cases e1
              rw [la] at e2
              cases e2
              refine ⟨_, rfl, rfl, _, rfl, ?_⟩
              rw [decide_eq_true rfl]
              refine iteF ?_
              refine ⟨_, rfl, y, dy, _, rfl, S12 _ _ hy, rfl, _, rfl, y, x, t, us, gs, .str g.1, "str", rfl, L7.same S12, .str _ hgl2, fun h => (by rw [hgn] at h; cases h), fun s a e1 e2 => ?_⟩
              cases e1
              rw [lp] at e2
              obtain rfl := Option.some.inj e2
              have hs : scal g.2.2 g.2.2 = true := by rcases (good.1 g hg).2.2 with e | ⟨s, e⟩ <;> (rw [e]; rfl)
              refine ⟨_, rfl, hs, _, rfl, ?_⟩
              rw [decide_eq_true rfl]
              exact iteF ⟨S12, _, _, _, rfl⟩
            · rintro σ H12 ⟨S12, v6, v7, v8, rfl⟩
              clear S11
              -- what is no name
              obtain ⟨wv, hwv⟩ : ∃ v, ws[0]? = some v := ⟨_, List.getElem?_eq_getElem (by omega)⟩
              obtain ⟨q, hq, hvq⟩ := Paired.at hpw7 hwv
              obtain ⟨g0, hg0, rfl⟩ := List.mem_map.mp (List.mem_of_getElem? hq)
              obtain ⟨bw, rfl, hbw⟩ := hvq.same S12
              refine ⟨_, rfl, _, _, _, _, rfl, rfl, SqL.of (S12 _ _ hr7), atI_nat (j := 0) hwv, _, _, _, _, rfl, rfl, SqL.of hbw, atI_nat (j := 0) rfl, by show 1 ≤ sizeLine; decide, fun qq hqq => ⟨by show 5 ≤ sizeLine; decide, fun oo hoo => ?_⟩⟩
              have S13 := S12.trans ((sNew (o := .lst [.str g0.1]) hqq).trans (sNew (o := .lst [.str "nobodyis", .int 3, .non, .bl true, .ref qq]) hoo))
              have hq13 : (upd (upd H12 qq (.lst [.str g0.1])) oo (.lst [.str "nobodyis", .int 3, .non, .bl true, .ref qq])) qq = some (.lst [.str g0.1]) := (upd_ne (ne_of_none upd_same hoo)).trans upd_same
              have ho13 : (upd (upd H12 qq (.lst [.str g0.1])) oo (.lst [.str "nobodyis", .int 3, .non, .bl true, .ref qq])) oo = some (.lst [.str "nobodyis", .int 3, .non, .bl true, .ref qq]) := upd_same
              generalize hH13 : upd (upd H12 qq (.lst [.str g0.1])) oo (.lst [.str "nobodyis", .int 3, .non, .bl true, .ref qq]) = H13 at S13 hq13 ho13
              clear hH13 hoo hqq hbw S12
              have odd : ∀ (i : Nat) (v : V), ([.str "nobodyis", .int 3, .non, .bl true, .ref qq] : List V)[i]? = some v → ∃ (n : String) (d : PyData) (bb : Bool), Dm K H13 v n ∧ Dp K H13 v d ∧ SeqAt.shaped d = true ∧ PyData.eqv d d = true ∧ hasN gs v = false ∧ PySem.W.kitOne K (.type n) (.type "bool") = some bb := fun i v h => by
                rcases i with _ | _ | _ | _ | _ | i
                · cases h
                  refine ⟨"str", vD (.str "nobodyis"), false, .str _ (by decide), dpv rfl, vD_shaped (by decide +kernel), vD_self _, ?_, kit_ty (by decide +kernel)⟩
                  show (lkA gs "nobodyis").isSome = false
                  rw [show lkA gs "nobodyis" = none from look_no _ fun g hg => ((okg g hg).2 (.str g.1) (by simp)).2.2]
                  rfl
                · cases h; exact ⟨"int", vD (.int 3), false, .int _, dpv rfl, vD_shaped rfl, vD_self _, rfl, kit_ty (by decide +kernel)⟩
                · cases h; exact ⟨"NoneType", vD .non, false, .non, dpv rfl, vD_shaped rfl, vD_self _, rfl, kit_ty (by decide +kernel)⟩
                · cases h; exact ⟨"bool", vD (.bl true), true, .bl _, dpv rfl, vD_shaped rfl, vD_self _, rfl, kit_ty (by decide +kernel)⟩
                · cases h
                  have o1 : ∀ x ∈ ([.str g0.1] : List V), okV x = true := fun x hx => rok_row (okg g0 hg0) x (by rw [List.mem_singleton.mp hx]; simp)
                  exact ⟨"list", sqD true ([V.str g0.1].map vD), false, .lst hq13, dp_lst (SqL.of hq13) (dpvs fun x hx => okV.flat (o1 x hx)), row_shaped true o1, row_self true _, rfl, kit_ty (by decide +kernel)⟩
                · cases h
              refine ⟨oo, rfl, ⟨_, SqL.of ho13⟩, for_list (xs := [.str "nobodyis", .int 3, .non, .bl true, .ref qq]) (fun i σ H' => Same H13 H' ∧ ∃ (v6 v7 v8 v9 v10 v11 v12 : Option V), σ = [some (.ref r), some (.ref cu), some (.ref x), some (.ref G), some (.ref y), some (.ref kt), v6, v7, v8, v9, v10, v11, v12, none, none, none]) ⟨Same.refl _, _, _, _, _, _, _, _, rfl⟩ (fun i σ H' _ q => SqL.of (q.1 _ _ ho13)) ?_ ?_⟩
              · rintro i v σ H14 hv ⟨S14, v6, v7, v8, v9, v10, v11, v12, rfl⟩
                obtain ⟨n, d, bb, dm, dp, sh, self, no, kb⟩ := odd i v hv
                refine ⟨fun σ' H' => Same H13 H' ∧ ∃ (u11 u12 : Option V), σ' = [some (.ref r), some (.ref cu), some (.ref x), some (.ref G), some (.ref y), some (.ref kt), v6, v7, v8, some v, some v, u11, u12, none, none, none], ?_, ?_⟩
                · have S := S13.trans S14
                  refine ⟨_, rfl, y, dy, _, rfl, S _ _ hy, rfl, _, rfl, y, x, t, us, gs, v, n, rfl, L7.same S, dm.same S14, fun _ e he => ?_, fun s a e1 e2 => ?_⟩
                  · refine ⟨true, T.is_NoLife, fun _ a0 _ => ?_, fun q => Bool.noConfusion q⟩
                    refine ⟨_, rfl, rfl, rfl, e, _, _, rfl, upd_same, rfl, ?_⟩
                    exact ⟨S14.trans (sNew he), _, _, rfl⟩
                  · subst e1
                    have no : (lkA gs s).isSome = false := no
                    rw [e2] at no
                    cases no
                · rintro σ' H15 ⟨S15, u11, u12, rfl⟩
                  refine ⟨fun σ' H' => Same H13 H' ∧ ∃ (w11 : Option V), σ' = [some (.ref r), some (.ref cu), some (.ref x), some (.ref G), some (.ref y), some (.ref kt), v6, v7, v8, some v, some v, w11, some v, none, none, none], ?_, ?_⟩
                  · have S := S13.trans S15
                    refine ⟨_, rfl, y, dy, _, rfl, S _ _ hy, rfl, _, rfl, y, x, t, us, gs, v, n, rfl, L7.same S, dm.same S15, fun _ e he => ?_, fun s a e1 e2 => ?_⟩
                    · refine ⟨true, T.is_NoLife, fun _ a0 _ => ?_, fun q => Bool.noConfusion q⟩
                      refine ⟨_, rfl, rfl, rfl, e, _, _, rfl, upd_same, rfl, ?_⟩
                      exact ⟨S15.trans (sNew he), _, rfl⟩
                    · subst e1
                      cases hl : lkA gs s with
                      | none =>
                        have q := look_none (M := gs.map fun g => (g.1, g.2.2)) (by rw [List.map_map, List.map_map]; rfl) hl
                        have e2 : (gs.map fun g => (g.1, g.2.2)).lookup s = some a := e2
                        rw [q] at e2
                        cases e2
                      | some z =>
                        have no : (lkA gs s).isSome = false := no
                        rw [hl] at no
                        cases no
                  · rintro σ' H16 ⟨S16, w11, rfl⟩
                    refine ⟨_, rfl, _, rfl, d, d, dpS S16 dp, dpS S16 dp, sh, sh, _, rfl, ?_⟩
                    rw [self]
                    refine iteF ?_
                    refine ⟨_, rfl, _, rfl, d, d, dpS S16 dp, dpS S16 dp, sh, sh, _, rfl, ?_⟩
                    rw [self]
                    refine iteF ?_
                    refine ⟨_, rfl, _, _, _, _, _, rfl, .ty "bool", (dm.same S16).ty, kb, _, rfl, _, _, _, _, _, rfl, .ty "bool", (dm.same S16).ty, kb, rfl, _, rfl, ?_⟩
                    rw [decide_eq_true rfl]
                    exact iteF ⟨S16, _, _, _, _, _, _, _, rfl⟩
              · rintro σ H14 ⟨S14, v6, v7, v8, v9, v10, v11, v12, rfl⟩
                have S15 := S13.trans S14
                clear odd ho13 hq13 S13 S14
                obtain ⟨A, gl, hA⟩ : ∃ A gl, gs = A ++ [gl] := by
                  rcases List.eq_nil_or_concat gs with h | ⟨A, gl, h⟩
                  · rw [h] at hg1; cases hg1
                  · exact ⟨A, gl, by simpa using h⟩
                obtain ⟨W, wl, hW, hWp, hlast⟩ : ∃ W wl, ws = W ++ [wl] ∧ Paired (RowAt H7) W (A.map mkR) ∧ RowAt H7 wl (mkR gl) := by
                  rw [hA, List.map_append] at hpw7
                  exact Paired.snocR hpw7
                obtain ⟨bl, rfl, hbl⟩ := hlast
                have hbl15 := S15 _ _ hbl
                have hr15 := S15 _ _ hr7
                have la : atI ws (-1) = some (.ref bl) := by rw [hW]; exact atI_last W _
                have hcut : cutV ws none (some (-1)) = W := by rw [cut_last, hW, List.dropLast_concat]
                have hWl : W.length ≤ 6 := by rw [hW, List.length_append, List.length_singleton] at hwl; omega
                have okA : ∀ g ∈ A ++ [noPar gl], Rok (mkR g) := fun g hg => by
                  rcases List.mem_append.mp hg with hg | hg
                  · exact okg g (by rw [hA]; exact List.mem_append.mpr (.inl hg))
                  · obtain rfl := List.mem_singleton.mp hg
                    have q := okg gl (by rw [hA]; simp)
                    refine ⟨by show 3 ≤ 5; decide, fun x hx => ?_⟩
                    rcases (show x = .str gl.1 ∨ x = .int gl.2.1 ∨ x = .non by simpa [noPar] using hx) with rfl | rfl | rfl
                    · exact q.2 _ (by simp)
                    · trivial
                    · trivial
                have hdl : dueO n0 (some ((A ++ [noPar gl]).map mkR)) = none := due_last (by rw [← hA]; exact hdue)
                refine ⟨_, rfl, _, rfl, _, rfl, _, rfl, r, ws, rfl, SqL.of hr15, fun p1 hp1 => ?_⟩
                rw [hcut]
                have S16 := sNew (o := .lst W) hp1
                refine ⟨_, rfl, _, rfl, _, _, _, _, rfl, rfl, SqL.of (S16 _ _ hr15), la, _, _, _, _, rfl, rfl, SqL.of (S16 _ _ hbl15), atI_nat (j := 0) rfl, ?_⟩
                refine ⟨_, rfl, _, rfl, _, _, _, _, rfl, rfl, SqL.of (S16 _ _ hr15), la, _, _, _, _, rfl, rfl, SqL.of (S16 _ _ hbl15), atI_nat (j := 1) rfl, by show 3 ≤ sizeLine; decide, fun l1 hl1 => ⟨by show 1 ≤ sizeLine; decide, fun l2 hl2 => ?_⟩⟩
                have hp12 : (upd (upd (upd H14 p1 (.lst W)) l1 (.lst [.str gl.1, .int gl.2.1, .non])) l2 (.lst [.ref l1])) p1 = some (.lst W) := sNew hl2 _ _ (sNew hl1 _ _ upd_same)
                refine ⟨p1, l2, W, [.ref l1], rfl, rfl, hp12, upd_same, Nat.le_of_lt (small1000 (by show W.length + 1 ≤ 1000; omega)), fun qq hqq => ?_⟩
                have S17 : Same H14 (upd (upd (upd (upd H14 p1 (.lst W)) l1 (.lst [.str gl.1, .int gl.2.1, .non])) l2 (.lst [.ref l1])) qq (.lst (W ++ [.ref l1]))) := ((S16.trans (sNew hl1)).trans (sNew hl2)).trans (sNew hqq)
                have hl17 : (upd (upd (upd (upd H14 p1 (.lst W)) l1 (.lst [.str gl.1, .int gl.2.1, .non])) l2 (.lst [.ref l1])) qq (.lst (W ++ [.ref l1]))) l1 = some (.lst [.str gl.1, .int gl.2.1, .non]) := sNew hqq _ _ (sNew hl2 _ _ upd_same)
                have hq17 : (upd (upd (upd (upd H14 p1 (.lst W)) l1 (.lst [.str gl.1, .int gl.2.1, .non])) l2 (.lst [.ref l1])) qq (.lst (W ++ [.ref l1]))) qq = some (.lst (W ++ [.ref l1])) := upd_same
                generalize hH17 : upd (upd (upd (upd H14 p1 (.lst W)) l1 (.lst [.str gl.1, .int gl.2.1, .non])) l2 (.lst [.ref l1])) qq (.lst (W ++ [.ref l1])) = H17 at S17 hl17 hq17
                have S17 := S15.trans S17
                clear hH17 hqq hp12 hl2 hl1 hp1 S16
                refine mkLi (cuSame S17 X7) (ro := some ((A ++ [noPar gl]).map mkR)) ⟨qq, _, rfl, .inl hq17, ?_, fun z hz => ?_, by rw [List.length_map, List.length_append]; rw [hA, List.length_append] at hg6; show A.length + 1 ≤ 9; have : A.length + 1 ≤ 6 := hg6; omega⟩ (fun i s H' e hd => by rw [hdl] at hd; cases hd) (fun gs2 z t2 us2 H18 e1 e2 S18 Lz => ?_)
                · rw [List.map_append]
                  exact Paired.appendP (L2.Paired.mapP hWp fun _ _ h => (h.same S17).two) (.cons ⟨l1, rfl, .inl hl17⟩ .nil)
                · obtain ⟨g, hg, rfl⟩ := List.mem_map.mp hz
                  exact okA g hg
                obtain rfl := mkRs_inj (Option.some.inj e1)
                have S18 := S17.trans S18
                refine ⟨_, rfl, _, rfl, _, _, _, _, rfl, rfl, SqL.of (S18 _ _ hr7), la, _, _, _, _, rfl, rfl, SqL.of (S18 _ _ hbl), atI_nat (j := 2) rfl, rfl, ?_⟩
                refine ⟨_, rfl, _, rfl, _, rfl, mkLi (cuSame S18 X7) (ro := some (gs.map mkR)) ⟨kt, ks0, rfl, .inr (S18 _ _ hk7), L2.Paired.mapP hpk7 fun v q z => ?_, ok, hgl⟩ (fun i s H' e hd => by rw [hdO] at hd; cases hd) (fun gs3 y2 t3 us3 H19 e3 e4 S19 L19 => ?_)⟩
                · obtain ⟨b, xs, rfl, rfl, hb⟩ := z
                  exact ⟨b, rfl, .inr (S18 _ _ hb)⟩
                obtain rfl := mkRs_inj (Option.some.inj e3)
                have S19' := S19
                have S19 := S18.trans S19
                refine ownLi T (L7.same S19) L19 okg okg (cuSame S19 X7) fun H20 S20 => ⟨_, _, rfl, rfl, _, rfl, ?_⟩
                rw [show PyData.eqv (rowsD gs) (rowsD gs) = true from rows_self false gs, decide_eq_true rfl]
                refine iteT ?_
                have S20' := S20
                have S20 := S19.trans S20
                have hpar : gl.2.2 = .non ∨ ∃ s, gl.2.2 = .str s := (good.1 gl (by rw [hA]; simp)).2.2
                have eqq : PyData.eqv (rowsD gs) (rowsD (A ++ [noPar gl])) = decide (gl.2.2 = .non) := by rw [hA]; exact eqv_last hpar
                refine ⟨_, rfl, _, rfl, ownLi T (L7.same S20) ((Lz.same S19').same S20') okg okA (cuSame S20 X7) fun H21 S21 => ⟨_, rfl, _, _, rfl, ?_⟩⟩
                rw [eqq]
                have S21 := S20.trans S21
                refine ⟨_, rfl, ?_⟩
                rw [beq_self_eq_true]
                refine iteT ?_
                refine ⟨_, rfl, _, rfl, ownLiNo T (L7.same S21) okg (cuSame S21 X7) (.tup (S21 _ _ hk7)) ⟨_, _, rfl, rfl, ?_⟩⟩
                exact k _ (S7.trans S21)
theorem cal_right (T : Txt P w K mg cl) : Cal P w K mg base CX0 6 "_law_right" ["_law_rows", "_law_customs_here"] spRight := by
  obtain ⟨f, fd, F, m⟩ := T.d_right
  exact ⟨f, fd, ok_right F T, m, F.kp, F.binds fun _ _ _ _ _ _ us hl => match us, hl with | [_, _], _ => rfl⟩
end
end My
set_option Elab.async false
set_option linter.all false
set_option maxRecDepth 100000
set_option maxHeartbeats 1000000
namespace My
open PySem L2 Dw
open C8 (pss_cut tCut)
def spLaw (K : PySem.W.Frag) : Sp := fun vs H Q _ => ∃ (a : Addr) (ns : List Int), vs = [.ref a] ∧ SqL K H a (ns.map V.int) ∧ ns.length ≤ 63 ∧ ∀ H', Q (.bl true) H'
theorem rows_of : ∀ {H : Hp} {vs : List V}, (∀ v ∈ vs, RowV H v) → ∃ rs, Paired (RowAt H) vs rs ∧ (∀ x ∈ rs, Rok x) ∧ rs.length = vs.length
  | _, [], _ => ⟨[], .nil, by simp, rfl⟩
  | H, v :: vs, h => by
    obtain ⟨rs, h1, h2, h3⟩ := rows_of fun x hx => h x (List.mem_cons_of_mem _ hx)
    rcases h v List.mem_cons_self with ⟨b, xs, rfl, hb, l, s⟩ | rfl
    · exact ⟨.sq xs :: rs, .cons ⟨b, rfl, hb⟩ h1, fun x hx => by rcases List.mem_cons.mp hx with rfl | hx; exact ⟨by omega, s⟩; exact h2 x hx, by simp [h3]⟩
    · exact ⟨.tx "abc" :: rs, .cons rfl h1, fun x hx => by rcases List.mem_cons.mp hx with rfl | hx; exact (show ("abc" : Str).length ≤ 30 by decide); exact h2 x hx, by simp [h3]⟩
theorem DRow.row {H : Hp} {v : V} (h : DRow H v) : RowV H v := by
  obtain ⟨b, s, a, p, rfl, hb, h1, h2, _⟩ := h
  refine .inl ⟨b, _, rfl, hb, Nat.le_of_ble_eq_true rfl, fun x hx => ?_⟩
  rcases (show x = .str s ∨ x = .int a ∨ x = p by simpa using hx) with rfl | rfl | rfl
  · exact h1
  · trivial
  · exact h2
theorem rowW_word {c : Int} {bf : Bf} {r : Rwd} {s : Str} (h : rowW c bf r = some s) : PyData.strOk s = true := by
  have w : ∀ {t : Str}, PyData.strOk t = true → ∀ {o : Option Str}, o = some s → (o = some t) → PyData.strOk s = true := fun ht _ e1 e2 => by rw [e1] at e2; cases e2; exact ht
  have rowA_word : ∀ a p, rowA c bf a p = some s → PyData.strOk s = true := fun a p h => by
    unfold rowA at h
    split at h
    · exact w (t := "age") (by decide +kernel) h rfl
    split at h
    · cases h
    cases e : ageOf bf p with
    | none => rw [e] at h; exact w (t := "parent") (by decide +kernel) h rfl
    | some z =>
      rw [e] at h
      have h : (if z - iV a < c then some ("young" : Str) else none) = some s := h
      split at h
      · exact w (t := "young") (by decide +kernel) h rfl
      · cases h
  have sq : ∀ n a p, (if isN n = false then some ("name" : Str) else if (ageOf bf n).isSome = true then some ("double" : Str) else rowA c bf a p) = some s → PyData.strOk s = true := fun n a p h => by
    split at h
    · exact w (t := "name") (by decide +kernel) h rfl
    split at h
    · exact w (t := "double") (by decide +kernel) h rfl
    · exact rowA_word _ _ h
  match r, h with
  | .sq [n, a, p], h => exact sq n a p h
  | .tx _, h => exact w (t := "row") (by decide +kernel) h rfl
  | .sq [], h => exact w (t := "row") (by decide +kernel) h rfl
  | .sq [_], h => exact w (t := "row") (by decide +kernel) h rfl
  | .sq [_, _], h => exact w (t := "row") (by decide +kernel) h rfl
  | .sq (_ :: _ :: _ :: _ :: _), h => exact w (t := "row") (by decide +kernel) h rfl
theorem dueGo_word {c : Int} : ∀ {rs : List Rwd} {bf : Bf} {i j : Nat} {s : Str}, dueGo c bf i rs = some (j, s) → PyData.strOk s = true
  | [], _, _, _, _, h => by cases h
  | r :: rs, bf, i, j, s, h => by
    rw [dueGo_cons] at h
    cases e : rowW c bf r with
    | none => rw [e] at h; exact dueGo_word h
    | some t => rw [e] at h; cases h; exact rowW_word e
theorem dueO_word {c : Int} {ro : Option (List Rwd)} {j : Nat} {s : Str} (h : dueO c ro = some (j, s)) : PyData.strOk s = true := by
  have e : PyData.strOk "rows" = true := by decide +kernel
  cases ro with
  | none => cases h; exact e
  | some rs =>
    have h : (if rs.length = 0 ∨ 6 < rs.length then some (0, ("rows" : Str)) else dueGo c [] 0 rs) = some (j, s) := h
    split at h
    · cases h; exact e
    · exact dueGo_word h
def dueD : Option (Nat × Str) → PyData
  | none => vD .non
  | some (i, s) => sqD false ([V.int (i : Nat), .str s].map vD)
theorem due_dat {K : PySem.W.Frag} {H : Hp} {v : V} {c : Int} {ro : Option (List Rwd)} (h : DueV H v (dueO c ro)) : Dp K H v (dueD (dueO c ro)) ∧ SeqAt.shaped (dueD (dueO c ro)) = true ∧ PyData.eqv (dueD (dueO c ro)) (dueD (dueO c ro)) = true := by
  cases e : dueO c ro with
  | none =>
    rw [e] at h
    obtain rfl : v = .non := h
    exact ⟨.non, vD_shaped (v := .non) rfl, vD_self .non⟩
  | some q =>
    obtain ⟨i, s⟩ := q
    rw [e] at h
    obtain ⟨t, rfl, ht⟩ := h
    have ok : ∀ x ∈ ([V.int (i : Nat), .str s] : List V), okV x = true := fun x hx => by
      rcases (show x = .int (i : Nat) ∨ x = .str s by simpa using hx) with rfl | rfl
      · rfl
      · exact dueO_word e
    exact ⟨dp_tup (SqT.of ht) (dpvs fun x hx => okV.flat (ok x hx)), row_shaped false ok, row_self false _⟩
section
variable {P : Program} {w : World} {K : PySem.W.Frag} {mg : Str → Option Value} {base : Heap} {cl : String → Addr}
theorem ok_law {f : Addr} {fd : FuncData} (F : Fun K "law" "law" s_law f fd) (T : Txt P w K mg cl) : FnOk P w K mg base CX0 8 f fd ["_law_script"] (spLaw K) := by
  refine F.ok sc_law (fun vs H Q E h => ?_) (fun cdv A outer s H vs Q E hr h => ?_)
  · obtain ⟨a, ns, rfl, _⟩ := h
    rfl
  · obtain ⟨a, ns, rfl, hS, hlen, k⟩ := h
    have C_digits : Cal P w K mg base CX0 1 "_law_digits" _ (spDigits K) := cal_digits T
    have C_customs : Cal P w K mg base CX0 2 "_law_customs" _ spCus := cal_customs T
    have C_drawn : Cal P w K mg base CX0 3 "_law_drawn" _ spDrawn := cal_drawn T
    have C_spoilt : Cal P w K mg base CX0 2 "_law_spoilt" _ spSpoilt := cal_spoilt T
    have C_due : Cal P w K mg base CX0 2 "_law_due" _ spDue := cal_due T
    have C_told : Cal P w K mg base CX0 6 "_law_told" _ spTold := cal_told T
    have C_right : Cal P w K mg base CX0 6 "_law_right" _ spRight := cal_right T
    have I_Lives : CalC P w K mg base (L2.CX P w) 3 (cl "Lives") _ (spLi K (cl "Lives") (cl "Customs") (cl "BadLives")) := cal_Lives_init T
    refine ⟨_, (pss_cons (ps_set (i := 1) sc_law.nd rfl (Or.inl rfl) (pe_cal C_digits (hr.mono (by decide)) (pa_cons (pv 0) (pa_cons pe_int pa_nil))))
        (pss_cons (ps_set (i := 2) sc_law.nd rfl (Or.inl rfl) (pe_cal C_customs (hr.mono (by decide)) (pa_cons (pv 1) pa_nil)))
        (pss_cons (ps_for PassesOwn.never rfl (pi_range1 rfl T.n_range (pa_cons pe_int pa_nil)) (pg_name (i := 3) sc_law.nd rfl (Or.inl rfl))
          (pss_cons (ps_set (i := 4) sc_law.nd rfl (Or.inl rfl) (pe_cal C_drawn (hr.mono (by decide)) (pa_cons (pv 1) (pa_cons (pv 2) pa_nil))))
            (pss_cut (ps_if (pt_cmpR op_eq (pv 3) pe_int (nomark _))
              (pss_one (ps_set (i := 4) sc_law.nd rfl (Or.inl rfl) (pe_cal C_spoilt (hr.mono (by decide)) (pa_cons (pv 1) (pa_cons (pv 4) pa_nil))))) pss_nil)
            (pss_cons (ps_set (i := 5) sc_law.nd rfl (Or.inl rfl) (pe_cal C_due (hr.mono (by decide)) (pa_cons (pv 4) (pa_cons (pv 2) pa_nil))))
            (pss_cons (ps_if (pt_cmpR (op_neD hr.units) (pe_cal C_told (hr.mono (by decide)) (pa_cons (pv 4) (pa_cons (pv 2) pa_nil))) (pv 5) (nomark _))
              (pss_one (ps_ret pe_bl)) pss_nil)
            (pss_one (ps_if (PW.pt (pw_and (pt_cmpR op_isN (pv 5) pe_non (nomark _)) (pw_and1 (pt_not (pt_val (pe_cal C_right (hr.mono (by decide)) (pa_cons (pv 4) (pa_cons (pv 2) pa_nil))))))))
              (pss_one (ps_ret pe_bl)) pss_nil)))))))
        (pss_cons (ps_if (PW.pt (pw_or (pt_cmpR op_notN (pe_cal C_told (hr.mono (by decide)) (pa_cons (pe_lst (pa_cons (pe_lst (pa_cons pe_str (pa_cons pe_int (pa_cons pe_non pa_nil)))) pa_nil)) (pa_cons (pv 2) pa_nil))) pe_non (nomark _)) (pw_or (pt_cmpR (op_neD hr.units) (pe_cal C_told (hr.mono (by decide)) (pa_cons (pe_tup pa_nil) (pa_cons (pv 2) pa_nil))) (pe_tup (pa_cons pe_int (pa_cons pe_str pa_nil))) (nomark _)) (pw_or1 (pt_cmpR (op_neD hr.units) (pe_cal C_told (hr.mono (by decide)) (pa_cons pe_str (pa_cons (pv 2) pa_nil))) (pe_tup (pa_cons pe_int (pa_cons pe_str pa_nil))) (nomark _))))))
          (pss_one (ps_ret pe_bl)) pss_nil)
        (pss_cons (ps_set (i := 6) sc_law.nd rfl (Or.inl rfl) pe_non)
        (pss_cut (ps_try_as (i := 7) (Wout := fun _ _ _ _ => False) rfl rfl sc_law.nd rfl rfl ⟨rfl, by decide, Or.inl T.m_BadLives⟩ takes0
            (fun W pn xe tk po => (pss_one (ps_expr (pe_mkS I_Lives T.m_Lives (hr.mono (by decide)) (fun σ => passAt tk σ) (pa_cons (pe_tup (pa_cons pe_int (pa_cons pe_int (pa_cons pe_int (pa_cons pe_int pa_nil))))) (pa_cons (pe_lst pa_nil) pa_nil))))))
            (fun a oe cls d pn hz hf => (pss_one (ps_set (i := 6) sc_law.nd rfl (Or.inl rfl) (pe_tup (pa_cons (pe_xf (T.x_BadLives).xf T.xf_BadLives_index hz hf (pv 7)) (pa_cons (pe_xf (T.x_BadLives).xf T.xf_BadLives_what hz hf (pv 7)) pa_nil)))))))
        (pss_one (ps_ret (pe_cmpR (op_eqD hr.units) (pv 6) (pe_tup (pa_cons pe_int (pa_cons pe_str pa_nil))) (nomark _)))))))))), ?_⟩
    refine ⟨_, rfl, a, ns, _, rfl, hS, hlen, fun d c H1 nd nc D1 S1 => ?_⟩
    refine ⟨_, rfl, d, c, rfl, D1, fun n0 n1 n2 n3 cu H2 a0 b0 a1 b1 a2 b2 a3 b3 hcu D2 B2 => ?_⟩
    have N2 : Nums H2 cu n0 n1 n2 n3 := ⟨hcu, cuWord_ok ⟨by omega, by omega⟩ ⟨by omega, by omega⟩ ⟨by omega, by omega⟩ ⟨by omega, by omega⟩⟩
    have Nb : ∀ {H H'}, Nums H cu n0 n1 n2 n3 → Dr H d c → But d H H' → Nums H' cu n0 n1 n2 n3 := fun N D B => ⟨butTup D B N.at_, N.ok⟩
    have Ns : ∀ {H H'}, Nums H cu n0 n1 n2 n3 → Same H H' → Nums H' cu n0 n1 n2 n3 := fun N S => ⟨S _ _ N.at_, N.ok⟩
    refine ⟨_, rfl, by decide, by decide, for_range (n := 2) (fun i σ H' => Dr H' d c ∧ Nums H' cu n0 n1 n2 n3 ∧ ∃ (v3 v4 v5 : Option V), σ = [some (.ref a), some (.ref d), some (.ref cu), v3, v4, v5, none, none]) ⟨D2, N2, _, _, _, rfl⟩ ?_ ?_⟩
    · rintro i σ H3 hi ⟨D3, N3, v3, v4, v5, rfl⟩
      refine ⟨_, rfl, _, rfl, d, c, cu, n0, _, rfl, D3, N3.at_, fun r n H4 l1 l7 hr W4 D4 B4 => ?_⟩
      have N4 := Nb N3 D3 B4
      refine ⟨fun σ' H' => ∃ r, Dr H' d c ∧ Nums H' cu n0 n1 n2 n3 ∧ Rws H' r ∧ σ' = [some (.ref a), some (.ref d), some (.ref cu), some (.int (0 + (i : Int))), some (.ref r), v5, none, none], ?_, ?_⟩
      · refine ⟨_, rfl, rfl, _, rfl, ?_⟩
        refine ite2 (fun g => ?_) (fun g => ?_)
        · exact ⟨_, rfl, _, rfl, d, c, r, n, rfl, D4, W4, l1, l7, fun r' H5 W5 D5 B5 => ⟨r', D5, Nb N4 D4 B5, W5, rfl⟩⟩
        · obtain ⟨vs, h1, h2, h3⟩ := W4
          exact ⟨r, D4, N4, ⟨vs, h1, by omega, fun v hv => (h3 v hv).row⟩, rfl⟩
      · rintro σ' H5 ⟨r, D5, N5, ⟨ws, hw, hwl, hrow⟩, rfl⟩
        obtain ⟨rs, hp, ok, hl⟩ := rows_of hrow
        refine ⟨_, rfl, _, rfl, r, cu, ws, rs, n0, _, rfl, hw, hp, ok, by omega, N5.at_, fun H6 v S6 dv => ?_⟩
        have dv : DueV H6 v (dueO n0 (some rs)) := dv
        refine ⟨_, rfl, _, rfl, .ref r, cu, n0, n1, n2, n3, some rs, rfl, Ns N5 S6, ⟨r, ws, rfl, .inl (S6 _ _ hw), L2.Paired.mapP hp fun _ _ z => (z.same S6).two, ok, by omega⟩, fun v2 H7 S7 dv2 => ?_⟩
        obtain ⟨p1, q1, z1⟩ := due_dat (K := K) dv2
        obtain ⟨p2, q2, z2⟩ := due_dat (K := K) dv
        refine ⟨_, rfl, _, _, p1, dpS S7 p2, q1, q2, _, rfl, ?_⟩
        rw [z1]
        refine iteF ?_
        have S57 := S6.trans S7
        have N7 := Ns N5 S57
        have D7 := D5.same S57
        refine ⟨_, rfl, rfl, _, rfl, ?_⟩
        cases e : dueO n0 (some rs) with
        | none =>
          rw [e] at dv
          obtain rfl : v = .non := dv
          obtain ⟨gs, rfl, good, _, _⟩ := dueW_good e
          refine iteT ⟨_, rfl, _, rfl, r, cu, n0, n1, n2, n3, ws, gs, rfl, S57 _ _ hw, L2.Paired.mapP hp fun _ _ z => z.same S57, ok, N7, e, fun H8 S8 => ⟨_, rfl, iteF ⟨D7.same S8, Ns N7 S8, _, _, _, rfl⟩⟩⟩
        | some q =>
          obtain ⟨j, s⟩ := q
          rw [e] at dv
          obtain ⟨t, rfl, ht⟩ := dv
          rw [decide_eq_false (fun z => nomatch z)]
          exact iteF (iteF ⟨D7, N7, _, _, _, rfl⟩)
    · rintro σ H3 ⟨D3, N3, v3, v4, v5, rfl⟩
      clear D1 D2 N2 S1 B2 hcu
      have rowsOk : PyData.strOk "rows" = true := by decide +kernel
      -- one good row
      have one : dueO n0 (some (([("a", 5, .non)] : List Gd).map mkR)) = none := by
        show (if ([mkR ("a", 5, .non)] : List Rwd).length = 0 ∨ 6 < ([mkR ("a", 5, .non)] : List Rwd).length then some (0, ("rows" : Str)) else dueGo n0 [] 0 [mkR ("a", 5, .non)]) = none
        rw [if_neg (by show ¬ (1 = 0 ∨ 6 < 1); decide), dueGo_cons]
        have e : rowW n0 [] (mkR ("a", 5, .non)) = none := by
          show (if isN (.str "a") = false then some ("name" : Str) else if (ageOf [] (.str "a")).isSome = true then some ("double" : Str) else rowA n0 [] (.int 5) .non) = none
          rw [if_neg (by decide +kernel), if_neg (by decide)]
          show (if isW 0 1000000 (.int 5) = false then some ("age" : Str) else if (V.non : V) = .non then none else rowP n0 (.int 5) (ageOf [] .non)) = none
          rw [if_neg (by decide), if_pos rfl]
        rw [e]
        rfl
      refine ⟨by show 3 ≤ sizeLine; decide, fun l1 h1 => ⟨by show 1 ≤ sizeLine; decide, fun l2 h2 => ?_⟩⟩
      have S4 := (sNew (o := .lst [.str "a", .int 5, .non]) h1).trans (sNew (o := .lst [.ref l1]) h2)
      refine ⟨_, rfl, .ref l2, cu, n0, n1, n2, n3, some (([("a", 5, .non)] : List Gd).map mkR), rfl, Ns N3 S4, ⟨l2, _, rfl, .inl upd_same, .cons ⟨l1, rfl, .inl (sNew h2 _ _ upd_same)⟩ .nil, fun x hx => ?_, by show 1 ≤ 9; decide⟩, fun v H5 S5 dv => ?_⟩
      · obtain rfl : x = mkR ("a", 5, .non) := List.mem_singleton.mp hx
        refine ⟨by show 3 ≤ 5; decide, fun z hz => ?_⟩
        rcases (show z = .str "a" ∨ z = .int 5 ∨ z = .non by simpa [mkR] using hz) with rfl | rfl | rfl
        · exact ⟨by decide, by decide +kernel, by decide +kernel⟩
        · trivial
        · trivial
      rw [one] at dv
      obtain rfl : v = .non := dv
      refine ⟨rfl, _, rfl, ?_⟩
      rw [decide_eq_true rfl]
      refine iteF ?_
      have N5 := Ns (Ns N3 S4) S5
      -- no rows
      refine ⟨by show 0 ≤ sizeLine; exact Nat.zero_le _, fun t ht => ?_⟩
      have S6 := sNew (o := .tup []) ht
      refine ⟨_, rfl, .ref t, cu, n0, n1, n2, n3, some [], rfl, Ns N5 S6, ⟨t, [], rfl, .inr upd_same, .nil, (by simp), by decide⟩, fun v H7 S7 dv => ?_⟩
      obtain ⟨p1, q1, z1⟩ := due_dat (K := K) dv
      refine ⟨by show 2 ≤ sizeLine; decide, fun t2 ht2 => ?_⟩
      have S8 := sNew (o := .tup [.int 0, .str "rows"]) ht2
      have okR : ∀ x ∈ ([V.int 0, .str "rows"] : List V), okV x = true := fun x hx => by
        rcases (show x = .int 0 ∨ x = .str "rows" by simpa using hx) with rfl | rfl
        · rfl
        · exact rowsOk
      refine ⟨_, sqD false ([V.int 0, .str "rows"].map vD), dpS S8 p1, dp_tup (SqT.of upd_same) (dpvs fun x hx => okV.flat (okR x hx)), q1, row_shaped false okR, _, rfl, ?_⟩
      rw [show PyData.eqv (dueD (dueO n0 (some []))) (sqD false ([V.int 0, .str "rows"].map vD)) = true from z1]
      refine iteF ?_
      have N8 := Ns (Ns (Ns N5 S6) S7) S8
      -- a text
      refine ⟨_, rfl, .str "a", cu, n0, n1, n2, n3, none, rfl, N8, ⟨"a", rfl, by decide⟩, fun v H9 S9 dv => ?_⟩
      obtain ⟨p2, q2, z2⟩ := due_dat (K := K) dv
      refine ⟨by show 2 ≤ sizeLine; decide, fun t3 ht3 => ?_⟩
      have S10 := sNew (o := .tup [.int 0, .str "rows"]) ht3
      refine ⟨_, sqD false ([V.int 0, .str "rows"].map vD), dpS S10 p2, dp_tup (SqT.of upd_same) (dpvs fun x hx => okV.flat (okR x hx)), q2, row_shaped false okR, _, rfl, ?_⟩
      rw [show PyData.eqv (dueD (dueO n0 none)) (sqD false ([V.int 0, .str "rows"].map vD)) = true from z2]
      refine iteF ?_
      -- customs that are none
      refine ⟨fun σ' H' => ∃ (t : Addr) (v7 : Option V), σ' = [some (.ref a), some (.ref d), some (.ref cu), v3, v4, v5, some (.ref t), v7] ∧ H' t = some (.tup [.int 0, .str "customs"]), ?_, ?_⟩
      · refine ⟨by show 4 ≤ sizeLine; decide, fun tt htt => ⟨by show 0 ≤ sizeLine; exact Nat.zero_le _, fun ll hll => fun x dx nx ndx nex => ?_⟩⟩
        have hx1 := ndx
        refine ⟨x, dx, .ref tt, .ref ll, rfl, upd_same, .inl ⟨"tuple", .tup (xs := [.int 1, .int 1, .int 0, .int 21]) ?_, fun H' e S he => ?_⟩⟩
        · have e1 := sNew hll (o := .lst []) tt _ upd_same
          have e2 := sNew ndx (o := .own x) _ _ e1
          exact (upd_ne (ne_of_none e2 ((upd_ne (Ne.symm nex)).trans nx))).trans e2
        · refine ⟨true, T.is_BadLives, fun _ a0 _ => ?_, fun q => Bool.noConfusion q⟩
          refine ⟨_, rfl, rfl, rfl, e, _, _, rfl, upd_same, rfl, _, rfl, rfl, rfl, e, _, _, rfl, upd_same, rfl, by show 2 ≤ sizeLine; decide, fun t ht => ?_⟩
          exact ⟨t, _, rfl, upd_same⟩
      · rintro σ' H11 ⟨t, v7, rfl, ht⟩
        refine ⟨_, rfl, by show 2 ≤ sizeLine; decide, fun t2 ht2 => ?_⟩
        have okC : ∀ x ∈ ([V.int 0, .str "customs"] : List V), okV x = true := fun x hx => by
          rcases (show x = .int 0 ∨ x = .str "customs" by simpa using hx) with rfl | rfl
          · rfl
          · exact (by decide +kernel : PyData.strOk "customs" = true)
        have dps := dpvs (K := K) (H := upd H11 t2 (.tup [.int 0, .str "customs"])) fun x hx => okV.flat (okC x hx)
        refine ⟨_, _, dp_tup (SqT.of (sNew ht2 _ _ ht)) dps, dp_tup (SqT.of upd_same) dps, row_shaped false okC, row_shaped false okC, ?_⟩
        rw [row_self]
        exact k _
end
end My
set_option Elab.async false
set_option linter.all false
set_option maxRecDepth 100000
set_option maxHeartbeats 8000000
namespace My
open PySem L2 Dw He
theorem w_BadCustoms (P : Program) (w : World) : PySem.ErrL.SupW P w (defArgs s_BadCustoms_init) (defScope s_BadCustoms_init) "BadCustoms.__init__" ["what"] (fun _ => True) (.Constant (.str "customs") 0 ⟨7, 25, 7, 34⟩) [.Name "what" ⟨7, 36, 7, 40⟩] ⟨7, 8, 7, 13⟩ ⟨7, 8, 7, 15⟩ ⟨7, 8, 7, 24⟩ ⟨7, 8, 7, 41⟩ ⟨7, 8, 7, 41⟩ where
  hk := rfl
  co := rfl
  gen := rfl
  ks := rfl
  kc := rfl
  kse := rfl
  kf := (List.forall_mem_cons.mpr ⟨rfl, (fun _ h => by cases h)⟩)
  cell := by decide +kernel
  par := ⟨_, rfl, rfl⟩
  hi := fun _ _ _ _ => rfl
  hev := fun _ _ _ _ => ⟨_, rfl⟩
  hsw := fun _ _ _ _ => rfl
  hst := fun _ _ _ _ _ _ _ _ _ => rfl
  he := fun _ _ _ _ => rfl
  hpl := fun _ _ _ _ => rfl
  hargs := fun L fI cd cc A E us s1 mg mb m Q1 hok hm hl hs hn hg hb hbt h => match us, hl, hm with
    | [v], _, hm => PySem.ErrL.args_cn rfl rfl (by decide) L fI cd cc A E v s1 m Q1 (hm 0 _ rfl) hn h
def d_ini_BadCustoms : HeM.IniD := ⟨"BadCustoms", "BadCustoms.__init__", defArgs s_BadCustoms_init, [PySem.ErrL.supS [.Constant (.str "customs") 0 ⟨7, 25, 7, 34⟩, .Name "what" ⟨7, 36, 7, 40⟩] ⟨7, 8, 7, 13⟩ ⟨7, 8, 7, 15⟩ ⟨7, 8, 7, 24⟩ ⟨7, 8, 7, 41⟩ ⟨7, 8, 7, 41⟩, PySem.ErrL.stoS "what" ⟨8, 8, 8, 12⟩ ⟨8, 8, 8, 17⟩ ⟨8, 20, 8, 24⟩ ⟨8, 8, 8, 24⟩], defScope s_BadCustoms_init⟩
theorem w_BadLives (P : Program) (w : World) : PySem.ErrL.SupW P w (defArgs s_BadLives_init) (defScope s_BadLives_init) "BadLives.__init__" ["index", "what"] okI (.Constant (.str "lives") 0 ⟨12, 25, 12, 32⟩) [.Call (.Name "str" ⟨12, 34, 12, 37⟩) [.Name "index" ⟨12, 38, 12, 43⟩] [] ⟨12, 34, 12, 44⟩, .Name "what" ⟨12, 46, 12, 50⟩] ⟨12, 8, 12, 13⟩ ⟨12, 8, 12, 15⟩ ⟨12, 8, 12, 24⟩ ⟨12, 8, 12, 51⟩ ⟨12, 8, 12, 51⟩ where
  hk := rfl
  co := rfl
  gen := rfl
  ks := rfl
  kc := rfl
  kse := rfl
  kf := (List.forall_mem_cons.mpr ⟨rfl, (List.forall_mem_cons.mpr ⟨rfl, (fun _ h => by cases h)⟩)⟩)
  cell := by decide +kernel
  par := ⟨_, rfl, rfl⟩
  hi := fun _ _ _ _ => rfl
  hev := fun _ _ _ _ => ⟨_, rfl⟩
  hsw := fun _ _ _ _ => rfl
  hst := fun _ _ _ _ _ _ _ _ _ => rfl
  he := fun _ _ _ _ => rfl
  hpl := fun _ _ _ _ => rfl
  hargs := fun L fI cd cc A E us s1 mg mb m Q1 hok hm hl hs hn hg hb hbt h => match us, hl, hm, hok with
    | [v, u], _, hm, hok => by obtain ⟨i, t, rfl, hi⟩ := hok _ rfl; exact PySem.ErrL.args_csn rfl rfl rfl rfl (by decide) (by decide) L fI cd cc A E i t u s1 m mg mb Q1 hi (hm 0 _ rfl) (hm 1 _ rfl) hs hn hg hb hbt h rfl
def d_ini_BadLives : HeM.IniD := ⟨"BadLives", "BadLives.__init__", defArgs s_BadLives_init, [PySem.ErrL.supS [.Constant (.str "lives") 0 ⟨12, 25, 12, 32⟩, .Call (.Name "str" ⟨12, 34, 12, 37⟩) [.Name "index" ⟨12, 38, 12, 43⟩] [] ⟨12, 34, 12, 44⟩, .Name "what" ⟨12, 46, 12, 50⟩] ⟨12, 8, 12, 13⟩ ⟨12, 8, 12, 15⟩ ⟨12, 8, 12, 24⟩ ⟨12, 8, 12, 51⟩ ⟨12, 8, 12, 51⟩, PySem.ErrL.stoS "index" ⟨13, 8, 13, 12⟩ ⟨13, 8, 13, 18⟩ ⟨13, 21, 13, 26⟩ ⟨13, 8, 13, 26⟩, PySem.ErrL.stoS "what" ⟨14, 8, 14, 12⟩ ⟨14, 8, 14, 17⟩ ⟨14, 20, 14, 24⟩ ⟨14, 8, 14, 24⟩], defScope s_BadLives_init⟩
theorem w_NoLife (P : Program) (w : World) : PySem.ErrL.SupW P w (defArgs s_NoLife_init) (defScope s_NoLife_init) "NoLife.__init__" ["name"] (fun _ => True) (.Constant (.str "no such life") 0 ⟨24, 25, 24, 39⟩) [] ⟨24, 8, 24, 13⟩ ⟨24, 8, 24, 15⟩ ⟨24, 8, 24, 24⟩ ⟨24, 8, 24, 40⟩ ⟨24, 8, 24, 40⟩ where
  hk := rfl
  co := rfl
  gen := rfl
  ks := rfl
  kc := rfl
  kse := rfl
  kf := (List.forall_mem_cons.mpr ⟨rfl, (fun _ h => by cases h)⟩)
  cell := by decide +kernel
  par := ⟨_, rfl, rfl⟩
  hi := fun _ _ _ _ => rfl
  hev := fun _ _ _ _ => ⟨_, rfl⟩
  hsw := fun _ _ _ _ => rfl
  hst := fun _ _ _ _ _ _ _ _ _ => rfl
  he := fun _ _ _ _ => rfl
  hpl := fun _ _ _ _ => rfl
  hargs := fun L fI cd cc A E us s1 mg mb m Q1 hok hm hl hs hn hg hb hbt h => PySem.ErrL.args_c rfl L fI cd cc A E s1 Q1 h
def d_ini_NoLife : HeM.IniD := ⟨"NoLife", "NoLife.__init__", defArgs s_NoLife_init, [PySem.ErrL.supS [.Constant (.str "no such life") 0 ⟨24, 25, 24, 39⟩] ⟨24, 8, 24, 13⟩ ⟨24, 8, 24, 15⟩ ⟨24, 8, 24, 24⟩ ⟨24, 8, 24, 40⟩ ⟨24, 8, 24, 40⟩, PySem.ErrL.stoS "name" ⟨25, 8, 25, 12⟩ ⟨25, 8, 25, 17⟩ ⟨25, 20, 25, 24⟩ ⟨25, 8, 25, 24⟩], defScope s_NoLife_init⟩
def faL : List He.Fa := [.free "len", .free "int", .free "str", .free "bool", .free "list", .free "tuple", .free "isinstance", .free "range", .free "all", .free "ValueError", .free "super", .free "max", .free "iter", .free "enumerate", .free "property", .str "LETTERS" "abcdefghijklmnopqrstuvwxyz", .int "MOST" (1000000), .int "WIDEST" (1000), .int "MOST_LIVES" (6), .glo "DeedError", .glo "BadCustoms", .glo "BadLives", .glo "BadRecord", .glo "NoLife", .glo "Customs", .glo "Lives", .cls "Customs", .cls "Lives", .mkr "Customs", .mkr "Lives", .meth "Customs" "as_tuple", .meth "Customs" "__eq__", .meth "Lives" "has", .meth "Lives" "age", .meth "Lives" "parent", .meth "Lives" "__eq__", .meth "Lives" "__len__", .meth "Lives" "__iter__", .glo "is_whole", .glo "is_name", .glo "row_fault", .glo "_law_digits", .glo "_law_next", .glo "_law_far", .glo "_law_customs", .glo "_law_row_word", .glo "_law_due", .glo "_law_drawn", .glo "_law_spoilt", .glo "_law_told", .glo "_law_right", .glo "_law_says", .glo "law"]
def fnL : List He.DefD := [⟨("Customs", some "__init__"), "__init__", "Customs.__init__", defArgs s_Customs_init, defBody s_Customs_init, defScope s_Customs_init, [.int 1], [("years_after", .int 1), ("wed_age", .int 0), ("limit", .int 21)]⟩,
  ⟨("Lives", some "__init__"), "__init__", "Lives.__init__", defArgs s_Lives_init, defBody s_Lives_init, defScope s_Lives_init, [], []⟩,
  ⟨("Customs", some "as_tuple"), "as_tuple", "Customs.as_tuple", defArgs s_Customs_as_tuple, defBody s_Customs_as_tuple, defScope s_Customs_as_tuple, [], []⟩,
  ⟨("Customs", some "__eq__"), "__eq__", "Customs.__eq__", defArgs s_Customs_eq, defBody s_Customs_eq, defScope s_Customs_eq, [], []⟩,
  ⟨("Lives", some "has"), "has", "Lives.has", defArgs s_Lives_has, defBody s_Lives_has, defScope s_Lives_has, [], []⟩,
  ⟨("Lives", some "age"), "age", "Lives.age", defArgs s_Lives_age, defBody s_Lives_age, defScope s_Lives_age, [], []⟩,
  ⟨("Lives", some "parent"), "parent", "Lives.parent", defArgs s_Lives_parent, defBody s_Lives_parent, defScope s_Lives_parent, [], []⟩,
  ⟨("Lives", some "__eq__"), "__eq__", "Lives.__eq__", defArgs s_Lives_eq, defBody s_Lives_eq, defScope s_Lives_eq, [], []⟩,
  ⟨("Lives", some "__len__"), "__len__", "Lives.__len__", defArgs s_Lives_len, defBody s_Lives_len, defScope s_Lives_len, [], []⟩,
  ⟨("Lives", some "__iter__"), "__iter__", "Lives.__iter__", defArgs s_Lives_iter, defBody s_Lives_iter, defScope s_Lives_iter, [], []⟩,
  ⟨("is_whole", none), "is_whole", "is_whole", defArgs s_is_whole, defBody s_is_whole, defScope s_is_whole, [], []⟩,
  ⟨("is_name", none), "is_name", "is_name", defArgs s_is_name, defBody s_is_name, defScope s_is_name, [], []⟩,
  ⟨("row_fault", none), "row_fault", "row_fault", defArgs s_row_fault, defBody s_row_fault, defScope s_row_fault, [], []⟩,
  ⟨("_law_digits", none), "_law_digits", "_law_digits", defArgs s_digits, defBody s_digits, defScope s_digits, [], []⟩,
  ⟨("_law_next", none), "_law_next", "_law_next", defArgs s_next, defBody s_next, defScope s_next, [], []⟩,
  ⟨("_law_far", none), "_law_far", "_law_far", defArgs s_far, defBody s_far, defScope s_far, [], []⟩,
  ⟨("_law_customs", none), "_law_customs", "_law_customs", defArgs s_customs, defBody s_customs, defScope s_customs, [], []⟩,
  ⟨("_law_row_word", none), "_law_row_word", "_law_row_word", defArgs s_row_word, defBody s_row_word, defScope s_row_word, [], []⟩,
  ⟨("_law_due", none), "_law_due", "_law_due", defArgs s_due, defBody s_due, defScope s_due, [], []⟩,
  ⟨("_law_drawn", none), "_law_drawn", "_law_drawn", defArgs s_drawn, defBody s_drawn, defScope s_drawn, [], []⟩,
  ⟨("_law_spoilt", none), "_law_spoilt", "_law_spoilt", defArgs s_spoilt, defBody s_spoilt, defScope s_spoilt, [], []⟩,
  ⟨("_law_told", none), "_law_told", "_law_told", defArgs s_told, defBody s_told, defScope s_told, [], []⟩,
  ⟨("_law_right", none), "_law_right", "_law_right", defArgs s_right, defBody s_right, defScope s_right, [], []⟩,
  ⟨("_law_says", none), "_law_says", "_law_says", defArgs s_says, defBody s_says, defScope s_says, [], []⟩,
  ⟨("law", none), "law", "law", defArgs s_law, defBody s_law, defScope s_law, [], []⟩]
def iniL : List HeM.IniD := [d_ini_BadCustoms, d_ini_BadLives, d_ini_NoLife]
def prpL : List He.DefD := [⟨("Lives", some "names"), "names", "Lives.names", defArgs s_Lives_names, defBody s_Lives_names, defScope s_Lives_names, [], []⟩]
def exL : List (PySem.W.Frag → Bool) := [fun K => HeM.zB K,
  fun K => eqO (PySem.W.nsIn K cStatics "thirdparty.any") (some none),
  fun K => eqO (PySem.W.findIn K (.ref (ga K "BadCustoms")) "what") (some none),
  fun K => eqO (PySem.W.findIn K (.ref (ga K "BadLives")) "index") (some none),
  fun K => eqO (PySem.W.findIn K (.ref (ga K "BadLives")) "what") (some none),
  fun K => eqO (PySem.W.findIn K (.ref (ga K "NoLife")) "name") (some none),
  fun K => HeM.xcB K (ga K "BadLives"),
  fun K => HeM.xcB K (ga K "NoLife"),
  fun K => decide (PySem.W.exmOne K (.ref (ga K "BadLives")) (.ref (ga K "BadLives")) = some true),
  fun K => decide (PySem.W.exmOne K (.ref (ga K "NoLife")) (.ref (ga K "NoLife")) = some true),
  fun K => decide (PySem.W.kitOne K (.ref (ga K "BadLives")) (.ref (ga K "DeedError")) = some true),
  fun K => decide (PySem.W.kitOne K (.ref (ga K "BadLives")) (.ref (ga K "BadRecord")) = some false),
  fun K => (["parent_age", "years_after", "wed_age", "limit"] : List Str).all fun f => eqO (PySem.W.findIn K (.ref (ga K "Customs")) f) (some none),
  fun K => eqO (PySem.W.findIn K (.ref (ga K "Customs")) "__class__") (some (some (.builtin "object.__class__"))),
  fun K => decide (PySem.W.mroIn K (ga K "Customs") (.type "object") = some true),
  fun K => (["customs", "rows", "ages", "parents"] : List Str).all fun f => eqO (PySem.W.findIn K (.ref (ga K "Lives")) f) (some none),
  fun K => eqO (PySem.W.findIn K (.ref (ga K "Lives")) "__class__") (some (some (.builtin "object.__class__"))),
  fun K => decide (PySem.W.mroIn K (ga K "Lives") (.type "object") = some true),
  fun K => (["NoneType", "bool", "int", "str", "list", "tuple"] : List String).all fun n => decide (PySem.W.kitOne K (.type n) (.ref (ga K "Customs")) = some false),
  fun K => (["NoneType", "bool", "int", "str", "list", "tuple"] : List String).all fun n => PySem.W.notFirst K (ga K "Customs") (.type n),
  fun K => PySem.W.notFirst K (ga K "Customs") (.ref (ga K "Customs")),
  fun K => decide (PySem.W.kitOne K (.ref (ga K "Customs")) (.ref (ga K "Customs")) = some true),
  fun K => (["NoneType", "bool", "int", "str", "list", "tuple"] : List String).all fun n => decide (PySem.W.kitOne K (.type n) (.ref (ga K "Lives")) = some false),
  fun K => (["NoneType", "bool", "int", "str", "list", "tuple"] : List String).all fun n => PySem.W.notFirst K (ga K "Lives") (.type n),
  fun K => PySem.W.notFirst K (ga K "Lives") (.ref (ga K "Lives")),
  fun K => decide (PySem.W.kitOne K (.ref (ga K "Lives")) (.ref (ga K "Lives")) = some true)]
def exB (K : PySem.W.Frag) : Bool := exL.all fun b => b K
abbrev Rw : PySem.W.OpenRow := PySem.W.OpenLaw.row PySem.Challenge.rw_lastlife_k02_lives_made_and_refused
def lawFile : Str := Rw.prog.main.file
abbrev hkM : PySem.W.Hook := HeM.hookM lawFile 5 faL fnL iniL prpL exB
def obM (s : PySem.W.SharedT) : HeM.AlM := HeM.obsMG lawFile 5 faL fnL iniL prpL exB (HandSHeadRun.getT s)
theorem obM_eq (s : PySem.W.SharedT) : obM s = hkM.obs s.abs := HeM.obsMG_eq (HandSHeadRun.getT_eq s)
def looseL : List PySem.Str := (["DeedError", "BadCustoms", "BadLives", "BadRecord", "NoLife", "MOST", "LETTERS", "is_whole", "is_name", "WIDEST", "Customs", "MOST_LIVES", "row_fault", "Lives", "_law_digits", "_law_next", "_law_far", "_law_customs", "_law_row_word", "_law_due", "_law_drawn", "_law_spoilt", "_law_told", "_law_right", "_law_says"] : List PySem.Str)
theorem runM (w : World) : HandSHeadRun.RunEq Rw (PySem.W.view Rw.prog [30]) hkM obM 12000 looseL w := by
  intro os
  kernel_rfl
theorem txt_mk {P : Program} {w : World} {K : PySem.W.Frag} {h : Heap} {mg : Str → Option Value} (X : K.In h) (G : h.Ns mainGlobals mg) (hP : P.main.file = lawFile) (c0 : HeM.SaysM lawFile faL fnL iniL prpL exB K) (stop : (P.main.scope.names.lookup ("super" : Str)).isSome = false) : Txt P w K mg (fun s => ga K (Str.ofString s)) := by
  have cS : HeM.SaysM P.main.file faL fnL iniL prpL exB K := by rw [hP]; exact c0
  have hz : HeM.zB K = true := cS.ex_at (L := exL) 0 rfl
  have opq : PySem.W.nsIn K cStatics "thirdparty.any" = some none := eqO_ok (cS.ex_at (L := exL) 1 rfl)
  exact {
    n_len := He.free_ok X G (cS.d.fact 0 (f := .free "len") rfl)
    n_int := He.free_ok X G (cS.d.fact 1 (f := .free "int") rfl)
    n_str := He.free_ok X G (cS.d.fact 2 (f := .free "str") rfl)
    n_bool := He.free_ok X G (cS.d.fact 3 (f := .free "bool") rfl)
    n_list := He.free_ok X G (cS.d.fact 4 (f := .free "list") rfl)
    n_tuple := He.free_ok X G (cS.d.fact 5 (f := .free "tuple") rfl)
    n_isinstance := He.free_ok X G (cS.d.fact 6 (f := .free "isinstance") rfl)
    n_range := He.free_ok X G (cS.d.fact 7 (f := .free "range") rfl)
    n_all := He.free_ok X G (cS.d.fact 8 (f := .free "all") rfl)
    n_ValueError := He.free_ok X G (cS.d.fact 9 (f := .free "ValueError") rfl)
    n_super := He.free_ok X G (cS.d.fact 10 (f := .free "super") rfl)
    n_max := He.free_ok X G (cS.d.fact 11 (f := .free "max") rfl)
    n_iter := He.free_ok X G (cS.d.fact 12 (f := .free "iter") rfl)
    n_enumerate := He.free_ok X G (cS.d.fact 13 (f := .free "enumerate") rfl)
    n_property := He.free_ok X G (cS.d.fact 14 (f := .free "property") rfl)
    c_LETTERS := (let ⟨_, h⟩ := He.str_ok X G (cS.d.fact 15 (f := .str "LETTERS" "abcdefghijklmnopqrstuvwxyz") rfl); ⟨_, h, ⟨_, rfl⟩⟩)
    c_MOST := (let ⟨_, h⟩ := He.int_ok X G (cS.d.fact 16 (f := .int "MOST" (1000000)) rfl); ⟨_, h, ⟨_, rfl⟩⟩)
    c_WIDEST := (let ⟨_, h⟩ := He.int_ok X G (cS.d.fact 17 (f := .int "WIDEST" (1000)) rfl); ⟨_, h, ⟨_, rfl⟩⟩)
    c_MOST_LIVES := (let ⟨_, h⟩ := He.int_ok X G (cS.d.fact 18 (f := .int "MOST_LIVES" (6)) rfl); ⟨_, h, ⟨_, rfl⟩⟩)
    m_DeedError := (He.glo_ok X G (cS.d.fact 19 (f := .glo "DeedError") rfl))
    m_BadCustoms := (He.glo_ok X G (cS.d.fact 20 (f := .glo "BadCustoms") rfl))
    m_BadLives := (He.glo_ok X G (cS.d.fact 21 (f := .glo "BadLives") rfl))
    m_BadRecord := (He.glo_ok X G (cS.d.fact 22 (f := .glo "BadRecord") rfl))
    m_NoLife := (He.glo_ok X G (cS.d.fact 23 (f := .glo "NoLife") rfl))
    m_Customs := (He.glo_ok X G (cS.d.fact 24 (f := .glo "Customs") rfl))
    m_Lives := (He.glo_ok X G (cS.d.fact 25 (f := .glo "Lives") rfl))
    e_BadCustoms := PySem.ErrL.makes1 (HeM.SaysM.ini cS 0 (d := d_ini_BadCustoms) opq stop rfl) (w_BadCustoms P w) (HeM.SaysM.ox cS 0 (d := d_ini_BadCustoms) rfl).kC (HeM.SaysM.ox cS 0 (d := d_ini_BadCustoms) rfl).exC (HeM.SaysM.ox cS 0 (d := d_ini_BadCustoms) rfl).tyC (eqO_ok (cS.ex_at (L := exL) 2 rfl)) (by decide) (by decide) (He.free_ok X G (cS.d.fact 10 (f := .free "super") rfl)) (He.free_ok X G (cS.d.fact 2 (f := .free "str") rfl)) (fun _ _ _ _ _ _ _ _ _ => rfl)
    e_BadLives := PySem.ErrL.makes2 (HeM.SaysM.ini cS 1 (d := d_ini_BadLives) opq stop rfl) (w_BadLives P w) (HeM.SaysM.ox cS 1 (d := d_ini_BadLives) rfl).kC (HeM.SaysM.ox cS 1 (d := d_ini_BadLives) rfl).exC (HeM.SaysM.ox cS 1 (d := d_ini_BadLives) rfl).tyC (eqO_ok (cS.ex_at (L := exL) 3 rfl)) (eqO_ok (cS.ex_at (L := exL) 4 rfl)) (by decide) (by decide) (by decide) (by decide) (by decide) (He.free_ok X G (cS.d.fact 10 (f := .free "super") rfl)) (He.free_ok X G (cS.d.fact 2 (f := .free "str") rfl)) (fun _ _ _ _ _ _ _ _ _ _ => rfl)
    e_NoLife := PySem.ErrL.makes1 (HeM.SaysM.ini cS 2 (d := d_ini_NoLife) opq stop rfl) (w_NoLife P w) (HeM.SaysM.ox cS 2 (d := d_ini_NoLife) rfl).kC (HeM.SaysM.ox cS 2 (d := d_ini_NoLife) rfl).exC (HeM.SaysM.ox cS 2 (d := d_ini_NoLife) rfl).tyC (eqO_ok (cS.ex_at (L := exL) 5 rfl)) (by decide) (by decide) (He.free_ok X G (cS.d.fact 10 (f := .free "super") rfl)) (He.free_ok X G (cS.d.fact 2 (f := .free "str") rfl)) (fun _ _ _ _ _ _ _ _ _ => rfl)
    x_BadLives := HeM.xcB_ok (cS.ex_at (L := exL) 6 rfl) hz
    x_NoLife := HeM.xcB_ok (cS.ex_at (L := exL) 7 rfl) hz
    xf_BadLives_index := eqO_ok (cS.ex_at (L := exL) 3 rfl)
    xf_BadLives_what := eqO_ok (cS.ex_at (L := exL) 4 rfl)
    xf_NoLife_name := eqO_ok (cS.ex_at (L := exL) 5 rfl)
    is_BadLives := of_decide_eq_true (cS.ex_at (L := exL) 8 rfl)
    is_NoLife := of_decide_eq_true (cS.ex_at (L := exL) 9 rfl)
    k_bl_de := of_decide_eq_true (cS.ex_at (L := exL) 10 rfl)
    k_bl_br := of_decide_eq_true (cS.ex_at (L := exL) 11 rfl)
    cl_Customs := He.cls_ok (cS.d.fact 26 (f := .cls "Customs") rfl)
    na_Customs := (fun f hf => eqO_ok (List.all_eq_true.mp (cS.ex_at (L := exL) 12 rfl) f hf))
    y_Customs := eqO_ok (cS.ex_at (L := exL) 13 rfl)
    z3_Customs := of_decide_eq_true (cS.ex_at (L := exL) 14 rfl)
    cl_Lives := He.cls_ok (cS.d.fact 27 (f := .cls "Lives") rfl)
    na_Lives := (fun f hf => eqO_ok (List.all_eq_true.mp (cS.ex_at (L := exL) 15 rfl) f hf))
    y_Lives := eqO_ok (cS.ex_at (L := exL) 16 rfl)
    z3_Lives := of_decide_eq_true (cS.ex_at (L := exL) 17 rfl)
    k_in_Cu := (fun n hn => of_decide_eq_true (List.all_eq_true.mp (cS.ex_at (L := exL) 18 rfl) n hn))
    nf_Customs := (fun n hn => List.all_eq_true.mp (cS.ex_at (L := exL) 19 rfl) n hn)
    nf2_Customs := (cS.ex_at (L := exL) 20 rfl)
    k_Cu_Cu := of_decide_eq_true (cS.ex_at (L := exL) 21 rfl)
    k_in_Li := (fun n hn => of_decide_eq_true (List.all_eq_true.mp (cS.ex_at (L := exL) 22 rfl) n hn))
    nf_Lives := (fun n hn => List.all_eq_true.mp (cS.ex_at (L := exL) 23 rfl) n hn)
    nf2_Lives := (cS.ex_at (L := exL) 24 rfl)
    k_Li_Li := of_decide_eq_true (cS.ex_at (L := exL) 25 rfl)
    i_Customs := (let ⟨fd, F⟩ := cS.d.def_ 0 (d := ⟨("Customs", some "__init__"), "__init__", "Customs.__init__", defArgs s_Customs_init, defBody s_Customs_init, defScope s_Customs_init, [.int 1], [("years_after", .int 1), ("wed_age", .int 0), ("limit", .int 21)]⟩) rfl; ⟨_, fd, F, He.mkr_ok (cS.d.fact 28 (f := .mkr "Customs") rfl)⟩)
    i_Lives := (let ⟨fd, F⟩ := cS.d.def_ 1 (d := ⟨("Lives", some "__init__"), "__init__", "Lives.__init__", defArgs s_Lives_init, defBody s_Lives_init, defScope s_Lives_init, [], []⟩) rfl; ⟨_, fd, fun_of F, He.mkr_ok (cS.d.fact 29 (f := .mkr "Lives") rfl)⟩)
    d_as_tuple := (let ⟨fd, F⟩ := cS.d.def_ 2 (d := ⟨("Customs", some "as_tuple"), "as_tuple", "Customs.as_tuple", defArgs s_Customs_as_tuple, defBody s_Customs_as_tuple, defScope s_Customs_as_tuple, [], []⟩) rfl; ⟨_, fd, fun_of F, He.meth_ok (cS.d.fact 30 (f := .meth "Customs" "as_tuple") rfl)⟩)
    d_eq := (let ⟨fd, F⟩ := cS.d.def_ 3 (d := ⟨("Customs", some "__eq__"), "__eq__", "Customs.__eq__", defArgs s_Customs_eq, defBody s_Customs_eq, defScope s_Customs_eq, [], []⟩) rfl; ⟨_, fd, fun_of F, He.meth_ok (cS.d.fact 31 (f := .meth "Customs" "__eq__") rfl)⟩)
    d_Lives_has := (let ⟨fd, F⟩ := cS.d.def_ 4 (d := ⟨("Lives", some "has"), "has", "Lives.has", defArgs s_Lives_has, defBody s_Lives_has, defScope s_Lives_has, [], []⟩) rfl; ⟨_, fd, fun_of F, He.meth_ok (cS.d.fact 32 (f := .meth "Lives" "has") rfl)⟩)
    d_Lives_age := (let ⟨fd, F⟩ := cS.d.def_ 5 (d := ⟨("Lives", some "age"), "age", "Lives.age", defArgs s_Lives_age, defBody s_Lives_age, defScope s_Lives_age, [], []⟩) rfl; ⟨_, fd, fun_of F, He.meth_ok (cS.d.fact 33 (f := .meth "Lives" "age") rfl)⟩)
    d_Lives_parent := (let ⟨fd, F⟩ := cS.d.def_ 6 (d := ⟨("Lives", some "parent"), "parent", "Lives.parent", defArgs s_Lives_parent, defBody s_Lives_parent, defScope s_Lives_parent, [], []⟩) rfl; ⟨_, fd, fun_of F, He.meth_ok (cS.d.fact 34 (f := .meth "Lives" "parent") rfl)⟩)
    d_Lives_eq := (let ⟨fd, F⟩ := cS.d.def_ 7 (d := ⟨("Lives", some "__eq__"), "__eq__", "Lives.__eq__", defArgs s_Lives_eq, defBody s_Lives_eq, defScope s_Lives_eq, [], []⟩) rfl; ⟨_, fd, fun_of F, He.meth_ok (cS.d.fact 35 (f := .meth "Lives" "__eq__") rfl)⟩)
    d_Lives_len := (let ⟨fd, F⟩ := cS.d.def_ 8 (d := ⟨("Lives", some "__len__"), "__len__", "Lives.__len__", defArgs s_Lives_len, defBody s_Lives_len, defScope s_Lives_len, [], []⟩) rfl; ⟨_, fd, fun_of F, He.meth_ok (cS.d.fact 36 (f := .meth "Lives" "__len__") rfl)⟩)
    d_Lives_iter := (let ⟨fd, F⟩ := cS.d.def_ 9 (d := ⟨("Lives", some "__iter__"), "__iter__", "Lives.__iter__", defArgs s_Lives_iter, defBody s_Lives_iter, defScope s_Lives_iter, [], []⟩) rfl; ⟨_, fd, fun_of F, He.meth_ok (cS.d.fact 37 (f := .meth "Lives" "__iter__") rfl)⟩)
    d_Lives_names := (let ⟨hp, fd, F⟩ := HeM.SaysM.prp cS 0 (d := ⟨("Lives", some "names"), "names", "Lives.names", defArgs s_Lives_names, defBody s_Lives_names, defScope s_Lives_names, [], []⟩) (st := s_Lives_names) rfl rfl rfl rfl; ⟨_, _, fd, hp, F⟩)
    d_is_whole := (let ⟨fd, F⟩ := cS.d.def_ 10 (d := ⟨("is_whole", none), "is_whole", "is_whole", defArgs s_is_whole, defBody s_is_whole, defScope s_is_whole, [], []⟩) rfl; ⟨_, fd, fun_of F, (He.glo_ok X G (cS.d.fact 38 (f := .glo "is_whole") rfl))⟩)
    d_is_name := (let ⟨fd, F⟩ := cS.d.def_ 11 (d := ⟨("is_name", none), "is_name", "is_name", defArgs s_is_name, defBody s_is_name, defScope s_is_name, [], []⟩) rfl; ⟨_, fd, fun_of F, (He.glo_ok X G (cS.d.fact 39 (f := .glo "is_name") rfl))⟩)
    d_row_fault := (let ⟨fd, F⟩ := cS.d.def_ 12 (d := ⟨("row_fault", none), "row_fault", "row_fault", defArgs s_row_fault, defBody s_row_fault, defScope s_row_fault, [], []⟩) rfl; ⟨_, fd, fun_of F, (He.glo_ok X G (cS.d.fact 40 (f := .glo "row_fault") rfl))⟩)
    d_digits := (let ⟨fd, F⟩ := cS.d.def_ 13 (d := ⟨("_law_digits", none), "_law_digits", "_law_digits", defArgs s_digits, defBody s_digits, defScope s_digits, [], []⟩) rfl; ⟨_, fd, fun_of F, (He.glo_ok X G (cS.d.fact 41 (f := .glo "_law_digits") rfl))⟩)
    d_next := (let ⟨fd, F⟩ := cS.d.def_ 14 (d := ⟨("_law_next", none), "_law_next", "_law_next", defArgs s_next, defBody s_next, defScope s_next, [], []⟩) rfl; ⟨_, fd, fun_of F, (He.glo_ok X G (cS.d.fact 42 (f := .glo "_law_next") rfl))⟩)
    d_far := (let ⟨fd, F⟩ := cS.d.def_ 15 (d := ⟨("_law_far", none), "_law_far", "_law_far", defArgs s_far, defBody s_far, defScope s_far, [], []⟩) rfl; ⟨_, fd, fun_of F, (He.glo_ok X G (cS.d.fact 43 (f := .glo "_law_far") rfl))⟩)
    d_customs := (let ⟨fd, F⟩ := cS.d.def_ 16 (d := ⟨("_law_customs", none), "_law_customs", "_law_customs", defArgs s_customs, defBody s_customs, defScope s_customs, [], []⟩) rfl; ⟨_, fd, fun_of F, (He.glo_ok X G (cS.d.fact 44 (f := .glo "_law_customs") rfl))⟩)
    d_row_word := (let ⟨fd, F⟩ := cS.d.def_ 17 (d := ⟨("_law_row_word", none), "_law_row_word", "_law_row_word", defArgs s_row_word, defBody s_row_word, defScope s_row_word, [], []⟩) rfl; ⟨_, fd, fun_of F, (He.glo_ok X G (cS.d.fact 45 (f := .glo "_law_row_word") rfl))⟩)
    d_due := (let ⟨fd, F⟩ := cS.d.def_ 18 (d := ⟨("_law_due", none), "_law_due", "_law_due", defArgs s_due, defBody s_due, defScope s_due, [], []⟩) rfl; ⟨_, fd, fun_of F, (He.glo_ok X G (cS.d.fact 46 (f := .glo "_law_due") rfl))⟩)
    d_drawn := (let ⟨fd, F⟩ := cS.d.def_ 19 (d := ⟨("_law_drawn", none), "_law_drawn", "_law_drawn", defArgs s_drawn, defBody s_drawn, defScope s_drawn, [], []⟩) rfl; ⟨_, fd, fun_of F, (He.glo_ok X G (cS.d.fact 47 (f := .glo "_law_drawn") rfl))⟩)
    d_spoilt := (let ⟨fd, F⟩ := cS.d.def_ 20 (d := ⟨("_law_spoilt", none), "_law_spoilt", "_law_spoilt", defArgs s_spoilt, defBody s_spoilt, defScope s_spoilt, [], []⟩) rfl; ⟨_, fd, fun_of F, (He.glo_ok X G (cS.d.fact 48 (f := .glo "_law_spoilt") rfl))⟩)
    d_told := (let ⟨fd, F⟩ := cS.d.def_ 21 (d := ⟨("_law_told", none), "_law_told", "_law_told", defArgs s_told, defBody s_told, defScope s_told, [], []⟩) rfl; ⟨_, fd, fun_of F, (He.glo_ok X G (cS.d.fact 49 (f := .glo "_law_told") rfl))⟩)
    d_right := (let ⟨fd, F⟩ := cS.d.def_ 22 (d := ⟨("_law_right", none), "_law_right", "_law_right", defArgs s_right, defBody s_right, defScope s_right, [], []⟩) rfl; ⟨_, fd, fun_of F, (He.glo_ok X G (cS.d.fact 50 (f := .glo "_law_right") rfl))⟩)
    d_says := (let ⟨fd, F⟩ := cS.d.def_ 23 (d := ⟨("_law_says", none), "_law_says", "_law_says", defArgs s_says, defBody s_says, defScope s_says, [], []⟩) rfl; ⟨_, fd, fun_of F, (He.glo_ok X G (cS.d.fact 51 (f := .glo "_law_says") rfl))⟩)
    d_law := (let ⟨fd, F⟩ := cS.d.def_ 24 (d := ⟨("law", none), "law", "law", defArgs s_law, defBody s_law, defScope s_law, [], []⟩) rfl; ⟨_, fd, fun_of F, (He.glo_ok X G (cS.d.fact 52 (f := .glo "law") rfl))⟩)
    z1 := eqO_ok (ba hz).1
    z2 := of_decide_eq_true (ba hz).2 }
theorem law_end {w : World} {K : PySem.W.Frag} {h : Heap} {mg : Str → Option Value} {fa : Addr} (X : K.In h) (G : h.Ns mainGlobals mg) (hfa : mg ("law" : Str) = some (.ref fa)) (c : HeM.SaysM lawFile faL fnL iniL prpL exB K) :
    ∃ fd : FuncData, (∀ (s : Shared) (v : Value), BindsTo s fd ⟨[v], []⟩ [("_law_script", v)]) ∧ ∀ base : Heap, K.In base → base.Ns mainGlobals mg → FnOk Rw.prog w K mg base CX0 8 fa fd ["_law_script"] (spLaw K) := by
  have T : Txt Rw.prog w K mg (fun s => ga K (Str.ofString s)) := txt_mk X G rfl c (by decide +kernel)
  obtain ⟨f, fd, F, m⟩ := T.d_law
  have e := hfa.symm.trans m
  cases e
  exact ⟨fd, fun s v => Fun.bindsA1 F (fun _ _ _ _ _ _ us hl => match us, hl with | [_], _ => rfl) s v, fun base _ _ => ok_law F T⟩
end My
open PySem PySem.W PySem.Calls PyProof.Rows
set_option maxHeartbeats 0 in
theorem PySem.Challenge.cw_lastlife_k02_lives_made_and_refused_holds : PySem.Challenge.rw_lastlife_k02_lives_made_and_refused.Holds := by
  w_on; o_law
  refine HandSHeadRun.head_any (r := My.Rw) (q := view My.Rw.prog [30]) (H := My.hkM) (ob := My.obM) (M := 12000) (loose := My.looseL) (d := HandSHeadRun.topDef My.Rw.prog 30) (kwd := []) My.obM_eq
    (by kernel_rfl) (fun s => by kernel_rfl) My.runM (by kernel_rfl) (by kernel_rfl) (by kernel_rfl) (by rfl) (by first | assumption | decide +kernel) (by decide +kernel) ⟨rfl, rfl, rfl, rfl, rfl, by decide +kernel⟩ ?hw ?hc
  case hw => w_witness2
  case hc =>
    refine L2.walk_ofE (l := PySem.Challenge.rw_lastlife_k02_lives_made_and_refused) (n := 63) (k := 8) (x := "_law_script") (CX := L2.CX0) rfl (by decide) (by kernel_rfl) ⟨rfl, by decide, by decide⟩ ?F (fun _ _ _ _ z => z)
    intro w mg fa h Y G hmg0
    obtain ⟨K, KX, c⟩ := Y
    have hmg : mg ("law" : PySem.Str) = some (.ref fa) := by
      have e : (HandSHeadRun.topDef My.Rw.prog 30).name = ("law" : PySem.Str) := by kernel_rfl
      rw [← e]
      exact hmg0
    obtain ⟨fd, hb, hF⟩ := My.law_end (w := w) KX G hmg c
    exact ⟨K, fd, My.spLaw K, KX, hb, fun H a ns hl _ hS => ⟨a, ns, rfl, hS, hl, fun _ => rfl⟩, hF⟩
