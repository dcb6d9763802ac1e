import PyProof.Rows.All
import Wide.All
import OpenK.AllK
import Wide.FinOn
import HandS.ForMost
import HandS.ForExc
import HandS.ExcInit
import KE.KExcSuper
import HandS.IsInst
import HandS.ExcIs
import HandS.ExcField
import HandS.MakeKwOnly
import HandS.ExcOwn
import HandS.Codes
import HandS.Style
import HandS.Flow
import HandS.ClsMeth
import HandS.ExcValue
import HandS.Base
import HandS.Call
import HandS.Exc
import HandS.List
import KE.KStateDown
import HandS.Ends
import HandS.More
import HandS.Words
import HandS.WordsExc
import HandS.Defaults
import HandS.Head0
import HandS.Head1
import HandS.Head2
import HandS.HeadEnd
import HandS.HeadHook1
import HandS.HeadHook2
import HandS.HeadHook3
import HandS.Property
import HandS.OwnEq
import KE.KOwnIter
import HandS.IterVal
import PyProof.InstSpecial
import HandS.Walk
import KE.GoesEnum
import HandS.TupLe
import HandS.TupAny
import HandS.SetKeys
import HandS.Strs
import HandS.Text
import HandS.Deep
import HandS.Star
import HandS.SlotsOwn
import HandS.Iter
import HandS.TupMul
import PySem.Challenge.RW_lastlife_k36_whole_implied_needed_compar
import HandS.Wide
import HandS.Remove
import HandS.Conv
set_option Elab.async false
set_option linter.all false
set_option maxRecDepth 100000
set_option maxHeartbeats 4000000
namespace PySem
namespace ErrL
open PySem.W PySem.Calls PyProof.Rows PySem.HandSPX
/-! own errors whose first row calls the base's maker through super() -/
def supS (args : List Expr) (a1 a2 a3 a4 a5 : Pos) : Stmt :=
  .Expr (.Call (.Attribute (.Call (.Name "super" a1) [] [] a2) "__init__" a3) args [] a4) a5
def stoS (f : Str) (q1 q2 q3 q4 : Pos) : Stmt :=
  .Assign [.Attribute (.Name "self" q1) f q2] (.Name f q3) q4
/-- the facts about an error class at C whose maker stands at fI -/
structure SupC (prog : Program) (K : Frag) (C fI : Addr) (qual : Str) (params : Arguments) (body : List Stmt) (scope : Scope) : Prop where
  cls : ∃ nm q N bs bm sn sub ab col dd k0 k1 k2 k3 k5, K.lookup C = some (excClassObj nm q C N bs bm true sn sub ab col dd k0 k1 k2 k3 k5 "ValueError.__new__") ∧ refsVE bm = true
  fn : ∃ (oc : Value) (od : Option Addr) (kV doc pm : Value) (an : Option Addr) (cda : Addr) (ct : Value) (osl : Array (Option Value)) (cc : Addr) (vs : Array Value) (file : Str) (tf : Tok) (ccl : Value) (cdd : Option Addr) (ccs : Array (Option Value)) (cl : Value) (cld : Option Addr) (csl : Array (Option Value)),
    K.lookup fI = some ⟨oc, od, .func (ksFn "__init__" qual params body scope .none kV doc pm an (.ref cda) ct cc), osl⟩ ∧ codeIn K (.ref cda) qual = true ∧
    K.lookup cda = some ⟨ccl, cdd, .fields vs, ccs⟩ ∧ vs[2]? = some (.str file tf) ∧ ((prog.main.file : Str) == file) = true ∧
    K.lookup cc = some ⟨cl, cld, .cell (some (.ref C)), csl⟩
  self1 : mroIn K C (.ref C) = some true
  isVE : subIn K (.ref C) (.type "ValueError") = some true
  opq : nsIn K cStatics "thirdparty.any" = some none
  sup : ks_superIn K C C "__init__" = some (some (.builtin "ValueError.__init__"))
  sa : findIn K (.ref C) "__setattr__" = some (some (.builtin "object.__setattr__"))
  iC : findIn K (.ref C) "__init__" = some (some (.ref fI))
  tC : typeIn K (.ref fI) = some (.type "function")
  top : (prog.main.scope.names.lookup ("super" : Str)).isSome = false
/-- a method-wrapper of ValueError.__init__, bound to x, called -/
theorem call_mw {prog : Program} {w : World} {A : Around} {E : Value → Shared → Prop} {h : Heap} {g : Array GenState} {d : Drawn} {t : Nat} {os : OsState}
    {nm q : Str} {C N : Addr} {bs bm : List Value} {hdct : Bool} {sn : List Str} {sub : List Value} {ab : Bool} {col : Option Bool} {dd : Option Addr} {k0 k1 k2 k3 k5 : Option Value}
    {u e t0 : Addr} {rest : List Value} {Q : Value → Shared → Prop}
    (hC : h.get? C = some (excClassObj nm q C N bs bm hdct sn sub ab col dd k0 k1 k2 k3 k5 "ValueError.__new__")) (he : h.get? e = some (excO C t0)) (hu : h.get? u = some (kxs_mw "ValueError.__init__" e)) (hrest : rest.length ≤ sizeLine)
    (hq : ∀ h' t1, (∀ b o, b ≠ e → h.get? b = some o → h'.get? b = some o) → h'.get? e = some (excO C t1) → Q .none ⟨h', g, d, t, os⟩) :
    wpAny (model prog w) A (call (.ref u) rest) Q E ⟨h, g, d, t, os⟩ := by
  refine wpAny_call (codeAny_of_tree ?_)
  show wpAny _ A.in1 (callAny (.ref u) ⟨rest, []⟩) _ _ _
  simp only [callAny]
  refine wpAny_bind (wpAny_load hu ?_)
  refine KFB.if_so (by rfl) ?_
  refine wpAny_bind (check_bound_init F.excBase_ValueError.toExcCallFacts hC he rfl ?_)
  refine wpAny_bind (wpAny_pure (wpAny_pure ?_))
  refine ⟨plainId_quiet F.excBase_ValueError.init.plain _, codeAny_builtin F.excBase_ValueError.initEntry ?_⟩
  wp_walk
  refine hq _ h.objs.size (fun b o hb ho => ?_) ?_
  · rw [Heap.get?_update_other _ _ (Ne.symm hb)]
    exact Heap.get?_push_of_some _ ho
  · rw [Heap.get?_update_self _ (Heap.get?_push_of_some _ he) rfl]
    rfl

/-- what stands behind super().__init__(..): the exception has new args, all else is kept -/
theorem sup_first {prog : Program} {w : World} {A : Around} {E : Value → Shared → Prop} {K : Frag} {C fI : Addr} {qual : Str} {body : List Stmt} {scope : Scope} {mg mb : Str → Option Value}
    {ar : Arg} {x t0 L cda cc : Addr} {m : Str → Option Value} {e0 : Expr} {es : List Expr} {a1 a2 a3 a4 a5 : Pos} {s : Shared} {Q : Flow → Shared → Prop} {fd : FuncData} {oc ccl cl : Value} {od cdd cld : Option Addr} {osl ccs csl : Array (Option Value)} {vs : Array Value} {file : Str} {tf : Tok}
    {nm q : Str} {N : Addr} {bs bm : List Value} {sn : List Str} {sub : List Value} {ab : Bool} {col : Option Bool} {dd : Option Addr} {k0 k1 k2 k3 k5 : Option Value}
    (hC : K.lookup C = some (excClassObj nm q C N bs bm true sn sub ab col dd k0 k1 k2 k3 k5 "ValueError.__new__"))
    (X : K.In s.heap) (hg : s.heap.Ns mainGlobals mg) (hb : s.heap.Ns builtinsNs mb) (hbt : ∀ y : Str, y ≠ "__name__" → mb y = bootBuiltins y) (hsu : mg "super" = none)
    (hf : K.lookup fI = some ⟨oc, od, .func fd, osl⟩) (hp : (fd.params.posonlyargs ++ fd.params.args).head? = some ar)
    (hcode : K.lookup cda = some ⟨ccl, cdd, .fields vs, ccs⟩) (hvs : vs[2]? = some (.str file tf)) (hfile : ((prog.main.file : Str) == file) = true) (hcell : K.lookup cc = some ⟨cl, cld, .cell (some (.ref C)), csl⟩)
    (self1 : mroIn K C (.ref C) = some true) (isVE : subIn K (.ref C) (.type "ValueError") = some true) (opq : nsIn K cStatics "thirdparty.any" = some none) (sup : ks_superIn K C C "__init__" = some (some (.builtin "ValueError.__init__")))
    (htop : (prog.main.scope.names.lookup ("super" : Str)).isSome = false)
    (hns : s.heap.Ns L m) (hv : m ar.arg = some (.ref x)) (hx : s.heap.get? x = some (excO C t0))
    (hks : scope.names.lookup ("super" : Str) = some .globalImplicit) (hkc : scope.names.lookup ("__class__" : Str) = some .free) (hka : scope.names.lookup ar.arg = some .local) (hk : scope.kind = .function)
    (hargs : ∀ (s1 : Shared) (Q1 : List Value → Shared → Prop), s1.heap.Ns L m → s1.heap.Ns mainGlobals mg → s1.heap.Ns builtinsNs mb → (∀ us tk, us.length ≤ 10 → Q1 us { s1 with toks := tk }) →
      wpAny (model prog w) A (spliced (backTo a4 (starEach (e0 :: es) (ksEnv qual scope L fI (.ref cda) cc)))) Q1 E s1)
    (he : starEach (e0 :: es) (ksEnv qual scope L fI (.ref cda) cc) = (false, eval e0 (ksEnv qual scope L fI (.ref cda) cc)) :: starEach es (ksEnv qual scope L fI (.ref cda) cc))
    (hpl : (backTo a4 (starEach es (ksEnv qual scope L fI (.ref cda) cc))).any (·.1) = false)
    (hi : interactive (ksEnv qual scope L fI (.ref cda) cc) = false) {pl : Sem Bool}
    (hev : eval (.Call (.Attribute (.Call (.Name "super" a1) [] [] a2) "__init__" a3) (e0 :: es) [] a4) (ksEnv qual scope L fI (.ref cda) cc) = (do
      let ov ← attributeBase (.Call (.Name "super" a1) [] [] a2) "__init__" (ksEnv qual scope L fI (.ref cda) cc) (eval (.Call (.Name "super" a1) [] [] a2) (ksEnv qual scope L fI (.ref cda) cc))
      standAt a3.atName
      let (f, first) ← holding [ov] (getMethod ov "__init__" pl)
      callWith a4 f first (backTo a4 (starEach (e0 :: es) (ksEnv qual scope L fI (.ref cda) cc))) []))
    (hsw : swapsWith (.Call (.Attribute (.Call (.Name "super" a1) [] [] a2) "__init__" a3) (e0 :: es) [] a4) none a5.line (ksEnv qual scope L fI (.ref cda) cc) = pure false)
    (h : ∀ h' tk t1, (∀ b o, b ≠ x → s.heap.get? b = some o → h'.get? b = some o) → h'.get? x = some (excO C t1) → Q .next { s with heap := h', toks := tk }) :
    _root_.PySem.wpAt (model prog w) A (.func body (ksEnv qual scope L fI (.ref cda) cc)) (exec (supS (e0 :: es) a1 a2 a3 a4 a5) (ksEnv qual scope L fI (.ref cda) cc)) Q E s := by
  have hCc : clsIn K C = some { name := nm, bases := bs, mro := .ref C :: bm, ns := N, qualname := q, hasDict := true, slotNames := sn, subclasses := sub, abstract := ab, collection := col, hasDel := false } := by unfold clsIn; rw [hC] <;> rfl
  obtain ⟨hh, g, d, t, os⟩ := s
  have hCh := X _ _ hC
  have xC : x ≠ C := by
    rintro rfl
    rw [hCh] at hx
    cases hx
  unfold supS
  refine ks_wpAt_Expr_any (ks_wpAt_MethodCall ?_ hev) hi hsw
  refine ks_wpAt_super_base (env := ksEnv qual scope L fI (.ref cda) cc) hks hkc (by decide) rfl (X _ _ hf) rfl hp rfl (X _ _ hcode) rfl hvs hfile htop ?_
  refine ks_loadName_global hk hks (loadGlobal_builtin (env := ksEnv qual scope L fI (.ref cda) cc) hg hsu hb ((hbt _ (by decide +kernel)).trans (show bootBuiltins ("super" : Str) = some (.type "super") by decide +kernel)) ⟨rfl, ?_⟩)
  refine wpAny_loadName_free hk hkc rfl ⟨_, X _ _ hcell, rfl⟩ ?_
  refine wpAny_loadName_local hk hka hns hv ?_
  refine ks_wpAny_isType_cls hCh rfl ⟨rfl, ?_⟩
  refine ks_wpAny_call_super hCh rfl hx rfl (fun c e => ?_) (looks_mroIn X self1) (fun h1 e1 k1 => ?_)
  · cases e
  have X1 : K.In h1 := X.keeps k1
  have hx1 := k1 _ _ hx
  have hI : Looks (model prog w) h1 (isInstance (.ref x) (.type "ValueError")) true := (InstAt.type (od := none) ⟨hx1, rfl, rfl, trivial⟩).andThen (looks_subIn X1 isVE)
  have hsu2 := sup
  unfold ks_superIn at hsu2
  rw [hCc] at hsu2
  refine kxs_getMethod kxs_ValueError e1 (looks_opaque X1 opq) (l₀ := .ref C :: bm) ?_ rfl X1 hsu2 hI xC (by decide) ?_
  · exact fun A Q E s k q => wpAny_bind ((looks_clsIn X1 hCc) A _ E s k (wpAny_pure q))
  have k2 : ∀ b o, h1.get? b = some o → (h1.push (kxs_mw "ValueError.__init__" x)).get? b = some o := fun b o e => Heap.get?_push_of_some _ e
  have k12 : ∀ b o, hh.get? b = some o → (h1.push (kxs_mw "ValueError.__init__" x)).get? b = some o := fun b o e => k2 b o (k1 b o e)
  have mwn : (h1.push (kxs_mw "ValueError.__init__" x)).get? h1.objs.size = some (kxs_mw "ValueError.__init__" x) := Heap.get?_push_at rfl rfl
  rw [he]
  refine kxs_callWith (i := "ValueError.__init__") (x := x) (by show (false || (backTo a4 (starEach es (ksEnv qual scope L fI (.ref cda) cc))).any (·.1)) = false; rw [hpl]; rfl) ?_
  refine evalArgs_plain ?_
  have ha := hargs ⟨h1.push (kxs_mw "ValueError.__init__" x), g, d, t + 1, os⟩ (fun vs s₁ => KxsAt "ValueError.__init__" h1.objs.size x s₁.heap ∧ wpAny (model prog w) A (call (.ref h1.objs.size) ([] ++ vs)) (fun _ => Q .next) E s₁) (hns.keeps k12) (hg.keeps k12) (hb.keeps k12) (fun us tk hl => ?_)
  · rw [he] at ha
    exact ha
  refine ⟨mwn, ?_⟩
  refine call_mw ((X.keeps k12) _ _ hC) (k12 _ _ hx) mwn (Nat.le_trans hl (by rw [sizeLine_eq]; decide)) fun h' t1 k e => ?_
  exact h h' tk t1 (fun b o hb e => k b o hb (k12 b o e)) e

/-- what the text of the maker says: everything that hangs on its written scope -/
structure SupW (prog : Program) (w : World) (params : Arguments) (scope : Scope) (qual : Str) (fs : List Str) (ok : List Value → Prop) (e0 : Expr) (es : List Expr) (a1 a2 a3 a4 a5 : Pos) : Prop where
  hk : scope.kind = .function
  co : scope.isCoroutine = false
  gen : scope.isGenerator = false
  ks : scope.names.lookup ("super" : Str) = some .globalImplicit
  kc : scope.names.lookup ("__class__" : Str) = some .free
  kse : scope.names.lookup ("self" : Str) = some .local
  kf : ∀ f ∈ fs, scope.names.lookup f = some .local
  cell : ∀ y ∈ scope.names, y.2 ≠ .cell
  par : ∃ p, (params.posonlyargs ++ params.args).head? = some p ∧ p.arg = "self"
  hi : ∀ (L fI : Addr) (cd : Value) (cc : Addr), interactive (ksEnv qual scope L fI cd cc) = false
  hev : ∀ (L fI : Addr) (cd : Value) (cc : Addr), ∃ pl : Sem Bool, eval (.Call (.Attribute (.Call (.Name "super" a1) [] [] a2) "__init__" a3) (e0 :: es) [] a4) (ksEnv qual scope L fI cd cc) = (do
      let ov ← attributeBase (.Call (.Name "super" a1) [] [] a2) "__init__" (ksEnv qual scope L fI cd cc) (eval (.Call (.Name "super" a1) [] [] a2) (ksEnv qual scope L fI cd cc))
      standAt a3.atName
      let (f, first) ← holding [ov] (getMethod ov "__init__" pl)
      callWith a4 f first (backTo a4 (starEach (e0 :: es) (ksEnv qual scope L fI cd cc))) [])
  hsw : ∀ (L fI : Addr) (cd : Value) (cc : Addr), swapsWith (.Call (.Attribute (.Call (.Name "super" a1) [] [] a2) "__init__" a3) (e0 :: es) [] a4) none a5.line (ksEnv qual scope L fI cd cc) = pure false
  hst : ∀ (L fI : Addr) (cd : Value) (cc : Addr) (f : Str) (q1 q2 q3 q4 : Pos), swapsWith (.Name f q3) (some (.Attribute (.Name "self" q1) f q2)) q4.line (ksEnv qual scope L fI cd cc) = pure false
  he : ∀ (L fI : Addr) (cd : Value) (cc : Addr), starEach (e0 :: es) (ksEnv qual scope L fI cd cc) = (false, eval e0 (ksEnv qual scope L fI cd cc)) :: starEach es (ksEnv qual scope L fI cd cc)
  hpl : ∀ (L fI : Addr) (cd : Value) (cc : Addr), (backTo a4 (starEach es (ksEnv qual scope L fI cd cc))).any (·.1) = false
  hargs : ∀ (L fI : Addr) (cd : Value) (cc : Addr) (A : Around) (E : Value → Shared → Prop) (us : List Value) (s1 : Shared) (mg mb m : Str → Option Value) (Q1 : List Value → Shared → Prop), ok us → (∀ (i : Nat) (f : Str), fs[i]? = some f → m f = us[i]?) → us.length = fs.length → mg "str" = none → s1.heap.Ns L m → s1.heap.Ns mainGlobals mg → s1.heap.Ns builtinsNs mb →
      (∀ y : Str, y ≠ "__name__" → mb y = bootBuiltins y) → (∀ ws tk, ws.length ≤ 10 → Q1 ws { s1 with toks := tk }) →
      wpAny (model prog w) A (spliced (backTo a4 (starEach (e0 :: es) (ksEnv qual scope L fI cd cc)))) Q1 E s1
/-- what a maker leaves of a fresh exception at x: its dict holds the map -/
structure InitEnd (h h' : Heap) (x C dx : Addr) (mA : Str → Option Value) : Prop where
  keep : ∀ b o, b ≠ x → h.get? b = some o → h'.get? b = some o
  obj : ∃ t1, h'.get? x = some { cls := .ref C, dict := some dx, data := .fields #[.ref t1, .none, .none, .none, .bool false, .none] }
  dbig : h.objs.size ≤ dx
  dne : dx ≠ x
  ns : h'.Ns1 dx mA
theorem ldS {M : Model} {s : Shared} {env : Env} {m : Str → Option Value} {x : Str} {pos : Pos} {v : Value} {Q : Value → Shared → Prop} {A : Around} {E : Value → Shared → Prop} (hk : env.scope.kind = .function) (hl : env.kindOf x = some .local) (hn : s.heap.Ns env.locals m) (hv : m x = some v) (h : Q v s)
    (hd : (x == ("__debug__" : Str)) = false) : wpAny M A (eval (.Name x pos) env) Q E s := wpAny_Name (wpAny_loadName_local hk hl hn hv h) hd
section
variable {prog : Program} {w : World} {A : Around} {E : Value → Shared → Prop} {K : Frag} {C fI : Addr} {qual : Str} {params : Arguments} {body : List Stmt} {scope : Scope} {mg mb : Str → Option Value} {x t0 : Addr} {s : Shared} {R : Result → Shared → Prop}
    {f f1 f2 : Str} {ok : List Value → Prop} {e0 : Expr} {es : List Expr} {a1 a2 a3 a4 a5 q1 q2 q3 q4 r1 r2 r3 r4 : Pos}
theorem kin_but {h h' : Heap} (X : K.In h) (hx : K.lookup x = none) (k : ∀ b o, b ≠ x → h.get? b = some o → h'.get? b = some o) : K.In h' := fun a o e => k a o (fun z => by rw [z, hx] at e; cases e) (X a o e)
theorem ns_but {h h' : Heap} {L : Addr} {m : Str → Option Value} (n : L ≠ x) (hn : h.Ns L m) (k : ∀ b o, b ≠ x → h.get? b = some o → h'.get? b = some o) : h'.Ns L m := by
  obtain ⟨o, es, ep, ho, r⟩ := hn
  exact ⟨o, es, ep, k _ _ n ho, r⟩
/-- one field -/
theorem sup_init1 (T : SupC prog K C fI qual params [supS (e0 :: es) a1 a2 a3 a4 a5, stoS f q1 q2 q3 q4] scope) (W : SupW prog w params scope qual [f] ok e0 es a1 a2 a3 a4 a5) (hnf : findIn K (.ref C) f = some none) (hfd : (f == ("__debug__" : Str)) = false) (hfs : f ≠ "self") {v : Value} (hok : ok [v])
    (hb : ∀ (kV doc pm : Value) (an : Option Addr) (cdv ct : Value) (cc : Addr), bindArgs (ksFn "__init__" qual params [supS (e0 :: es) a1 a2 a3 a4 a5, stoS f q1 q2 q3 q4] scope .none kV doc pm an cdv ct cc) ⟨[.ref x, v], []⟩ = pure [(("self" : Str), Value.ref x), (f, v)])
    (X : K.In s.heap) (hlim : s.heap.NoLimit) (hg : s.heap.Ns mainGlobals mg) (hbn : s.heap.Ns builtinsNs mb) (hbt : ∀ y : Str, y ≠ "__name__" → mb y = bootBuiltins y) (hsu : mg "super" = none) (hstr : mg "str" = none)
    (hx : s.heap.get? x = some (excO C t0)) (hnx : K.lookup x = none) (hroom : A.depth < recursionLimit)
    (hq : ∀ h' tk dx, InitEnd s.heap h' x C dx (fun y => if y = f then some v else none) → R (.ok (.ret .none)) { s with heap := h', toks := tk }) :
    codeAny (model prog w) A (.call (.ref fI) ⟨[.ref x, v], []⟩) R s := by
  obtain ⟨nm, q, N, bs, bm, sn, sub, ab, col, dd, k0, k1, k2, k3, k5, hC, hbm⟩ := T.cls
  obtain ⟨oc, od, kV, doc, pm, an, cda, ct, osl, cc, vs, file, tf, ccl, cdd, ccs, cl, cld, csl, hf, hcd, hcode, hvs, hfile, hcell⟩ := T.fn
  obtain ⟨par, hp, hps⟩ := W.par
  have hcl : clsIn K C = some { name := nm, bases := bs, mro := .ref C :: bm, ns := N, qualname := q, hasDict := true, slotNames := sn, subclasses := sub, abstract := ab, collection := col, hasDel := false } := by unfold clsIn; rw [hC] <;> rfl
  refine ks_codeAny_call_defAt (fd := ksFn "__init__" qual params [supS (e0 :: es) a1 a2 a3 a4 a5, stoS f q1 q2 q3 q4] scope .none kV doc pm an (.ref cda) ct cc) (binds := [(("self" : Str), Value.ref x), (f, v)]) hroom (X _ _ hf) rfl hlim (codeRec_of X hcd) rfl (BindsTo.of_eq (hb ..)) W.cell ?_ (fun h₁ hn k₁ => ?_) W.co W.gen W.hk
  · intro y hy
    rcases List.mem_cons.mp hy with rfl | hy
    · exact W.kse
    · rcases List.mem_cons.mp hy with rfl | hy
      · exact W.kf f (List.mem_cons_self)
      · cases hy
  have hmf : (fun y => List.lookup y (List.reverse [(("self" : Str), Value.ref x), (f, v)])) f = some v := by
    show List.lookup f [(f, v), (("self" : Str), Value.ref x)] = some v
    simp [List.lookup]
  have hms : (fun y => List.lookup y (List.reverse [(("self" : Str), Value.ref x), (f, v)])) ("self" : Str) = some (Value.ref x) := by
    show List.lookup ("self" : Str) [(f, v), (("self" : Str), Value.ref x)] = some (.ref x)
    have e : (("self" : Str) == f) = false := by simpa using Ne.symm hfs
    simp [List.lookup, e]
  have X₁ : K.In h₁ := X.keeps k₁
  obtain ⟨pl, hev⟩ := W.hev s.heap.objs.size fI (.ref cda) cc
  show _root_.PySem.wpAt _ _ (.func _ (ksEnv qual scope s.heap.objs.size fI (.ref cda) cc)) (execs _ (ksEnv qual scope s.heap.objs.size fI (.ref cda) cc)) _ _ _
  refine ks_wpAt_execs_cons (sup_first hC X₁ (hg.keeps k₁) (hbn.keeps k₁) hbt hsu hf hp hcode hvs hfile hcell T.self1 T.isVE T.opq T.sup T.top hn (by rw [hps]; exact hms) (k₁ _ _ hx) W.ks W.kc (by rw [hps]; exact W.kse) W.hk ?_ (W.he ..) (W.hpl ..) (W.hi ..) hev (W.hsw ..) ?_)
  · intro s1 Q1 g1 g2 g3 g4
    refine W.hargs _ _ _ _ _ _ [v] s1 mg mb _ Q1 hok (fun i f' e => ?_) rfl hstr g1 g2 g3 hbt g4
    match i, e with
    | 0, e => cases e; exact hmf
  intro h₂ tk₂ t₁ k₂ hx₂
  refine wpAt_of_wpAny ?_
  have n₂ : s.heap.objs.size ≠ x := Nat.ne_of_gt (Heap.lt_size hx)
  have k12 : ∀ b o, b ≠ x → s.heap.get? b = some o → h₂.get? b = some o := fun b o hb e => k₂ b o hb (k₁ b o e)
  have X₂ : K.In h₂ := kin_but X₁ hnx k₂
  have hn₂ : h₂.Ns s.heap.objs.size _ := ns_but n₂ hn k₂
  show wpAny _ _ (execs _ _) _ _ _
  refine wpAny_execs_cons (plainObj_wpAny_Assign_Attribute ?_ (W.hst ..))
  refine ldS W.hk (W.kf f (List.mem_cons_self)) hn₂ hmf (ldS W.hk W.kse hn₂ hms ?_ (by decide)) hfd
  refine set_plain X₂ (ox := excO C t₁) (od := none) ⟨hx₂, rfl, rfl, trivial⟩ T.sa ?_
  refine exc_osa X₂ hx₂ hcl (show refsVE (.ref C :: bm) = true from hbm) rfl hnf (fun h₃ tk₃ dx k₃ dn dne hx₃ hn₃ => ?_)
  show wpAny _ _ (execs _ _) _ _ _
  refine wpAny_execs_nil (hq h₃ tk₃ dx ⟨fun b o hb e => k₃ b o hb (k12 b o hb e), ⟨_, hx₃⟩, ?_, dne, hn₃⟩)
  exact Nat.le_of_lt (Nat.lt_of_lt_of_le hn₂.lt dn)
/-- two fields -/
theorem sup_init2 (T : SupC prog K C fI qual params [supS (e0 :: es) a1 a2 a3 a4 a5, stoS f1 q1 q2 q3 q4, stoS f2 r1 r2 r3 r4] scope) (W : SupW prog w params scope qual [f1, f2] ok e0 es a1 a2 a3 a4 a5)
    (hnf1 : findIn K (.ref C) f1 = some none) (hnf2 : findIn K (.ref C) f2 = some none) (hfd1 : (f1 == ("__debug__" : Str)) = false) (hfd2 : (f2 == ("__debug__" : Str)) = false) (hfs1 : f1 ≠ "self") (hfs2 : f2 ≠ "self") (h12 : f1 ≠ f2) {v1 v2 : Value} (hok : ok [v1, v2])
    (hb : ∀ (kV doc pm : Value) (an : Option Addr) (cdv ct : Value) (cc : Addr), bindArgs (ksFn "__init__" qual params [supS (e0 :: es) a1 a2 a3 a4 a5, stoS f1 q1 q2 q3 q4, stoS f2 r1 r2 r3 r4] scope .none kV doc pm an cdv ct cc) ⟨[.ref x, v1, v2], []⟩ = pure [(("self" : Str), Value.ref x), (f1, v1), (f2, v2)])
    (X : K.In s.heap) (hlim : s.heap.NoLimit) (hg : s.heap.Ns mainGlobals mg) (hbn : s.heap.Ns builtinsNs mb) (hbt : ∀ y : Str, y ≠ "__name__" → mb y = bootBuiltins y) (hsu : mg "super" = none) (hstr : mg "str" = none)
    (hx : s.heap.get? x = some (excO C t0)) (hnx : K.lookup x = none) (hroom : A.depth < recursionLimit)
    (hq : ∀ h' tk dx, InitEnd s.heap h' x C dx (fun y => if y = f2 then some v2 else if y = f1 then some v1 else none) → R (.ok (.ret .none)) { s with heap := h', toks := tk }) :
    codeAny (model prog w) A (.call (.ref fI) ⟨[.ref x, v1, v2], []⟩) R s := by
  obtain ⟨nm, q, N, bs, bm, sn, sub, ab, col, dd, k0, k1, k2, k3, k5, hC, hbm⟩ := T.cls
  obtain ⟨oc, od, kV, doc, pm, an, cda, ct, osl, cc, vs, file, tf, ccl, cdd, ccs, cl, cld, csl, hf, hcd, hcode, hvs, hfile, hcell⟩ := T.fn
  obtain ⟨par, hp, hps⟩ := W.par
  have hcl : clsIn K C = some { name := nm, bases := bs, mro := .ref C :: bm, ns := N, qualname := q, hasDict := true, slotNames := sn, subclasses := sub, abstract := ab, collection := col, hasDel := false } := by unfold clsIn; rw [hC] <;> rfl
  have kf1 := W.kf f1 (List.mem_cons_self)
  have kf2 := W.kf f2 (List.mem_cons_of_mem _ (List.mem_cons_self))
  refine ks_codeAny_call_defAt (fd := ksFn "__init__" qual params [supS (e0 :: es) a1 a2 a3 a4 a5, stoS f1 q1 q2 q3 q4, stoS f2 r1 r2 r3 r4] scope .none kV doc pm an (.ref cda) ct cc) (binds := [(("self" : Str), Value.ref x), (f1, v1), (f2, v2)]) hroom (X _ _ hf) rfl hlim (codeRec_of X hcd) rfl (BindsTo.of_eq (hb ..)) W.cell ?_ (fun h₁ hn k₁ => ?_) W.co W.gen W.hk
  · intro y hy
    rcases List.mem_cons.mp hy with rfl | hy
    · exact W.kse
    rcases List.mem_cons.mp hy with rfl | hy
    · exact kf1
    rcases List.mem_cons.mp hy with rfl | hy
    · exact kf2
    · cases hy
  have e12 : (f1 == f2) = false := by simpa using h12
  have es1 : (("self" : Str) == f1) = false := by simpa using Ne.symm hfs1
  have es2 : (("self" : Str) == f2) = false := by simpa using Ne.symm hfs2
  have hmf1 : (fun y => List.lookup y (List.reverse [(("self" : Str), Value.ref x), (f1, v1), (f2, v2)])) f1 = some v1 := by
    show List.lookup f1 [(f2, v2), (f1, v1), (("self" : Str), Value.ref x)] = some v1
    simp [List.lookup, e12]
  have hmf2 : (fun y => List.lookup y (List.reverse [(("self" : Str), Value.ref x), (f1, v1), (f2, v2)])) f2 = some v2 := by
    show List.lookup f2 [(f2, v2), (f1, v1), (("self" : Str), Value.ref x)] = some v2
    simp [List.lookup]
  have hms : (fun y => List.lookup y (List.reverse [(("self" : Str), Value.ref x), (f1, v1), (f2, v2)])) ("self" : Str) = some (Value.ref x) := by
    show List.lookup ("self" : Str) [(f2, v2), (f1, v1), (("self" : Str), Value.ref x)] = some (.ref x)
    simp [List.lookup, es1, es2]
  have X₁ : K.In h₁ := X.keeps k₁
  obtain ⟨pl, hev⟩ := W.hev s.heap.objs.size fI (.ref cda) cc
  show _root_.PySem.wpAt _ _ (.func _ (ksEnv qual scope s.heap.objs.size fI (.ref cda) cc)) (execs _ (ksEnv qual scope s.heap.objs.size fI (.ref cda) cc)) _ _ _
  refine ks_wpAt_execs_cons (sup_first hC X₁ (hg.keeps k₁) (hbn.keeps k₁) hbt hsu hf hp hcode hvs hfile hcell T.self1 T.isVE T.opq T.sup T.top hn (by rw [hps]; exact hms) (k₁ _ _ hx) W.ks W.kc (by rw [hps]; exact W.kse) W.hk ?_ (W.he ..) (W.hpl ..) (W.hi ..) hev (W.hsw ..) ?_)
  · intro s1 Q1 g1 g2 g3 g4
    refine W.hargs _ _ _ _ _ _ [v1, v2] s1 mg mb _ Q1 hok (fun i f' e => ?_) rfl hstr g1 g2 g3 hbt g4
    match i, e with
    | 0, e => cases e; exact hmf1
    | 1, e => cases e; exact hmf2
  intro h₂ tk₂ t₁ k₂ hx₂
  refine wpAt_of_wpAny ?_
  have n₂ : s.heap.objs.size ≠ x := Nat.ne_of_gt (Heap.lt_size hx)
  have k12 : ∀ b o, b ≠ x → s.heap.get? b = some o → h₂.get? b = some o := fun b o hb e => k₂ b o hb (k₁ b o e)
  have X₂ : K.In h₂ := kin_but X₁ hnx k₂
  have hn₂ : h₂.Ns s.heap.objs.size _ := ns_but n₂ hn k₂
  show wpAny _ _ (execs _ _) _ _ _
  refine wpAny_execs_cons (plainObj_wpAny_Assign_Attribute ?_ (W.hst ..))
  refine ldS W.hk kf1 hn₂ hmf1 (ldS W.hk W.kse hn₂ hms ?_ (by decide)) hfd1
  refine set_plain X₂ (ox := excO C t₁) (od := none) ⟨hx₂, rfl, rfl, trivial⟩ T.sa ?_
  refine exc_osa X₂ hx₂ hcl (show refsVE (.ref C :: bm) = true from hbm) rfl hnf1 (fun h₃ tk₃ dx k₃ dn dne hx₃ hn₃ => ?_)
  have X₃ : K.In h₃ := kin_but X₂ hnx k₃
  have hLd : s.heap.objs.size ≠ dx := Nat.ne_of_lt (Nat.lt_of_lt_of_le hn₂.lt dn)
  have hn₃' : h₃.Ns s.heap.objs.size _ := ns_but n₂ hn₂ k₃
  obtain ⟨od3, ho3⟩ : ∃ o, h₃.get? dx = some o := by
    obtain ⟨o, _, _, e, _⟩ := hn₃
    exact ⟨o, e⟩
  show wpAny _ _ (execs _ _) _ _ _
  refine wpAny_execs_cons (plainObj_wpAny_Assign_Attribute ?_ (W.hst ..))
  refine ldS W.hk kf2 hn₃' hmf2 (ldS W.hk W.kse hn₃' hms ?_ (by decide)) hfd2
  refine set_plain X₃ (ox := { cls := .ref C, dict := some dx, data := .fields #[.ref t₁, .none, .none, .none, .bool false, .none] }) (od := some od3) ⟨hx₃, rfl, rfl, ho3⟩ T.sa ?_
  refine PySem.OEX.osa_old X₃ hx₃ hn₃ (nl := [f1]) (fun y hy => ?_) (by show 1 ≤ 1000; decide) hcl (show refsVE (.ref C :: bm) = true from hbm) rfl hnf2 (fun h₄ tk₄ k₄ hn₄ => ?_)
  · by_cases e : y = f1
    · rw [e]; exact List.mem_cons_self
    · exact absurd (if_neg e) hy
  show wpAny _ _ (execs _ _) _ _ _
  have hbig : s.heap.objs.size ≤ dx := Nat.le_of_lt (Nat.lt_of_lt_of_le hn₂.lt dn)
  refine wpAny_execs_nil (hq h₄ tk₄ dx ⟨fun b o hb e => k₄ b o (Nat.ne_of_lt (Nat.lt_of_lt_of_le (Heap.lt_size e) hbig)) (k₃ b o hb (k12 b o hb e)), ⟨_, k₄ _ _ (Ne.symm dne) hx₃⟩, hbig, dne, hn₄⟩)
end
/-- an error that is made -/
structure Made (h h' : Heap) (e C d : Addr) (mA : Str → Option Value) : Prop where
  keep : ∀ b o, h.get? b = some o → h'.get? b = some o
  new : h.objs.size ≤ e
  obj : ∃ t1 : Addr, h'.get? e = some { cls := .ref C, dict := some d, data := .fields #[.ref t1, .none, .none, .none, .bool false, .none] }
  dbig : h.objs.size ≤ d
  dne : d ≠ e
  ns : h'.Ns1 d mA
/-- the class at C makes errors of these fields -/
structure Makes (prog : Program) (w : World) (K : Frag) (mg : Str → Option Value) (C : Addr) (fs : List Str) (ok : List Value → Prop) : Prop where
  kC : keepIn K (.ref C) = true
  exC : subIn K (.ref C) (.type "BaseException") = some true
  tyC : typeIn K (.ref C) = some (.type "type")
  run : ∀ (A : Around) (s : Shared) (us : List Value) (mb : Str → Option Value) (R : Result → Shared → Prop), us.length = fs.length → ok us → K.In s.heap → s.heap.NoLimit → s.heap.Ns mainGlobals mg → s.heap.Ns builtinsNs mb → (∀ y : Str, y ≠ "__name__" → mb y = bootBuiltins y) →
    A.depth + 1 < recursionLimit → (∀ h' tk e d mA, (∀ f : Str, mA f = (fs.zip us).lookup f) → Made s.heap h' e C d mA → R (.ok (.ret (.ref e))) { s with heap := h', toks := tk }) → codeAny (model prog w) A (.call (.ref C) ⟨us, []⟩) R s
/-- from the maker to the class -/
theorem made_of {prog : Program} {w : World} {A : Around} {K : Frag} {C fI : Addr} {s : Shared} {us : List Value} {mA : Str → Option Value} {R : Result → Shared → Prop} {nm q : Str} {N : Addr} {bs bm : List Value} {sn : List Str} {sub : List Value} {ab : Bool} {col : Option Bool} {dd : Option Addr} {k0 k1 k2 k3 k5 : Option Value}
    (hC : K.lookup C = some (excClassObj nm q C N bs bm true sn sub ab col dd k0 k1 k2 k3 k5 "ValueError.__new__")) (hbm : refsVE bm = true) (iC : findIn K (.ref C) "__init__" = some (some (.ref fI))) (tC : typeIn K (.ref fI) = some (.type "function")) (hus : us.length ≤ 10)
    (X : K.In s.heap) (hlim : s.heap.NoLimit)
    (hin : ∀ (A' : Around) (s' : Shared) (x t0 : Addr) (R' : Result → Shared → Prop), A'.depth = A.depth + 1 → (∀ b o, s.heap.get? b = some o → s'.heap.get? b = some o) → s'.heap.get? x = some (excO C t0) → K.lookup x = none →
      (∀ h' tk dx, InitEnd s'.heap h' x C dx mA → R' (.ok (.ret .none)) { s' with heap := h', toks := tk }) → codeAny (model prog w) A' (.call (.ref fI) ⟨.ref x :: us, []⟩) R' s')
    (hq : ∀ h' tk e d, Made s.heap h' e C d mA → R (.ok (.ret (.ref e))) { s with heap := h', toks := tk }) :
    codeAny (model prog w) A (.call (.ref C) ⟨us, []⟩) R s := by
  obtain ⟨hp, g, dr, tk, os⟩ := s
  have k : ∀ b o, hp.get? b = some o → ((hp.push (kdv_tup us)).push (excO C hp.objs.size)).get? b = some o := fun b o e => Heap.get?_push_of_some _ (Heap.get?_push_of_some _ e)
  have hget : ((hp.push (kdv_tup us)).push (excO C hp.objs.size)).get? (hp.objs.size + 1) = some (excO C hp.objs.size) := by heap_get
  have hnx : K.lookup (hp.objs.size + 1) = none := by
    cases e : K.lookup (hp.objs.size + 1) with
    | none => rfl
    | some o =>
      have z : hp.get? (hp.objs.size + 1) = some o := X _ _ e
      exact absurd (Nat.lt_of_succ_lt (Heap.lt_size z)) (Nat.lt_irrefl _)
  refine call_own F.excBase_ValueError (fun X => refsVE_contains X bm hbm) (X _ _ hC) (looks_findIn X iC) (fun self => bind_fn X self tC) (Nat.le_trans hus (by rw [sizeLine_eq]; decide)) ?_
  refine hin (A.under (.builtin "type.__call__" ⟨.ref C :: us, []⟩)) ⟨(hp.push (kdv_tup us)).push (excO C hp.objs.size), g, dr, tk, os⟩ (hp.objs.size + 1) hp.objs.size _ rfl k hget hnx fun h' tk' dx ⟨k', hx, dn, dne, hns⟩ => ?_
  have old : ∀ b o, hp.get? b = some o → h'.get? b = some o := fun b o e => k' b o (Nat.ne_of_lt (Nat.lt_succ_of_lt (Heap.lt_size e))) (k b o e)
  have z : hp.objs.size + 1 + 1 ≤ dx := by
    first
      | (simpa only [Heap.size_push] using dn)
      | exact dn
      | (have q := dn; rw [Heap.size_push, Heap.size_push] at q; exact q)
  obtain ⟨t1, hx⟩ := hx
  exact ⟨rfl, hq h' tk' (hp.objs.size + 1) dx ⟨old, Nat.le_succ _, ⟨t1, hx⟩, Nat.le_trans (Nat.le_trans (Nat.le_succ _) (Nat.le_succ _)) z, dne, hns⟩⟩
section
variable {prog : Program} {w : World} {K : Frag} {C fI : Addr} {qual : Str} {params : Arguments} {scope : Scope} {mg : Str → Option Value} {f f1 f2 : Str} {ok : List Value → Prop} {e0 : Expr} {es : List Expr} {a1 a2 a3 a4 a5 q1 q2 q3 q4 r1 r2 r3 r4 : Pos}
theorem makes1 (T : SupC prog K C fI qual params [supS (e0 :: es) a1 a2 a3 a4 a5, stoS f q1 q2 q3 q4] scope) (W : SupW prog w params scope qual [f] ok e0 es a1 a2 a3 a4 a5) (kC : keepIn K (.ref C) = true) (exC : subIn K (.ref C) (.type "BaseException") = some true) (tyC : typeIn K (.ref C) = some (.type "type"))
    (hnf : findIn K (.ref C) f = some none) (hfd : (f == ("__debug__" : Str)) = false) (hfs : f ≠ "self") (hsu : mg "super" = none) (hstr : mg "str" = none)
    (hb : ∀ (x : Addr) (v : Value) (kV doc pm : Value) (an : Option Addr) (cdv ct : Value) (cc : Addr), bindArgs (ksFn "__init__" qual params [supS (e0 :: es) a1 a2 a3 a4 a5, stoS f q1 q2 q3 q4] scope .none kV doc pm an cdv ct cc) ⟨[.ref x, v], []⟩ = pure [(("self" : Str), Value.ref x), (f, v)]) :
    Makes prog w K mg C [f] ok where
  kC := kC
  exC := exC
  tyC := tyC
  run := fun A s us mb R hl hok X hlim hg hbn hbt hroom hq => by
    obtain ⟨nm, q, N, bs, bm, sn, sub, ab, col, dd, k0, k1, k2, k3, k5, hC, hbm⟩ := T.cls
    match us, hl with
    | [v], _ =>
      refine made_of (mA := fun y => if y = f then some v else none) hC hbm T.iC T.tC (by show 1 ≤ 10; decide) X hlim (fun A' s' x t0 R' hd k hx hnx h' => ?_) fun h' tk e d M => hq h' tk e d _ (fun g => ?_) M
      · exact sup_init1 T W hnf hfd hfs hok (hb x v) (X.keeps k) (hlim.keeps k) (hg.keeps k) (hbn.keeps k) hbt hsu hstr hx hnx (by rw [hd]; exact hroom) h'
      · by_cases e : g = f
        · subst e; simp [List.zip]
        · have e2 : (g == f) = false := by simpa using e
          simp [List.zip, List.lookup, e, e2]
theorem makes2 (T : SupC prog K C fI qual params [supS (e0 :: es) a1 a2 a3 a4 a5, stoS f1 q1 q2 q3 q4, stoS f2 r1 r2 r3 r4] scope) (W : SupW prog w params scope qual [f1, f2] ok e0 es a1 a2 a3 a4 a5) (kC : keepIn K (.ref C) = true) (exC : subIn K (.ref C) (.type "BaseException") = some true) (tyC : typeIn K (.ref C) = some (.type "type"))
    (hnf1 : findIn K (.ref C) f1 = some none) (hnf2 : findIn K (.ref C) f2 = some none) (hfd1 : (f1 == ("__debug__" : Str)) = false) (hfd2 : (f2 == ("__debug__" : Str)) = false) (hfs1 : f1 ≠ "self") (hfs2 : f2 ≠ "self") (h12 : f1 ≠ f2) (hsu : mg "super" = none) (hstr : mg "str" = none)
    (hb : ∀ (x : Addr) (v1 v2 : Value) (kV doc pm : Value) (an : Option Addr) (cdv ct : Value) (cc : Addr), bindArgs (ksFn "__init__" qual params [supS (e0 :: es) a1 a2 a3 a4 a5, stoS f1 q1 q2 q3 q4, stoS f2 r1 r2 r3 r4] scope .none kV doc pm an cdv ct cc) ⟨[.ref x, v1, v2], []⟩ = pure [(("self" : Str), Value.ref x), (f1, v1), (f2, v2)]) :
    Makes prog w K mg C [f1, f2] ok where
  kC := kC
  exC := exC
  tyC := tyC
  run := fun A s us mb R hl hok X hlim hg hbn hbt hroom hq => by
    obtain ⟨nm, q, N, bs, bm, sn, sub, ab, col, dd, k0, k1, k2, k3, k5, hC, hbm⟩ := T.cls
    match us, hl with
    | [v1, v2], _ =>
      refine made_of (mA := fun y => if y = f2 then some v2 else if y = f1 then some v1 else none) hC hbm T.iC T.tC (by show 2 ≤ 10; decide) X hlim (fun A' s' x t0 R' hd k hx hnx h' => ?_) fun h' tk e d M => hq h' tk e d _ (fun g => ?_) M
      · exact sup_init2 T W hnf1 hnf2 hfd1 hfd2 hfs1 hfs2 h12 hok (hb x v1 v2) (X.keeps k) (hlim.keeps k) (hg.keeps k) (hbn.keeps k) hbt hsu hstr hx hnx (by rw [hd]; exact hroom) h'
      · by_cases e : g = f2
        · subst e
          have e2 : (g == f1) = false := by simpa using Ne.symm h12
          simp [List.zip, List.lookup, e2]
        · have e2 : (g == f2) = false := by simpa using e
          by_cases e1 : g = f1
          · subst e1; simp [List.zip, List.lookup, e]
          · have e3 : (g == f1) = false := by simpa using e1
            simp [List.zip, List.lookup, e, e1, e2, e3]
end
end ErrL
end PySem

namespace L2
open PySem PySem.Spec PyProof.Rows
theorem relO_zip : ∀ {fs : List Str} {vs : List V} {us : List Value}, Vals vs us → ∀ f, RelO (List.lookup f (fs.zip vs)) (List.lookup f (fs.zip us))
  | [], vs, us, r, f => by simp [List.zip, RelO]
  | g :: fs, [], _, .nil, f => by simp [List.zip, RelO]
  | g :: fs, v :: vs, u :: us, .cons rv r, f => by
    by_cases e : f = g
    · subst e
      have q : RelO (some v) (some u) := rv
      simpa [List.zip, List.lookup] using q
    · have e2 : (f == g) = false := by simpa using e
      have ih := relO_zip (fs := fs) r f
      simpa [List.zip, List.lookup, e2] using ih
section
variable {X : Cx} {C : Addr} {fs : List Str} {ok : List Value → Prop}
/-- X(e, ..): a new error; okV says that the values may be written into its args -/
def tMkErr (C : Addr) (fs : List Str) (okV : List V → Prop) (ta : TA) : St → Hp → XK → Prop := fun σ H Q => ta σ H fun vs H1 => vs.length = fs.length ∧ okV vs ∧ ∀ d, H1 d = none → Q (.ref C) (some d) (upd H1 d (.xd (fs.zip vs)))
theorem pmk_err {x : Str} {e : Expr} {es : List Expr} {ta : TA} {p pos : Pos} {k : Nat} {okV : List V → Prop} (T : PySem.ErrL.Makes X.prog X.w X.K X.mg C fs ok) (hok : ∀ vs us, Vals vs us → okV vs → ok us) (gC : X.mg x = some (.ref C)) (hr : Room k X.A) (ha : PA X (e :: es) ta) (hg : Gl X x := by rfl)
    (hdb : (x == ("__debug__" : Str)) = false := by decide) (he : starEach (e :: es) X.env = (false, eval e X.env) :: starEach es X.env := by rfl) (hpl : (backTo pos (starEach es X.env)).any (·.1) = false := by rfl) :
    PMk X (.Call (.Name x p) (e :: es) [] pos) (tMkErr C fs okV ta) := by
  intro pins s σ H Q I h
  refine wpAny_Call_Name_kw (ld_glob I hg gC ?_ hdb)
  refine PySem.W.callWith_K (h₀ := X.base) I.ok.mod.kin T.kC (thn (ha.run pos pins s σ H _ I h) fun us s1 hh => ?_) he hpl
  obtain ⟨vs, H1, I1, r1, hl, hov, q1⟩ := hh
  refine ⟨I1.kIn, ?_⟩
  show wpAny _ _ (call (.ref C) us) _ _ _
  obtain ⟨mb, hmb, hbt⟩ := I1.mod.blt
  have hlim := I1.nolimit
  have hgl := I1.mod.glob.keeps I1.bk
  have hbl := hmb.keeps I1.bk
  have kin := I1.kIn
  obtain ⟨hp, g, dr, tk, os⟩ := s1
  refine wpAny_call (T.run _ _ us mb _ (by rw [← hl]; exact (Vals.length r1).symm) (hok vs us r1 hov) kin hlim hgl hbl hbt (by have := hr.dp; omega) fun h' tk' e d mA hmA M => ?_)
  show MkP X pins σ Q (.ref e) ⟨h', g, dr, tk', os⟩
  obtain ⟨t1, hoe⟩ := M.obj
  have hns := M.ns
  obtain ⟨G', g1, g2⟩ := restrict h' fun b => decide (b ≠ e)
  have gk : ∀ b, b ≠ e → G'.get? b = h'.get? b := fun b hb => g1 b (decide_eq_true hb)
  have ge : G'.get? e = none := g2 e (by simp)
  have old : ∀ b o, hp.get? b = some o → G'.get? b = some o := fun b o q => (gk b (Nat.ne_of_lt (Nat.lt_of_lt_of_le (Heap.lt_size q) M.new))).trans (M.keep b o q)
  have ob : ObjOk X.prog X.w (upd H1 d (.xd (fs.zip vs))) G' d (.xd (fs.zip vs)) :=
    ⟨_, hns.at (fun o q => (gk d M.dne).trans q), fun f => by rw [hmA]; exact relO_zip r1 f⟩
  have J : Inv X pins σ (upd H1 d (.xd (fs.zip vs))) ⟨G', g, dr, tk', os⟩ := I1.laid (t' := tk') old M.dbig ob
  refine ⟨e, _, _, ⟨G', g, dr, tk', os⟩, _, .ref C, some d, rfl, J, fun b o q => ?_, ge, hoe, ⟨rfl, rfl⟩, rfl, rfl, ?_, rfl, I1.bare, raises_own T.exC T.tyC, q1 d (I1.hok.fresh M.dbig)⟩
  · by_cases hb : b = e
    · have q' : G'.get? b = some o := q
      rw [hb, ge] at q'; cases q'
    · exact (gk b hb).symm.trans q
  · rw [upd_ne (Ne.symm M.dne)]
    exact I1.hok.fresh M.new
/-- raise X(e, ..) -/
def tRaiseErr (C : Addr) (fs : List Str) (okV : List V → Prop) (W : WX) (ta : TA) : TS := fun _ σ H => tMkErr C fs okV ta σ H fun cls d H' => W cls d σ H'
theorem ps_raiseErr {W : WX} {x : Str} {e : Expr} {es : List Expr} {ta : TA} {p pos pos2 : Pos} {k : Nat} {okV : List V → Prop} (hc : X.calm = true) (T : PySem.ErrL.Makes X.prog X.w X.K X.mg C fs ok) (hok : ∀ vs us, Vals vs us → okV vs → ok us) (gC : X.mg x = some (.ref C)) (hr : Room k X.A) (tk : Takes X W) (ha : PA X (e :: es) ta) (hg : Gl X x := by rfl)
    (hdb : (x == ("__debug__" : Str)) = false := by decide) (he : starEach (e :: es) X.env = (false, eval e X.env) :: starEach es X.env := by rfl) (hpl : (backTo pos (starEach es X.env)).any (·.1) = false := by rfl) :
    PS X (.Raise (some (.Call (.Name x p) (e :: es) [] pos)) none pos2) (tRaiseErr C fs okV W ta) := ps_raise hc tk (pmk_err T hok gC hr ha hg hdb he hpl)
end
end L2
set_option Elab.async false
set_option linter.all false
set_option maxRecDepth 100000
set_option maxHeartbeats 4000000
namespace PySem
namespace ErrL
open PySem.W PySem.Calls PyProof.Rows PySem.HandSPX
section
variable {prog : Program} {w : World} {params : Arguments} {scope : Scope} {qual : Str} {f f1 f2 : Str} {a1 a2 a3 a4 a5 p0 p1 p2 p3 : Pos} {j0 : Nat} {z : Str}
theorem args_c (hk : scope.kind = .function) (L fI : Addr) (cd : Value) (cc : Addr) (A : Around) (E : Value → Shared → Prop) (s1 : Shared) (Q1 : List Value → Shared → Prop) (h : ∀ (ws : List Value) tk, ws.length ≤ 10 → Q1 ws { s1 with toks := tk }) :
    wpAny (model prog w) A (spliced (backTo a4 (starEach [.Constant (.str z) j0 p0] (ksEnv qual scope L fI cd cc)))) Q1 E s1 := by
  show wpAny _ _ (spliced [(false, eval (.Constant (.str z) j0 p0) (ksEnv qual scope L fI cd cc))]) _ _ _
  exact spliced_cons (wpAny_Constant_str (spliced_nil (h _ _ (by show 1 ≤ 10; decide))))
theorem args_cn (hk : scope.kind = .function) (kf : scope.names.lookup f = some .local) (hfd : (f == ("__debug__" : Str)) = false) (L fI : Addr) (cd : Value) (cc : Addr) (A : Around) (E : Value → Shared → Prop) (v : Value) (s1 : Shared) (m : Str → Option Value) (Q1 : List Value → Shared → Prop)
    (hm : m f = some v) (hn : s1.heap.Ns L m) (h : ∀ (ws : List Value) tk, ws.length ≤ 10 → Q1 ws { s1 with toks := tk }) :
    wpAny (model prog w) A (spliced (backTo a4 (starEach [.Constant (.str z) j0 p0, .Name f p1] (ksEnv qual scope L fI cd cc)))) Q1 E s1 := by
  show wpAny _ _ (spliced [(false, eval (.Constant (.str z) j0 p0) (ksEnv qual scope L fI cd cc)), (false, eval (.Name f p1) (ksEnv qual scope L fI cd cc))]) _ _ _
  refine spliced_cons (wpAny_Constant_str (spliced_cons ?_))
  exact ldS hk kf hn hm (spliced_nil (h _ _ (by show 2 ≤ 10; decide))) hfd
theorem args_csn (hk : scope.kind = .function) (kf1 : scope.names.lookup f1 = some .local) (kf2 : scope.names.lookup f2 = some .local) (kstr : scope.names.lookup ("str" : Str) = some .globalImplicit) (hfd1 : (f1 == ("__debug__" : Str)) = false) (hfd2 : (f2 == ("__debug__" : Str)) = false)
    (L fI : Addr) (cd : Value) (cc : Addr) (A : Around) (E : Value → Shared → Prop) (i : Int) (t : Tok) (v2 : Value) (s1 : Shared) (m mg mb : Str → Option Value) (Q1 : List Value → Shared → Prop) (hi : i.natAbs.log2 < 1920)
    (hm1 : m f1 = some (.int i t)) (hm2 : m f2 = some v2) (hstr : mg "str" = none) (hn : s1.heap.Ns L m) (hg : s1.heap.Ns mainGlobals mg) (hb : s1.heap.Ns builtinsNs mb) (hbt : ∀ y : Str, y ≠ "__name__" → mb y = bootBuiltins y) (h : ∀ (ws : List Value) tk, ws.length ≤ 10 → Q1 ws { s1 with toks := tk })
    (he1 : starEach [.Name f1 p2] (ksEnv qual scope L fI cd cc) = (false, eval (.Name f1 p2) (ksEnv qual scope L fI cd cc)) :: starEach [] (ksEnv qual scope L fI cd cc)) :
    wpAny (model prog w) A (spliced (backTo a4 (starEach [.Constant (.str z) j0 p0, .Call (.Name "str" p1) [.Name f1 p2] [] p3, .Name f2 a5] (ksEnv qual scope L fI cd cc)))) Q1 E s1 := by
  show wpAny _ _ (spliced [(false, eval (.Constant (.str z) j0 p0) (ksEnv qual scope L fI cd cc)), (false, eval (.Call (.Name "str" p1) [.Name f1 p2] [] p3) (ksEnv qual scope L fI cd cc)), (false, eval (.Name f2 a5) (ksEnv qual scope L fI cd cc))]) _ _ _
  refine spliced_cons (wpAny_Constant_str (spliced_cons ?_))
  refine wpAny_Call_Name_kw ?_
  refine wpAny_Name ?_ (by decide)
  refine ks_loadName_global hk kstr (loadGlobal_builtin (env := ksEnv qual scope L fI cd cc) hg hstr hb ((hbt _ (by decide +kernel)).trans (show bootBuiltins ("str" : Str) = some (.type "str") by decide +kernel)) ?_)
  refine PyProof.Rows.callWith_type1 ?_ he1 rfl
  show wpAny _ _ (spliced [(false, eval (.Name f1 p2) (ksEnv qual scope L fI cd cc))]) _ _ _
  refine spliced_cons (ldS hk kf1 hn hm1 (spliced_nil ?_) hfd1)
  refine PySem.P.str_of_int hi (spliced_cons ?_)
  exact ldS hk kf2 hn hm2 (spliced_nil (h _ _ (by show 3 ≤ 10; decide))) hfd2
end
end ErrL
end PySem
set_option Elab.async false
set_option linter.all false
set_option maxRecDepth 100000
set_option maxHeartbeats 4000000
/-! isinstance of a caught error that has its own dict -/
namespace PySem.ErrL
open PySem PySem.W PySem.Spec PySem.Calls PyProof.Rows
section
variable {prog : Program} {w : World} {A : Around} {E : Value → Shared → Prop} {s : Shared} {K : Frag} {x D : Addr} {ox : Obj} {od : Option Obj}
theorem find_cls (hd : hasDictIn K D = true) (ha : findIn K (.ref D) "__class__" = some (some (.builtin "object.__class__"))) (hn : specialIn K (.builtin "object.__class__") "__get__" = some (some (.builtin "getset_descriptor.__get__"))) (ht : takesIn K (.builtin "object.__class__") = some true) :
    findObj K D od "__class__" = some (.bind (.builtin "getset_descriptor.__get__") (.builtin "object.__class__")) := by
  obtain ⟨cd, hc, _⟩ := any_some hd
  unfold findObj
  rw [hc, Option.bind_some, ha, Option.bind_some]
  simp [hn, ht]
/-- e.__class__, e an error with its dict -/
theorem cls_of (T : L2.ExcC K D) {Q : Option Value → Shared → Prop} (X : K.In s.heap) (I : InstAt s.heap x ox D od) (h : Q (some (.ref D)) { s with toks := s.toks + 1 }) : wpAny (model prog w) A (getAttr? (.ref x) "__class__") Q E s := by
  have hf := find_cls (od := od) T.hd T.ha T.hn T.ht
  obtain ⟨hp, g, d, t, os⟩ := s
  have ty := I.type (M := model prog w); have l1 := looks_findIn (M := model prog w) X T.hg; have l2 := looks_findIn (M := model prog w) X T.hk
  have l3 := looks_find (M := model prog w) X I hf; have sb : Looks (model prog w) hp (isInstance (.ref x) (.type "BaseException")) true := ty.andThen (looks_subIn X T.hs)
  have n2 : (Value.builtin "BaseException.__getattribute__" == Value.builtin "object.__getattribute__") = false := by decide +kernel
  have n1 : (onTheHeap (Value.ref D) && Value.builtin "BaseException.__getattribute__" == Value.builtin "object.__getattribute__") = false := (by rw [n2]; rfl)
  unfold getAttr? getAttrBy? getAttrBy
  refine wpAny_bind (wpAny_mkText (wpAny_bind (wpAny_attempt (wpAny_holding (wpAny_bind (ty.at (wpAny_bind (l1.at ?_))))))))
  show wpAny _ _ (if (onTheHeap (Value.ref D) && Value.builtin "BaseException.__getattribute__" == Value.builtin "object.__getattribute__") = true then _ else _) _ _ _
  rw [n1, if_neg Bool.false_ne_true]; unfold getAttrByItsOwn hookBefore
  refine wpAny_bind ?_
  rw [if_pos (show onTheHeap (Value.ref D) = true from rfl)]
  refine l2.at (wpAny_bind (wpAny_attempt (wpAny_holding ?_)))
  unfold callGetattribute
  rw [show (false && onTheHeap (Value.builtin "BaseException.__getattribute__")) = false from rfl, if_neg Bool.false_ne_true]; unfold boundAndCalled; rw [PySem.F.excAttr_ValueError.ga.bind (.ref x)]
  refine wpAny_bind (wpAny_pure ?_)
  show wpAny _ _ (call (.builtin "BaseException.__getattribute__") [.ref x, .str "__class__" t]) _ _ _
  refine wpAny_call (codeAny_call_builtin PySem.F.excAttr_ValueError.ga.plain PySem.F.entry_bexc_ga (@check_slot (model prog w) _ _ ⟨hp, g, d, t + 1, os⟩ "BaseException.__getattribute__" "BaseException" "__getattribute__" (.ref x) [.str "__class__" t] [] _ (by decide +kernel) (by decide +kernel) sb (PySem.F.args_bexc_ga (.ref x) (.str "__class__" t)) ?_))
  unfold Builtin.«object.__getattribute__»
  refine wpAny_bind (wpAny_of_eq (a := ((Value.ref x : Value), [Value.str "__class__" t])) (by first | rfl | (simp only [slotArgs]; rfl)) (wpAny_bind (wpAny_pure (wpAny_bind (ty.at (wpAny_bind (l3.at ?_)))))))
  show wpAny _ _ (holding [Value.builtin "object.__class__"] (call (.builtin "getset_descriptor.__get__") [.builtin "object.__class__", .ref x, .ref D]) >>= ret) _ _ _
  refine wpAny_bind (wpAny_holding (wpAny_call (class_get (s := ⟨hp, g, d, t + 1, os⟩) (ox := ox) (od := od) X I T.hm (wpAny_pure ?_))))
  show wpAny _ _ (handedOut (.ref D)) _ _ _
  rw [handedOut_of (v := .ref D) rfl]
  first
    | exact wpAny_pure (wpAny_pure h)
    | exact wpAny_pure h
    | exact wpAny_pure (wpAny_bind (wpAny_pure (wpAny_pure h)))
theorem kitx_err (T : L2.ExcC K D) : KitX K (.ref x) (.ref D) (fun h => InstAt h x ox D od) where
  ty := fun _ _ _ I => I.type
  it := fun M h X I => by
    obtain ⟨cd, hc, _⟩ := any_some T.hd
    unfold clsIn at hc
    split at hc
    · rename_i c' d' cd' sl' ho
      intro A' Q' E' s' k q; unfold isType loadHead; exact wpAny_bind (wpAny_loadPart (k _ _ (X _ _ ho)) (wpAny_pure q))
    · cases hc
  ne := (handS_kitx_exc (x := x) (ox := ox) T.hg T.hk T.hs T.hd T.ha T.hn T.ht T.hm).ne
  ca := fun X I k => cls_of T X I k
end
end PySem.ErrL
namespace L2
open PySem PySem.Spec PyProof.Rows
theorem ExcC.xf {K : PySem.W.Frag} {C : Addr} (T : ExcC K C) : XfC K C := ⟨T.hg, T.hk, T.hs, T.hd⟩
/-- isinstance(e, c), e the error that the suite holds, its dict at dd -/
def rIsErr (K : PySem.W.Frag) (cls : Value) (d : Option Addr) (a : Addr) : List V → Hp → VK → Prop := fun xs H Q => ∃ (c : V) (cv : Value) (b : Bool) (D dd : Addr) (fs : List (Str × V)), xs = [.ref a, c] ∧ cls = .ref D ∧ d = some dd ∧ H dd = some (.xd fs) ∧ ExcC K D ∧ ClsV c cv ∧ PySem.W.kitOne K (.ref D) cv = some b ∧ Q (.bl b) H
theorem call_isErr {X : Cx} {a : Addr} {cls : Value} {d : Option Addr} {oe : Obj} {pn : List (Addr × Obj)} (hz : Zc cls d oe) (hf : ∃ vs, oe.data = .fields vs) : CallR (X.suite a ((a, oe) :: pn)) (.builtin "isinstance") (rIsErr X.K cls d a) := by
  intro pins s σ H xs us Q I r h
  obtain ⟨c, cv, b, D, dd, fs, rfl, rfl, rfl, hdd, T, hcv, e, q⟩ := h
  obtain ⟨u1, u2, rfl, r1, r2⟩ := vals2 r
  obtain rfl : u1 = Value.ref a := r1
  have ec := hcv.eq r2
  subst ec
  obtain ⟨hget, _⟩ := I.pin (a, oe) (List.mem_append.mpr (.inl List.mem_cons_self))
  obtain ⟨vs, hv⟩ := hf
  obtain ⟨mA, hns, _⟩ := (show ObjOk X.prog X.w H s.heap dd (.xd fs) from I.hok dd _ hdd)
  obtain ⟨o', es, ep, ho, _⟩ := hns
  have J : PySem.W.InstAt s.heap a oe D (some o') := ⟨hget, hz.1, by unfold PySem.W.notCls; rw [hv] <;> rfl, by rw [hz.2]; exact ho⟩
  exact PySem.W.kia_one (PySem.ErrL.kitx_err T) I.kIn J e (fun z => nomatch z) fun tk => ⟨.bl b, H, I.kept (t' := tk) fun _ _ z => z, rfl, q⟩
theorem call_isErrK {X : Cx} {K : PySem.W.Frag} {a : Addr} {cls : Value} {d : Option Addr} {oe : Obj} {pn : List (Addr × Obj)} (h : X.K = K) (hz : Zc cls d oe) (hf : ∃ vs, oe.data = .fields vs) : CallR (X.suite a ((a, oe) :: pn)) (.builtin "isinstance") (rIsErr K cls d a) := h ▸ call_isErr hz hf
/-- .. with a dict or without -/
def rIsErr2 (K : PySem.W.Frag) (cls : Value) (d : Option Addr) (a : Addr) : List V → Hp → VK → Prop := fun xs H Q => ∃ (c : V) (cv : Value) (b : Bool) (D : Addr), xs = [.ref a, c] ∧ cls = .ref D ∧ (∀ dd, d = some dd → ∃ fs, H dd = some (.xd fs)) ∧ ExcC K D ∧ ClsV c cv ∧ PySem.W.kitOne K (.ref D) cv = some b ∧ Q (.bl b) H
theorem call_isErr2 {X : Cx} {a : Addr} {cls : Value} {d : Option Addr} {oe : Obj} {pn : List (Addr × Obj)} (hz : Zc cls d oe) (hf : ∃ vs, oe.data = .fields vs) : CallR (X.suite a ((a, oe) :: pn)) (.builtin "isinstance") (rIsErr2 X.K cls d a) := by
  intro pins s σ H xs us Q I r h
  obtain ⟨c, cv, b, D, rfl, rfl, hdd, T, hcv, e, q⟩ := h
  obtain ⟨u1, u2, rfl, r1, r2⟩ := vals2 r
  obtain rfl : u1 = Value.ref a := r1
  have ec := hcv.eq r2
  subst ec
  obtain ⟨hget, _⟩ := I.pin (a, oe) (List.mem_append.mpr (.inl List.mem_cons_self))
  obtain ⟨vs, hv⟩ := hf
  have J : ∃ od : Option Obj, PySem.W.InstAt s.heap a oe D od := by
    cases d with
    | none => exact ⟨none, hget, hz.1, by unfold PySem.W.notCls; rw [hv] <;> rfl, by rw [hz.2]; exact trivial⟩
    | some dd =>
      obtain ⟨fs, h⟩ := hdd dd rfl
      obtain ⟨mA, hns, _⟩ := (show ObjOk X.prog X.w H s.heap dd (.xd fs) from I.hok dd _ h)
      obtain ⟨o', es, ep, ho, _⟩ := hns
      exact ⟨some o', hget, hz.1, by unfold PySem.W.notCls; rw [hv] <;> rfl, by rw [hz.2]; exact ho⟩
  obtain ⟨od, J⟩ := J
  exact PySem.W.kia_one (PySem.ErrL.kitx_err T) I.kIn J e (fun z => nomatch z) fun tk => ⟨.bl b, H, I.kept (t' := tk) fun _ _ z => z, rfl, q⟩
theorem call_isErr2K {X : Cx} {K : PySem.W.Frag} {a : Addr} {cls : Value} {d : Option Addr} {oe : Obj} {pn : List (Addr × Obj)} (h : X.K = K) (hz : Zc cls d oe) (hf : ∃ vs, oe.data = .fields vs) : CallR (X.suite a ((a, oe) :: pn)) (.builtin "isinstance") (rIsErr2 K cls d a) := h ▸ call_isErr2 hz hf
end L2
set_option Elab.async false
set_option linter.all false
set_option maxRecDepth 100000
set_option maxHeartbeats 4000000
/-! the draws: an object of six entries -/
namespace Dw
open PySem L2
/-- the entries of the draws -/
def drK (c : Addr) (nx dg rs sd tn : Int) : List (Key × V) :=
  [(.inr "cells", .ref c), (.inr "next", .int nx), (.inr "digits", .int dg), (.inr "rest", .int rs), (.inr "seed", .int sd), (.inr "turn", .int tn)]
section
variable {c : Addr} {nx dg rs sd tn y : Int}
theorem g_cells : valV (drK c nx dg rs sd tn) (.inr "cells") = some (.ref c) := rfl
theorem g_next : valV (drK c nx dg rs sd tn) (.inr "next") = some (.int nx) := rfl
theorem g_digits : valV (drK c nx dg rs sd tn) (.inr "digits") = some (.int dg) := rfl
theorem g_rest : valV (drK c nx dg rs sd tn) (.inr "rest") = some (.int rs) := rfl
theorem g_seed : valV (drK c nx dg rs sd tn) (.inr "seed") = some (.int sd) := rfl
theorem g_turn : valV (drK c nx dg rs sd tn) (.inr "turn") = some (.int tn) := rfl
theorem p_next : putK (drK c nx dg rs sd tn) (.inr "next") (.int y) = drK c y dg rs sd tn := rfl
theorem p_digits : putK (drK c nx dg rs sd tn) (.inr "digits") (.int y) = drK c nx y rs sd tn := rfl
theorem p_rest : putK (drK c nx dg rs sd tn) (.inr "rest") (.int y) = drK c nx dg y sd tn := rfl
theorem p_seed : putK (drK c nx dg rs sd tn) (.inr "seed") (.int y) = drK c nx dg rs y tn := rfl
theorem p_turn : putK (drK c nx dg rs sd tn) (.inr "turn") (.int y) = drK c nx dg rs sd y := rfl
end
/-- the draws at d, their cells at c -/
def Dr (H : Hp) (d c : Addr) : Prop := d ≠ c ∧ ∃ (ns : List Int) (nx dg rs sd tn : Int), H d = some (.dK (drK c nx dg rs sd tn)) ∧ H c = some (.lst (ns.map V.int)) ∧ ns.length ≤ 63 ∧ 0 ≤ nx
theorem Dr.keep {H H' : Hp} {d c : Addr} (x : Dr H d c) (kd : ∀ o, H d = some o → H' d = some o) (kc : ∀ o, H c = some o → H' c = some o) : Dr H' d c := by
  obtain ⟨n, ns, nx, dg, rs, sd, tn, h1, h2, h3, h4⟩ := x
  exact ⟨n, ns, nx, dg, rs, sd, tn, kd _ h1, kc _ h2, h3, h4⟩
theorem Dr.same {H H' : Hp} {d c : Addr} (x : Dr H d c) (k : Same H H') : Dr H' d c := x.keep (k d) (k c)
theorem Dr.upd {H : Hp} {d c a : Addr} {o : HO} (x : Dr H d c) (h1 : d ≠ a) (h2 : c ≠ a) : Dr (upd H a o) d c := x.keep (fun o e => by rw [upd_ne h1]; exact e) (fun o e => by rw [upd_ne h2]; exact e)
theorem Dr.new {H : Hp} {d c a : Addr} {o : HO} (x : Dr H d c) (h : H a = none) : Dr (L2.upd H a o) d c := by
  obtain ⟨n, ns, nx, dg, rs, sd, tn, h1, h2, h3, h4⟩ := id x
  exact x.upd (ne_of_none h1 h) (ne_of_none h2 h)
theorem Dr.ne {H : Hp} {d c a : Addr} (x : Dr H d c) (h : H a = none) : d ≠ a ∧ c ≠ a := by
  obtain ⟨n, ns, nx, dg, rs, sd, tn, h1, h2, h3, h4⟩ := id x
  exact ⟨ne_of_none h1 h, ne_of_none h2 h⟩
/-- all but the object at d is as it was -/
def But (d : Addr) (H H' : Hp) : Prop := ∀ b o, H b = some o → b ≠ d → H' b = some o
theorem But.refl (d : Addr) (H : Hp) : But d H H := fun _ _ h _ => h
theorem But.trans {d : Addr} {H H1 H2 : Hp} (a : But d H H1) (b : But d H1 H2) : But d H H2 := fun c o h n => b c o (a c o h n) n
theorem But.of {d : Addr} {H H1 : Hp} (a : Same H H1) : But d H H1 := fun c o h _ => a c o h
theorem But.upd (d : Addr) (H : Hp) (o : HO) : But d H (L2.upd H d o) := fun c u h n => by rw [upd_ne n]; exact h
theorem But.free {d a : Addr} {H H1 : Hp} (x : But d H H1) (hd : ∀ o, H1 d = some o → True) (h : H1 a = none) (n : a ≠ d) : H a = none := by
  cases e : H a with
  | none => rfl
  | some o => rw [x a o e n] at h; cases h
/-- a draw: a number from 0 to many - 1; nothing but the draws changes -/
def spNext : Sp := fun vs H Q _ => ∃ (d c : Addr) (many : Int), vs = [.ref d, .int many] ∧ Dr H d c ∧ 1 ≤ many ∧ many < 1073741824 ∧
  ∀ (k : Int) (H' : Hp), 0 ≤ k → k < many → Dr H' d c → But d H H' → Q (.int k) H'
/-- the draws of a script -/
def spDigits (K : PySem.W.Frag) : Sp := fun vs H Q _ => ∃ (a : Addr) (ns : List Int) (many : V), vs = [.ref a, many] ∧ SqL K H a (ns.map V.int) ∧ ns.length ≤ 63 ∧
  ∀ (d c : Addr) (H' : Hp), H d = none → H c = none → Dr H' d c → Same H H' → Q (.ref d) H'
theorem dgs {H : Hp} {a : Addr} {kvs : List (Key × V)} {x : Str} {v : V} (e : H a = some (.dK kvs)) (h : valV kvs (.inr x) = some v) : DGet H a (.str x) (some v) := by
  have q := DGet.k (k := .inr x) e
  rw [h] at q
  exact q
theorem dps {H : Hp} {a : Addr} {kvs kvs' : List (Key × V)} {x : Str} {v : V} (e : H a = some (.dK kvs)) (h : putK kvs (.inr x) v = kvs') (hl : kvs.length < sizeLine) : DPut H a (.str x) v (upd H a (.dK kvs')) := by
  have q := DPut.k (k := .inr x) (v := v) e hl
  rw [h] at q
  exact q
theorem dpu {H : Hp} {a : Addr} {kvs kvs' : List (Key × V)} {x : Str} {v : V} (h : putK kvs (.inr x) v = kvs') (hl : kvs.length < sizeLine) : DPut (upd H a (.dK kvs)) a (.str x) v (upd H a (.dK kvs')) := by
  have q := dps (H := upd H a (.dK kvs)) (a := a) upd_same h hl
  rw [upd_upd] at q
  exact q
theorem dr_len {c : Addr} {nx dg rs sd tn : Int} : (drK c nx dg rs sd tn).length < sizeLine := by show 6 < sizeLine; decide
end Dw
set_option Elab.async false
set_option linter.all false
set_option maxRecDepth 100000
set_option maxHeartbeats 4000000
/-! new instances and methods whose error is wished for at the caller's slots -/
namespace L2
open PySem PySem.Spec PyProof.Rows
/-- C(..), C(.., k = v, ..), o.m(..): what is raised is wished for at σ -/
def tMakeS (C : Addr) (sp : Sp) (dvs : List V) (E : St → XK) (t : TA) : TE := fun σ H Q => t σ H fun vs H1 => ∀ x dx, H1 x = none → H1 dx = none → dx ≠ x →
  sp (.ref x :: (vs ++ dvs)) (upd (upd H1 dx (.own x)) x (.ins C dx [])) (fun v H2 => v = .non ∧ Q (.ref x) H2) (E σ)
def tMakeKS (C : Addr) (n m : Nat) (sp : Sp) (gV : List V → List V → List V) (E : St → XK) (t tk : TA) : TE := fun σ H Q => t σ H fun vs H1 => tk σ H1 fun zs H2 => vs.length = n ∧ zs.length = m ∧ ∀ x dx, H2 x = none → H2 dx = none → dx ≠ x →
  sp (gV (.ref x :: vs) zs) (upd (upd H2 dx (.own x)) x (.ins C dx [])) (fun v H3 => v = .non ∧ Q (.ref x) H3) (E σ)
def tMethSA (C : Addr) (m : Str) (sp : Sp) (dvs : List V) (E : St → XK) (ta : TE) (t : TA) : TE := fun σ H Q => ta σ H fun x H1 => ∃ a dx fs, x = .ref a ∧ H1 a = some (.ins C dx fs) ∧ fs.lookup m = none ∧
  t σ H1 fun vs H2 => sp (x :: (vs ++ dvs)) H2 Q (E σ)
section
variable {X : Cx} {CX : CXT} {k n : Nat} {f C : Addr} {fd : FuncData} {ps ks : List Str} {sp : Sp} {E : St → XK} {x m : Str} {p pos apos : Pos} {e o : Expr} {es : List Expr} {kws : List Keyword} {ta : TE} {t tk : TA} {ds : List Value} {dvs : List V} {g : List Value → List Value → List Value} {gV : List V → List V → List V}
theorem mk_back {pins : List (Addr × Obj)} {σ : St} {H : Hp} {s s' : Shared} {Q : VK} {r : Result} {E1 : XK} {a : Addr} (hx : PassesAt CX X σ E1) (I2 : Inv X pins σ H s)
    (hq : CR CX X.stack X.prog X.w H s (fun v H3 => v = .non ∧ Q (.ref a) H3) E1 r s') :
    PySem.W.InitBack a (fun r s' => match r with | .ok (.ret u) => EP X pins σ Q u s' | .ok _ => False | .error e => X.xe e s') r s' := by
  cases r with
  | error e => exact hx pins H s e s' I2 hq
  | ok fl =>
    cases fl with
    | ret u =>
      obtain ⟨v, H', I3, rv, ev, q3⟩ := I2.after hq
      subst ev
      exact ⟨rv, V.ref a, H', I3, rfl, q3⟩
    | next => exact hq.elim
    | brk => exact hq.elim
    | cont => exact hq.elim
theorem run_makeS {pins : List (Addr × Obj)} {σ : St} {H : Hp} {s : Shared} {Q : VK} {us : List Value} {vs : List V} (M : Mk X.K C f) (F : FnOk X.prog X.w X.K X.mg X.base CX k f fd ps sp) (hr : Room (k + 1) X.A) (hb : Binds X.K fd ps ds) (hd : Vals dvs ds)
    (hx : PassesAt CX X σ (E σ)) (I : Inv X pins σ H s) (r : Vals vs us)
    (h : ∀ x dx, H x = none → H dx = none → dx ≠ x → sp (.ref x :: (vs ++ dvs)) (upd (upd H dx (.own x)) x (.ins C dx [])) (fun v H2 => v = .non ∧ Q (.ref x) H2) (E σ)) :
    wpAny (model X.prog X.w) X.A (call (.ref C) us) (EP X pins σ Q) X.xe s := by
  have q0 := h (s.heap.objs.size + 1) s.heap.objs.size (I.hok.fresh (Nat.le_succ _)) (I.hok.fresh (Nat.le_refl _)) (Nat.ne_of_lt (Nat.lt_succ_self _))
  have J := Inv.made (C := C) I
  have rr : Vals (V.ref (s.heap.objs.size + 1) :: (vs ++ dvs)) (Value.ref (s.heap.objs.size + 1) :: (us ++ ds)) := .cons rfl (r.append hd)
  have hl : (Value.ref (s.heap.objs.size + 1) :: us ++ ds).length = ps.length := (rr.length.symm.trans (F.len _ _ _ _ q0))
  exact wpAny_call (make_map (f := f) I.kIn M.makes M.init (beq_iff_eq.mp M.fn) (codeAny_mono (F.run _ X.stack _ _ ⟨Value.ref (s.heap.objs.size + 1) :: us, []⟩ (Value.ref (s.heap.objs.size + 1) :: (us ++ ds)) _ _ (E σ) (hr.make C us [])
    (J.env0.make C us []) (hb _ (Value.ref (s.heap.objs.size + 1) :: us) J.kIn hl) rr q0) fun r s' q => mk_back hx J q))
theorem run_makeKS {pins : List (Addr × Obj)} {σ : St} {H : Hp} {s : Shared} {Q : VK} {us ws : List Value} {vs zs : List V} (M : Mk X.K C f) (F : FnOk X.prog X.w X.K X.mg X.base CX k f fd ps sp) (hr : Room (k + 1) X.A) (hb : KBn X.K fd ps (n + 1) ks g gV) (hx : PassesAt CX X σ (E σ))
    (I : Inv X pins σ H s) (r : Vals vs us) (rz : Vals zs ws) (l1 : vs.length = n) (l2 : zs.length = ks.length)
    (h : ∀ x dx, H x = none → H dx = none → dx ≠ x → sp (gV (.ref x :: vs) zs) (upd (upd H dx (.own x)) x (.ins C dx [])) (fun v H2 => v = .non ∧ Q (.ref x) H2) (E σ)) :
    wpAny (model X.prog X.w) X.A (call (.ref C) us (ks.zip ws)) (EP X pins σ Q) X.xe s := by
  have q0 := h (s.heap.objs.size + 1) s.heap.objs.size (I.hok.fresh (Nat.le_succ _)) (I.hok.fresh (Nat.le_refl _)) (Nat.ne_of_lt (Nat.lt_succ_self _))
  have J := Inv.made (C := C) I
  have rr := hb.rel (show Vals (V.ref (s.heap.objs.size + 1) :: vs) (Value.ref (s.heap.objs.size + 1) :: us) from .cons rfl r) rz
  have n1 : (Value.ref (s.heap.objs.size + 1) :: us).length = n + 1 := congrArg Nat.succ (r.length.symm.trans l1)
  exact wpAny_call (make_map (f := f) I.kIn M.makes M.init (beq_iff_eq.mp M.fn) (codeAny_mono (F.run _ X.stack _ _ ⟨Value.ref (s.heap.objs.size + 1) :: us, ks.zip ws⟩ (g (Value.ref (s.heap.objs.size + 1) :: us) ws) _ _ (E σ) (hr.make C us (ks.zip ws))
    (J.env0.make C us (ks.zip ws)) (hb.to _ (Value.ref (s.heap.objs.size + 1) :: us) ws J.kIn n1 (rz.length.symm.trans l2)) rr q0) fun r s' q => mk_back hx J q))
/-- C(e, ..) -/
theorem pe_makeS (M : Mk X.K C f) (F : FnOk X.prog X.w X.K X.mg X.base CX k f fd ps sp) (hr : Room (k + 1) X.A) (hg : Gl X x) (hm : X.mg x = some (.ref C)) (hb : Binds X.K fd ps ds) (hd : Vals dvs ds) (hx : ∀ σ, PassesAt CX X σ (E σ)) (ha : PA X (e :: es) t)
    (hdb : (x == ("__debug__" : Str)) = false := by decide) (he : starEach (e :: es) X.env = (false, eval e X.env) :: starEach es X.env := by rfl) (hpl : (backTo pos (starEach es X.env)).any (·.1) = false := by rfl) :
    PE X (.Call (.Name x p) (e :: es) [] pos) (tMakeS C sp dvs E t) := ⟨fun pins s σ H Q I h =>
  wpAny_Call_Name_kw (ld_glob I hg hm (PySem.W.callWith_K (h₀ := X.base) I.ok.mod.kin M.kp (thn (ha.run pos pins s σ H _ I h) fun us s1 ⟨vs, H1, I1, r, q⟩ => ⟨I1.kIn, run_makeS M F hr hb hd (hx σ) I1 r q⟩) he hpl) hdb)⟩
/-- C(e, .., k = v, ..) -/
theorem pe_makeKS (M : Mk X.K C f) (F : FnOk X.prog X.w X.K X.mg X.base CX k f fd ps sp) (hr : Room (k + 1) X.A) (hg : Gl X x) (hm : X.mg x = some (.ref C)) (hb : KBn X.K fd ps (n + 1) ks g gV) (hx : ∀ σ, PassesAt CX X σ (E σ)) (ha : PA X (e :: es) t) (hkw : PK X kws tk)
    (hall : (backToKw pos (keywordEach kws X.env)).all (·.1.isSome) = true := by rfl) (hks : (backToKw pos (keywordEach kws X.env)).filterMap (·.1) = ks := by rfl) (hdb : (x == ("__debug__" : Str)) = false := by decide)
    (he : starEach (e :: es) X.env = (false, eval e X.env) :: starEach es X.env := by rfl) (hpl : ((backTo pos (starEach (e :: es) X.env)).any (·.1) || (backToKw pos (keywordEach kws X.env)).any (·.1.isNone)) = false := by rfl) :
    PE X (.Call (.Name x p) (e :: es) kws pos) (tMakeKS C n ks.length sp gV E t tk) := ⟨fun pins s σ H Q I h =>
  wpAny_Call_Name_kw (ld_glob I hg hm (PySem.W.callWith_KW (h₀ := X.base) I.ok.mod.kin M.kp hall (thn (ha.run pos pins s σ H _ I h) fun us s1 ⟨vs, H1, I1, r, q⟩ =>
    thn (hkw.run pos pins s1 σ H1 _ I1 q) fun ws s2 ⟨zs, H2, I2, rz, l1, l2, q2⟩ => ⟨I2.kIn, by rw [hks]; exact run_makeKS M F hr hb (hx σ) I2 r rz l1 l2 q2⟩) hpl he) hdb)⟩
/-- o.m(e, ..) -/
theorem pe_methSA {pl : Sem Bool} (ho : PE X o ta) (c : Cls X.K C) (hm : Meth X.K C m f) (F : FnOk X.prog X.w X.K X.mg X.base CX k f fd ps sp) (hr : Room k X.A) (hb : Binds X.K fd ps []) (hx : ∀ σ, PassesAt CX X σ (E σ)) (ha : PA X (e :: es) t)
    (hst : starEach (e :: es) X.env = (false, eval e X.env) :: starEach es X.env := by rfl) (hpl : (backTo pos (starEach es X.env)).any (·.1) = false := by rfl)
    (ht : eval (.Call (.Attribute o m apos) (e :: es) [] pos) X.env = (do
      let v0 ← eval o X.env
      standAt apos.atName
      let (f1, first) ← holding [v0] (getMethod v0 m pl)
      callWith pos f1 first (backTo pos (starEach (e :: es) X.env)) (backToKw pos (keywordEach [] X.env))) := by rfl) :
    PE X (.Call (.Attribute o m apos) (e :: es) [] pos) (tMethSA C m sp [] E ta t) := by
  refine ⟨fun pins s σ H Q I h => PySem.W.methodCall_KW (pl := pl) (thn (ho.run pins s σ H _ I h) fun u s1 hh => ?_) ht⟩
  obtain ⟨x, H1, I1, rx, a, dx, fs, ex, ea, l, q⟩ := hh
  subst ex
  obtain rfl : u = Value.ref a := rx
  refine getmeth_ok I1 ea c hm l (PySem.W.callWith_K (first := [.ref a]) (h₀ := X.base) I.ok.mod.kin hm.kp (thn (ha.run pos pins s1 σ H1 _ I1 q) fun us s2 hh2 => ?_) hst hpl)
  obtain ⟨vs, H2, I2, r, q2⟩ := hh2
  rw [List.append_nil] at q2
  exact ⟨I2.kIn, run_fnS (us := .ref a :: us) (vs := .ref a :: vs) F hr hb (hx σ) I2 (.cons rfl r) q2⟩
end
end L2
set_option Elab.async false
set_option linter.all false
set_option maxRecDepth 100000
set_option maxHeartbeats 4000000
namespace L2
open PySem PySem.Spec PyProof.Rows
/-- a def of the text that keeps sp, as its callers need it -/
def Cal (P : Program) (w : World) (K : PySem.W.Frag) (mg : Str → Option Value) (base : Heap) (CX : CXT) (k : Nat) (x : Str) (ps : List Str) (sp : Sp) : Prop :=
  ∃ (f : Addr) (fd : FuncData), FnOk P w K mg base CX k f fd ps sp ∧ mg x = some (.ref f) ∧ PySem.W.keepIn K (.ref f) = true ∧ Binds K fd ps []
/-- a method of the class at C that keeps sp -/
def CalM (P : Program) (w : World) (K : PySem.W.Frag) (mg : Str → Option Value) (base : Heap) (CX : CXT) (k : Nat) (C : Addr) (m : Str) (ps : List Str) (sp : Sp) : Prop :=
  ∃ (f : Addr) (fd : FuncData), FnOk P w K mg base CX k f fd ps sp ∧ Meth K C m f ∧ Binds K fd ps []
/-- the class at C makes its instances by sp -/
def CalC (P : Program) (w : World) (K : PySem.W.Frag) (mg : Str → Option Value) (base : Heap) (CX : CXT) (k : Nat) (C : Addr) (ps : List Str) (sp : Sp) : Prop :=
  ∃ (f : Addr) (fd : FuncData), FnOk P w K mg base CX k f fd ps sp ∧ Mk K C f ∧ Binds K fd ps []
/-- where a def stands -/
def Def (K : PySem.W.Frag) (mg : Str → Option Value) (x : Str) (st : Stmt) : Prop := ∃ (f : Addr) (fd : FuncData), Fun K x x st f fd ∧ mg x = some (.ref f)
def DefM (K : PySem.W.Frag) (C : Addr) (m qual : Str) (st : Stmt) : Prop := ∃ (f : Addr) (fd : FuncData), Fun K m qual st f fd ∧ Meth K C m f
def DefC (K : PySem.W.Frag) (C : Addr) (qual : Str) (st : Stmt) : Prop := ∃ (f : Addr) (fd : FuncData), Fun K "__init__" qual st f fd ∧ Mk K C f
section
variable {X : Cx} {CX : CXT} {k : Nat} {ps : List Str} {sp : Sp} {x : Str} {p pos apos : Pos} {e o : Expr} {es : List Expr} {t : TA} {ta : TE} {v : V} {C : Addr} {m : Str}
theorem pe_cal (c : Cal X.prog X.w X.K X.mg X.base CX k x ps sp) (hr : Room k X.A) (ha : PA X (e :: es) t) (hx : Passes CX X E0 := by first | exact pass0 | exact passL) (hg : Gl X x := by rfl) (hdb : (x == ("__debug__" : Str)) = false := by decide) (he : starEach (e :: es) X.env = (false, eval e X.env) :: starEach es X.env := by rfl)
    (hpl : (backTo pos (starEach es X.env)).any (·.1) = false := by rfl) : PE X (.Call (.Name x p) (e :: es) [] pos) (tCall sp [] E0 t) := by
  obtain ⟨f, fd, h1, h2, h3, h4⟩ := c
  exact pe_call h1 hr hg h2 h3 h4 .nil hx ha hdb he hpl
theorem pe_cal0 (c : Cal X.prog X.w X.K X.mg X.base CX k x ps sp) (hr : Room k X.A) (hx : Passes CX X E0 := by first | exact pass0 | exact passL) (hg : Gl X x := by rfl) (hdb : (x == ("__debug__" : Str)) = false := by decide) : PE X (.Call (.Name x p) [] [] pos) (tCall sp [] E0 tNil) := by
  obtain ⟨f, fd, h1, h2, h3, h4⟩ := c
  exact pe_call0 h1 hr hg h2 h3 h4 .nil hx hdb
/-- f(e, ..) within a try: what it raises is wished for at the slots -/
theorem pe_calS {E : St → XK} (c : Cal X.prog X.w X.K X.mg X.base CX k x ps sp) (hr : Room k X.A) (hx : ∀ σ, PassesAt CX X σ (E σ)) (ha : PA X (e :: es) t) (hg : Gl X x := by rfl) (hdb : (x == ("__debug__" : Str)) = false := by decide) (he : starEach (e :: es) X.env = (false, eval e X.env) :: starEach es X.env := by rfl)
    (hpl : (backTo pos (starEach es X.env)).any (·.1) = false := by rfl) : PE X (.Call (.Name x p) (e :: es) [] pos) (tCallS sp E t) := by
  obtain ⟨f, fd, h1, h2, h3, h4⟩ := c
  exact pe_callS h1 hr hg h2 h3 h4 hx ha hdb he hpl
/-- C(e, ..) -/
theorem pe_mk (c : CalC X.prog X.w X.K X.mg X.base CX k C ps sp) (hm : X.mg x = some (.ref C)) (hr : Room (k + 1) X.A) (ha : PA X (e :: es) t) (hx : Passes CX X E0 := by first | exact pass0 | exact passL) (hg : Gl X x := by rfl) (hdb : (x == ("__debug__" : Str)) = false := by decide) (he : starEach (e :: es) X.env = (false, eval e X.env) :: starEach es X.env := by rfl)
    (hpl : (backTo pos (starEach es X.env)).any (·.1) = false := by rfl) : PE X (.Call (.Name x p) (e :: es) [] pos) (tMake C sp [] E0 t) := by
  obtain ⟨f, fd, h1, h2, h4⟩ := c
  exact pe_make h2 h1 hr hg hm h4 .nil hx ha hdb he hpl
theorem pe_mkS {E : St → XK} (c : CalC X.prog X.w X.K X.mg X.base CX k C ps sp) (hm : X.mg x = some (.ref C)) (hr : Room (k + 1) X.A) (hx : ∀ σ, PassesAt CX X σ (E σ)) (ha : PA X (e :: es) t) (hg : Gl X x := by rfl) (hdb : (x == ("__debug__" : Str)) = false := by decide) (he : starEach (e :: es) X.env = (false, eval e X.env) :: starEach es X.env := by rfl)
    (hpl : (backTo pos (starEach es X.env)).any (·.1) = false := by rfl) : PE X (.Call (.Name x p) (e :: es) [] pos) (tMakeS C sp [] E t) := by
  obtain ⟨f, fd, h1, h2, h4⟩ := c
  exact pe_makeS h2 h1 hr hg hm h4 .nil hx ha hdb he hpl
/-- o.m(e, ..), o.m() -/
theorem pe_mth {pl : Sem Bool} (cl : Cls X.K C) (c : CalM X.prog X.w X.K X.mg X.base CX k C m ps sp) (hr : Room k X.A) (ho : PE X o ta) (ha : PA X (e :: es) t) (hx : Passes CX X E0 := by first | exact pass0 | exact passL) (hst : starEach (e :: es) X.env = (false, eval e X.env) :: starEach es X.env := by rfl) (hpl : (backTo pos (starEach es X.env)).any (·.1) = false := by rfl)
    (ht : eval (.Call (.Attribute o m apos) (e :: es) [] pos) X.env = (do
      let v0 ← eval o X.env
      standAt apos.atName
      let (f1, first) ← holding [v0] (getMethod v0 m pl)
      callWith pos f1 first (backTo pos (starEach (e :: es) X.env)) (backToKw pos (keywordEach [] X.env))) := by rfl) : PE X (.Call (.Attribute o m apos) (e :: es) [] pos) (tMeth C m sp [] E0 ta t) := by
  obtain ⟨f, fd, h1, h2, h4⟩ := c
  exact pe_meth ho cl h2 h1 hr h4 .nil hx ha hst hpl ht
theorem pe_mth0 {pl : Sem Bool} (cl : Cls X.K C) (c : CalM X.prog X.w X.K X.mg X.base CX k C m ps sp) (hr : Room k X.A) (ho : PE X o ta) (hx : Passes CX X E0 := by first | exact pass0 | exact passL)
    (ht : eval (.Call (.Attribute o m apos) [] [] pos) X.env = (do
      let v0 ← eval o X.env
      standAt apos.atName
      let (f1, first) ← holding [v0] (getMethod v0 m pl)
      callWith pos f1 first (backTo pos (starEach [] X.env)) (backToKw pos (keywordEach [] X.env))) := by rfl) : PE X (.Call (.Attribute o m apos) [] [] pos) (tMeth C m sp [] E0 ta tNil) := by
  obtain ⟨f, fd, h1, h2, h4⟩ := c
  exact pe_meth0 ho cl h2 h1 hr h4 .nil hx ht
theorem pe_mthS {pl : Sem Bool} {E : St → XK} (cl : Cls X.K C) (c : CalM X.prog X.w X.K X.mg X.base CX k C m ps sp) (hr : Room k X.A) (ho : PE X o ta) (hx : ∀ σ, PassesAt CX X σ (E σ)) (ha : PA X (e :: es) t) (hst : starEach (e :: es) X.env = (false, eval e X.env) :: starEach es X.env := by rfl) (hpl : (backTo pos (starEach es X.env)).any (·.1) = false := by rfl)
    (ht : eval (.Call (.Attribute o m apos) (e :: es) [] pos) X.env = (do
      let v0 ← eval o X.env
      standAt apos.atName
      let (f1, first) ← holding [v0] (getMethod v0 m pl)
      callWith pos f1 first (backTo pos (starEach (e :: es) X.env)) (backToKw pos (keywordEach [] X.env))) := by rfl) : PE X (.Call (.Attribute o m apos) (e :: es) [] pos) (tMethSA C m sp [] E ta t) := by
  obtain ⟨f, fd, h1, h2, h4⟩ := c
  exact pe_methSA ho cl h2 h1 hr h4 hx ha hst hpl ht
end
/-- a module's constant -/
theorem pe_gl {X : Cx} {x : Str} {pos : Pos} {v : V} (h : ∃ u, X.mg x = some u ∧ RelV v u) (hg : Gl X x := by rfl) (hdb : (x == ("__debug__" : Str)) = false := by decide) : PE X (.Name x pos) (tC v) := by
  obtain ⟨u, hm, r⟩ := h
  exact pe_glob hg hm r hdb
/-- a built-in class as a value -/
theorem pe_ty {X : Cx} {x : Str} {pos : Pos} (n : String) (hm : X.mg x = none) (hg : Gl X x := by rfl) (hv : bootBuiltins x = some (.type n) := by decide +kernel) (hn : x ≠ "__name__" := by decide) (hd : (x == ("__debug__" : Str)) = false := by decide) : PE X (.Name x pos) (tC (.ty n)) :=
  pe_bltn hg hm hv rfl hn hd
/-- an own class as a value -/
theorem pe_cls {X : Cx} {x : Str} {pos : Pos} {C : Addr} (hm : X.mg x = some (.ref C)) (hg : Gl X x := by rfl) (hd : (x == ("__debug__" : Str)) = false := by decide) : PE X (.Name x pos) (tC (.ref C)) := pe_glob hg hm rfl hd
/-- a plain value and the name of its type -/
inductive Dm (K : PySem.W.Frag) (H : Hp) : V → String → Prop where
  | non : Dm K H .non "NoneType"
  | bl (b : Bool) : Dm K H (.bl b) "bool"
  | int (i : Int) : Dm K H (.int i) "int"
  | str (x : Str) (h : x.length ≤ sizeLine) : Dm K H (.str x) "str"
  | lst {a : Addr} {xs : List V} (e : H a = some (.lst xs)) : Dm K H (.ref a) "list"
  | tup {a : Addr} {xs : List V} (e : H a = some (.tup xs)) : Dm K H (.ref a) "tuple"
section
variable {K : PySem.W.Frag} {H H' : Hp} {v : V} {n : String}
theorem Dm.mono (d : Dm K H v n) (k : ∀ a o, v = .ref a → H a = some o → (∃ o', H' a = some o' ∧ ((∃ xs ys, o = .lst xs ∧ o' = .lst ys) ∨ o' = o))) : Dm K H' v n := by
  cases d with
  | non => exact .non
  | bl b => exact .bl b
  | int i => exact .int i
  | str x h => exact .str x h
  | lst e =>
    obtain ⟨o', h1, h2⟩ := k _ _ rfl e
    rcases h2 with ⟨xs, ys, _, h3⟩ | h3
    · subst h3; exact .lst h1
    · subst h3; exact .lst h1
  | tup e =>
    obtain ⟨o', h1, h2⟩ := k _ _ rfl e
    rcases h2 with ⟨xs, ys, h3, _⟩ | h3
    · cases h3
    · subst h3; exact .tup h1
theorem Dm.same (d : Dm K H v n) (k : Same H H') : Dm K H' v n := d.mono fun a o _ e => ⟨o, k a o e, .inr rfl⟩
theorem Dm.ty (d : Dm K H v n) : TyX K H v (.type n) := by
  cases d with
  | non => exact .base .non
  | bl b => exact .base (.bl b)
  | int i => exact .base (.int i)
  | str x h => exact .base (.str x)
  | lst e => exact .base (.lst e)
  | tup e => exact .base (.tup e)
end
theorem sNew {H : Hp} {p : Addr} {o : HO} (h : H p = none) : Same H (upd H p o) := fun b u e => by rw [upd_ne (ne_of_none e h)]; exact e
/-! the same rules, the written part named -/
section
variable {X : Cx} {K : PySem.W.Frag}
theorem ix_listK (h : X.K = K) : IxR X (rIxL K) := h ▸ ix_list
theorem ix_tupK (h : X.K = K) : IxR X (rIxT K) := h ▸ ix_tup
theorem call_isiK' (h : X.K = K) : CallR X (.builtin "isinstance") (rIsi K) := h ▸ call_isi
theorem call_isiTK (h : X.K = K) : CallR X (.builtin "isinstance") (rIsiT K) := h ▸ call_isiT
theorem sl_listK (h : X.K = K) : SlR X (rSlL K) := h ▸ sl_list
end
/-- a comprehension over a text -/
theorem lc_str {x : Str} {g : TG} {tt : TT} {te : TE} {vs : List Nat} {σ : St} {H1 : Hp} {D : Addr} {Qd : Hp → Prop} (Pv : Nat → Hp → Prop) (h0 : Pv 0 (upd H1 D (.lst [])))
    (hs : ∀ i c H, x.cps[i]? = some c → Pv i H → g (.str ⟨#[c]⟩) (wipe σ vs) H fun σ2 H2 => wipe σ2 vs = wipe σ vs ∧ tt σ2 H2 fun b H3 =>
      if b = true then te σ2 H3 fun y H4 => ∃ acc, H4 D = some (.lst acc) ∧ acc.length < sizeLine ∧ Pv (i + 1) (upd H4 D (.lst (acc ++ [y]))) else Pv (i + 1) H3) (hd : ∀ H, Pv x.cps.size H → Qd H) :
    ∃ W : Nat → Nat → Hp → Prop, (∃ m, W 0 m (upd H1 D (.lst []))) ∧ ∀ i m H, W i m H →
      ((Its x).stop i H ∧ Qd H) ∨ ((Its x).go i H ∧ ∃ Nx : Hp → Prop, (∀ H', Nx H' → ∃ m', m' < m ∧ W (i + 1) m' H') ∧ ∀ y H', (Its x).yld i H y H' → g y (wipe σ vs) H' fun σ2 H2 => wipe σ2 vs = wipe σ vs ∧ tt σ2 H2 fun b H3 =>
        if b = true then te σ2 H3 fun y H4 => ∃ acc, H4 D = some (.lst acc) ∧ acc.length < sizeLine ∧ Nx (upd H4 D (.lst (acc ++ [y]))) else Nx H3) := by
  refine ⟨fun i m H => m = x.cps.size - i ∧ i ≤ x.cps.size ∧ Pv i H, ⟨x.cps.size, by simp, Nat.zero_le _, h0⟩, ?_⟩
  rintro i m H ⟨rfl, hi, p⟩
  by_cases hlt : i < x.cps.size
  · refine .inr ⟨hlt, Pv (i + 1), fun H' p' => ⟨x.cps.size - (i + 1), by omega, rfl, by omega, p'⟩, ?_⟩
    rintro y H' ⟨rfl, c, hc, rfl⟩
    exact hs i c H' hc p
  · have e : i = x.cps.size := by omega
    subst e
    exact .inl ⟨Nat.le_refl _, hd H p⟩
/-- a for over a text -/
theorem for_strT {x : Str} {g : TG} {tb : TS} {D : Ends} {σ : St} {H : Hp} (Pv : Nat → St → Hp → Prop) (h0 : Pv 0 σ H)
    (hs : ∀ i c σ H, x.cps[i]? = some c → Pv i σ H → g (.str ⟨#[c]⟩) σ H fun σ2 H2 => tb { D with nx := Pv (i + 1), ct := Pv (i + 1), bk := D.nx } σ2 H2) (hd : ∀ σ H, Pv x.cps.size σ H → D.nx σ H) :
    ∃ W : Nat → Nat → St → Hp → Prop, (∃ m, W 0 m σ H) ∧ ∀ i m σ H, W i m σ H →
      ((Its x).stop i H ∧ D.nx σ H) ∨ ((Its x).go i H ∧ ∃ N : St → Hp → Prop, (∀ σ' H', N σ' H' → ∃ m', m' < m ∧ W (i + 1) m' σ' H') ∧ ∀ y H', (Its x).yld i H y H' → g y σ H' fun σ2 H2 => tb { D with nx := N, ct := N, bk := D.nx } σ2 H2) := by
  refine ⟨fun i m σ H => m = x.cps.size - i ∧ i ≤ x.cps.size ∧ Pv i σ H, ⟨x.cps.size, by simp, Nat.zero_le _, h0⟩, ?_⟩
  rintro i m σ H ⟨rfl, hi, p⟩
  by_cases hlt : i < x.cps.size
  · refine .inr ⟨hlt, Pv (i + 1), fun σ' H' p' => ⟨x.cps.size - (i + 1), by omega, rfl, by omega, p'⟩, ?_⟩
    rintro y H' ⟨rfl, c, hc, rfl⟩
    exact hs i c σ H' hc p
  · have e : i = x.cps.size := by omega
    subst e
    exact .inl ⟨Nat.le_refl _, hd σ H p⟩
end L2
set_option Elab.async false
set_option linter.all false
set_option maxRecDepth 100000
set_option maxHeartbeats 4000000
/-! own errors held as values -/
namespace L2
open PySem PySem.Spec PyProof.Rows
section
variable {X : Cx} {C : Addr} {fs : List Str} {ok : List Value → Prop} {x : Str} {e : Expr} {es : List Expr} {ta : TA} {p p1 p2 pos : Pos}
/-- X(e, ..), a value: the error and its dict -/
def tErV (C : Addr) (fs : List Str) (okV : List V → Prop) (ta : TA) : TE := fun σ H Q => ta σ H fun vs H1 => vs.length = fs.length ∧ okV vs ∧ ∀ a d, H1 a = none → H1 d = none → d ≠ a → Q (.ref a) (upd (upd H1 d (exd d (fs.zip vs))) a (exo a C (some d)))
theorem pe_erV {k : Nat} {okV : List V → Prop} (T : PySem.ErrL.Makes X.prog X.w X.K X.mg C fs ok) (hok : ∀ vs us, Vals vs us → okV vs → ok us) (gC : X.mg x = some (.ref C)) (hr : Room k X.A) (ha : PA X (e :: es) ta) (hg : Gl X x := by rfl)
    (hdb : (x == ("__debug__" : Str)) = false := by decide) (he : starEach (e :: es) X.env = (false, eval e X.env) :: starEach es X.env := by rfl) (hpl : (backTo pos (starEach es X.env)).any (·.1) = false := by rfl) :
    PE X (.Call (.Name x p) (e :: es) [] pos) (tErV C fs okV ta) := by
  refine ⟨fun pins s σ H Q I h => ?_⟩
  refine wpAny_Call_Name_kw (ld_glob I hg gC ?_ hdb)
  refine PySem.W.callWith_K (h₀ := X.base) I.ok.mod.kin T.kC (thn (ha.run pos pins s σ H _ I h) fun us s1 hh => ?_) he hpl
  obtain ⟨vs, H1, I1, r1, hl, hov, q1⟩ := hh
  refine ⟨I1.kIn, ?_⟩
  show wpAny _ _ (call (.ref C) us) _ _ _
  obtain ⟨mb, hmb, hbt⟩ := I1.mod.blt
  have hlim := I1.nolimit
  have hgl := I1.mod.glob.keeps I1.bk
  have hbl := hmb.keeps I1.bk
  have kin := I1.kIn
  obtain ⟨hp, g, dr, tk, os⟩ := s1
  refine wpAny_call (T.run _ _ us mb _ (by rw [← hl]; exact (Vals.length r1).symm) (hok vs us r1 hov) kin hlim hgl hbl hbt (by have := hr.dp; omega) fun h' tk' a d mA hmA M => ?_)
  obtain ⟨t1, hoe⟩ := M.obj
  have ha0 : hp.get? a = none := Heap.get?_none_of_le M.new
  have hd0 : hp.get? d = none := Heap.get?_none_of_le M.dbig
  have na : H1 a = none := I1.hok.fresh M.new
  have nd : H1 d = none := I1.hok.fresh M.dbig
  have rel : ∀ f, RelO ((fs.zip vs).lookup f) (mA f) := fun f => by rw [hmA]; exact relO_zip r1 f
  have U : Un X.fs [] H1 (upd (upd H1 d (exd d (fs.zip vs))) a (exo a C (some d))) hp h' := {
    keep := fun b u q _ _ _ => M.keep b u q
    slot := fun b u q _ _ _ => ⟨u.slots, M.keep b u q⟩
    free := fun b u q n _ => by rw [upd_ne (fun z => by rw [z, ha0] at q; cases q), upd_ne (fun z => by rw [z, hd0] at q; cases q)]; exact n
    there := fun b u q _ => ⟨u, M.keep b u q⟩
    tups := fun b xs q => by rw [upd_ne (ne_of_none q na), upd_ne (ne_of_none q nd)]; exact q
    frzs := fun b u xs q => by rw [upd_ne (ne_of_none q na), upd_ne (ne_of_none q nd)]; exact q
    tbls := fun b ps q => ⟨#[], by rw [upd_ne (ne_of_none q na), upd_ne (ne_of_none q nd), q]; simp⟩ }
  have hok2 : HOk X.prog X.w (upd (upd H1 d (exd d (fs.zip vs))) a (exo a C (some d))) h' := fun b u q => by
    by_cases hb : b = a
    · subst hb
      rw [upd_same] at q
      cases q
      exact exo_ok hoe
    · rw [upd_ne hb] at q
      by_cases hb2 : b = d
      · subst hb2
        rw [upd_same] at q
        cases q
        exact exd_ok M.ns rel
      · rw [upd_ne hb2] at q
        exact (I1.hok b u q).stay (fun c v _ z => M.keep c v z) (fun c z => by rw [upd_ne (ne_of_none z na), upd_ne (ne_of_none z nd)]; exact z) fun c xs z => by rw [upd_ne (ne_of_none z na), upd_ne (ne_of_none z nd)]; exact z
  exact ⟨.ref a, _, I1.un (t' := tk') U hok2, rfl, q1 a d na nd M.dne⟩
/-- X(e, ..), a value, X's own __init__ walked -/
def tOeV (C : Addr) (sp : Sp) (dvs : List V) (ta : TA) : TE := fun σ H Q => ta σ H fun vs H1 => vs.length ≤ 1000 ∧ ∀ a, H1 a = none → sp (.ref a :: (vs ++ dvs)) (upd H1 a (exo a C none)) (fun v H2 => v = .non ∧ Q (.ref a) H2) (fun _ _ _ => False)
theorem run_oeV {CX : CXT} {fI : Addr} {k : Nat} {fd : FuncData} {ps : List Str} {sp : Sp} {ds : List Value} {dvs : List V} {pins : List (Addr × Obj)} {σ : St} {H1 : Hp} {s1 : Shared} {Q : VK} {us : List Value} {vs : List V} (T : OexC X.K C) (iC : PySem.W.findIn X.K (.ref C) "__init__" = some (some (.ref fI))) (tI : PySem.W.typeIn X.K (.ref fI) = some (.type "function"))
    (F1 : FnOk X.prog X.w X.K X.mg X.base CX k fI fd ps sp) (hr : Room (k + 1) X.A) (hb : Binds X.K fd ps ds) (hd : Vals dvs ds) (hx : Passes CX X (fun _ _ _ => False)) (I1 : Inv X pins σ H1 s1) (r1 : Vals vs us) (hz : vs.length ≤ 1000)
    (q1 : ∀ a, H1 a = none → sp (.ref a :: (vs ++ dvs)) (upd H1 a (exo a C none)) (fun v H2 => v = .non ∧ Q (.ref a) H2) (fun _ _ _ => False)) : wpAny (model X.prog X.w) X.A (call (.ref C) us) (EP X pins σ Q) X.xe s1 := by
  obtain ⟨nm, q, N, bs, bm, sn, sub, ab, col, dd, k0, k1, k2, k3, k5, hC, hbm⟩ := T.cls
  obtain ⟨hp, g, dr, tk, os⟩ := s1
  have hsz : hp.objs.size ≤ hp.objs.size + 1 := Nat.le_succ _
  have hn : H1 (hp.objs.size + 1) = none := I1.hok.fresh hsz
  have hq := q1 (hp.objs.size + 1) hn
  have kk : ∀ b o, hp.get? b = some o → ((hp.push (PySem.W.kdv_tup us)).push (PySem.HandSPX.excO C hp.objs.size)).get? b = some o := fun b o e => Heap.get?_push_of_some _ (Heap.get?_push_of_some _ e)
  have hget : ((hp.push (PySem.W.kdv_tup us)).push (PySem.HandSPX.excO C hp.objs.size)).get? (hp.objs.size + 1) = some (PySem.HandSPX.excO C hp.objs.size) := by heap_get
  have I2 : Inv X pins σ (upd H1 (hp.objs.size + 1) (exo (hp.objs.size + 1) C none)) ⟨(hp.push (PySem.W.kdv_tup us)).push (PySem.HandSPX.excO C hp.objs.size), g, dr, tk, os⟩ :=
    I1.laid (t' := tk) (a := hp.objs.size + 1) (o := exo (hp.objs.size + 1) C none) (h' := (hp.push (PySem.W.kdv_tup us)).push (PySem.HandSPX.excO C hp.objs.size)) kk hsz (exo_ok hget)
  have r2 : Vals (V.ref (hp.objs.size + 1) :: (vs ++ dvs)) (Value.ref (hp.objs.size + 1) :: (us ++ ds)) := .cons rfl (r1.append hd)
  have hl : (Value.ref (hp.objs.size + 1) :: us ++ ds).length = ps.length := by
    have e := r2.length
    rw [F1.len _ _ _ _ hq] at e
    exact e.symm
  have hus : us.length ≤ sizeLine := by
    rw [← Paired.length r1, sizeLine_eq]
    omega
  refine wpAny_call (PySem.HandSPX.call_own F.excBase_ValueError (fun Y => PySem.HandSPX.refsVE_contains Y bm hbm) (I1.kIn _ _ hC) (PySem.W.looks_findIn I1.kIn iC) (fun self => PySem.W.bind_fn I1.kIn self tI) hus
    (codeAny_mono (F1.run _ X.stack _ _ ⟨Value.ref (hp.objs.size + 1) :: us, []⟩ (Value.ref (hp.objs.size + 1) :: (us ++ ds)) _ _ (fun _ _ _ => False) (hr.make C us []) (I2.env0.make C us []) (hb _ (Value.ref (hp.objs.size + 1) :: us) I2.kIn hl) r2 hq) fun r s' hq' => ?_))
  cases r with
  | error er => exact hx pins σ _ _ er s' I2 hq'
  | ok fl =>
    cases fl with
    | ret u =>
      obtain ⟨v, H2, J, rv, ev, q2⟩ := I2.after hq'
      subst ev
      exact ⟨rv, .ref (hp.objs.size + 1), H2, J, rfl, q2⟩
    | next => exact False.elim hq'
    | brk => exact False.elim hq'
    | cont => exact False.elim hq'
theorem pe_oeV {CX : CXT} {fI : Addr} {k : Nat} {fd : FuncData} {ps : List Str} {sp : Sp} {ds : List Value} {dvs : List V} (T : OexC X.K C) (iC : PySem.W.findIn X.K (.ref C) "__init__" = some (some (.ref fI))) (tI : PySem.W.typeIn X.K (.ref fI) = some (.type "function"))
    (F1 : FnOk X.prog X.w X.K X.mg X.base CX k fI fd ps sp) (hr : Room (k + 1) X.A) (hb : Binds X.K fd ps ds) (hd : Vals dvs ds) (hx : Passes CX X (fun _ _ _ => False)) (hm : X.mg x = some (.ref C)) (ha : PA X (e :: es) ta) (hg : Gl X x := by rfl)
    (hdb : (x == ("__debug__" : Str)) = false := by decide) (he : starEach (e :: es) X.env = (false, eval e X.env) :: starEach es X.env := by rfl) (hpl : (backTo pos (starEach es X.env)).any (·.1) = false := by rfl) :
    PE X (.Call (.Name x p) (e :: es) [] pos) (tOeV C sp dvs ta) := by
  refine ⟨fun pins s σ H Q I h => ?_⟩
  refine wpAny_Call_Name_kw (ld_glob I hg hm ?_ hdb)
  refine PySem.W.callWith_K (h₀ := X.base) I.ok.mod.kin T.kC (thn (ha.run pos pins s σ H _ I h) fun us s1 ⟨vs, H1, I1, r1, hz, q1⟩ => ⟨I1.kIn, ?_⟩) he hpl
  exact run_oeV T iC tI F1 hr hb hd hx I1 r1 hz q1
theorem pe_oeV0 {CX : CXT} {fI : Addr} {k : Nat} {fd : FuncData} {ps : List Str} {sp : Sp} {ds : List Value} {dvs : List V} (T : OexC X.K C) (iC : PySem.W.findIn X.K (.ref C) "__init__" = some (some (.ref fI))) (tI : PySem.W.typeIn X.K (.ref fI) = some (.type "function"))
    (F1 : FnOk X.prog X.w X.K X.mg X.base CX k fI fd ps sp) (hr : Room (k + 1) X.A) (hb : Binds X.K fd ps ds) (hd : Vals dvs ds) (hx : Passes CX X (fun _ _ _ => False)) (hm : X.mg x = some (.ref C)) (hg : Gl X x := by rfl)
    (hdb : (x == ("__debug__" : Str)) = false := by decide) : PE X (.Call (.Name x p) [] [] pos) (tOeV C sp dvs tNil) := by
  refine ⟨fun pins s σ H Q I h => ?_⟩
  refine wpAny_Call_Name_kw (ld_glob I hg hm ?_ hdb)
  exact PySem.W.callWith_K0 I.kIn T.kC (run_oeV (us := []) T iC tI F1 hr hb hd hx I .nil h.1 h.2)
/-- X(), a value, X a class without a text of its own -/
theorem pe_exV0 {bmB : List Value} {B newId initId : String} (F : ExcBaseFacts B newId initId bmB) (q : PySem.W.excIn X.K C bmB newId = true) (gC : X.mg x = some (.ref C)) (kC : PySem.W.keepIn X.K (.ref C) = true) (hg : Gl X x := by rfl) (hdb : (x == ("__debug__" : Str)) = false := by decide) :
    PE X (.Call (.Name x p) [] [] pos) (fun σ H Q => ∀ a, H a = none → Q (.ref a) (upd H a (exo a C none))) := by
  refine ⟨fun pins s σ H Q I h => ?_⟩
  refine wpAny_Call_Name_kw (ld_glob I hg gC ?_ hdb)
  refine PySem.W.callWith_K0 I.kIn kC ?_
  show wpAny _ _ (call (.ref C) []) _ _ _
  obtain ⟨bm, N, nm, qn, bs, hdct, sn, sub, ab, col, dd, k0, k1, k2, k3, k5, mN, hC, hN, hni, T⟩ := exc_obj I.kIn q
  refine wpAny_call_exc_subT F T hC hN hni (fun h' a hm => ?_) (by show 0 ≤ sizeLine; omega)
  have hn : H a = none := I.hok.gone hm.new
  obtain ⟨t, ht, _, _⟩ := hm.there
  exact ⟨.ref a, upd H a (exo a C none), I.laidN hm.keeps hm.new hn (exo_ok ht), rfl, h a hn⟩
/-- raise X() -/
theorem pmk_ex0 {bmB : List Value} {B newId initId : String} (F : ExcBaseFacts B newId initId bmB) (q : PySem.W.excIn X.K C bmB newId = true) (gC : X.mg x = some (.ref C)) (kC : PySem.W.keepIn X.K (.ref C) = true) (r : Raises X (.ref C)) (hg : Gl X x := by rfl) (hdb : (x == ("__debug__" : Str)) = false := by decide) :
    PMk X (.Call (.Name x p) [] [] pos) (fun _ H Q => Q (.ref C) none H) := by
  intro pins s σ H Q I h
  refine wpAny_Call_Name_kw (ld_glob I hg gC ?_ hdb)
  refine PySem.W.callWith_K0 I.kIn kC ?_
  show wpAny _ _ (call (.ref C) []) _ _ _
  obtain ⟨bm, N, nm, qn, bs, hdct, sn, sub, ab, col, dd, k0, k1, k2, k3, k5, mN, hC, hN, hni, T⟩ := exc_obj I.kIn q
  refine wpAny_call_exc_subT F T hC hN hni (fun h' e hm => ?_) (by show 0 ≤ sizeLine; omega)
  exact mk_of I hm r h (I.hok.gone hm.new)
/-- B.__init__(self, ..), B an own class that leaves it to ValueError -/
theorem pe_deinit {pl : Sem Bool} {B : Addr} {mc : Value} (r : ClX.CRead X.K B mc) (vV : PySem.W.findCls X.K (.ref B) mc "__init__" = some (.val (.builtin "ValueError.__init__"))) (hm : X.mg x = some (.ref B)) (ha : PA X (e :: es) ta)
    (hc : eval (.Call (.Attribute (.Name x p1) "__init__" p2) (e :: es) [] pos) X.env = (do
      let ov ← eval (.Name x p1) X.env
      standAt p2.atName
      let (f, first) ← holding [ov] (getMethod ov "__init__" pl)
      callWith pos f first (backTo pos (starEach (e :: es) X.env)) (backToKw pos (keywordEach [] X.env))) := by rfl) (hg : Gl X x := by rfl) (hdb : (x == ("__debug__" : Str)) = false := by decide)
    (he : starEach (e :: es) X.env = (false, eval e X.env) :: starEach es X.env := by rfl) (hpl : (backTo pos (starEach es X.env)).any (·.1) = false := by rfl) :
    PE X (.Call (.Attribute (.Name x p1) "__init__" p2) (e :: es) [] pos) (tVeI X.K ta) := by
  refine ⟨fun pins s σ H Q I h => ?_⟩
  refine PySem.W.methodCall_KW (ld_glob I hg hm ?_ hdb) hc
  refine PySem.W.method_cls I.kIn r.ga (PySem.W.cls_value I.kIn r.rd vV (by rfl) ?_)
  show wpAny _ _ (callWith pos (Value.builtin "ValueError.__init__") [] (backTo pos (starEach (e :: es) X.env)) []) _ _ _
  refine PyProof.Rows.callWith_method1 (thn (ha.run pos pins _ σ H _ (I.tok _) h) fun us s1 ⟨vs, H1, I1, r1, a, C, ws, ev, hl, T, ea, q⟩ => ?_) he hpl
  subst ev
  cases r1 with
  | @cons _ u0 _ ur ra rw' =>
    obtain rfl : u0 = Value.ref a := ra
    have hlen : ur.length ≤ sizeLine := by
      rw [← Paired.length rw', sizeLine_eq]
      omega
    exact oinit_ok T I1 ea hlen fun s' J => ⟨.non, H1, J, rfl, q⟩
/-- e.f, e an error that is a value -/
def tFldE (K : PySem.W.Frag) (f : Str) (te : TE) : TE := fun σ H Q => te σ H fun x H1 => ∃ (a C d : Addr) (fs : List (Str × V)) (v : V), x = .ref a ∧ H1 a = some (exo a C (some d)) ∧ H1 d = some (exd d fs) ∧ XfC K C ∧ PySem.W.findIn K (.ref C) f = some none ∧ fs.lookup f = some v ∧ Q v H1
theorem pe_fldE {o : Expr} {te : TE} {n : Str} (he : PE X o te) (hb : attributeBase o n X.env (eval o X.env) = eval o X.env := by rfl) : PE X (.Attribute o n pos) (tFldE X.K n te) := by
  refine ⟨fun pins s σ H Q I h => ?_⟩
  refine attr_of hb (thn (he.run pins s σ H _ I h) fun u s1 hh => ?_)
  obtain ⟨x, H1, I1, rx, a, C, d, fs, v, ex, ea, ed, T, hno, l, q⟩ := hh
  subst ex
  obtain rfl : u = Value.ref a := rx
  obtain ⟨t1, ho⟩ := exo_at I1.hok ea
  obtain ⟨mA, hns, hr⟩ := exd_at I1.hok ed
  obtain ⟨od, hod, hl⟩ := lookIn_ns hns
  obtain ⟨u, hu, ru⟩ := RelO.some_of (v := v) (o := mA n) (by rw [← l]; exact hr n)
  have J : PySem.W.InstAt s1.heap a { cls := .ref C, dict := some d, data := .fields #[.ref t1, .none, .none, .none, .bool false, .none] } C (some od) := ⟨ho, rfl, rfl, hod⟩
  exact HandSPX.exc_get I1.kIn J T.ga T.gg T.exC (PySem.W.findObj_own T.hdC hno rfl (by rw [hl, hu])) (handed_of ru) ⟨v, H1, I1.tok _, ru, q⟩
/-- isinstance(e, c), e an error that is a value -/
def rIsEv (K : PySem.W.Frag) : List V → Hp → VK → Prop := fun xs H Q => ∃ (a C : Addr) (d : Option Addr) (c : V) (cv : Value) (b : Bool), xs = [.ref a, c] ∧ H a = some (exo a C d) ∧ (∀ dd, d = some dd → ∃ fs, H dd = some (exd dd fs)) ∧ ExcC K C ∧ ClsV c cv ∧ PySem.W.kitOne K (.ref C) cv = some b ∧ Q (.bl b) H
theorem call_isEv : CallR X (.builtin "isinstance") (rIsEv X.K) := by
  intro pins s σ H xs us Q I r h
  obtain ⟨a, C, d, c, cv, b, rfl, ea, hd, T, hcv, e, q⟩ := h
  obtain ⟨u1, u2, rfl, r1, r2⟩ := vals2 r
  obtain rfl : u1 = Value.ref a := r1
  have ec := hcv.eq r2
  subst ec
  obtain ⟨t1, ho⟩ := exo_at I.hok ea
  have hod : ∃ od : Option Obj, PySem.W.InstAt s.heap a { cls := .ref C, dict := d, data := .fields #[.ref t1, .none, .none, .none, .bool false, .none] } C od := by
    cases d with
    | none => exact ⟨none, ho, rfl, rfl, trivial⟩
    | some dd =>
      obtain ⟨fs, ed⟩ := hd dd rfl
      obtain ⟨mA, hns, hr⟩ := exd_at I.hok ed
      obtain ⟨od, hod, hl⟩ := lookIn_ns hns
      exact ⟨some od, ho, rfl, rfl, hod⟩
  obtain ⟨od, J⟩ := hod
  exact PySem.W.kia_one (PySem.ErrL.kitx_err T) I.kIn J e (fun z => nomatch z) fun tk => ⟨.bl b, H, I.kept (t' := tk) fun _ _ z => z, rfl, q⟩
/-- the class at C makes its errors by a maker that is walked -/
def CalO (P : Program) (w : World) (K : PySem.W.Frag) (mg : Str → Option Value) (base : Heap) (k : Nat) (C : Addr) (ps : List Str) (sp : Sp) : Prop :=
  OexC K C ∧ ∃ (f : Addr) (fd : FuncData), FnOk P w K mg base CX0 k f fd ps sp ∧ PySem.W.findIn K (.ref C) "__init__" = some (some (.ref f)) ∧ PySem.W.typeIn K (.ref f) = some (.type "function") ∧ Binds K fd ps []
theorem pe_calO {k : Nat} {ps : List Str} {sp : Sp} (c : CalO X.prog X.w X.K X.mg X.base k C ps sp) (hm : X.mg x = some (.ref C)) (hr : Room (k + 1) X.A) (ha : PA X (e :: es) ta) (hx : Passes CX0 X (fun _ _ _ => False) := by first | exact pass0 | exact passL) (hg : Gl X x := by rfl)
    (hdb : (x == ("__debug__" : Str)) = false := by decide) (he : starEach (e :: es) X.env = (false, eval e X.env) :: starEach es X.env := by rfl) (hpl : (backTo pos (starEach es X.env)).any (·.1) = false := by rfl) :
    PE X (.Call (.Name x p) (e :: es) [] pos) (tOeV C sp [] ta) := by
  obtain ⟨T, f, fd, h1, h2, h3, h4⟩ := c
  exact pe_oeV T h2 h3 h1 hr h4 .nil hx hm ha hg hdb he hpl
theorem pe_calO0 {k : Nat} {ps : List Str} {sp : Sp} (c : CalO X.prog X.w X.K X.mg X.base k C ps sp) (hm : X.mg x = some (.ref C)) (hr : Room (k + 1) X.A) (hx : Passes CX0 X (fun _ _ _ => False) := by first | exact pass0 | exact passL) (hg : Gl X x := by rfl)
    (hdb : (x == ("__debug__" : Str)) = false := by decide) : PE X (.Call (.Name x p) [] [] pos) (tOeV C sp [] tNil) := by
  obtain ⟨T, f, fd, h1, h2, h3, h4⟩ := c
  exact pe_oeV0 T h2 h3 h1 hr h4 .nil hx hm hg hdb
end
/-! ### what stands of an error that is a value -/
/-- e is an error of the class at C -/
def ErV (H : Hp) (e C : Addr) : Prop := ∃ d : Option Addr, H e = some (exo e C d) ∧ ∀ dd, d = some dd → ∃ fs, H dd = some (exd dd fs)
/-- .. with these fields -/
def ErF (H : Hp) (e C : Addr) (g : List (Str × V)) : Prop := ∃ (d : Addr) (fs : List (Str × V)), H e = some (exo e C (some d)) ∧ H d = some (exd d fs) ∧ ∀ f v, g.lookup f = some v → fs.lookup f = some v
section
variable {K : PySem.W.Frag} {H H' : Hp} {e C : Addr} {g : List (Str × V)}
theorem ErF.v (x : ErF H e C g) : ErV H e C := by
  obtain ⟨d, fs, h1, h2, _⟩ := x
  exact ⟨some d, h1, fun dd q => by cases q; exact ⟨fs, h2⟩⟩
theorem ErV.same (x : ErV H e C) (S : Same H H') : ErV H' e C := by
  obtain ⟨d, h1, h2⟩ := x
  refine ⟨d, S _ _ h1, fun dd q => ?_⟩
  obtain ⟨fs, h⟩ := h2 dd q
  exact ⟨fs, S _ _ h⟩
theorem ErF.same (x : ErF H e C g) (S : Same H H') : ErF H' e C g := by
  obtain ⟨d, fs, h1, h2, h3⟩ := x
  exact ⟨d, fs, S _ _ h1, S _ _ h2, h3⟩
/-- X(e, ..) by super().__init__ -/
theorem erV_ok {fs : List Str} {okV : List V → Prop} {vs : List V} {Q : Addr → Hp → Prop} (hl : vs.length = fs.length) (hv : okV vs) (k : ∀ a H', Same H H' → ErF H' a C (fs.zip vs) → Q a H') :
    vs.length = fs.length ∧ okV vs ∧ ∀ a d, H a = none → H d = none → d ≠ a → Q a (upd (upd H d (exd d (fs.zip vs))) a (exo a C (some d))) := by
  refine ⟨hl, hv, fun a d na nd ne => k a _ ?_ ⟨d, fs.zip vs, upd_same, by rw [upd_ne ne]; exact upd_same, fun _ _ z => z⟩⟩
  exact (sNew nd).trans (sNew (by rw [upd_ne (Ne.symm ne)]; exact na))
/-- X() by a maker that is walked, or by none -/
theorem fldE_ok {f : Str} {v : V} {Q : VK} (x : ErF H e C g) (T : XfC K C) (hno : PySem.W.findIn K (.ref C) f = some none) (l : g.lookup f = some v) (k : Q v H) :
    ∃ (a C' d : Addr) (fs : List (Str × V)) (v' : V), V.ref e = .ref a ∧ H a = some (exo a C' (some d)) ∧ H d = some (exd d fs) ∧ XfC K C' ∧ PySem.W.findIn K (.ref C') f = some none ∧ fs.lookup f = some v' ∧ Q v' H := by
  obtain ⟨d, fs, h1, h2, h3⟩ := x
  exact ⟨e, C, d, fs, v, rfl, h1, h2, T, hno, h3 f v l, k⟩
theorem isE_ok {c : V} {cv : Value} {b : Bool} {Q : VK} (x : ErV H e C) (T : ExcC K C) (hc : ClsV c cv) (hk : PySem.W.kitOne K (.ref C) cv = some b) (k : Q (.bl b) H) : rIsEv K [.ref e, c] H Q := by
  obtain ⟨d, h1, h2⟩ := x
  exact ⟨e, C, d, c, cv, b, rfl, h1, h2, T, hc, hk, k⟩
/-- the promise of a maker that is walked: what it makes of a new error -/
def spIni (C : Addr) (fs : List Str) : Sp := fun vs H Q _ => ∃ (a : Addr) (us : List V), vs = .ref a :: us ∧ us.length = fs.length ∧ H a = some (exo a C none) ∧
  (fs = [] → Q .non H) ∧ ∀ dx H', H dx = none → dx ≠ a → (∀ b o, H b = some o → b ≠ a → H' b = some o) → H' a = some (exo a C (some dx)) → H' dx = some (exd dx (fs.zip us).reverse) → Q .non H'
theorem oeV_ok {fs : List Str} {vs : List V} {Q : Addr → Hp → Prop} (hl : vs.length = fs.length) (hz : vs.length ≤ 1000) (hn : fs ≠ []) (hd : ∀ f v, (fs.zip vs).lookup f = some v → (fs.zip vs).reverse.lookup f = some v) (k : ∀ a H', Same H H' → ErF H' a C (fs.zip vs) → Q a H') :
    vs.length ≤ 1000 ∧ ∀ a, H a = none → spIni C fs (.ref a :: (vs ++ [])) (upd H a (exo a C none)) (fun v H2 => v = .non ∧ Q a H2) (fun _ _ _ => False) := by
  refine ⟨hz, fun a na => ⟨a, vs, by rw [List.append_nil], hl, upd_same, fun z => absurd z hn, fun dx H' nd ne kp h1 h2 => ⟨rfl, k a H' (fun b o q => ?_) ⟨dx, _, h1, h2, hd⟩⟩⟩⟩
  have nb : b ≠ a := ne_of_none q na
  exact kp b o (by rw [upd_ne nb]; exact q) nb
theorem oeV0_ok {Q : Addr → Hp → Prop} (k : ∀ a H', Same H H' → ErV H' a C → Q a H') :
    ([] : List V).length ≤ 1000 ∧ ∀ a, H a = none → spIni C [] (.ref a :: ([] ++ [])) (upd H a (exo a C none)) (fun v H2 => v = .non ∧ Q a H2) (fun _ _ _ => False) :=
  ⟨by decide, fun a na => ⟨a, [], rfl, rfl, upd_same, fun _ => ⟨rfl, k a _ (sNew na) ⟨none, upd_same, fun dd q => by cases q⟩⟩, fun dx H' nd ne kp h1 h2 => ⟨rfl, k a H' (fun b o q => kp b o (by rw [upd_ne (ne_of_none q na)]; exact q) (ne_of_none q na)) ⟨some dx, h1, fun dd q => by cases q; exact ⟨_, h2⟩⟩⟩⟩⟩
theorem exV0_ok {Q : Addr → Hp → Prop} (k : ∀ a H', Same H H' → ErV H' a C → Q a H') : ∀ a, H a = none → Q a (upd H a (exo a C none)) :=
  fun a na => k a _ (sNew na) ⟨none, upd_same, fun dd q => by cases q⟩
end
end L2
set_option Elab.async false
set_option linter.all false
set_option maxRecDepth 100000
/-! several clauses «except X as n», the name alike in all -/
namespace L2
open PySem PySem.Spec PyProof.Rows
/-- the ends of a suite that holds a name at slot i: the name is gone behind it -/
def endsAs (i : Nat) (D : Ends) : Ends where
  nx := fun τ G => D.nx (τ.set i none) G
  rt := D.rt
  bk := fun τ G => D.bk (τ.set i none) G
  ct := fun τ G => D.ct (τ.set i none) G
/-- what the clauses wish, one behind the other -/
def wAsM (K : PySem.W.Frag) (i : Nat) (Wo : WX) (D : Ends) : List (Value × (Addr → Value → Option Addr → TS)) → WX
  | [] => Wo
  | (c, ts) :: r => fun cls d τ G => ∃ t, PySem.W.exmOne K cls c = some t ∧ (t = true → ∀ a, G a = none → ts a cls d (endsAs i D) (τ.set i (some (.ref a))) G) ∧ (t = false → wAsM K i Wo D r cls d τ G)
/-- the clauses, written -/
inductive ClsAs (X : Cx) (n : Str) : List ExceptHandler → List (Value × (Addr → Value → Option Addr → TS)) → Prop
  | nil : ClsAs X n [] []
  | cons {x : Str} {c : Value} {ts : Addr → Value → Option Addr → TS} {b0 : Stmt} {rest : List Stmt} {p q : Pos} {hs : List ExceptHandler} {l : List (Value × (Addr → Value → Option Addr → TS))} (hc : Names X x c)
      (hsu : ∀ (a : Addr) (oe : Obj) (cls : Value) (d : Option Addr) (pn : List (Addr × Obj)), Zc cls d oe → (∃ vs, oe.data = .fields vs) → PSs (X.suite a ((a, oe) :: pn)) (b0 :: rest) (ts a cls d)) (more : ClsAs X n hs l) :
      ClsAs X n (.ExceptHandler (some (.Name x p)) (some n) (b0 :: rest) q :: hs) ((c, ts) :: l)
section
variable {X : Cx} {n : Str} {i : Nat} {body : List Stmt} {c0 : ExceptHandler} {cs : List ExceptHandler} {l : List (Value × (Addr → Value → Option Addr → TS))} {pos : Pos} {tb : WX → TS} {Wo : WX}
theorem ps_try_asM (hst : X.stack = X.env :: X.outer) (hfr : X.env.frame = some X.env.locals) (hN : X.N.Nodup) (hi : X.N[i]? = some n) (hln : X.env.kindOf n = some .local) (tk : Takes X Wo)
    (hb : ∀ (W : WX) (pn : List (Addr × Obj)) (xe : Value → Shared → Prop), Takes (X.tr pn xe) W → PassesOwn (model X.prog X.w) X.A X.env xe → PSs (X.tr pn xe) body (tb W))
    (hh : ClsAs X n (c0 :: cs) l) : PS X (.Try body (c0 :: cs) [] [] pos) (fun D τ G => tb (wAsM X.K i Wo D l) D τ G) := by
  refine ⟨fun pins s τ G D I wish => ?_⟩
  have good := I.ok
  have frames : X.A.frames = some (X.env :: X.outer) := by rw [good.frames, hst]
  have loc : Loc X.env.scope n := .inl hln
  refine wpAny_Try_except (wpAny_mono ((hb (wAsM X.K i Wo D l) (X.pn ++ pins) (fun e s1 => wpAny (model X.prog X.w) X.A (noteFrame e X.env) (fun _ s2 => wpAny (model X.prog X.w) X.A (setFlight e none) (fun _ s3 =>
    wpAny (model X.prog X.w) X.A (handleBy e X.env (c0 :: cs)) (SP X pins D) X.xe s3) X.xe s2) X.xe s1) (fun u s1 caught => ?_) PassesOwn.looking).run [] s τ G D (I.toTry _) wish) (fun r s1 came => ?_) (fun e s1 z => z))
  · obtain ⟨a, B, sI, pinsI, τ1, G1, cls, d, rfl, J0, nb, up, sky, na, os, ag, w⟩ := caught
    have J : Inv X pins τ1 G1 sI := J0.ofTry good
    have skyX : Sky B (X.env :: X.outer) a (Zc cls d) X.env.locals s1.heap := by rw [← hst]; exact sky
    show wpAny _ X.A (noteFrame (.ref a) X.env) _ _ _
    refine Sky.land Zc.steady frames hfr skyX fun hp fl upL => ?_
    have J1 : Inv X pins τ1 G1 { s1 with heap := hp } := J.landed nb fl.1 (up.trans upL) os ag
    obtain ⟨oe, vs, hoe, hz, hdat⟩ := fl.there
    have notin : a ∉ frs (X.env :: X.outer) := fun hm => by
      obtain ⟨_, ob, eb, nf⟩ := fl.2.2.1.mem hm
      rw [hoe] at eb
      cases eb
      exact nf _ hdat
    have nL : a ≠ X.env.locals := fun z => notin (List.mem_filterMap.mpr ⟨X.env, List.mem_cons_self, by rw [hfr, z]⟩)
    have nF : a ∉ X.fs := fun hm => by
      obtain ⟨e, he, z⟩ := List.mem_filterMap.mp hm
      exact notin (List.mem_filterMap.mpr ⟨e, List.mem_cons_of_mem _ he, z⟩)
    have S1 := J1.suite hoe hdat na nL nF
    suffices go : ∀ {hs : List ExceptHandler} {ll : List (Value × (Addr → Value → Option Addr → TS))}, ClsAs X n hs ll → wAsM X.K i Wo D ll cls d τ1 G1 → wpAny (model X.prog X.w) X.A (handleBy (.ref a) X.env hs) (SP X pins D) X.xe { s1 with heap := hp } from go hh w
    intro hs ll hk
    induction hk with
    | nil =>
      intro out
      refine wpAny_handleBy_nil ?_
      obtain ⟨_, _, _, oe2, vs2, T, oT, tt, e2, _, d2, v2, _⟩ := id fl
      have fin : wpAny (model X.prog X.w) X.A (setFlight (.ref a) X.env.frame) (fun _ s4 => wpAny (model X.prog X.w) X.A (throw (.ref a) : Sem Flow) (SP X pins D) X.xe s4) X.xe { s1 with heap := hp } := by
        rw [hfr]
        refine HandSPX.setFlight_upZ fl fun h4 sk up4 => wpAny_throw (tk _ _ ?_)
        exact ⟨a, B, sI, pins, τ1, G1, cls, d, rfl, J, nb, (up.trans upL).trans up4, .inr (.inr (by rw [hst]; exact sk)), na, os, ag, out⟩
      unfold PySem.passOn
      refine wpAny_bind (wpAny_field e2 d2 v2 ?_)
      rw [if_neg (by simp)]
      first
        | exact wpAny_bind (wpAny_pure (wpAny_bind fin))
        | exact wpAny_bind fin
    | @cons x c ts b0 rest p q hs2 l2 hc hsu more ih =>
      intro out
      obtain ⟨t, ht, yes, no⟩ := out
      refine wpAny_handleBy_cons (codeAny_handlers_test ?_) (by intro z; cases z)
      have LM := PySem.W.exm_one (M := model X.prog X.w) J1.kIn (show PySem.W.Looks (model X.prog X.w) hp (typeOf (.ref a)) cls from fun _ _ _ _ k z => wpAny_typeOf_ref (k _ _ hoe) (by rw [hz.1]; exact z)) ht
      have ask : ∀ {Q : Value → Shared → Prop} {E : Value → Shared → Prop}, Q c { s1 with heap := hp } → wpAny (model X.prog X.w) (X.A.mark (some (.ref a))) (eval (.Name x p) X.env) Q E { s1 with heap := hp } := fun {Q E} z => by
        obtain ⟨hg, hdbg, hm | ⟨hm, hv, hnn⟩⟩ := hc
        · exact ld_glob (X := X.suite a ((a, oe) :: (X.pn ++ pins))) S1 hg hm z hdbg
        · exact ld_blt (X := X.suite a ((a, oe) :: (X.pn ++ pins))) S1 hg hm hv z hnn hdbg
      refine ask (LM.here ?_)
      cases t with
      | false => exact (show wpAny _ X.A (handleBy (.ref a) X.env hs2) _ _ _ from ih (no rfl))
      | true =>
        refine codeAny_handlers_suite_as (HandSPX.lands_againZ fl fun hp2 fl2 up2 => ?_)
        have J2 : Inv X pins τ1 G1 { s1 with heap := hp2 } := J.landed nb fl2.1 ((up.trans upL).trans up2) os ag
        obtain ⟨oe2, vs2, hoe2, hz2, hdat2⟩ := fl2.there
        refine store_ok (X := X.suite a ((a, oe2) :: (X.pn ++ pins))) (v := .ref a) (J2.suite hoe2 hdat2 na nL nF) hN hi loc rfl (fun s5 S5 => ?_) (.inr hln)
        refine wpAny_mono ((hsu a oe2 cls d (X.pn ++ pins) hz2 ⟨_, hdat2⟩).run [] s5 _ G1 _ S5 (yes rfl a na)) (fun r s6 came => ?_) (fun _ _ z => False.elim z)
        have gone : ∀ {τ6 : St} {G6 : Hp} {Q : Shared → Prop}, Inv (X.suite a ((a, oe2) :: (X.pn ++ pins))) [] τ6 G6 s6 → (∀ s7, Inv X pins (τ6.set i none) G6 s7 → Q s7) →
            wpAny (model X.prog X.w) X.A (do bindName X.env n .none; unbindBehindTheSuite X.env n q) (fun _ s7 => Q s7) X.xe s6 := fun S6 z => gone_ok (S6.unsuite good) hN hi hln z
        cases r with
        | next => obtain ⟨_, _, S6, w6⟩ := came; exact gone S6 fun _ J7 => ⟨_, _, J7, w6⟩
        | brk => obtain ⟨_, _, S6, w6⟩ := came; exact gone S6 fun _ J7 => ⟨_, _, J7, w6⟩
        | cont => obtain ⟨_, _, S6, w6⟩ := came; exact gone S6 fun _ J7 => ⟨_, _, J7, w6⟩
        | ret u => obtain ⟨_, _, _, S6, r6, w6⟩ := came; exact gone S6 fun _ J7 => ⟨_, _, _, J7, r6, w6⟩
  · cases r with
    | next => obtain ⟨_, _, J2, w2⟩ := came; exact wpAny_execs_nil ⟨_, _, J2.ofTry good, w2⟩
    | brk => obtain ⟨_, _, J2, w2⟩ := came; exact ⟨_, _, J2.ofTry good, w2⟩
    | cont => obtain ⟨_, _, J2, w2⟩ := came; exact ⟨_, _, J2.ofTry good, w2⟩
    | ret u => obtain ⟨_, _, _, J2, r2, w2⟩ := came; exact ⟨_, _, _, J2.ofTry good, r2, w2⟩
theorem ps_try_as2 {x1 x2 : Str} {c1 c2 : Value} {b1 b2 : Stmt} {r1 r2 : List Stmt} {p1 p2 q1 q2 : Pos} {ts1 ts2 : Addr → Value → Option Addr → TS} (hst : X.stack = X.env :: X.outer) (hfr : X.env.frame = some X.env.locals) (hN : X.N.Nodup) (hi : X.N[i]? = some n) (hln : X.env.kindOf n = some .local)
    (hc1 : Names X x1 c1) (hc2 : Names X x2 c2) (tk : Takes X Wo)
    (hb : ∀ (W : WX) (pn : List (Addr × Obj)) (xe : Value → Shared → Prop), Takes (X.tr pn xe) W → PassesOwn (model X.prog X.w) X.A X.env xe → PSs (X.tr pn xe) body (tb W))
    (h1 : ∀ (a : Addr) (oe : Obj) (cls : Value) (d : Option Addr) (pn : List (Addr × Obj)), Zc cls d oe → (∃ vs, oe.data = .fields vs) → PSs (X.suite a ((a, oe) :: pn)) (b1 :: r1) (ts1 a cls d))
    (h2 : ∀ (a : Addr) (oe : Obj) (cls : Value) (d : Option Addr) (pn : List (Addr × Obj)), Zc cls d oe → (∃ vs, oe.data = .fields vs) → PSs (X.suite a ((a, oe) :: pn)) (b2 :: r2) (ts2 a cls d)) :
    PS X (.Try body [.ExceptHandler (some (.Name x1 p1)) (some n) (b1 :: r1) q1, .ExceptHandler (some (.Name x2 p2)) (some n) (b2 :: r2) q2] [] [] pos) (fun D τ G => tb (wAsM X.K i Wo D [(c1, ts1), (c2, ts2)]) D τ G) :=
  ps_try_asM hst hfr hN hi hln tk hb (.cons hc1 h1 (.cons hc2 h2 .nil))
end
section
variable {X : Cx} {o e : Expr} {to : TE} {t : TA} {apos cpos : Pos}
/-- o.append(e) -/
theorem pe_app1 (ho : PE X o to) (ha : PA X [e] t) (hbase : attributeBase o "append" X.env (eval o X.env) = eval o X.env := by rfl)
    (hfew : ((backTo cpos (starEach [e] X.env)).all (fun x => !x.1) && (backToKw cpos (keywordEach [] X.env)).all (fun x => x.1.isSome) && decide ([e].length + ([] : List Keyword).length + (if ([] : List Keyword).isEmpty then 0 else 1) < 30)) = true := by rfl)
    (hline : (apos.endLine == cpos.line) = true := by rfl) (hs : starEach [e] X.env = (false, eval e X.env) :: starEach [] X.env := by rfl) (hplain : (backTo cpos (starEach [] X.env)).any (·.1) = false := by rfl) :
    PE X (.Call (.Attribute o "append" apos) [e] [] cpos) (tBM X.K "list" rAppend to t) := pe_bm PySem.F.plainAttrs_list PySem.F.slot_list_append PySem.F.type_list_append mt_append ho ha hbase hfew hline hs hplain
end
end L2
set_option Elab.async false
set_option linter.all false
set_option maxRecDepth 100000
set_option maxHeartbeats 4000000
/-! a head by one run: own errors' makers, any Bool of the written part -/
namespace HeM
open PySem PySem.Spec PyProof.Rows L2 He
/-! ### looks that answer true or false -/
/-- the object of an own error class -/
def ecB (K : PySem.W.Frag) (C : Addr) : Bool := match K.lookup C with
  | some ⟨.type "type", _, .cls cd, sl⟩ => (match cd.mro, sl.toList with
    | .ref C' :: bm, [_, _, _, _, some (.builtin n), _] => C' == C && (n == "ValueError.__new__" && (!cd.hasDel && (cd.hasDict && PySem.HandSPX.refsVE bm)))
    | _, _ => false)
  | _ => false
theorem ecB_ok {K : PySem.W.Frag} {C : Addr} (q : ecB K C = true) :
    ∃ nm q N bs bm sn sub ab col dd k0 k1 k2 k3 k5, K.lookup C = some (excClassObj nm q C N bs bm true sn sub ab col dd k0 k1 k2 k3 k5 "ValueError.__new__") ∧ PySem.HandSPX.refsVE bm = true := by
  unfold ecB at q
  split at q
  · rename_i dd cd sl ho
    split at q
    · rename_i C' bm k0 k1 k2 k3 n k5 hm hs
      simp only [Bool.and_eq_true, beq_iff_eq, Bool.not_eq_true'] at q
      obtain ⟨rfl, rfl, hdel, hdict, ht⟩ := q
      obtain ⟨nm, bs, mro, ns, qn, hd, sn, sub, ab, col, del⟩ := cd
      dsimp only at hm hdel hdict
      subst hm hdel hdict
      have hsl : sl = #[k0, k1, k2, k3, some (.builtin "ValueError.__new__"), k5] := by
        obtain ⟨l⟩ := sl
        simp only at hs
        rw [hs]
      subst hsl
      exact ⟨nm, qn, ns, bs, bm, sn, sub, ab, col, dd, k0, k1, k2, k3, k5, ho, ht⟩
    · cases q
  · cases q
/-- isinstance may be asked of its errors -/
def xcB (K : PySem.W.Frag) (D : Addr) : Bool :=
  eqO (PySem.W.findIn K (.ref D) "__getattribute__") (some (some (.builtin "BaseException.__getattribute__"))) && (eqO (PySem.W.findIn K (.ref D) "__getattr__") (some none) && (decide (PySem.W.subIn K (.ref D) (.type "BaseException") = some true) && (PySem.W.hasDictIn K D &&
    (eqO (PySem.W.findIn K (.ref D) "__class__") (some (some (.builtin "object.__class__"))) && decide (PySem.W.mroIn K D (.type "object") = some true)))))
def zB (K : PySem.W.Frag) : Bool := eqO (PySem.W.specialIn K (.builtin "object.__class__") "__get__") (some (some (.builtin "getset_descriptor.__get__"))) && decide (PySem.W.takesIn K (.builtin "object.__class__") = some true)
theorem xcB_ok {K : PySem.W.Frag} {D : Addr} (h : xcB K D = true) (z : zB K = true) : ExcC K D := by
  obtain ⟨h1, h⟩ := ba h
  obtain ⟨h2, h⟩ := ba h
  obtain ⟨h3, h⟩ := ba h
  obtain ⟨h4, h⟩ := ba h
  obtain ⟨h5, h6⟩ := ba h
  obtain ⟨z1, z2⟩ := ba z
  exact ⟨eqO_ok h1, eqO_ok h2, of_decide_eq_true h3, h4, eqO_ok h5, eqO_ok z1, of_decide_eq_true z2, of_decide_eq_true h6⟩
/-- its errors may be made -/
def oxB (K : PySem.W.Frag) (C : Addr) : Bool := ecB K C && (eqO (PySem.W.findIn K (.ref C) "__setattr__") (some (some (.builtin "object.__setattr__"))) && (decide (PySem.W.subIn K (.ref C) (.type "BaseException") = some true) && (decide (PySem.W.typeIn K (.ref C) = some (.type "type")) && PySem.W.keepIn K (.ref C))))
theorem oxB_ok {K : PySem.W.Frag} {C : Addr} (h : oxB K C = true) : OexC K C := by
  obtain ⟨h1, h⟩ := ba h
  obtain ⟨h2, h⟩ := ba h
  obtain ⟨h3, h⟩ := ba h
  obtain ⟨h4, h5⟩ := ba h
  exact ⟨ecB_ok h1, eqO_ok h2, of_decide_eq_true h3, of_decide_eq_true h4, h5⟩
/-- the maker stands in the class itself -/
def inB (K : PySem.W.Frag) (C : Str) : Bool := eqO (PySem.W.findIn K (.ref (ga K C)) "__init__") (some (some (.ref (ma K (ga K C) "__init__")))) && decide (PySem.W.typeIn K (.ref (ma K (ga K C) "__init__")) = some (.type "function"))
/-- found in the class as a value that it has -/
def valIs : Option PySem.W.CFound → Value → Bool
  | some (.val u), v => decide (u = v)
  | _, _ => false
theorem valIs_ok {o : Option PySem.W.CFound} {v : Value} (h : valIs o v = true) : o = some (.val v) := by
  cases o with
  | none => cases h
  | some f =>
    cases f with
    | val u => rw [of_decide_eq_true (show decide (u = v) = true from h)]
    | get _ _ _ _ => cases h
/-! ### makers that call super -/
structure IniD where
  C : Str
  qual : Str
  params : Arguments
  body : List Stmt
  scope : Scope
abbrev IniW : Type := Option (Str × Str × Arguments × FuncBody × Scope × Addr × Addr)
def iniW (K : PySem.W.Frag) (d : IniD) : IniW := match K.lookup (ma K (ga K d.C) "__init__") with
  | some ⟨_, _, .func fd, _⟩ => some (fd.name, fd.qualname, fd.params, fd.body, fd.scope, fd.globals, fd.builtins)
  | _ => none
def IniD.val (d : IniD) : IniW := some ("__init__", d.qual, d.params, .stmts d.body, d.scope, mainGlobals, builtinsNs)
/-- its function object: no defaults, one cell -/
def fnB (file : Str) (K : PySem.W.Frag) (C : Addr) (q : Str) : Option Obj → Bool
  | some ⟨_, _, .func fd, _⟩ => (match fd.closure, fd.defaults, fd.code with
    | [(x, cc)], .none, .ref cda => decide (x = "__class__") && (PySem.W.codeIn K (.ref cda) q && ((match K.lookup cda with
      | some ⟨_, _, .fields vs, _⟩ => (match (vs[2]? : Option Value) with
        | some (Value.str f _) => file == f
        | _ => false)
      | _ => false) && (match K.lookup cc with
      | some ⟨_, _, .cell (some (.ref C')), _⟩ => C' == C
      | _ => false)))
    | _, _, _ => false)
  | _ => false
def iniB (file : Str) (K : PySem.W.Frag) (d : IniD) : Bool :=
  oxB K (ga K d.C) && (inB K d.C && (decide (PySem.W.mroIn K (ga K d.C) (.ref (ga K d.C)) = some true) && (decide (PySem.W.subIn K (.ref (ga K d.C)) (.type "ValueError") = some true) &&
    (decide (PySem.W.ks_superIn K (ga K d.C) (ga K d.C) "__init__" = some (some (.builtin "ValueError.__init__"))) && fnB file K (ga K d.C) d.qual (K.lookup (ma K (ga K d.C) "__init__"))))))
theorem iniB_ok {P : Program} {K : PySem.W.Frag} {d : IniD} (e : iniW K d = d.val) (h : iniB P.main.file K d = true) (opq : PySem.W.nsIn K cStatics "thirdparty.any" = some none) (top : (P.main.scope.names.lookup ("super" : Str)).isSome = false) :
    PySem.ErrL.SupC P K (ga K d.C) (ma K (ga K d.C) "__init__") d.qual d.params d.body d.scope := by
  obtain ⟨h1, h⟩ := ba h
  obtain ⟨h2, h⟩ := ba h
  obtain ⟨h3, h⟩ := ba h
  obtain ⟨h4, h⟩ := ba h
  obtain ⟨h5, h6⟩ := ba h
  obtain ⟨i1, i2⟩ := ba h2
  have T := oxB_ok h1
  unfold iniW at e
  refine ⟨T.cls, ?_, of_decide_eq_true h3, of_decide_eq_true h4, opq, of_decide_eq_true h5, T.sa, eqO_ok i1, of_decide_eq_true i2, top⟩
  cases q : K.lookup (ma K (ga K d.C) "__init__") with
  | none =>
    rw [q] at e
    cases e
  | some o =>
    obtain ⟨oc, od, dt, osl⟩ := o
    rw [q] at e h6
    cases dt with
    | func fd =>
      obtain ⟨n1, n2, n3, n4, n5, n6, n7, n8, n9, n10, n11, n12, n13, n14, n15⟩ := fd
      have e2 : (some (n1, n2, n3, n4, n5, n6, n15) : IniW) = some (("__init__" : Str), d.qual, d.params, FuncBody.stmts d.body, d.scope, mainGlobals, builtinsNs) := e
      simp only [Option.some.injEq, Prod.mk.injEq] at e2
      obtain ⟨g1, g2, g3, g4, g5, g6, g7⟩ := e2
      subst g1 g2 g3 g4 g5 g6 g7
      unfold fnB at h6
      dsimp only at h6
      split at h6
      · rename_i x cc cda
        obtain ⟨r1, h6⟩ := ba h6
        obtain ⟨r2, h6⟩ := ba h6
        obtain ⟨r3, r4⟩ := ba h6
        obtain rfl := of_decide_eq_true r1
        split at r3
        · rename_i ccl cdd vs ccs hl
          split at r3
          · rename_i f tf hv
            split at r4
            · rename_i cl cld C' csl hc
              obtain rfl : C' = ga K d.C := beq_iff_eq.mp r4
              exact ⟨oc, od, n9, n10, n11, n12, cda, n14, osl, cc, vs, f, tf, ccl, cdd, ccs, cl, cld, csl, rfl, r2, hl, hv, r3, hc⟩
            · cases r4
          · cases r3
        · cases r3
      · cases h6
    | _ => cases e
/-! ### properties -/
/-- the getter of the property m -/
def pg (K : PySem.W.Frag) (C : Addr) (m : Str) : Addr := match PySem.W.recIn K (ma K C m) "property" with
  | some (.ref g :: _) => g
  | _ => 0
def pgD (K : PySem.W.Frag) (d : DefD) : Addr := pg K (ga K d.at_.1) (d.at_.2.getD "")
def fnWp (K : PySem.W.Frag) (d : DefD) : FnW := match K.lookup (pgD K d) with
  | some ⟨_, _, .func fd, _⟩ => some (fd.name, fd.qualname, fd.params, fd.body, fd.scope, fd.globals, fd.closure, fd.builtins)
  | _ => none
def isSomeHd : Option (List Value) → Addr → Bool
  | some (.ref g :: _), h => g == h
  | _, _ => false
def prpB (K : PySem.W.Frag) (d : DefD) : Bool :=
  eqO (PySem.W.findIn K (.ref (ga K d.at_.1)) (d.at_.2.getD "")) (some (some (.ref (ma K (ga K d.at_.1) (d.at_.2.getD ""))))) && (eqO (PySem.W.specialIn K (.ref (ma K (ga K d.at_.1) (d.at_.2.getD ""))) "__get__") (some (some (.builtin "property.__get__"))) &&
    (decide (PySem.W.takesIn K (.ref (ma K (ga K d.at_.1) (d.at_.2.getD ""))) = some true) && (isSomeHd (PySem.W.recIn K (ma K (ga K d.at_.1) (d.at_.2.getD "")) "property") (pgD K d) && (PySem.W.keepIn K (.ref (pgD K d)) && (match K.lookup (pgD K d) with
      | some ⟨_, _, .func fd, _⟩ => PySem.W.codeIn K fd.code d.qual && decide (fd.defaults = .none)
      | _ => false)))))
theorem prp_of {K : PySem.W.Frag} {d : DefD} (h : prpB K d = true) : PropOf K (ga K d.at_.1) (d.at_.2.getD "") (ma K (ga K d.at_.1) (d.at_.2.getD "")) (pgD K d) := by
  obtain ⟨h1, h⟩ := ba h
  obtain ⟨h2, h⟩ := ba h
  obtain ⟨h3, h⟩ := ba h
  obtain ⟨h4, h⟩ := ba h
  refine ⟨eqO_ok h1, eqO_ok h2, of_decide_eq_true h3, ?_⟩
  unfold isSomeHd at h4
  split at h4
  · rename_i g rest e
    obtain rfl : g = pgD K d := beq_iff_eq.mp h4
    exact ⟨rest, e⟩
  · cases h4
theorem prp_fun {K : PySem.W.Frag} {d : DefD} {st : Stmt} (e : fnWp K d = d.val) (h : prpB K d = true) (h1 : d.params = defArgs st) (h2 : d.body = defBody st) (h3 : d.scope = defScope st) : ∃ fd, Fun K d.name d.qual st (pgD K d) fd := by
  obtain ⟨_, h⟩ := ba h
  obtain ⟨_, h⟩ := ba h
  obtain ⟨_, h⟩ := ba h
  obtain ⟨_, h⟩ := ba h
  obtain ⟨kp, h⟩ := ba h
  unfold fnWp at e
  cases q : K.lookup (pgD K d) with
  | none =>
    rw [q] at h
    cases h
  | some o =>
    obtain ⟨oc, od, dt, osl⟩ := o
    rw [q] at h e
    cases dt with
    | func fd =>
      obtain ⟨n1, n2, n3, n4, n5, n6, n7, n8, n9, n10, n11, n12, n13, n14, n15⟩ := fd
      have e2 : (some (n1, n2, n3, n4, n5, n6, n7, n15) : FnW) = some (d.name, d.qual, d.params, .stmts d.body, d.scope, mainGlobals, [], builtinsNs) := e
      simp only [Option.some.injEq, Prod.mk.injEq] at e2
      obtain ⟨g1, g2, g3, g4, g5, g6, g7, g8⟩ := e2
      subst g1 g2 g3 g4 g5 g6 g7 g8
      obtain ⟨k1, k2⟩ := ba (show (PySem.W.codeIn K n13 d.qual && decide (n8 = .none)) = true from h)
      obtain rfl : n8 = .none := of_decide_eq_true k2
      refine ⟨_, ⟨oc, od, n9, n10, n11, n12, n13, n14, osl, ?_, q, k1⟩, kp⟩
      rw [← h1, ← h2, ← h3]
    | _ => cases h
/-! ### the Hook -/
/-- what the names of the module reach in n steps, and the table of third parties -/
def asM (g : Addr → Option Obj) : Nat → List Addr
  | 0 => [mainGlobals, cStatics]
  | n + 1 => growD g (asM g n)
/-- tables with text keys; defs whose defaults are not told -/
abbrev TabM : Type := List (Str × List Str) × List DefD
/-- the only default of a def: an empty tuple -/
def dfA (K : PySem.W.Frag) (d : DefD) : Addr := match K.lookup (fAd K d.at_) with
  | some ⟨_, _, .func fd, _⟩ => (match fd.defaults with
    | .ref T => (match K.lookup T with
      | some ⟨_, _, .seq its _, _⟩ => (match its.toList with
        | [.ref a] => a
        | _ => 0)
      | _ => 0)
    | _ => 0)
  | _ => 0
def etB (K : PySem.W.Frag) (a : Addr) : Bool := match K.lookup a with
  | some ⟨.type c, _, .seq its _, _⟩ => decide (c = "tuple") && its.isEmpty
  | _ => false
theorem etB_ok {K : PySem.W.Frag} {a : Addr} (h : etB K a = true) (H : Hp) : SqT K H a [] := by
  unfold etB at h
  split at h
  · rename_i c _ its n _ e
    obtain ⟨h1, h2⟩ := ba h
    obtain rfl : its = #[] := Array.isEmpty_iff.mp h2
    exact .inr ⟨_, #[], n, e, congrArg Value.type (of_decide_eq_true h1), rfl, Nat.zero_le _, .nil⟩
  · cases h
def codB (K : PySem.W.Frag) (d : DefD) : Bool := PySem.W.keepIn K (.ref (fAd K d.at_)) && (etB K (dfA K d) && (match K.lookup (fAd K d.at_) with
  | some ⟨_, _, .func fd, _⟩ => PySem.W.codeIn K fd.code d.qual && dflB K fd.defaults [.ref (dfA K d)]
  | _ => false))
abbrev AlM : Type := AlD × (List IniW × (List FnW × (List (Option (List (Option (Str × Int)))) × (List FnW × Bool))))
def obsM (file : Str) (fa : List Fa) (fn : List DefD) (ini : List IniD) (pr : List DefD) (ts : TabM) (ex : PySem.W.Frag → Bool) (K : PySem.W.Frag) : AlM := (obsD fa fn K, (ini.map fun d => iniW K d, (pr.map fun d => fnWp K d, (ts.1.map fun t => dicW K (ga K t.1), (ts.2.map fun d => fnW K d.at_, (ini.all fun d => iniB file K d) && ((pr.all fun d => prpB K d) && ((ts.2.all fun d => codB K d) && ex K)))))))
def valM (fn : List DefD) (ini : List IniD) (pr : List DefD) (ts : TabM) (w : World) : AlM := (valD fn, (ini.map IniD.val, (pr.map DefD.val, (ts.1.map fun t => some (keysIn w.params t.2), (ts.2.map DefD.val, true)))))
def obsMG (file : Str) (n : Nat) (fa : List Fa) (fn : List DefD) (ini : List IniD) (pr : List DefD) (ts : TabM) (ex : PySem.W.Frag → Bool) (g : Addr → Option Obj) : AlM := obsM file fa fn ini pr ts ex (frG g (asM g n))
/-- what is told -/
structure SaysM (file : Str) (fa : List Fa) (fn : List DefD) (ini : List IniD) (pr : List DefD) (ts : TabM) (ex : PySem.W.Frag → Bool) (w : World) (K : PySem.W.Frag) : Prop where
  t : ts.1.map (fun t => dicW K (ga K t.1)) = ts.1.map fun t => some (keysIn w.params t.2)
  v : ts.2.map (fun d => fnW K d.at_) = ts.2.map DefD.val
  vb : ∀ d ∈ ts.2, codB K d = true
  d : SaysD fa fn K
  w : ini.map (fun d => iniW K d) = ini.map IniD.val
  p : pr.map (fun d => fnWp K d) = pr.map DefD.val
  pb : ∀ d ∈ pr, prpB K d = true
  b : ∀ d ∈ ini, iniB file K d = true
  x : ex K = true
theorem saysM_of {file : Str} {fa : List Fa} {fn : List DefD} {ini : List IniD} {pr : List DefD} {ts : TabM} {ex : PySem.W.Frag → Bool} {w : World} {K : PySem.W.Frag} (e : obsM file fa fn ini pr ts ex K = valM fn ini pr ts w) : SaysM file fa fn ini pr ts ex w K := by
  have e1 : obsD fa fn K = valD fn := congrArg (fun z : AlM => z.1) e
  have e2 : ini.map (fun d => iniW K d) = ini.map IniD.val := congrArg (fun z : AlM => z.2.1) e
  have e3 : ((ini.all fun d => iniB file K d) && ((pr.all fun d => prpB K d) && ((ts.2.all fun d => codB K d) && ex K))) = true := congrArg (fun z : AlM => z.2.2.2.2.2) e
  have e5 : ts.1.map (fun t => dicW K (ga K t.1)) = ts.1.map fun t => some (keysIn w.params t.2) := congrArg (fun z : AlM => z.2.2.2.1) e
  have e6 : ts.2.map (fun d => fnW K d.at_) = ts.2.map DefD.val := congrArg (fun z : AlM => z.2.2.2.2.1) e
  have e4 : pr.map (fun d => fnWp K d) = pr.map DefD.val := congrArg (fun z : AlM => z.2.2.1) e
  obtain ⟨h1, h2⟩ := ba e3
  obtain ⟨h2, h3⟩ := ba h2
  obtain ⟨h4, h3⟩ := ba h3
  exact ⟨e5, e6, List.all_eq_true.mp h4, e1, e2, e4, List.all_eq_true.mp h2, List.all_eq_true.mp h1, h3⟩
theorem SaysM.prp {file : Str} {fa : List Fa} {fn : List DefD} {ini : List IniD} {pr : List DefD} {ts : TabM} {ex : PySem.W.Frag → Bool} {w : World} {K : PySem.W.Frag} (c : SaysM file fa fn ini pr ts ex w K) (i : Nat) {d : DefD} {st : Stmt} (h : pr[i]? = some d) (h1 : d.params = defArgs st) (h2 : d.body = defBody st) (h3 : d.scope = defScope st) :
    PropOf K (ga K d.at_.1) (d.at_.2.getD "") (ma K (ga K d.at_.1) (d.at_.2.getD "")) (pgD K d) ∧ ∃ fd, Fun K d.name d.qual st (pgD K d) fd := by
  have e2 : (pr.map fun d => fnWp K d)[i]? = (pr.map DefD.val)[i]? := by rw [c.p]
  rw [List.getElem?_map, List.getElem?_map, h] at e2
  have b := c.pb d (List.mem_of_getElem? h)
  exact ⟨prp_of b, prp_fun (Option.some.inj e2) b h1 h2 h3⟩
theorem SaysM.ini {P : Program} {fa : List Fa} {fn : List DefD} {ini : List IniD} {pr : List DefD} {ts : TabM} {ex : PySem.W.Frag → Bool} {w : World} {K : PySem.W.Frag} (c : SaysM P.main.file fa fn ini pr ts ex w K) (i : Nat) {d : IniD} (opq : PySem.W.nsIn K cStatics "thirdparty.any" = some none) (top : (P.main.scope.names.lookup ("super" : Str)).isSome = false) (h : ini[i]? = some d := by rfl) :
    PySem.ErrL.SupC P K (ga K d.C) (ma K (ga K d.C) "__init__") d.qual d.params d.body d.scope := by
  have e2 : (ini.map fun d => iniW K d)[i]? = (ini.map IniD.val)[i]? := by rw [c.w]
  rw [List.getElem?_map, List.getElem?_map, h] at e2
  exact iniB_ok (Option.some.inj e2) (c.b d (List.mem_of_getElem? h)) opq top
theorem SaysM.ox {file : Str} {fa : List Fa} {fn : List DefD} {ini : List IniD} {pr : List DefD} {ts : TabM} {ex : PySem.W.Frag → Bool} {w : World} {K : PySem.W.Frag} (c : SaysM file fa fn ini pr ts ex w K) (i : Nat) {d : IniD} (h : ini[i]? = some d := by rfl) : OexC K (ga K d.C) :=
  oxB_ok (ba (c.b d (List.mem_of_getElem? h))).1
theorem SaysM.ex_at {file : Str} {fa : List Fa} {fn : List DefD} {ini : List IniD} {pr : List DefD} {ts : TabM} {L : List (PySem.W.Frag → Bool)} {w : World} {K : PySem.W.Frag} (c : SaysM file fa fn ini pr ts (fun K => L.all fun b => b K) w K) (i : Nat) {b : PySem.W.Frag → Bool} (h : L[i]? = some b := by rfl) : b K = true :=
  List.all_eq_true.mp c.x b (List.mem_of_getElem? h)
theorem SaysM.tab {file : Str} {fa : List Fa} {fn : List DefD} {ini : List IniD} {pr : List DefD} {ts : TabM} {ex : PySem.W.Frag → Bool} {w : World} {K : PySem.W.Frag} (c : SaysM file fa fn ini pr ts ex w K) (i : Nat) {t : Str × List Str} (h : ts.1[i]? = some t := by rfl) : dicW K (ga K t.1) = some (keysIn w.params t.2) := by
  have e2 : (ts.1.map fun t => dicW K (ga K t.1))[i]? = (ts.1.map fun t => some (keysIn w.params t.2))[i]? := by rw [c.t]
  rw [List.getElem?_map, List.getElem?_map, h] at e2
  exact Option.some.inj e2
/-- a def as it stands behind the top, its one default an empty tuple -/
def FunV (K : PySem.W.Frag) (x qual : Str) (st : Stmt) (f : Addr) (fd : FuncData) : Prop := ∃ a0, FunD K x qual (defArgs st) (defBody st) (defScope st) [.ref a0] [] f fd ∧ ∀ H, SqT K H a0 []
theorem FunV.ok {P : Program} {w : World} {K : PySem.W.Frag} {mg : Str → Option Value} {base : Heap} {x qual : Str} {st : Stmt} {f : Addr} {fd : FuncData} {CX : CXT} {N ps : List Str} {k : Nat} {sp : Sp} (F : FunV K x qual st f fd) (S : FnScope N ps (defScope st)) (len : ∀ vs H Q E, sp vs H Q E → vs.length = ps.length)
    (hbody : ∀ (cdv : Value) (A : Around) (outer : List Env) (s : Shared) (H : Hp) (vs : List V) (Q : VK) (E : XK), Room k (A.deeper (envOfC qual (defScope st) s.heap.objs.size f cdv)) → sp vs H Q E →
      ∃ t, PSs (cxOf CX P w K mg base N qual (defScope st) f cdv A outer s H E) (defBody st) t ∧ t { nx := fun _ H' => Q .non H', rt := Q } (start N vs) H) : FnOk P w K mg base CX (k + 1) f fd ps sp := by
  obtain ⟨a0, F, _⟩ := F
  exact F.ok S len hbody
theorem FunV.binds {K : PySem.W.Frag} {x qual : Str} {st : Stmt} {f : Addr} {fd : FuncData} {ps : List Str} (F : FunV K x qual st f fd)
    (h : ∀ (T : Addr) (kV doc pm : Value) (an : Option Addr) (cdv ct : Value) (us its : List Value), us.length = ps.length → its.length = 1 →
      ∃ k, bindArgs (PySem.W.fnOf x qual (defArgs st) (defBody st) (defScope st) (.ref T) kV doc pm an cdv ct) ⟨us, []⟩ = seqItems? (.ref T) >>= k ∧ k (some its.toArray) = pure (ps.zip (us ++ its.drop 1))) : Binds K fd ps [] := by
  obtain ⟨a0, F, _⟩ := F
  obtain ⟨ds, r, b⟩ := F.binds1 (ps := ps) ps.length 1 (by simp) rfl h
  cases r
  exact b
theorem funV_of {K : PySem.W.Frag} {d : DefD} {st : Stmt} (e : fnW K d.at_ = d.val) (h : codB K d = true) (h1 : d.params = defArgs st) (h2 : d.body = defBody st) (h3 : d.scope = defScope st) : ∃ fd, FunV K d.name d.qual st (fAd K d.at_) fd := by
  obtain ⟨kp, h⟩ := ba h
  obtain ⟨et, h⟩ := ba h
  unfold fnW at e
  cases q : K.lookup (fAd K d.at_) with
  | none =>
    rw [q] at h
    cases h
  | some o =>
    obtain ⟨oc, od, dt, osl⟩ := o
    rw [q] at h e
    cases dt with
    | func fd =>
      obtain ⟨n1, n2, n3, n4, n5, n6, n7, n8, n9, n10, n11, n12, n13, n14, n15⟩ := fd
      have e2 : (some (n1, n2, n3, n4, n5, n6, n7, n15) : FnW) = some (d.name, d.qual, d.params, .stmts d.body, d.scope, mainGlobals, [], builtinsNs) := e
      simp only [Option.some.injEq, Prod.mk.injEq] at e2
      obtain ⟨g1, g2, g3, g4, g5, g6, g7, g8⟩ := e2
      subst g1 g2 g3 g4 g5 g6 g7 g8
      obtain ⟨k1, k2⟩ := ba (show (PySem.W.codeIn K n13 d.qual && dflB K n8 [.ref (dfA K d)]) = true from h)
      refine ⟨_, dfA K d, ⟨⟨oc, od, n8, n9, n10, n11, n12, n13, n14, osl, ?_, q, k1, dflB_ok k2, .inl rfl⟩, kp⟩, etB_ok et⟩
      rw [← h1, ← h2, ← h3]
    | _ => cases h
theorem SaysM.var {file : Str} {fa : List Fa} {fn : List DefD} {ini : List IniD} {pr : List DefD} {ts : TabM} {ex : PySem.W.Frag → Bool} {w : World} {K : PySem.W.Frag} (c : SaysM file fa fn ini pr ts ex w K) (i : Nat) {d : DefD} {st : Stmt} (h : ts.2[i]? = some d) (h1 : d.params = defArgs st) (h2 : d.body = defBody st) (h3 : d.scope = defScope st) :
    ∃ fd, FunV K d.name d.qual st (fAd K d.at_) fd := by
  have e2 : (ts.2.map fun d => fnW K d.at_)[i]? = (ts.2.map DefD.val)[i]? := by rw [c.v]
  rw [List.getElem?_map, List.getElem?_map, h] at e2
  exact funV_of (Option.some.inj e2) (c.vb d (List.mem_of_getElem? h)) h1 h2 h3
theorem inB_ok {K : PySem.W.Frag} {C : Str} (h : inB K C = true) : PySem.W.findIn K (.ref (ga K C)) "__init__" = some (some (.ref (ma K (ga K C) "__init__"))) ∧ PySem.W.typeIn K (.ref (ma K (ga K C) "__init__")) = some (.type "function") := by
  obtain ⟨h1, h2⟩ := ba h
  exact ⟨eqO_ok h1, of_decide_eq_true h2⟩
def hookM (file : Str) (n : Nat) (fa : List Fa) (fn : List DefD) (ini : List IniD) (pr : List DefD) (ts : TabM) (ex : PySem.W.Frag → Bool) : PySem.W.Hook where
  α := AlM
  obs := fun s => obsMG file n fa fn ini pr ts ex s.heap.get?
  val := fun w => valM fn ini pr ts w
  says := fun w h => ∃ K : PySem.W.Frag, K.In h ∧ SaysM file fa fn ini pr ts ex w K
  of := fun _ _ e => ⟨_, frG_in, saysM_of e⟩
  keeps := fun _ _ _ ⟨K, hK, c⟩ k => ⟨K, PySem.W.Frag.In.keeps hK k, c⟩
theorem obsMG_eq {file : Str} {n : Nat} {fa : List Fa} {fn : List DefD} {ini : List IniD} {pr : List DefD} {ts : TabM} {ex : PySem.W.Frag → Bool} {g : Addr → Option Obj} {s : Shared} (h : ∀ a, g a = s.heap.get? a) : obsMG file n fa fn ini pr ts ex g = (hookM file n fa fn ini pr ts ex).obs s := by
  have e : g = s.heap.get? := funext h
  rw [e] <;> rfl
end HeM
namespace L2
open PySem PySem.Spec PyProof.Rows
theorem fun_of {K : PySem.W.Frag} {x qual : Str} {st : Stmt} {f : Addr} {fd : FuncData} (F : FunD K x qual (defArgs st) (defBody st) (defScope st) [] [] f fd) : Fun K x qual st f fd := by
  obtain ⟨oc, od, dV, kV, doc, pm, an, cdv, ct, osl, rfl, lk, hcd, hD, hK⟩ := F.ex
  rcases hD with ⟨_, rfl⟩ | ⟨e, _⟩
  · exact ⟨⟨oc, od, kV, doc, pm, an, cdv, ct, osl, rfl, lk, hcd⟩, F.kp⟩
  · exact absurd rfl e
theorem Fun.bindsA1 {K : PySem.W.Frag} {x qual y : Str} {st : Stmt} {f : Addr} {fd : FuncData} (F : Fun K x qual st f fd)
    (h : ∀ (kV doc pm : Value) (an : Option Addr) (cdv ct : Value) (us : List Value), us.length = [y].length → bindArgs (PySem.W.fnOf x qual (defArgs st) (defBody st) (defScope st) .none kV doc pm an cdv ct) ⟨us, []⟩ = pure ([y].zip us)) (s : Shared) (v : Value) : BindsTo s fd ⟨[v], []⟩ [(y, v)] := by
  obtain ⟨oc, od, kV, doc, pm, an, cdv, ct, osl, rfl, lk, hcd⟩ := F.ex
  exact .of_eq (h kV doc pm an cdv ct [v] rfl)
end L2
set_option Elab.async false
set_option linter.all false
set_option maxRecDepth 100000
set_option maxHeartbeats 4000000
/-! == by an own __eq__ that may say False -/
namespace L2
open PySem PySem.Spec PyProof.Rows
def rOwn (K : PySem.W.Frag) (C : Addr) (sp : Sp) : R2 := fun x y H Q => ∃ (a dx : Addr) (fs : List (Str × V)) (t : Value), x = .ref a ∧ H a = some (.ins C dx fs) ∧ TyX K H y t ∧ PySem.W.notFirst K C t = true ∧ sp [x, y] H (fun v H' => (∃ b, v = .bl b) ∧ Q v H') E0
theorem op_own {X : Cx} {CX : CXT} {C : Addr} {k : Nat} {ps : List Str} {sp : Sp} (c : CalM X.prog X.w X.K X.mg X.base CX k C "__eq__" ps sp) (hr : Room k X.A) (hx : Passes CX X E0 := by first | exact pass0 | exact passL) : OpR X (compareOp .Eq) (rOwn X.K C sp) := by
  intro pins s σ H x y v u Q I rx ry h
  obtain ⟨f, fd, h1, h2, h4⟩ := c
  obtain ⟨a, dx, fs, t, rfl, ha, hy, hn, q⟩ := h
  obtain rfl : v = Value.ref a := rx
  obtain ⟨mA, J, _⟩ := ins_get I.hok ha
  obtain ⟨od, J, _⟩ := J.look
  obtain ⟨Pz, Z, pz, _⟩ := kit_of I ry hy
  obtain ⟨m, hF⟩ := I.fr
  show wpAny (model X.prog X.w) X.A (richCompare .Eq (.ref a) u) (EP X pins σ Q) X.xe s
  refine PySem.W.cmp_K (op := .Eq) (tb := t) hr.units0 hF I.ok.mod.kin J (Z.ty _ _ I.kIn pz) hn h2.at_ h2.fn ?_
  refine wpAny_mono (run_fn (us := [.ref a, u]) (vs := [.ref a, y]) (dvs := []) h1 hr h4 .nil hx I (.cons (show RelV (.ref a) (.ref a) from rfl) (.cons ry .nil)) q) (fun r s' hq => ?_) fun _ _ z => z
  obtain ⟨v', H', I', rv, ⟨b, rfl⟩, q'⟩ := hq
  obtain rfl : r = Value.bool b := rv
  exact ⟨.bl b, H', I', rfl, q'⟩
end L2
set_option Elab.async false
set_option linter.all false
set_option maxRecDepth 100000
set_option maxHeartbeats 400000
/-! len(o), a walk over o, o.f: by the class's own __len__, __iter__, properties -/
namespace L2
open PySem PySem.Spec PyProof.Rows
section
variable {X : Cx} {CX : CXT} {C : Addr} {k : Nat} {ps : List Str} {sp : Sp}
/-- a call of a def at one more level down -/
theorem run_in1 {pins : List (Addr × Obj)} {σ : St} {H : Hp} {s : Shared} {Q : VK} {f : Addr} {fd : FuncData} {us : List Value} {vs : List V} (F : FnOk X.prog X.w X.K X.mg X.base CX k f fd ps sp) (hr : Room (k + 1) X.A) (hb : Binds X.K fd ps [])
    (hx : Passes CX X E0) (I : Inv X pins σ H s) (r : Vals vs us) (h : sp vs H Q E0) : wpAny (model X.prog X.w) X.A.in1 (call (.ref f) us) (EP X pins σ Q) X.xe s := by
  have hl : (us ++ []).length = ps.length := by
    rw [List.append_nil, ← r.length]
    exact F.len _ _ _ _ h
  have hb' := hb s us I.kIn hl
  rw [List.append_nil] at hb'
  refine wpAny_call (codeAny_mono (F.run X.A.in1 X.stack s H ⟨us, []⟩ us vs Q E0 hr.in1 I.env0.in1 hb' r h) fun z s' hq => ?_)
  match z, hq with
  | .error e, hq => exact (hx pins σ H s e s' I hq)
  | .ok (.ret u), hq => exact I.after hq
/-- len(o) -/
def rLenOwn (C : Addr) (sp : Sp) : List V → Hp → VK → Prop := fun xs H Q => ∃ (a dx : Addr) (fs : List (Str × V)), xs = [.ref a] ∧ H a = some (.ins C dx fs) ∧ sp [.ref a] H (fun v H' => ∃ n : Nat, v = .int n ∧ n < 1000000 ∧ Q (.int n) H') E0
theorem call_lenOwn (c : CalM X.prog X.w X.K X.mg X.base CX k C "__len__" ps sp) (hr : Room (k + 1) X.A) (hx : Passes CX X E0 := by first | exact pass0 | exact passL) : CallR X (.builtin "len") (rLenOwn C sp) := by
  intro pins s σ H xs us Q I r h
  obtain ⟨f, fd, h1, h2, h4⟩ := c
  obtain ⟨a, dx, fs, rfl, ha, q⟩ := h
  obtain ⟨u, rfl, ru⟩ := vals1 r
  obtain rfl : u = Value.ref a := ru
  obtain ⟨mA, J, _⟩ := ins_get I.hok ha
  obtain ⟨od, J, _⟩ := J.look
  refine Calls.call_function_entry kind_len plain_len entry_len (args_len1 _) ?_
  unfold Builtin.«len»
  refine wpAny_bind (m := oneArg "len" _) (wpAny_pure ?_)
  refine wpAny_bind (m := callSpecial? (.ref a) (Str.ofString "__len__")) (PySem.W.special_fn I.kIn J h2.at_ (beq_iff_eq.mp h2.fn) (wpAny_mono (run_in1 h1 hr h4 hx I (show Vals [V.ref a] [Value.ref a] from .cons rfl .nil) q) (fun v s' hv => ?_) fun _ _ z => z))
  obtain ⟨v', H', I', rv, n, rfl, hn, q'⟩ := hv
  obtain ⟨t, rfl⟩ := rv
  refine wpAny_bind (wpAny_holding (wpAny_pure ?_))
  refine wpAny_bind (wpAny_letGo ?_)
  show wpAny _ _ (if (n : Int) < 0 then _ else _) _ _ _
  rw [if_neg (show ¬ ((n : Int) < 0) by omega)]
  show wpAny _ _ (if (n : Int) ≥ 2 ^ 63 then _ else _) _ _ _
  rw [if_neg (show ¬ ((n : Int) ≥ 2 ^ 63) by omega)]
  exact wpAny_bind (wpAny_mkInt (wpAny_pure ⟨_, rfl, .int n, H', I'.tok _, ⟨_, rfl⟩, q'⟩))
end
/-- as FnOk, the promise told the size of the memory at the call -/
structure FnN (P : Program) (w : World) (K : PySem.W.Frag) (mg : Str → Option Value) (base : Heap) (CX : CXT) (k : Nat) (f : Addr) (fd : FuncData) (ps : List Str) (sp : Nat → Sp) : Prop where
  len : ∀ n vs H Q E, sp n vs H Q E → vs.length = ps.length
  run : ∀ (A : Around) (outer : List Env) (s : Shared) (H : Hp) (us : List Value) (vs : List V) (Q : VK) (E : XK), Room k A → Env0 P w K mg base A outer s H → BindsTo s fd ⟨us, []⟩ (ps.zip us) → Vals vs us → sp s.heap.objs.size vs H Q E →
    codeAny (model P w) A (.call (.ref f) ⟨us, []⟩) (CR CX outer P w H s Q E) s
section
variable {P : Program} {w : World} {K : PySem.W.Frag} {mg : Str → Option Value} {base : Heap}
theorem Fun.okN {x qual : Str} {st : Stmt} {f : Addr} {fd : FuncData} {N ps : List Str} {k : Nat} {sp : Nat → Sp} (F : Fun K x qual st f fd) (S : FnScope N ps (defScope st)) (len : ∀ n vs H Q E, sp n vs H Q E → vs.length = ps.length)
    (body : ∀ (cdv : Value) (A : Around) (outer : List Env) (s : Shared) (H : Hp) (vs : List V) (Q : VK) (E : XK), Room k (A.deeper (envOfC qual (defScope st) s.heap.objs.size f cdv)) → sp s.heap.objs.size vs H Q E →
      ∃ t, PSs (cxOf CX0 P w K mg base N qual (defScope st) f cdv A outer s H E).nox (defBody st) t ∧ t { nx := fun _ H' => Q .non H', rt := Q } (start N vs) H) : FnN P w K mg base CX0 (k + 1) f fd ps sp := by
  obtain ⟨oc, od, kV, doc, pm, an, cdv, ct, osl, rfl, lk, hcd⟩ := F.ex
  refine ⟨len, fun A outer s H us vs Q E room env0 binds rel promise => ?_⟩
  have hlen := len _ _ _ _ _ promise
  have kin : K.In s.heap := env0.mod.kin.keeps fun b o e => (env0.bs b o e).1
  have nolim : s.heap.NoLimit := env0.mod.nolimit.keeps fun b o e => (env0.bs b o e).1
  have kinds : ∀ y ∈ ps.zip us, (defScope st).names.lookup y.1 = some .local ∨ ((defScope st).names.lookup y.1 = some .cell ∧ ((cellsFrom (s.heap.objs.size + 1) (defScope st).names []).lookup y.1).isSome = true) := by
    rintro ⟨n, v⟩ hy
    cases S.par n (List.of_mem_zip hy).1 with
    | inl q => exact .inl q
    | inr q => exact .inr ⟨q, PySem.W.cellsFrom_some _ _ _ (.inl q)⟩
  refine codeAny_call_function room.depth (kin _ _ lk) rfl S.co S.gen rfl (PySem.W.codeRec_of kin hcd) (binds _ _ _ _ (wpAny_newFunctionEnv_cells S.kind kinds fun env he s1 x => ?_))
  subst he
  refine ⟨nolim.keeps x.toInCall.keep, codeAny_func ?_⟩
  obtain ⟨t, ht, hq⟩ := body cdv A outer s H vs Q E (room.deeper _) promise
  have start_ok := inv_start (CX := CX0) (E := E) S room.hd env0 hlen rel x
  refine wpAny_mono (ht.nox.run [] s1 (start N vs) H _ start_ok hq) (fun fl s' hs => ?_) fun e s' hs => hs
  cases fl with
  | brk => exact False.elim (let ⟨_, _, _, q⟩ := hs; q)
  | cont => exact False.elim (let ⟨_, _, _, q⟩ := hs; q)
  | next =>
    obtain ⟨σ', H', J, q⟩ := hs
    exact ⟨V.non, H', J.os, J.bare, J.base, J.hok, rfl, q⟩
  | ret u =>
    obtain ⟨v, σ', H', J, rv, q⟩ := hs
    exact ⟨v, H', J.os, J.bare, J.base, J.hok, rv, q⟩
end
/-- at it the iterator of the tuple at t -/
def ItT (t it : Addr) : HO := .ext fun h => h.get? it = some { cls := .type "tuple_iterator", data := .fields #[.ref t, .int 0 0] }
theorem itT_ok {P : Program} {w : World} {H : Hp} {h : Heap} {t it : Addr} (e : h.get? it = some { cls := .type "tuple_iterator", data := .fields #[.ref t, .int 0 0] }) : ObjOk P w H h it (ItT t it) := ⟨e, ⟨_, e⟩, fun _ _ q k => k _ q⟩
/-- iter(t), t a tuple; the new thing lies behind n -/
def rIterT (K : PySem.W.Frag) (n : Nat) : List V → Hp → VK → Prop := fun xs H Q => ∃ (l : Addr) (zs : List V), xs = [.ref l] ∧ SqT K H l zs ∧ ∀ it, H it = none → n ≤ it → Q (.ref it) (upd H it (ItT l it))
theorem call_iterT {X : Cx} : CallR X (.builtin "iter") (rIterT X.K X.s_0.heap.objs.size) := by
  intro pins s σ H xs us Q I r h
  obtain ⟨l, zs, rfl, hq, q⟩ := h
  obtain ⟨u, rfl, ru⟩ := vals1 r
  obtain rfl : u = Value.ref l := ru
  obtain ⟨its, rv, pl, hz⟩ := I.tuple hq
  refine Calls.call_function_entry (by decide +kernel) (by decide +kernel) PySem.W.kdk_entry_iter (PySem.W.kdk_args_iter _) ?_
  unfold Builtin.«iter»
  refine wpAny_bind (m := someArgs "iter" 1 2 _) (wpAny_of_eq (a := [Value.ref l]) (by first | rfl | kernel_rfl!) ?_)
  show wpAny _ _ (pyIter (.ref l) >>= _) _ _ _
  refine wpAny_bind (wpAny_pyIter_tuple (show s.heap.IsTuple l its.toArray from pl) (wpAny_pure ⟨_, rfl, ?_⟩))
  have e : (s.heap.push { cls := .type "tuple_iterator", data := .fields #[.ref l, .int 0 0] }).get? s.heap.objs.size = some { cls := .type "tuple_iterator", data := .fields #[.ref l, .int 0 0] } := Heap.get?_push_size _ rfl
  exact ⟨.ref s.heap.objs.size, _, I.laid (o := ItT l s.heap.objs.size) (t' := s.toks) (fun b u e => Heap.get?_push_of_some _ e) (Nat.le_refl _) (itT_ok e), rfl, q _ (I.hok.fresh (Nat.le_refl _)) I.sz⟩
/-- what such an __iter__ promises -/
def spItT (K : PySem.W.Frag) (C : Addr) (f : Str) (n : Nat) : Sp := fun vs H Q _ => ∃ (a dx t : Addr) (fs : List (Str × V)) (zs : List V), vs = [.ref a] ∧ H a = some (.ins C dx fs) ∧ fs.lookup f = some (.ref t) ∧ SqT K H t zs ∧ ∀ it, H it = none → n ≤ it → Q (.ref it) (upd H it (ItT t it))
/-- the class at C walks over the tuple in its field f -/
def CalI (P : Program) (w : World) (K : PySem.W.Frag) (mg : Str → Option Value) (base : Heap) (k : Nat) (C : Addr) (f : Str) : Prop :=
  ∃ (g : Addr) (fd : FuncData), FnN P w K mg base CX0 k g fd ["self"] (spItT K C f) ∧ Meth K C "__iter__" g ∧ Binds K fd ["self"] []
def iOwn (K : PySem.W.Frag) (C : Addr) (f : Str) (tl : TE) : TI := fun σ H R => tl σ H fun x H1 => ∃ (a dx t : Addr) (fs : List (Str × V)), x = .ref a ∧ H1 a = some (.ins C dx fs) ∧ fs.lookup f = some (.ref t) ∧ (∃ zs, SqT K H1 t zs) ∧ R (Itt K t) H1
theorem looks_next {M : Model} {A : Around} {E : Value → Shared → Prop} {s : Shared} {it t : Addr} {Q : Option Value → Shared → Prop} (e : s.heap.get? it = some { cls := .type "tuple_iterator", data := .fields #[.ref t, .int 0 0] }) (h : ∀ g, Q (some g) s) : wpAny M A (specialOf (.ref it) "__next__") Q E s := by
  unfold specialOf
  refine wpAny_bind (wpAny_typeOf (T := "tuple_iterator") ⟨_, e, rfl⟩ (wpAny_of_eq (F.slot_tuple_iterator_next.lookup) (h _)))
theorem pi_own {X : Cx} {tg l : Expr} {tl : TE} {k : Nat} {C : Addr} {f : Str} (c : CalI X.prog X.w X.K X.mg X.base k C f) (hr : Room k X.A) (hl : PE X l tl) : PI X tg l (iOwn X.K C f tl) := by
  refine ⟨fun pins s σ H R I h => ?_⟩
  obtain ⟨g, fd, h1, h2, h4⟩ := c
  refine thn (hl.run pins s σ H _ I h) fun v s1 ⟨x, H1, I1, r1, q1⟩ => ?_
  obtain ⟨a, dx, t, fs, e, ha, hf, ⟨zs, hz⟩, q⟩ := q1
  subst e
  obtain rfl : v = Value.ref a := r1
  obtain ⟨mA, J, _⟩ := ins_get I1.hok ha
  obtain ⟨od, J, _⟩ := J.look
  obtain ⟨m0, hF⟩ := I1.fr
  refine PySem.W.owit_iter hF I1.ok.mod.kin J h2.at_ h2.fn ?_
  have pr : spItT X.K C f s1.heap.objs.size [.ref a] H1 (fun v H' => ∃ it, v = .ref it ∧ H1 it = none ∧ s1.heap.objs.size ≤ it ∧ H' = upd H1 it (ItT t it)) E0 := ⟨a, dx, t, fs, zs, rfl, ha, hf, hz, fun it n1 n2 => ⟨it, rfl, n1, n2, rfl⟩⟩
  have hb' := h4 s1 [.ref a] I1.kIn rfl
  rw [List.append_nil] at hb'
  refine wpAny_call (codeAny_mono (h1.run X.A X.stack s1 H1 [.ref a] [.ref a] _ E0 hr I1.env0 hb' (.cons rfl .nil) pr) fun z s' hq => ?_)
  match z, hq with
  | .error e, hq => exact hq.elim
  | .ok (.ret u), hq =>
    obtain ⟨v, H', I', rv, it, rfl, n1, n2, rfl⟩ := I1.after hq
    obtain rfl : u = Value.ref it := rv
    have eo := (I'.hok it _ upd_same).1
    unfold PySem.W.OwitIt
    refine looks_next eo fun _ => ?_
    have I2 := ItX.inv_drop I' (a := it) (φ := fun h => h.get? it = some { cls := .type "tuple_iterator", data := .fields #[.ref t, .int 0 0] }) upd_same
    have fp := ItX.inv_fp I' (a := it) (u := ItT t it) upd_same (Nat.le_trans I1.sz n2)
    rw [ItX.dropH_upd n1] at I2 fp
    refine ⟨it, [it], _, _, H1, rfl, I2, turn_tuple t it, ⟨_, eo, rfl, rfl⟩, fun b hb => ?_, q⟩
    obtain rfl : b = it := by simpa using hb
    exact fp
/-- the class at C has the property f, its getter keeps sp -/
def CalP (P : Program) (w : World) (K : PySem.W.Frag) (mg : Str → Option Value) (base : Heap) (k : Nat) (C : Addr) (f : Str) (sp : Sp) : Prop :=
  ∃ (p g : Addr) (fd : FuncData), FnOk P w K mg base CX0 k g fd ["self"] sp ∧ PropOf K C f p g ∧ Binds K fd ["self"] []
/-- o.f, a property -/
theorem pe_prp {X : Cx} {e : Expr} {pos : Pos} {ta : TE} {k : Nat} {C : Addr} {f : Str} {sp : Sp} (c : Cls X.K C) (h : CalP X.prog X.w X.K X.mg X.base k C f sp) (hr : Room (k + 1) X.A) (he : PE X e ta) (hab : attributeBase e f X.env (eval e X.env) = eval e X.env := by rfl) :
    PE X (.Attribute e f pos) (tProp C sp [] E0 ta) := by
  obtain ⟨p, g, fd, h1, h2, h3⟩ := h
  exact pe_prop he c h2 h1 hr h3 .nil pass0 hab
end L2
set_option Elab.async false
set_option linter.all false
set_option maxRecDepth 100000
set_option maxHeartbeats 1000000
/-! for i, x in enumerate(v), v a list or a tuple -/
namespace EnT
open PySem
open Sem (wp)
open AutoSeq1 (wpAny_loadPart')
def itTup (l : Addr) : Obj := { cls := .type "tuple_iterator", data := .fields #[.ref l, .int 0 0] }
def enumNew (n : Nat) : Obj := { cls := .type "enumerate", data := .fields #[.none, .bool false, .ref n, rawInt 0, .none, .none] }
theorem meets_newT (l : Addr) (items : Array Value) :
    Meets (Builtin.«enumerate.__new__» ⟨[.type "enumerate", .ref l], []⟩) (fun _ R s => s.heap.IsTuple l items ∧ R (.ok (.ret (.ref (s.heap.push (itTup l)).objs.size))) { s with heap := (s.heap.push (itTup l)).push (enumNew s.heap.objs.size) }) :=
  .of_wp fun prog w A R s h => by
    obtain ⟨hp, g, d, tk, os⟩ := s
    obtain ⟨hT, h⟩ := h
    have hsub := sub_enumerate
    have q : ∀ {A : Around} {E : Value → Shared → Prop} {Q : Value → Shared → Prop}, Q (.ref hp.objs.size) ⟨hp.push (itTup l), g, d, tk, os⟩ → wpAny (model prog w) A (pyIter (.ref l)) Q E ⟨hp, g, d, tk, os⟩ := fun q => wpAny_pyIter_tuple hT q
    wp_walk using q
    refine wpAny_stack_any fun st => wpAny_pure ?_
    split
    · rename_i c _ _ _ _ _
      cases (c == Value.type "enumerate") <;> (wp_walk using q; exact ⟨_, rfl, h⟩)
    · wp_walk using q; exact ⟨_, rfl, h⟩
theorem call_enumT {prog : Program} {w : World} {A : Around} {E : Value → Shared → Prop} {s : Shared} {l : Addr} {items : Array Value} {Q : Value → Shared → Prop} (hT : s.heap.IsTuple l items)
    (h : ∀ h', IsEnum h' (s.heap.objs.size + 1) s.heap.objs.size 0 .none → h'.IsTupleIter s.heap.objs.size l 0 → (∀ b o, s.heap.get? b = some o → h'.get? b = some o) → Q (.ref (s.heap.objs.size + 1)) { s with heap := h' }) :
    wpAny (model prog w) A (call (.type "enumerate") [.ref l]) Q E s := by
  have hz : (s.heap.push (itTup l)).objs.size = s.heap.objs.size + 1 := Heap.size_push ..
  have he : IsEnum ((s.heap.push (itTup l)).push (enumNew s.heap.objs.size)) (s.heap.objs.size + 1) s.heap.objs.size 0 .none := by
    have q := Heap.get?_push_size (s.heap.push (itTup l)) (o := enumNew s.heap.objs.size) rfl
    rw [hz] at q
    exact q
  refine callType_new F.called_enumerate (by decide) (F.typeCall_enumerate_1 _) (F.newCall_enumerate_1 _) (fun obj => F.args_object_init_2 obj _) F.entry_enumerate_new (meets_newT l items) ⟨hT, ?_⟩
  show _ ∧ _
  rw [hz]
  exact ⟨⟨_, he, rfl⟩, h _ he ⟨_, Heap.get?_push_of_some _ (Heap.get?_push_size _ rfl), rfl, rfl⟩ fun b o x => Heap.get?_push_of_some _ (Heap.get?_push_of_some _ x)⟩
end EnT
namespace L2
open PySem PySem.Spec PyProof.Rows
/-- the tuple at a, each item in a new pair -/
def IteT (K : PySem.W.Frag) (a : Addr) : It :=
  ⟨fun i H => ∃ (xs : List V) (x : V), SqT K H a xs ∧ xs[i]? = some x, fun i H v H' => ∃ T x, v = .ref T ∧ H T = none ∧ H' = upd H T (.tup [.int (i : Nat), x]) ∧ ∀ xs, SqT K H a xs → xs[i]? = some x, fun i H => ∃ xs : List V, SqT K H a xs ∧ xs.length ≤ i⟩
theorem tup_inj {X : Cx} {pins : List (Addr × Obj)} {σ : St} {H : Hp} {s : Shared} {a : Addr} {xs ys : List V} (I : Inv X pins σ H s) (h1 : SqT X.K H a xs) (h2 : SqT X.K H a ys) : xs = ys := by
  obtain ⟨i1, r1, ⟨o1, p1, c1⟩, _⟩ := I.tuple h1
  obtain ⟨i2, r2, ⟨o2, p2, c2⟩, _⟩ := I.tuple h2
  rw [p1] at p2
  cases p2
  obtain ⟨_, n1, d1⟩ := c1
  obtain ⟨_, n2, d2⟩ := c2
  rw [d1] at d2
  injection d2 with e _
  have e' : i1 = i2 := by simpa using e
  subst e'
  exact r1.inj r2
theorem turn_enumT {P : Program} {w : World} {K : PySem.W.Frag} {elts : List Expr} {kk : Nat} {tpos : Pos} (a e it : Addr) :
    Turn P w K (.Tuple elts kk tpos) (IteT K a) [e, it] e (fun i h => (∃ old, IsEnum h e it ((i : Nat) : Int) old) ∧ h.IsTupleIter it a i ∧ e ≠ it) where
  mem := by simp
  obj := fun i h st b hb => by
    obtain ⟨⟨old, he⟩, ⟨o, ho, hc, hd⟩, _⟩ := st
    rcases (show b = e ∨ b = it by simpa using hb) with rfl | rfl
    · exact ⟨_, he, fun v q => nomatch q⟩
    · exact ⟨o, ho, fun v q => by rw [hd] at q; cases q⟩
  keep := fun i h h' ⟨⟨old, he⟩, hi, hne⟩ k => ⟨⟨old, k e (by simp) _ he⟩, hi.at fun o q => k it (by simp) o q, hne⟩
  item := by
    intro X hP hw hK hc i pins s σ H E I hf st hg
    subst hP hw hK
    obtain ⟨⟨old, he⟩, hit, hne⟩ := st
    obtain ⟨xs, x, hq, hx⟩ := hg
    obtain ⟨its, rv, p, hz⟩ := I.tuple hq
    obtain ⟨u, hu, ru⟩ := rv.get hx
    have hat : a ≠ it := by
      rintro rfl
      obtain ⟨o1, p1, c1, _⟩ := p
      obtain ⟨o2, p2, c2, _⟩ := hit
      rw [p1] at p2
      cases p2
      rw [c1] at c2
      simp at c2
    have hae : a ≠ e := by
      rintro rfl
      obtain ⟨o1, p1, c1, _⟩ := p
      have he' : s.heap.get? a = some _ := he
      rw [p1] at he'
      cases he'
      simp at c1
    have hel : e < s.heap.objs.size := Heap.lt_size he
    have hil : it < s.heap.objs.size := by obtain ⟨_, q, _⟩ := hit; exact Heap.lt_size q
    have D := Draws.tuple (prog := X.prog) (w := X.w) (A := X.A.in1) (I.ok.hd hc) it a hat its.toArray
    have hlt : i < its.length := (List.getElem?_eq_some_iff.mp hu).1
    refine wpAny_pyNext_enum_itemD D he ⟨hit, show s.heap.IsTuple a its.toArray from p⟩ (by simpa using hlt) hne (by simp [hne, Ne.symm hae]) fun z h' tk hP ho hs' hT hsz hk => ?_
    have hzu : z = u := by
      have h1 : its.toArray[i]? = some z := hP
      rw [List.getElem?_toArray, hu] at h1
      exact (Option.some.inj h1).symm
    subst hzu
    refine ⟨_, rfl, wpAny_letOwnedTupleGo_enum (s := { s with heap := h', toks := tk + 1 }) ho fun h'' he' sb => ?_⟩
    have hT2 : h''.get? s.heap.objs.size = some { cls := .type "tuple", data := .seq #[.int i tk, z] } := (sb.2 _ (Nat.ne_of_gt hel)).trans hT
    have new : ObjOk X.prog X.w (upd H s.heap.objs.size (.tup [.int (i : Nat), x])) h'' s.heap.objs.size (.tup [.int (i : Nat), x]) :=
      ⟨by show 2 ≤ sizeLine; decide, [.int i tk, z], .cons ⟨_, rfl⟩ (.cons ru .nil), ⟨_, hT2, rfl, _, rfl⟩⟩
    have I1 : Inv X pins σ (upd H s.heap.objs.size (.tup [.int (i : Nat), x])) { s with heap := h'', toks := tk + 1 } :=
      I.turnedNew (t' := tk + 1) (ch := [e, it]) (fun b ob hb q => (sb.2 b (fun z => hb (by simp [z]))).trans (hk b ob (fun z => hb (by simp [z])) (fun z => hb (by simp [z])) q)) hf (Nat.le_refl _) new
    refine ⟨.ref s.heap.objs.size, _, I1, rfl, ⟨_, x, rfl, I.hok.fresh (Nat.le_refl _), rfl, fun ys hy => by rw [tup_inj I hy hq]; exact hx⟩, ⟨⟨z, ?_⟩, hs'.1.at fun o q => (sb.2 it (Ne.symm hne)).trans q, hne⟩, fun b hb => ?_⟩
    · rw [show ((i + 1 : Nat) : Int) = (i : Int) + 1 by omega]
      exact he'
    · have hb' : b < s.heap.objs.size := by
        rcases (show b = e ∨ b = it by simpa using hb) with rfl | rfl
        · exact hel
        · exact hil
      rw [upd_ne (Nat.ne_of_lt hb')]
      exact (hf b hb).1
  done := by
    intro X hP hw hK hc i pins s σ H E I hf st hg
    subst hP hw hK
    obtain ⟨⟨old, he⟩, hit, hne⟩ := st
    obtain ⟨xs, hq, hx⟩ := hg
    obtain ⟨its, rv, p, hz⟩ := I.tuple hq
    obtain ⟨f0, f1, f2, f3, f4, f5⟩ := hf it (by simp)
    have hat : a ≠ it := by
      rintro rfl
      obtain ⟨o1, p1, c1, _⟩ := p
      obtain ⟨o2, p2, c2, _⟩ := hit
      rw [p1] at p2
      cases p2
      rw [c1] at c2
      simp at c2
    have hl := rv.length
    have hi : its.toArray[i]? = none := by rw [List.getElem?_toArray]; exact List.getElem?_eq_none_iff.mpr (by omega)
    have D : Draws X.prog X.w X.A.in1 it [it, a] i (fun _ _ => True) (fun j h => h.IsTupleIter it a j ∧ h.IsTuple a its.toArray ∧ j = i) := {
      live := fun _ _ st => let ⟨o, ho, _⟩ := st.1; ⟨o, ho⟩
      frame := fun _ _ _ st hk => ⟨st.1.at fun o e => hk it (by simp) o e, st.2.1.at fun o e => hk a (by simp) o e, st.2.2⟩
      item := fun j s Q E hi st hQ => absurd st.2.2 (Nat.ne_of_lt hi)
      done := fun s Q E st hE => wpAny_nextOf_tuple_end (I.ok.hd hc) st.1 st.2.1 hi hE }
    exact wpAny_pyNext_enum_endD D he ⟨hit, show s.heap.IsTuple a its.toArray from p, rfl⟩ fun h' eb => ⟨rfl, I.turned (t' := s.toks) (fun b o hb q => eb b o hb q) f0 f1 f3 f4 f5⟩
  self := fun A i s Q E ⟨⟨_, he⟩, _⟩ h => wpAny_pyIter_enum he h
/-- v a list or a tuple: its items xs in new pairs with their index -/
def iEnu2 (K : PySem.W.Frag) (ta : TA) : TI := fun σ H R => ta σ H fun vs H1 => ∃ (a : Addr) (xs : List V), vs = [.ref a] ∧ (H1 a = some (.lst xs) ∨ H1 a = some (.tup xs)) ∧
  ∀ J, Walk J xs.length (fun H' => H' a = H1 a) (YPair (fun i => some (.int (i : Nat))) (fun i => xs[i]?)) → R J H1
theorem walk_enumT {K : PySem.W.Frag} {a : Addr} {xs : List V} : Walk (IteT K a) xs.length (fun H => SqT K H a xs) (YPair (fun i => some (.int (i : Nat))) (fun i => xs[i]?)) := by
  refine ⟨fun i _ hi q => ⟨xs, xs[i], q, List.getElem?_eq_getElem hi⟩, fun _ q => ⟨xs, q, Nat.le_refl _⟩, fun i H v H' _ q y => ?_⟩
  obtain ⟨T, x, h1, h2, h3, h4⟩ := y
  exact ⟨T, .int (i : Nat), x, h1, h2, h3, rfl, h4 xs q⟩
theorem pi_enu2 {X : Cx} {e : Expr} {ta : TA} {p pos tpos : Pos} {elts : List Expr} {kk : Nat} (hg : Gl X "enumerate") (hm : X.mg "enumerate" = none) (ha : PA X [e] ta) (hs : starEach [e] X.env = [(false, eval e X.env)] := by rfl) :
    PI X (.Tuple elts kk tpos) (.Call (.Name "enumerate" p) [e] [] pos) (iEnu2 X.K ta) := by
  refine ⟨fun pins s σ H R I h => ?_⟩
  refine Call_ (ld_blt I hg hm boot_enumerate (PyProof.Rows.callWith_type1 (thn (ha.run pos pins s σ H _ I h) fun us s1 ⟨vs, H1, I1, r1, q1⟩ => ?_) hs rfl))
  obtain ⟨a, xs, rfl, ho, q⟩ := q1
  obtain ⟨u, rfl, ru⟩ := vals1 r1
  obtain rfl : u = Value.ref a := ru
  have fresh : ∀ b ∈ [s1.heap.objs.size + 1, s1.heap.objs.size], s1.heap.objs.size ≤ b := fun b hb => by
    rcases (show b = s1.heap.objs.size + 1 ∨ b = s1.heap.objs.size by simpa using hb) with rfl | rfl
    · exact Nat.le_add_right _ _
    · exact Nat.le_refl _
  rcases ho with ho | ho
  · obtain ⟨its, rv, p', hz⟩ := I1.list (SqL.of ho)
    refine call_enumerate_list p'.isList fun h' he hit hsz hk => wpAny_pyIter_enum he ?_
    exact ⟨s1.heap.objs.size + 1, [s1.heap.objs.size + 1, s1.heap.objs.size], _, _, H1, rfl, I1.kept (t' := s1.toks) hk, turn_enum a _ _, ⟨⟨.none, he⟩, hit, Nat.succ_ne_self _⟩, fun b hb => I1.fpOk (fresh b hb) (I1.hok.fresh (fresh b hb)),
      q _ (walk_enum.mono (fun H' hh => SqL.of (hh.trans ho)) fun _ _ _ _ _ _ y => y)⟩
  · obtain ⟨its, rv, p', hz⟩ := I1.tuple (SqT.of ho)
    refine EnT.call_enumT (show s1.heap.IsTuple a its.toArray from p') fun h' he hit hk => wpAny_pyIter_enum he ?_
    exact ⟨s1.heap.objs.size + 1, [s1.heap.objs.size + 1, s1.heap.objs.size], _, _, H1, rfl, I1.kept (t' := s1.toks) hk, turn_enumT a _ _, ⟨⟨.none, he⟩, hit, Nat.succ_ne_self _⟩, fun b hb => I1.fpOk (fresh b hb) (I1.hok.fresh (fresh b hb)),
      q _ (walk_enumT.mono (fun H' hh => SqT.of (hh.trans ho)) fun _ _ _ _ _ _ y => y)⟩
/-- one of two ways to take a value apart -/
theorem pg_or {X : Cx} {tg : Expr} {g1 g2 : TG} (h1 : PG X tg g1) (h2 : PG X tg g2) : PG X tg (fun v σ H Q => g1 v σ H Q ∨ g2 v σ H Q) := by
  refine ⟨fun pins s σ H v u Q I r hw => ?_⟩
  rcases hw with hw | hw
  · exact h1.run pins s σ H v u Q I r hw
  · exact h2.run pins s σ H v u Q I r hw
/-- a list or a tuple, walked -/
def iSeq (tl : TE) : TI := fun σ H R => tl σ H fun x H1 => ∃ (a : Addr) (xs : List V), x = .ref a ∧ (H1 a = some (.lst xs) ∨ H1 a = some (.tup xs)) ∧ ∀ J, Walk J xs.length (fun H' => H' a = H1 a) (YAt xs) → R J H1
theorem pi_seq {X : Cx} {tg l : Expr} {tl : TE} (hl : PE X l tl) : PI X tg l (iSeq tl) := by
  refine ⟨fun pins s σ H R I h => thn (hl.run pins s σ H _ I h) fun v s1 ⟨x, H1, I1, r1, q1⟩ => ?_⟩
  obtain ⟨a, xs, rfl, ho, q⟩ := q1
  obtain rfl : v = Value.ref a := r1
  have new : ∀ b ∈ [s1.heap.objs.size], FpOk X pins H1 b := fun b hb => by
    obtain rfl : b = s1.heap.objs.size := by simpa using hb
    exact I1.fpOk (Nat.le_refl _) (I1.hok.fresh (Nat.le_refl _))
  rcases ho with ho | ho
  · obtain ⟨its, rv, p, hz⟩ := I1.list (SqL.of ho)
    refine wpAny_pyIter_list p.isList ⟨s1.heap.objs.size, [s1.heap.objs.size], _, _, H1, rfl, I1.kept (t' := s1.toks) fun b o e => Heap.get?_push_of_some _ e, turn_list a _, ⟨_, Heap.get?_push_size _ rfl, rfl, rfl⟩, new, ?_⟩
    exact q _ (walk_list.mono (fun H' hh => SqL.of (hh.trans ho)) fun _ _ _ _ _ _ y => y)
  · obtain ⟨its, rv, p, hz⟩ := I1.tuple (SqT.of ho)
    refine wpAny_pyIter_tuple (show s1.heap.IsTuple a its.toArray from p) ⟨s1.heap.objs.size, [s1.heap.objs.size], _, _, H1, rfl, I1.kept (t' := s1.toks) fun b o e => Heap.get?_push_of_some _ e, turn_tuple a _, ⟨_, Heap.get?_push_size _ rfl, rfl, rfl⟩, new, ?_⟩
    exact q _ (walk_tup.mono (fun H' hh => SqT.of (hh.trans ho)) fun _ _ _ _ _ _ y => y)
/-- an item of a list or a tuple -/
theorem ix_either {X : Cx} : IxR X (fun x y H Q => rIxL X.K x y H Q ∨ rIxT X.K x y H Q) := ix_list.or ix_tup
theorem ix_eitherK {X : Cx} {K : PySem.W.Frag} (h : X.K = K) : IxR X (fun x y H Q => rIxL K x y H Q ∨ rIxT K x y H Q) := h ▸ ix_either
end L2
set_option Elab.async false
set_option linter.all false
set_option maxRecDepth 100000
namespace L2
open PySem PySem.Spec PyProof.Rows
theorem eqvAll_ints : ∀ ns ms : List Int, PyData.eqvAll (ns.map PyData.int) (ms.map PyData.int) = decide (ns = ms)
  | [], [] => by simp [PyData.eqvAll]
  | [], m :: ms => by simp [PyData.eqvAll]
  | n :: ns, [] => by simp [PyData.eqvAll]
  | n :: ns, m :: ms => by
    have ih := eqvAll_ints ns ms
    by_cases e : n = m
    · subst e
      simp [PyData.eqvAll, PyData.eqv, ih]
    · simp [PyData.eqvAll, PyData.eqv, e]
theorem eqv_tupI (ns ms : List Int) : PyData.eqv (.tuple (ns.map PyData.int)) (.tuple (ms.map PyData.int)) = decide (ns = ms) := by rw [← eqvAll_ints]; simp [PyData.eqv]
theorem eqv_lstI (ns ms : List Int) : PyData.eqv (.list (ns.map PyData.int)) (.list (ms.map PyData.int)) = decide (ns = ms) := by rw [← eqvAll_ints]; simp [PyData.eqv]
theorem dpAll_ints {K : PySem.W.Frag} {H : Hp} : ∀ ns : List Int, DpAll K H (ns.map V.int) (ns.map PyData.int)
  | [] => .nil
  | n :: ns => .cons (.int n) (dpAll_ints ns)
theorem depthAll_ints : ∀ ns : List Int, PyData.depthAll (ns.map PyData.int) = 0
  | [] => by simp [PyData.depthAll]
  | n :: ns => by simp [PyData.depthAll, PyData.depth, depthAll_ints ns]
theorem layAll_ints : ∀ ns : List Int, PyData.canLayAll0 (ns.map PyData.int) = true
  | [] => by simp [PyData.canLayAll0]
  | n :: ns => by simp [PyData.canLayAll0, PyData.canLay0, layAll_ints ns]
theorem shaped_tupI (ns : List Int) : SeqAt.shaped (.tuple (ns.map PyData.int)) = true := by simp [SeqAt.shaped, PyData.canLay0, PyData.depth, layAll_ints, depthAll_ints]
theorem shaped_lstI (ns : List Int) : SeqAt.shaped (.list (ns.map PyData.int)) = true := by simp [SeqAt.shaped, PyData.canLay0, PyData.depth, layAll_ints, depthAll_ints]
theorem eqD_tup {K : PySem.W.Frag} {H : Hp} {p q : Addr} {ns ms : List Int} {Q : VK} (hp : SqT K H p (ns.map V.int)) (hq : SqT K H q (ms.map V.int)) (h : Q (.bl (decide (ns = ms))) H) : rEqD K (.ref p) (.ref q) H Q :=
  ⟨_, _, .tup hp (dpAll_ints ns), .tup hq (dpAll_ints ms), shaped_tupI ns, shaped_tupI ms, by rw [eqv_tupI]; exact h⟩
theorem eqD_lst {K : PySem.W.Frag} {H : Hp} {p q : Addr} {ns ms : List Int} {Q : VK} (hp : SqL K H p (ns.map V.int)) (hq : SqL K H q (ms.map V.int)) (h : Q (.bl (decide (ns = ms))) H) : rEqD K (.ref p) (.ref q) H Q :=
  ⟨_, _, .lst hp (dpAll_ints ns), .lst hq (dpAll_ints ms), shaped_lstI ns, shaped_lstI ms, by rw [eqv_lstI]; exact h⟩
theorem neD_lst {K : PySem.W.Frag} {H : Hp} {p q : Addr} {ns ms : List Int} {Q : VK} (hp : SqL K H p (ns.map V.int)) (hq : SqL K H q (ms.map V.int)) (h : Q (.bl (!decide (ns = ms))) H) : rNeD K (.ref p) (.ref q) H Q :=
  ⟨_, _, .lst hp (dpAll_ints ns), .lst hq (dpAll_ints ms), shaped_lstI ns, shaped_lstI ms, by rw [eqv_lstI]; exact h⟩
end L2
set_option Elab.async false
set_option linter.all false
set_option maxRecDepth 100000
set_option maxHeartbeats 1000000
/-! plain values as data: shapes, equality of lists and tuples of them, two deep -/
namespace L2
open PySem PySem.Spec PyProof.Rows
def vD : V → PyData
  | .bl b => .bool b
  | .int i => .int i
  | .str x => .str x
  | _ => .none
/-- a sequence's kind: a list or a tuple of these -/
def sqD (l : Bool) (ds : List PyData) : PyData := if l then .list ds else .tuple ds
/-- a plain value whose text can be laid -/
def okV : V → Bool
  | .non => true
  | .bl _ => true
  | .int _ => true
  | .str x => PyData.strOk x
  | _ => false
theorem okV.flat {v : V} (h : okV v = true) : flatV v = true := by cases v <;> first | rfl | cases h
theorem vD_lay {v : V} (h : okV v = true) : (vD v).canLay0 = true := by cases v <;> first | (simp only [vD, PyData.canLay0]; done) | (simp only [vD, PyData.canLay0]; exact h)
theorem vD_depth (v : V) : (vD v).depth = 0 := by cases v <;> simp [vD, PyData.depth]
theorem vDs_lay : ∀ {xs : List V}, (∀ x ∈ xs, okV x = true) → PyData.canLayAll0 (xs.map vD) = true
  | [], _ => by simp [PyData.canLayAll0]
  | v :: xs, h => by simp [PyData.canLayAll0, vD_lay (h v (List.mem_cons_self)), vDs_lay fun y hy => h y (List.mem_cons_of_mem _ hy)]
theorem vDs_depth : ∀ xs : List V, PyData.depthAll (xs.map vD) = 0
  | [] => by simp [PyData.depthAll]
  | v :: xs => by simp [PyData.depthAll, vD_depth v, vDs_depth xs]
theorem vD_shaped {v : V} (h : okV v = true) : SeqAt.shaped (vD v) = true := by simp [SeqAt.shaped, vD_lay h, vD_depth]
theorem row_lay (l : Bool) {xs : List V} (h : ∀ x ∈ xs, okV x = true) : (sqD l (xs.map vD)).canLay0 = true := by cases l <;> simp [sqD, PyData.canLay0, vDs_lay h]
theorem row_depth (l : Bool) (xs : List V) : (sqD l (xs.map vD)).depth = 1 := by cases l <;> simp [sqD, PyData.depth, vDs_depth]
theorem row_shaped (l : Bool) {xs : List V} (h : ∀ x ∈ xs, okV x = true) : SeqAt.shaped (sqD l (xs.map vD)) = true := by simp [SeqAt.shaped, row_lay l h, row_depth]
/-- data of one level: a plain value, a list or tuple of such -/
def Fl1 (d : PyData) : Prop := d.canLay0 = true ∧ d.depth ≤ 1
theorem fl_v {v : V} (h : okV v = true) : Fl1 (vD v) := ⟨vD_lay h, by rw [vD_depth]; omega⟩
theorem fl_row (l : Bool) {xs : List V} (h : ∀ x ∈ xs, okV x = true) : Fl1 (sqD l (xs.map vD)) := ⟨row_lay l h, by rw [row_depth]; omega⟩
theorem fls_lay : ∀ {ds : List PyData}, (∀ d ∈ ds, Fl1 d) → PyData.canLayAll0 ds = true
  | [], _ => by simp [PyData.canLayAll0]
  | d :: ds, h => by simp [PyData.canLayAll0, (h d (List.mem_cons_self)).1, fls_lay fun e he => h e (List.mem_cons_of_mem _ he)]
theorem fls_depth : ∀ {ds : List PyData}, (∀ d ∈ ds, Fl1 d) → PyData.depthAll ds ≤ 1
  | [], _ => by simp [PyData.depthAll]
  | d :: ds, h => by
    have h1 := (h d (List.mem_cons_self)).2
    have h2 := fls_depth fun e he => h e (List.mem_cons_of_mem d he)
    simp only [PyData.depthAll]
    omega
theorem fls_shaped (l : Bool) {ds : List PyData} (h : ∀ d ∈ ds, Fl1 d) : SeqAt.shaped (sqD l ds) = true := by
  have h1 := fls_lay h
  have h2 := fls_depth h
  cases l with
  | true =>
    show ((PyData.list ds).canLay0 && decide ((PyData.list ds).depth ≤ 64)) = true
    have e : (PyData.list ds).depth ≤ 64 := by
      have : (PyData.list ds).depth = PyData.depthAll ds + 1 := by simp only [PyData.depth]
      omega
    rw [decide_eq_true e, Bool.and_true]
    simp only [PyData.canLay0, h1]
  | false =>
    show ((PyData.tuple ds).canLay0 && decide ((PyData.tuple ds).depth ≤ 64)) = true
    have e : (PyData.tuple ds).depth ≤ 64 := by
      have : (PyData.tuple ds).depth = PyData.depthAll ds + 1 := by simp only [PyData.depth]
      omega
    rw [decide_eq_true e, Bool.and_true]
    simp only [PyData.canLay0, h1]
theorem vD_self (v : V) : PyData.eqv (vD v) (vD v) = true := by cases v <;> simp [vD, PyData.eqv]
theorem eqvAll_self : ∀ {ds : List PyData}, (∀ d ∈ ds, PyData.eqv d d = true) → PyData.eqvAll ds ds = true
  | [], _ => by simp [PyData.eqvAll]
  | d :: ds, h => by simp [PyData.eqvAll, h d (List.mem_cons_self), eqvAll_self fun e he => h e (List.mem_cons_of_mem _ he)]
theorem sqD_self (l : Bool) {ds : List PyData} (h : ∀ d ∈ ds, PyData.eqv d d = true) : PyData.eqv (sqD l ds) (sqD l ds) = true := by
  cases l <;> (simp only [sqD, PyData.eqv]; exact eqvAll_self h)
theorem row_self (l : Bool) (xs : List V) : PyData.eqv (sqD l (xs.map vD)) (sqD l (xs.map vD)) = true := sqD_self l fun d hd => by
  obtain ⟨v, _, rfl⟩ := List.mem_map.mp hd
  exact vD_self v
theorem eqvAll_append : ∀ {as bs cs ds : List PyData}, as.length = cs.length → PyData.eqvAll (as ++ bs) (cs ++ ds) = (PyData.eqvAll as cs && PyData.eqvAll bs ds)
  | [], bs, [], ds, _ => by simp [PyData.eqvAll]
  | [], _, _ :: _, _, h => by simp at h
  | _ :: _, _, [], _, h => by simp at h
  | a :: as, bs, c :: cs, ds, h => by
    have ih := eqvAll_append (as := as) (bs := bs) (cs := cs) (ds := ds) (by simpa using h)
    simp only [List.cons_append, PyData.eqvAll, ih, Bool.and_assoc]
section
variable {K : PySem.W.Frag} {H : Hp}
theorem dpv {v : V} (h : flatV v = true) : Dp K H v (vD v) := by
  cases v with
  | non => exact .non
  | bl b => exact .bl b
  | int i => exact .int i
  | str x => exact .str x
  | _ => cases h
theorem dpvs : ∀ {xs : List V}, (∀ x ∈ xs, flatV x = true) → DpAll K H xs (xs.map vD)
  | [], _ => .nil
  | x :: xs, h => .cons (dpv (h x (List.mem_cons_self))) (dpvs fun y hy => h y (List.mem_cons_of_mem _ hy))
theorem dp_lst {a : Addr} {xs : List V} {ds : List PyData} (h : SqL K H a xs) (d : DpAll K H xs ds) : Dp K H (.ref a) (sqD true ds) := .lst h d
theorem dp_tup {a : Addr} {xs : List V} {ds : List PyData} (h : SqT K H a xs) (d : DpAll K H xs ds) : Dp K H (.ref a) (sqD false ds) := .tup h d
end
end L2
set_option Elab.async false
set_option linter.all false
set_option maxRecDepth 100000
set_option maxHeartbeats 1000000
/-! comprehensions whose elements make nothing; lists side by side -/
namespace L2
open PySem PySem.Spec PyProof.Rows
def PvF (H : Hp) (D : Addr) (xs : List V) (f : V → Option V) (i : Nat) (H' : Hp) : Prop := H' = upd H D (.lst ((xs.take i).filterMap f))
section
variable {H : Hp} {D : Addr} {xs : List V} {f : V → Option V} {i : Nat} {x y : V}
theorem take_snoc {α : Type} {xs : List α} {i : Nat} {x : α} (hx : xs[i]? = some x) : xs.take (i + 1) = xs.take i ++ [x] := by rw [List.take_add_one, hx]; rfl
theorem fm_put (hx : xs[i]? = some x) (hf : f x = some y) (hz : xs.length < sizeLine) : ∃ acc, (upd H D (.lst ((xs.take i).filterMap f))) D = some (.lst acc) ∧ acc.length < sizeLine ∧ PvF H D xs f (i + 1) (upd (upd H D (.lst ((xs.take i).filterMap f))) D (.lst (acc ++ [y]))) := by
  refine ⟨_, upd_same, Nat.lt_of_le_of_lt (Nat.le_trans (List.length_filterMap_le _ _) (List.length_take_le' _ _)) hz, ?_⟩
  unfold PvF
  rw [upd_upd, take_snoc hx, List.filterMap_append]
  rw [show List.filterMap f [x] = [y] by rw [List.filterMap_cons, hf]; rfl]
theorem fm_skip (hx : xs[i]? = some x) (hf : f x = none) : PvF H D xs f (i + 1) (upd H D (.lst ((xs.take i).filterMap f))) := by
  unfold PvF
  rw [take_snoc hx, List.filterMap_append, show List.filterMap f [x] = [] by rw [List.filterMap_cons, hf]; rfl, List.append_nil]
theorem fm_end {H' : Hp} (h : PvF H D xs f xs.length H') : H' = upd H D (.lst (xs.filterMap f)) := by
  unfold PvF at h
  rw [List.take_length] at h
  exact h
end
theorem Paired.at {α β : Type} {F : α → β → Prop} : ∀ {xs : List α} {ys : List β} {i : Nat} {x : α}, Paired F xs ys → xs[i]? = some x → ∃ y, ys[i]? = some y ∧ F x y
  | _, _, i, _, .nil, h => by simp at h
  | _, _, 0, _, .cons h _, e => by
    cases (show some _ = some _ from e)
    exact ⟨_, rfl, h⟩
  | _, _, i + 1, _, .cons _ t, e => Paired.at (i := i) t e
theorem Paired.at' {α β : Type} {F : α → β → Prop} : ∀ {xs : List α} {ys : List β} {i : Nat} {y : β}, Paired F xs ys → ys[i]? = some y → ∃ x, xs[i]? = some x ∧ F x y
  | _, _, i, _, .nil, h => by simp at h
  | _, _, 0, _, .cons h _, e => by
    cases (show some _ = some _ from e)
    exact ⟨_, rfl, h⟩
  | _, _, i + 1, _, .cons _ t, e => Paired.at' (i := i) t e
theorem Paired.takeP {α β : Type} {F : α → β → Prop} : ∀ {xs : List α} {ys : List β} (n : Nat), Paired F xs ys → Paired F (xs.take n) (ys.take n)
  | _, _, 0, _ => .nil
  | _, _, _ + 1, .nil => .nil
  | _, _, n + 1, .cons h t => .cons h (Paired.takeP n t)
theorem Paired.appendP {α β : Type} {F : α → β → Prop} : ∀ {xs xs' : List α} {ys ys' : List β}, Paired F xs ys → Paired F xs' ys' → Paired F (xs ++ xs') (ys ++ ys')
  | _, _, _, _, .nil, s => s
  | _, _, _, _, .cons h t, s => .cons h (Paired.appendP t s)
theorem Paired.mapL {α β γ : Type} {F : α → β → Prop} {f : α → γ} {g : β → γ} (h : ∀ a b, F a b → f a = g b) : ∀ {xs : List α} {ys : List β}, Paired F xs ys → xs.map f = ys.map g
  | _, _, .nil => rfl
  | _, _, .cons r t => by rw [List.map_cons, List.map_cons, h _ _ r, Paired.mapL h t]
theorem call_tuple_ofK {X : Cx} {K : PySem.W.Frag} (h : X.K = K) : CallR X (.type "tuple") (fun xs H Q => ∃ p ys, xs = [.ref p] ∧ ((SqL K H p ys ∧ ∀ l, H l = none → Q (.ref l) (upd H l (.tup ys))) ∨ (SqT K H p ys ∧ Q (.ref p) H))) := h ▸ call_tuple_of
theorem call_list_ofK {X : Cx} {K : PySem.W.Frag} (h : X.K = K) : CallR X (.type "list") (fun xs H Q => ∃ p ys, xs = [.ref p] ∧ (SqL K H p ys ∨ SqT K H p ys) ∧ ∀ l, H l = none → Q (.ref l) (upd H l (.lst ys))) := h ▸ call_list_of
/-- what is known of the value, and no more, goes on -/
def tCutE (t : TE) : TE := fun σ H Q => ∃ R : V → Hp → Prop, t σ H R ∧ ∀ v H', R v H' → Q v H'
theorem pe_cut {X : Cx} {e : Expr} {t : TE} (h : PE X e t) : PE X e (tCutE t) := ⟨fun pins s σ H Q I ⟨R, h1, h2⟩ => wpAny_mono (h.run pins s σ H R I h1) (fun u s' ⟨v, H', I', r, q⟩ => ⟨v, H', I', r, h2 _ _ q⟩) fun _ _ z => z⟩
end L2
set_option Elab.async false
set_option linter.all false
set_option maxRecDepth 100000
set_option maxHeartbeats 1000000
/-! <= of places (year, kind, text); list.index, tuple.index; a written dict from texts to ints -/
namespace Ob
open PySem
theorem RcOp.le_str {A : Around} {s : Shared} (a b : Str) (t u : Tok) : RcOp .LtE A s (.str a t) (.str b u) (!decide (b.cps.toList < a.cps.toList)) := fun _ _ _ _ h => PySem.P.le_str h
end Ob
namespace L2
open PySem PySem.Spec PyProof.Rows
/-- a place is not behind another one -/
def leP (p q : Int × Int × Str) : Bool := if p.1 = q.1 then if p.2.1 = q.2.1 then (if p.2.2 = q.2.2 then true else !decide (q.2.2.cps.toList < p.2.2.cps.toList)) else decide (p.2.1 ≤ q.2.1) else decide (p.1 ≤ q.1)
def plV (p : Int × Int × Str) : List V := [.int p.1, .int p.2.1, .str p.2.2]
def rLeP (K : PySem.W.Frag) : R2 := fun x y H Q => ∃ (a b : Addr) (p q : Int × Int × Str), x = .ref a ∧ y = .ref b ∧ SqT K H a (plV p) ∧ SqT K H b (plV q) ∧ Q (.bl (leP p q)) H
theorem vals3x {x y z : V} {us : List Value} (h : Vals [x, y, z] us) : ∃ a b c, us = [a, b, c] ∧ RelV x a ∧ RelV y b ∧ RelV z c := by
  cases h with
  | cons ra h =>
    cases h with
    | cons rb h =>
      cases h with
      | cons rc h =>
        cases h
        exact ⟨_, _, _, rfl, ra, rb, rc⟩
theorem op_leP {X : Cx} (hu : X.A.units + 64 < cLine) : OpR X (compareOp .LtE) (rLeP X.K) := by
  intro pins s σ H x y v u Q I rx ry h
  obtain ⟨a, b, p, q, rfl, rfl, ha, hb, k⟩ := h
  obtain ⟨y1, k1, s1⟩ := p
  obtain ⟨y2, k2, s2⟩ := q
  cases rx
  cases ry
  obtain ⟨its, r1, p1, _⟩ := I.tuple ha
  obtain ⟨its2, r2, p2, _⟩ := I.tuple hb
  obtain ⟨_, _, _, rfl, ⟨ta, rfl⟩, ⟨tb, rfl⟩, ⟨tc, rfl⟩⟩ := vals3x (show Vals [V.int y1, .int k1, .str s1] its from r1)
  obtain ⟨_, _, _, rfl, ⟨ua, rfl⟩, ⟨ub, rfl⟩, ⟨uc, rfl⟩⟩ := vals3x (show Vals [V.int y2, .int k2, .str s2] its2 from r2)
  have ii : ∀ i j : Int, (i == j) = decide (i = j) := fun i j => by
    by_cases q : i = j
    · rw [decide_eq_true q]; exact beq_iff_eq.mpr q
    · rw [decide_eq_false q]; exact beq_eq_false_iff_ne.mpr q
  have ss : ∀ i j : Str, (i == j) = decide (i = j) := fun i j => by
    by_cases q : i = j
    · rw [decide_eq_true q]; exact beq_iff_eq.mpr q
    · rw [decide_eq_false q]; exact beq_eq_false_iff_ne.mpr q
  have R := Ob.RcOp.tuples_le (A := X.A) (s := s) (e := fun j => match j with | 0 => decide (y1 = y2) | 1 => decide (k1 = k2) | _ => decide (s1 = s2))
    (r := fun j => match j with | 0 => decide (y1 ≤ y2) | 1 => decide (k1 ≤ k2) | _ => !decide (s2.cps.toList < s1.cps.toList)) p1 p2 (Nat.lt_of_le_of_lt (Nat.le_add_right _ _) hu) (fun j h1 h2 => by
      match j, h1, h2 with
      | 0, _, _ => show SeqAt.EqAt _ _ _ _ (decide (y1 = y2)); rw [← ii]; exact SeqAt.EqAt.int_int _ _ _ _
      | 1, _, _ => show SeqAt.EqAt _ _ _ _ (decide (k1 = k2)); rw [← ii]; exact SeqAt.EqAt.int_int _ _ _ _
      | 2, _, _ => show SeqAt.EqAt _ _ _ _ (decide (s1 = s2)); rw [← ss]; exact SeqAt.EqAt.str_str _ _ _ _
      | j + 3, h1, _ => simp at h1; omega) (fun j h1 h2 _ => by
      match j, h1, h2 with
      | 0, _, _ => exact Ob.RcOp.le_int _ _ _ _
      | 1, _, _ => exact Ob.RcOp.le_int _ _ _ _
      | 2, _, _ => exact Ob.RcOp.le_str _ _ _ _
      | j + 3, h1, _ => simp at h1; omega)
  have z : wpAny (model X.prog X.w) X.A (compareOp .LtE (.ref a) (.ref b)) (EP X pins σ Q) X.xe s := R X.prog X.w X.xe (EP X pins σ Q) ⟨.bl _, H, I, rfl, by
    have e : leP (y1, k1, s1) (y2, k2, s2) = Ob.lexAt (fun j => match j with | 0 => decide (y1 = y2) | 1 => decide (k1 = k2) | _ => decide (s1 = s2)) (fun j => match j with | 0 => decide (y1 ≤ y2) | 1 => decide (k1 ≤ k2) | _ => !decide (s2.cps.toList < s1.cps.toList)) true 0 3 := by
      simp only [leP, Ob.lexAt, decide_eq_true_eq]
    rw [e] at k
    exact k⟩
  exact z
/-- a written tuple is one by its object -/
def tyB (K : PySem.W.Frag) (a : Addr) : Bool := match K.lookup a with
  | some ⟨.type c, none, _, _⟩ => decide (c = "tuple")
  | _ => false
theorem tyB_ok {K : PySem.W.Frag} {a : Addr} (h : tyB K a = true) : ∃ o, K.lookup a = some o ∧ o.cls = .type "tuple" ∧ o.dict = none := by
  unfold tyB at h
  split at h
  · rename_i c _ _ e
    exact ⟨_, e, congrArg Value.type (of_decide_eq_true h), rfl⟩
  · cases h
/-- d: a written dict from texts to ints -/
structure WD (K : PySem.W.Frag) (w : World) (d : Addr) (L : List (Str × Int)) : Prop where
  ex : ∃ es n, KDict K w d es n
  get : ∀ z, ∃ r, PySem.W.nsIn K d z = some r ∧ (match L.lookup z with | some i => ∃ u, r = some u ∧ RelV (.int i) u | none => r = none)
theorem keys_none {P : Params} {z : Str} : ∀ {l : List DictEntry} {ks : List Str}, l.map He.keyOf = He.keysIn P ks → z ∉ ks → l.find? (·.key.isStr z) = none ∧ l.any (·.refKey) = false
  | [], _, _, _ => ⟨rfl, rfl⟩
  | e :: r, [], h, _ => by cases h
  | e :: r, k :: ks, h, hz => by
    have h1 : He.keyOf e :: r.map He.keyOf = some (k, PyData.keyHash P k) :: He.keysIn P ks := h
    injection h1 with h2 h3
    obtain ⟨g1, g2⟩ := keys_none h3 (fun q => hz (List.mem_cons_of_mem _ q))
    unfold He.keyOf at h2
    split at h2
    · rename_i x t q
      have h4 := Option.some.inj h2
      obtain ⟨h5, h6⟩ := Prod.mk.inj h4
      have ne : (x == z) = false := beq_eq_false_iff_ne.mpr fun e => hz (by rw [← e, h5]; exact List.mem_cons_self)
      refine ⟨?_, ?_⟩
      · rw [List.find?_cons_of_neg (by rw [q]; show ¬ (x == z) = true; rw [ne]; decide)]
        exact g1
      · rw [List.any_cons, g2, Bool.or_false]
        show (match e.key with | .ref _ => true | _ => false) = false
        rw [q]
    · cases h2
theorem look_none_mem {α : Type} {z : Str} : ∀ {L : List (Str × α)}, L.lookup z = none → z ∉ L.map (·.1)
  | [], _ => by simp
  | (t, a) :: L, h => by
    rw [List.lookup_cons] at h
    cases e : z == t with
    | true => rw [e] at h; cases h
    | false =>
      rw [e] at h
      intro q
      rcases List.mem_cons.mp q with q | q
      · rw [beq_eq_false_iff_ne] at e; exact e q
      · exact look_none_mem h q
theorem look_some_mem {α : Type} {z : Str} {i : α} : ∀ {L : List (Str × α)}, L.lookup z = some i → (z, i) ∈ L
  | [], h => by cases h
  | (t, a) :: L, h => by
    rw [List.lookup_cons] at h
    cases e : z == t with
    | true => rw [e] at h; cases h; rw [beq_iff_eq] at e; rw [e]; exact List.mem_cons_self
    | false => rw [e] at h; exact List.mem_cons_of_mem _ (look_some_mem h)
theorem wd_of {K : PySem.W.Frag} {w : World} {d : Addr} {L : List (Str × Int)} (h1 : He.dicW K d = some (He.keysIn w.params (L.map (·.1)))) (h2 : He.valsB K d (L.map fun q => (q.1, .int q.2)) = true) : WD K w d L := by
  refine ⟨He.dicW_ok h1, fun z => ?_⟩
  cases e : L.lookup z with
  | some i =>
    obtain ⟨u, g1, g2⟩ := He.valsB_ok h2 (q := (z, .int i)) (List.mem_map.mpr ⟨(z, i), look_some_mem e, rfl⟩)
    exact ⟨some u, g1, u, rfl, g2⟩
  | none =>
    refine ⟨none, ?_, rfl⟩
    have hz := look_none_mem e
    unfold He.dicW at h1
    cases q : K.lookup d with
    | none => rw [q] at h1; cases h1
    | some o =>
      obtain ⟨oc, od, dt, osl⟩ := o
      rw [q] at h1
      cases oc with
      | type c =>
        cases od with
        | none =>
          cases dt with
          | dict es n =>
            have h1 : (match decide (c = "dict") && (osl.isEmpty && !(d == sysModules)) with
              | true => some (es.toList.map He.keyOf)
              | false => none) = some (He.keysIn w.params (L.map (·.1))) := h1
            cases zz : decide (c = "dict") && (osl.isEmpty && !(d == sysModules)) with
            | false => rw [zz] at h1; cases h1
            | true =>
              rw [zz] at h1
              obtain ⟨k1, k2⟩ := keys_none (Option.some.inj h1) hz
              unfold PySem.W.nsIn
              rw [q]
              show (match es.toList.find? (·.key.isStr z) with | some e => some (some e.val) | none => if es.toList.any (·.refKey) then none else some none) = _
              rw [k1, k2]
              rfl
          | _ => cases h1
        | some b => cases dt <;> cases h1
      | _ => cases od <;> cases dt <;> cases h1
theorem cut_drop (xs : List V) (n : Nat) : cutV xs (some (n : Int)) none = xs.drop n := by
  unfold cutV
  rw [HT.sIx_nat, HT.sIx_none]
  by_cases h : n ≤ xs.length
  · rw [Nat.min_eq_left h, List.take_of_length_le (by rw [List.length_drop]; exact Nat.le_refl _)]
  · rw [Nat.min_eq_right (by omega), List.drop_of_length_le (Nat.le_refl _), List.drop_of_length_le (by omega)]
    exact List.take_nil
theorem slOr {K : PySem.W.Frag} {H : Hp} {b : Addr} {xs : List V} {n : Nat} {Q : VK} (hb : H b = some (.lst xs) ∨ H b = some (.tup xs)) (h0 : 0 < n) (hl : n ≤ xs.length)
    (k : ∀ l o, H l = none → (o = .lst (xs.drop n) ∨ o = .tup (xs.drop n)) → Q (.ref l) (upd H l o)) : rSlL K (.ref b) (some (n : Int)) none H Q ∨ rSlA K (.ref b) (some (n : Int)) none H Q := by
  rcases hb with hb | hb
  · exact .inl ⟨b, xs, rfl, SqL.of hb, fun l h => by rw [cut_drop]; exact k l _ h (.inl rfl)⟩
  · refine .inr ⟨b, xs, rfl, SqT.of hb, fun h => ?_, fun _ l h => by rw [cut_drop]; exact k l _ h (.inr rfl)⟩
    rw [HT.sIx_nat, Nat.min_eq_left hl] at h
    omega
/-- a part of a list or a tuple -/
theorem sl_eitherK {X : Cx} {K : PySem.W.Frag} (h : X.K = K) : SlR X (fun x lo hi H Q => rSlL K x lo hi H Q ∨ rSlA K x lo hi H Q) := h ▸ sl_list.or sl_tupA
theorem sl_either {X : Cx} : SlR X (fun x lo hi H Q => rSlL X.K x lo hi H Q ∨ rSlA X.K x lo hi H Q) := sl_list.or sl_tupA
section
variable {X : Cx} {K : PySem.W.Frag} {w : World} {d : Addr} {L : List (Str × Int)}
theorem op_notIn_wd (D : WD X.K X.w d L) : OpR X (compareOp .NotIn) (fun x y H Q => ∃ z : Str, x = .str z ∧ y = .ref d ∧ Q (.bl (!(L.lookup z).isSome)) H) := by
  intro pins s σ H x y v u Q I rx ry h
  obtain ⟨z, rfl, rfl, q⟩ := h
  obtain ⟨es, n, kd⟩ := D.ex
  obtain ⟨r, g1, g2⟩ := D.get z
  refine op_notIn_kd kd pins s σ H _ _ v u Q I rx ry ⟨z, r, rfl, rfl, g1, ?_⟩
  cases e : L.lookup z with
  | none => rw [e] at g2 q; subst g2; exact q
  | some i => rw [e] at g2 q; obtain ⟨u', rfl, _⟩ := g2; exact q
theorem ix_wd (D : WD X.K X.w d L) : IxR X (fun x y H Q => ∃ (z : Str) (i : Int), x = .ref d ∧ y = .str z ∧ L.lookup z = some i ∧ Q (.int i) H) := by
  intro value slice pins s σ H x y v u Q I rx ry h hs
  obtain ⟨z, i, rfl, rfl, e, q⟩ := h
  obtain ⟨es, n, kd⟩ := D.ex
  obtain ⟨r, g1, g2⟩ := D.get z
  rw [e] at g2
  obtain ⟨u', rfl, g2⟩ := g2
  exact ix_kdict value slice pins s σ H _ _ v u Q I rx ry ⟨d, z, .int i, rfl, rfl, ⟨es, n, u', kd.at_, kd.lit, g1, g2⟩, q⟩ hs
end
end L2
set_option Elab.async false
set_option linter.all false
set_option maxRecDepth 100000
set_option maxHeartbeats 1000000
/-! methods with a star parameter -/
namespace L2
open PySem PySem.Spec PyProof.Rows StX
section
variable {X : Cx} {CX : CXT} {k : Nat} {f C : Addr} {sp : Sp} {E : St → XK} {m : Str} {pos apos : Pos} {e o : Expr} {es : List Expr} {ta : TE} {t : TA}
theorem run_fnRS {pins : List (Addr × Obj)} {σ : St} {H : Hp} {s : Shared} {Q : VK} {us : List Value} {vs : List V} (F : FnR X.prog X.w X.K X.mg X.base CX k f sp) (hr : Room k X.A) (hx : PassesAt CX X σ (E σ))
    (I : Inv X pins σ H s) (r : Vals vs us) (h : sp vs H Q (E σ)) : wpAny (model X.prog X.w) X.A (call (.ref f) us) (EP X pins σ Q) X.xe s := by
  refine wpAny_call (codeAny_mono (F X.A X.stack s H us vs Q (E σ) hr I.env0 r h) fun r s' hq => ?_)
  cases r with
  | error e => exact hx pins H s e s' I hq
  | ok fl =>
    cases fl with
    | ret u => exact I.after hq
    | next => exact False.elim hq
    | brk => exact False.elim hq
    | cont => exact False.elim hq
/-- the class at C has the method m, its promise told of the values as they are written -/
def CalS (P : Program) (w : World) (K : PySem.W.Frag) (mg : Str → Option Value) (base : Heap) (CX : CXT) (k : Nat) (C : Addr) (m : Str) (sp : Sp) : Prop := ∃ f, FnR P w K mg base CX k f sp ∧ Meth K C m f
def tMethX (C : Addr) (m : Str) (sp : Sp) (E : St → XK) (ta : TE) (t : TA) : TE := fun σ H Q => ta σ H fun x H1 => ∃ a dx fs, x = .ref a ∧ H1 a = some (.ins C dx fs) ∧ fs.lookup m = none ∧
  t σ H1 fun vs H2 => sp (x :: vs) H2 Q (E σ)
theorem pe_mthR {pl : Sem Bool} (cl : Cls X.K C) (c : CalS X.prog X.w X.K X.mg X.base CX k C m sp) (hr : Room k X.A) (ho : PE X o ta) (hx : ∀ σ, PassesAt CX X σ (E σ)) (ha : PA X (e :: es) t)
    (hst : starEach (e :: es) X.env = (false, eval e X.env) :: starEach es X.env := by rfl) (hpl : (backTo pos (starEach es X.env)).any (·.1) = false := by rfl)
    (ht : eval (.Call (.Attribute o m apos) (e :: es) [] pos) X.env = (do
      let v0 ← eval o X.env
      standAt apos.atName
      let (f1, first) ← holding [v0] (getMethod v0 m pl)
      callWith pos f1 first (backTo pos (starEach (e :: es) X.env)) (backToKw pos (keywordEach [] X.env))) := by rfl) :
    PE X (.Call (.Attribute o m apos) (e :: es) [] pos) (tMethX C m sp E ta t) := by
  obtain ⟨f, F, hm⟩ := c
  refine ⟨fun pins s σ H Q I h => PySem.W.methodCall_KW (pl := pl) (thn (ho.run pins s σ H _ I h) fun u s1 hh => ?_) ht⟩
  obtain ⟨x, H1, I1, rx, a, dx, fs, ex, ea, l, q⟩ := hh
  subst ex
  obtain rfl : u = Value.ref a := rx
  refine getmeth_ok I1 ea cl hm l (PySem.W.callWith_K (first := [.ref a]) (h₀ := X.base) I.ok.mod.kin hm.kp (thn (ha.run pos pins s1 σ H1 _ I1 q) fun us s2 hh2 => ?_) hst hpl)
  obtain ⟨vs, H2, I2, r, q2⟩ := hh2
  exact ⟨I2.kIn, run_fnRS (us := .ref a :: us) (vs := .ref a :: vs) F hr (hx σ) I2 (.cons rfl r) q2⟩
theorem pe_mthR0 {pl : Sem Bool} (cl : Cls X.K C) (c : CalS X.prog X.w X.K X.mg X.base CX k C m sp) (hr : Room k X.A) (ho : PE X o ta) (hx : ∀ σ, PassesAt CX X σ (E σ))
    (ht : eval (.Call (.Attribute o m apos) [] [] pos) X.env = (do
      let v0 ← eval o X.env
      standAt apos.atName
      let (f1, first) ← holding [v0] (getMethod v0 m pl)
      callWith pos f1 first (backTo pos (starEach [] X.env)) (backToKw pos (keywordEach [] X.env))) := by rfl) :
    PE X (.Call (.Attribute o m apos) [] [] pos) (tMethX C m sp E ta tNil) := by
  obtain ⟨f, F, hm⟩ := c
  refine ⟨fun pins s σ H Q I h => PySem.W.methodCall_KW (pl := pl) (thn (ho.run pins s σ H _ I h) fun u s1 hh => ?_) ht⟩
  obtain ⟨x, H1, I1, rx, a, dx, fs, ex, ea, l, q⟩ := hh
  subst ex
  obtain rfl : u = Value.ref a := rx
  exact getmeth_ok I1 ea cl hm l (PySem.W.callWith_K0 (first := [.ref a]) I1.kIn hm.kp (run_fnRS (us := [.ref a]) (vs := [.ref a]) F hr (hx σ) I1 (.cons rfl .nil) q))
end
theorem call_len_seqK {X : Cx} {K : PySem.W.Frag} (h : X.K = K) : CallR X (.builtin "len") (fun xs H Q => ∃ p ys, xs = [V.ref p] ∧ (SqL K H p ys ∨ SqT K H p ys) ∧ Q (V.int ys.length) H) := h ▸ call_len_seq
/-- a def with one parameter and a star -/
theorem Fun.star1 {P : Program} {w : World} {K : PySem.W.Frag} {mg : Str → Option Value} {base : Heap} {CX : CXT} {x qual : Str} {st : Stmt} {f : Addr} {fd : FuncData} {N : List Str} {p1 pv : Str} {k : Nat} {sp : Sp} (F : Fun K x qual st f fd) (S : FnScope N ([p1] ++ [pv]) (defScope st)) (hCX : CXUp CX)
    (h0 : ∀ (kV doc pm : Value) (an : Option Addr) (cdv ct : Value) a, bindArgs (PySem.W.fnOf x qual (defArgs st) (defBody st) (defScope st) .none kV doc pm an cdv ct) ⟨[a], []⟩ = (newTuple [] >>= fun t => pure [(p1, a), (pv, t)]))
    (h1 : ∀ (kV doc pm : Value) (an : Option Addr) (cdv ct : Value) a r rs, bindArgs (PySem.W.fnOf x qual (defArgs st) (defBody st) (defScope st) .none kV doc pm an cdv ct) ⟨a :: r :: rs, []⟩ = (newTuple (r :: rs) >>= fun t => pure [(p1, a), (pv, t)]))
    (hbody : ∀ (cdv : Value) (A : Around) (outer : List Env) (s : Shared) (H : Hp) (vs : List V) (Q : VK) (E : XK), Room k (A.deeper (envOfC qual (defScope st) s.heap.objs.size f cdv)) → sp vs H Q E →
      ∃ t, PSs (cxOf CX P w K mg base N qual (defScope st) f cdv A outer s H E) (defBody st) t ∧ t { nx := fun _ H' => Q .non H', rt := Q } (start N vs) H) :
    FnR P w K mg base CX (k + 1) f (fun vs H Q E => ∃ ws rest, vs = ws ++ rest ∧ ws.length = [p1].length ∧ rest.length ≤ sizeLine ∧ ∀ p, H p = Option.none → sp (ws ++ [V.ref p]) (upd H p (.tup rest)) Q E) := by
  obtain ⟨oc, od, kV, doc, pm, an, cdv, ct, osl, rfl, lk, hcd⟩ := F.ex
  exact fn_star lk hcd S hCX (bind_star1 (B := fun us => bindArgs (PySem.W.fnOf x qual (defArgs st) (defBody st) (defScope st) .none kV doc pm an cdv ct) ⟨us, []⟩) (h0 kV doc pm an cdv ct) (h1 kV doc pm an cdv ct)) (hbody cdv)
end L2
set_option Elab.async false
set_option linter.all false
set_option maxRecDepth 100000
set_option maxHeartbeats 1000000
/-! steps of a walk that keep the new heap opaque: what stood stands, and the new thing stands at its place -/
namespace Wp
open PySem L2 Dw
theorem new_ok {H H' : Hp} {p : Addr} {o : HO} (n : H p = none) (e : upd H p o = H') : Same H H' ∧ H' p = some o := e ▸ ⟨sNew n, upd_same⟩
theorem pe_fldK {X : Cx} {K : PySem.W.Frag} {e : Expr} {ta : TE} {f : Str} {pos : Pos} (hk : X.K = K) (he : PE X e ta) (hb : attributeBase e f X.env (eval e X.env) = eval e X.env) : PE X (.Attribute e f pos) (tFld K ta f) := hk ▸ pe_fld he hb
theorem op_eqDK {X : Cx} {K : PySem.W.Frag} (hk : X.K = K) (hu : X.A.units + 64 < cLine) : OpR X (compareOp .Eq) (rEqD K) := hk ▸ op_eqD hu
theorem op_neDK {X : Cx} {K : PySem.W.Frag} (hk : X.K = K) (hu : X.A.units + 64 < cLine) : OpR X (compareOp .NotEq) (rNeD K) := hk ▸ op_neD hu
theorem pe_app1K {X : Cx} {K : PySem.W.Frag} {o e : Expr} {to : TE} {t : TA} {apos cpos : Pos} (hk : X.K = K) (ho : PE X o to) (ha : PA X [e] t) (hbase : attributeBase o "append" X.env (eval o X.env) = eval o X.env := by rfl)
    (hfew : ((backTo cpos (starEach [e] X.env)).all (fun x => !x.1) && (backToKw cpos (keywordEach [] X.env)).all (fun x => x.1.isSome) && decide ([e].length + ([] : List Keyword).length + (if ([] : List Keyword).isEmpty then 0 else 1) < 30)) = true := by rfl)
    (hline : (apos.endLine == cpos.line) = true := by rfl) (hs : starEach [e] X.env = (false, eval e X.env) :: starEach [] X.env := by rfl) (hplain : (backTo cpos (starEach [] X.env)).any (·.1) = false := by rfl) :
    PE X (.Call (.Attribute o "append" apos) [e] [] cpos) (tBM K "list" rAppend to t) := hk ▸ pe_app1 ho ha hbase hfew hline hs hplain
theorem tup_of {xs : List V} {H : Hp} {Q : VK} (hl : xs.length ≤ 1000) (q : ∀ p H', Same H H' → H p = none → H' p = some (.tup xs) → Q (.ref p) H') : xs.length ≤ sizeLine ∧ ∀ p, H p = none → Q (.ref p) (upd H p (.tup xs)) :=
  ⟨Nat.le_of_lt (small1000 hl), fun p h => q p _ (sNew h) h upd_same⟩
theorem lst_of {xs : List V} {H : Hp} {Q : VK} (hl : xs.length ≤ 1000) (q : ∀ p H', Same H H' → H p = none → H' p = some (.lst xs) → Q (.ref p) H') : xs.length ≤ sizeLine ∧ ∀ p, H p = none → Q (.ref p) (upd H p (.lst xs)) :=
  ⟨Nat.le_of_lt (small1000 hl), fun p h => q p _ (sNew h) h upd_same⟩
theorem catT_of {K : PySem.W.Frag} {H : Hp} {a b : Addr} {xs ys : List V} {Q : VK} (ha : H a = some (.tup xs)) (hb : H b = some (.tup ys)) (nx : xs ≠ []) (ny : ys ≠ []) (hl : xs.length + ys.length ≤ 1000)
    (q : ∀ p H', Same H H' → H p = none → H' p = some (.tup (xs ++ ys)) → Q (.ref p) H') : rCatT K (.ref a) (.ref b) H Q :=
  ⟨a, b, xs, ys, rfl, rfl, SqT.of ha, SqT.of hb, nx, Nat.le_of_lt (small1000 hl), fun z => absurd z ny, fun _ p h => q p _ (sNew h) h upd_same⟩
theorem slT_of {K : PySem.W.Frag} {H : Hp} {a : Addr} {xs : List V} {lo hi : Option Int} {Q : VK} (ha : H a = some (.tup xs)) (nw : ¬ (HT.sIx xs.length 0 lo = 0 ∧ HT.sIx xs.length xs.length hi = xs.length))
    (q : ∀ p H', Same H H' → H p = none → H' p = some (.tup (cutV xs lo hi)) → Q (.ref p) H') : rSlT K (.ref a) lo hi H Q :=
  ⟨a, xs, rfl, SqT.of ha, nw, fun p h => q p _ (sNew h) h upd_same⟩
theorem cat_of {H : Hp} {a b : Addr} {xs ys : List V} {Q : VK} (ha : H a = some (.lst xs)) (hb : H b = some (.lst ys)) (hl : xs.length + ys.length ≤ 1000)
    (q : ∀ p H', Same H H' → H p = none → H' p = some (.lst (xs ++ ys)) → Q (.ref p) H') : rCat (.ref a) (.ref b) H Q :=
  ⟨a, b, xs, ys, rfl, rfl, ha, hb, Nat.le_of_lt (small1000 hl), fun p h => q p _ (sNew h) h upd_same⟩
theorem slL_of {K : PySem.W.Frag} {H : Hp} {a : Addr} {xs : List V} {lo hi : Option Int} {Q : VK} (ha : H a = some (.lst xs))
    (q : ∀ p H', Same H H' → H p = none → H' p = some (.lst (cutV xs lo hi)) → Q (.ref p) H') : rSlL K (.ref a) lo hi H Q :=
  ⟨a, xs, rfl, SqL.of ha, fun p h => q p _ (sNew h) h upd_same⟩
theorem ixL_of {K : PySem.W.Frag} {H : Hp} {a : Addr} {xs : List V} {i : Int} {n : Nat} {v : V} {Q : VK} (ha : H a = some (.lst xs)) (e : i = (n : Int)) (hv : xs[n]? = some v) (q : Q v H) : rIxL K (.ref a) (.int i) H Q :=
  ⟨a, xs, i, v, rfl, rfl, SqL.of ha, by rw [e]; exact atI_nat hv, q⟩
theorem ixT_of {K : PySem.W.Frag} {H : Hp} {a : Addr} {xs : List V} {i : Int} {n : Nat} {v : V} {Q : VK} (ha : H a = some (.tup xs)) (e : i = (n : Int)) (hv : xs[n]? = some v) (q : Q v H) : rIxT K (.ref a) (.int i) H Q :=
  ⟨a, xs, i, v, rfl, rfl, SqT.of ha, by rw [e]; exact atI_nat hv, q⟩
theorem next_of {H : Hp} {d c : Addr} {many : Int} {Q : VK} {E : XK} (D : Dr H d c) (h1 : 1 ≤ many) (h2 : many < 1073741824) (q : ∀ (m : Nat) H', (m : Int) < many → Dr H' d c → But d H H' → Q (.int (m : Int)) H') : spNext [.ref d, .int many] H Q E :=
  ⟨d, c, many, rfl, D, h1, h2, fun k H' k0 k1 D' B' => by
    obtain ⟨m, rfl⟩ : ∃ m : Nat, k = (m : Int) := ⟨k.toNat, by omega⟩
    exact q m H' k1 D' B'⟩
theorem lcopy_of {K : PySem.W.Frag} {H : Hp} {p : Addr} {ys : List V} {Q : VK} (hp : H p = some (.lst ys) ∨ H p = some (.tup ys)) (q : ∀ l H', Same H H' → H l = none → H' l = some (.lst ys) → Q (.ref l) H') :
    ∃ p' ys', [V.ref p] = [.ref p'] ∧ (SqL K H p' ys' ∨ SqT K H p' ys') ∧ ∀ l, H l = none → Q (.ref l) (upd H l (.lst ys')) :=
  ⟨p, ys, rfl, hp.imp SqL.of SqT.of, fun l h => q l _ (sNew h) h upd_same⟩
theorem dput_of {α : Type} {f : α → V} {H : Hp} {a : Addr} {L : List (Key × V)} {x : Key} {v : V} {Q : Hp → Prop} (h : H a = some (.dK L)) (hl : L.length ≤ 1000) (q : Q (upd H a (.dK (putK L x v)))) : ∃ a' H', V.ref a = .ref a' ∧ DPut H a' (kV x) v H' ∧ Q H' :=
  ⟨a, _, rfl, DPut.k h (small1000 hl), q⟩
end Wp
set_option Elab.async false
set_option linter.all false
set_option maxRecDepth 100000
set_option maxHeartbeats 4000000
/-! raise of errors whose maker is walked -/
namespace L2
open PySem PySem.Spec PyProof.Rows
section
variable {X : Cx} {C : Addr} {x : Str} {e : Expr} {es : List Expr} {ta : TA} {te : TE} {p pos pos2 : Pos} {W : WX}
/-- what gives a new error without a dict makes an exception -/
theorem pmk_retO (hx : X.ex = []) (he : PE X e te) :
    PMk X e (fun σ H Q => te σ H fun x H1 => ∃ a C, x = .ref a ∧ H1 a = some (exo a C none) ∧ Fr0 X.H_0 a ∧ Raises X (.ref C) ∧ Q (.ref C) none (delH H1 a)) := by
  intro pins s σ H Q I h
  refine wpAny_mono (he.run pins s σ H _ I h) (fun u s1 hu => ?_) fun _ _ x => x
  obtain ⟨v, H1, I1, r1, a, C, rfl, ha, h0, hr, q⟩ := hu
  obtain rfl : u = Value.ref a := r1
  obtain ⟨t1, ho⟩ := exo_at I1.hok ha
  obtain ⟨G, gs, ga, J⟩ := I1.untrack ha h0 hx
  exact ⟨a, _, _, { s1 with heap := G }, delH H1 a, .ref C, none, rfl, J, gs, ga, ho, ⟨rfl, rfl⟩, rfl, rfl, delH_same, rfl, I1.bare, hr, q⟩
/-- raise X(e, ..), X's maker walked, fields stored -/
theorem ps_raiseO {k : Nat} {ps : List Str} {sp : Sp} (hc : X.calm = true) (c : CalO X.prog X.w X.K X.mg X.base k C ps sp) (hm : X.mg x = some (.ref C)) (hr : Room (k + 1) X.A) (tk : Takes X W) (ha : PA X (e :: es) ta) (hx : Passes CX0 X (fun _ _ _ => False) := by first | exact pass0 | exact passL) (hg : Gl X x := by rfl)
    (hdb : (x == ("__debug__" : Str)) = false := by decide) (he : starEach (e :: es) X.env = (false, eval e X.env) :: starEach es X.env := by rfl) (hpl : (backTo pos (starEach es X.env)).any (·.1) = false := by rfl) :
    PS X (.Raise (some (.Call (.Name x p) (e :: es) [] pos)) none pos2) (fun _ σ H => tMkO C sp [] ta σ H fun cls d H' => W cls d σ H') := by
  obtain ⟨T, f, fd, h1, h2, h3, h4⟩ := c
  exact ps_raise hc tk (pmk_oex T h2 h3 h1 hr h4 .nil hx hg hm ha hdb he hpl)
/-- raise X(), X's maker walked, no field -/
theorem ps_raiseO0 {k : Nat} {ps : List Str} {sp : Sp} (hc : X.calm = true) (hex : X.ex = []) (c : CalO X.prog X.w X.K X.mg X.base k C ps sp) (hm : X.mg x = some (.ref C)) (hr : Room (k + 1) X.A) (tk : Takes X W) (hx : Passes CX0 X (fun _ _ _ => False) := by first | exact pass0 | exact passL) (hg : Gl X x := by rfl) (hdb : (x == ("__debug__" : Str)) = false := by decide) :
    PS X (.Raise (some (.Call (.Name x p) [] [] pos)) none pos2) (fun _ σ H => tOeV C sp [] tNil σ H fun x H1 => ∃ a C, x = .ref a ∧ H1 a = some (exo a C none) ∧ Fr0 X.H_0 a ∧ Raises X (.ref C) ∧ W (.ref C) none σ (delH H1 a)) :=
  ps_raise hc tk (pmk_retO hex (pe_calO0 c hm hr hx hg hdb))
end
end L2
set_option Elab.async false
set_option linter.all false
set_option maxRecDepth 100000
set_option maxHeartbeats 4000000
/-! != by an own __eq__ (no own __ne__) -/
namespace OwN
open PySem PySem.Spec PyProof.Rows
section
variable {prog : Program} {w : World} {A : Around} {E : Value → Shared → Prop} {s : Shared} {K : PySem.W.Frag} {x C L f : Addr} {h₀ : Heap} {m : Str → Option Value} {ox : Obj} {od : Option Obj} {b tb : Value}
def NeB (Q : Value → Shared → Prop) (v : Value) (s' : Shared) : Prop := ∃ k, v = .bool k ∧ Q (.bool (!k)) s'
theorem ne_entry {Q : Fin → Shared → Prop} (X : K.In s.heap) (I : PySem.W.InstAt s.heap x ox C od) (hs : PySem.W.findIn K (.ref C) "__eq__" = some (some (.ref f))) (hf : PySem.W.isFn K (.ref f) = true) (hu : A.units < cLine)
    (h : wpAny (model prog w) A (call (.ref f) [.ref x, b]) (fun v s' => ∃ k, v = .bool k ∧ Q (.done (.ret (.bool (!k)))) s') E s) : wpAny (model prog w) A (Builtin.«object.__ne__» ⟨[.ref x, b], []⟩) Q E s := by
  unfold Builtin.«object.__ne__»
  repeat (first
    | with_reducible refine wpAny_cRoomFor hu ?_
    | (refine wpAny_bind (m := callSpecialIfBound? (.ref x) (Str.ofString "__eq__") [b]) (PySem.W.ifBound_K X I hs hf (wpAny_mono h (fun r s' hr => by
        obtain ⟨k, rfl, hq⟩ := hr
        repeat (first | exact hq | exact wpAny_pure hq | exact wpAny_truthy_bool hq | (refine wpAny_bind (m := truthy (.bool _)) (wpAny_truthy_bool ?_)) | wp_step)) fun _ _ e => e)))
    | wp_step)
theorem call_ne {Q : Value → Shared → Prop} (X : K.In s.heap) (I : PySem.W.InstAt s.heap x ox C od) (hs : PySem.W.findIn K (.ref C) "__eq__" = some (some (.ref f))) (hf : PySem.W.isFn K (.ref f) = true) (hm : PySem.W.mroIn K C (.type "object") = some true) (hu : A.in1.units < cLine)
    (h : wpAny (model prog w) A.in1 (call (.ref f) [.ref x, b]) (NeB Q) E s) : wpAny (model prog w) A (call (.builtin "object.__ne__") [.ref x, b]) Q E s :=
  wpAny_call (codeAny_call_builtin F.cmp_object.ne.plain F.cmpEntry_ne (PySem.W.check_slot F.cmpKind_ne F.cmpSplit_ne (I.type.andThen (PySem.W.looks_mroIn X hm)) (F.cmpArgs_ne _ _) (ne_entry X I hs hf hu h)))
theorem ifBound_ne {M : Model} {args : List Value} {Q : Option Value → Shared → Prop} (X : K.In s.heap) (I : PySem.W.InstAt s.heap x ox C od) (hs : PySem.W.findIn K (.ref C) "__ne__" = some (some (.builtin "object.__ne__")))
    (h : wpAny M A (call (.builtin "object.__ne__") (.ref x :: args)) (fun v => Q (some v)) E s) : wpAny M A (callSpecialIfBound? (.ref x) "__ne__" args) Q E s := by
  simp only [callSpecialIfBound?, bindSpecialIfBound?]
  refine wpAny_holding (wpAny_bind (wpAny_bind (wpAny_bind (I.type.here ((PySem.W.looks_findIn X hs).here ?_)))))
  refine wpAny_bind (wpAny_askSetting (wpAny_ite ?_))
  have fin : wpAny M A (call (.builtin "object.__ne__") ([.ref x] ++ args) >>= fun v => pure (some v)) Q E s := wpAny_bind (wpAny_mono h (fun v s' h' => wpAny_pure h') fun _ _ h' => h')
  split
  · exact wpAny_bind (wpAny_of_eq (F.cmp_object.ne.bind _) (wpAny_pure (by exact fin)))
  · exact wpAny_tryCatch (wpAny_bind (wpAny_of_eq (F.cmp_object.ne.bind _) (wpAny_pure (by exact fin))))
theorem ne_K {Q : Value → Shared → Prop} (hu : A.in1.units < cLine) (F : Fr h₀ L s.heap m) (X₀ : K.In h₀) (I : PySem.W.InstAt s.heap x ox C od) (hb : PySem.W.Looks (model prog w) s.heap (typeOf b) tb) (hn : PySem.W.notFirst K C tb = true)
    (hs : PySem.W.findIn K (.ref C) "__eq__" = some (some (.ref f))) (hf : PySem.W.isFn K (.ref f) = true) (hm : PySem.W.mroIn K C (.type "object") = some true) (hne : PySem.W.findIn K (.ref C) "__ne__" = some (some (.builtin "object.__ne__")))
    (h : wpAny (model prog w) A.in1 (call (.ref f) [.ref x, b]) (NeB Q) E s) : wpAny (model prog w) A (richCompare .NotEq (.ref x) b) Q E s := by
  have X := X₀.keeps F.keep
  have hu0 : A.units < cLine := Nat.lt_of_le_of_lt (by show A.units ≤ A.units + 1; omega) hu
  have one : wpAny (model prog w) A (tryCompare (.ref x) "__ne__" b) (fun r s' => ∃ v, r = some v ∧ Q v s') E s := by
    unfold tryCompare
    refine wpAny_bind (ifBound_ne X I hne (call_ne X I hs hf hm hu (wpAny_mono h (fun v s' hv => ?_) fun _ _ e => e)))
    obtain ⟨k, rfl, hq⟩ := hv
    exact ⟨k, rfl, wpAny_pure ⟨_, rfl, hq⟩⟩
  unfold richCompare
  simp only [oneThing_ref]
  refine wpAny_holding (wpAny_bind (wpAny_cRoomFor hu0 ?_))
  refine wpAny_bind (I.type.here (wpAny_bind (hb.here ?_)))
  split
  · rename_i q
    have e : PySem.W.subIn K tb (.ref C) = some false := by
      rcases Bool.or_eq_true_iff.mp hn with e | e
      · rw [beq_iff_eq.mp e] at q; simp at q
      · exact beq_iff_eq.mp e
    refine wpAny_bind ((PySem.W.looks_subIn X e).here ?_)
    simp only [Bool.false_eq_true, if_false]
    refine wpAny_bind (wpAny_mono one (fun r s' z => ?_) fun _ _ e => e)
    obtain ⟨v, rfl, hq⟩ := z
    exact wpAny_pure hq
  · refine wpAny_bind (wpAny_pure ?_)
    simp only [Bool.false_eq_true, if_false]
    refine wpAny_bind (wpAny_mono one (fun r s' z => ?_) fun _ _ e => e)
    obtain ⟨v, rfl, hq⟩ := z
    exact wpAny_pure hq
end
end OwN
namespace L2
open PySem PySem.Spec PyProof.Rows
/-- what != asks of the class at C, besides its __eq__ -/
structure NeOf (K : PySem.W.Frag) (C : Addr) : Prop where
  ob : PySem.W.mroIn K C (.type "object") = some true
  ne : PySem.W.findIn K (.ref C) "__ne__" = some (some (.builtin "object.__ne__"))
theorem run_fn1 {X : Cx} {CX : CXT} {k : Nat} {f : Addr} {fd : FuncData} {ps : List Str} {sp : Sp} {E : XK} {pins : List (Addr × Obj)} {σ : St} {H : Hp} {s : Shared} {Q : VK} {us : List Value} {vs : List V} (F : FnOk X.prog X.w X.K X.mg X.base CX k f fd ps sp) (hr : Room (k + 1) X.A) (hb : Binds X.K fd ps []) (hx : Passes CX X E)
    (I : Inv X pins σ H s) (r : Vals vs us) (h : sp vs H Q E) : wpAny (model X.prog X.w) X.A.in1 (call (.ref f) us) (EP X pins σ Q) X.xe s := by
  have r2 : Vals (vs ++ []) (us ++ []) := r.append .nil
  rw [← List.append_nil vs] at h
  have hl : (us ++ []).length = ps.length := by rw [← r2.length]; exact F.len _ _ _ _ h
  refine wpAny_call (codeAny_mono (F.run X.A.in1 X.stack s H ⟨us, []⟩ (us ++ []) (vs ++ []) Q E hr.in1 I.env0.in1 (hb s us I.kIn hl) r2 h) fun r s' hq => ?_)
  cases r with
  | error e => exact hx pins σ H s e s' I hq
  | ok fl =>
    cases fl with
    | ret u => exact I.after hq
    | next => exact False.elim hq
    | brk => exact False.elim hq
    | cont => exact False.elim hq
def rOwnNe (K : PySem.W.Frag) (C : Addr) (sp : Sp) : R2 := fun x y H Q => ∃ (a dx : Addr) (fs : List (Str × V)) (t : Value), x = .ref a ∧ H a = some (.ins C dx fs) ∧ TyX K H y t ∧ PySem.W.notFirst K C t = true ∧ sp [x, y] H (fun v H' => ∃ b, v = .bl b ∧ Q (.bl (!b)) H') E0
theorem op_ownNe {X : Cx} {CX : CXT} {C : Addr} {k : Nat} {ps : List Str} {sp : Sp} (c : CalM X.prog X.w X.K X.mg X.base CX k C "__eq__" ps sp) (n : NeOf X.K C) (hr : Room (k + 1) X.A) (hx : Passes CX X E0 := by first | exact pass0 | exact passL) : OpR X (compareOp .NotEq) (rOwnNe X.K C sp) := by
  intro pins s σ H x y v u Q I rx ry h
  obtain ⟨f, fd, h1, h2, h4⟩ := c
  obtain ⟨a, dx, fs, t, rfl, ha, hy, hn, q⟩ := h
  obtain rfl : v = Value.ref a := rx
  obtain ⟨mA, J, _⟩ := ins_get I.hok ha
  obtain ⟨od, J, _⟩ := J.look
  obtain ⟨Pz, Z, pz, _⟩ := kit_of I ry hy
  obtain ⟨m, hF⟩ := I.fr
  show wpAny (model X.prog X.w) X.A (richCompare .NotEq (.ref a) u) (EP X pins σ Q) X.xe s
  refine OwN.ne_K (tb := t) hr.in1.units0 hF I.ok.mod.kin J (Z.ty _ _ I.kIn pz) hn h2.at_ h2.fn n.ob n.ne ?_
  refine wpAny_mono (run_fn1 (us := [.ref a, u]) (vs := [.ref a, y]) h1 hr h4 hx I (.cons (show RelV (.ref a) (.ref a) from rfl) (.cons ry .nil)) q) (fun r s' hq => ?_) fun _ _ z => z
  obtain ⟨v', H', I', rv, b, rfl, q'⟩ := hq
  obtain rfl : r = Value.bool b := rv
  exact ⟨b, rfl, .bl (!b), H', I', rfl, q'⟩
end L2
namespace L2
open PySem PySem.Spec PyProof.Rows
/-- a text times an int -/
def rRepS : R2 := fun x y H Q => ∃ (z : Str) (k : Int), x = .str z ∧ y = .int k ∧ MulOk z k ∧ Q (.str (PySem.Txt.mul z k)) H
theorem op_repS {X : Cx} : OpR X (binaryOp .Mult) rRepS := by
  intro pins s σ H x y v u Q I rx ry h
  obtain ⟨z, k, rfl, rfl, hok, q⟩ := h
  obtain ⟨t, rfl⟩ := rx
  obtain ⟨t2, rfl⟩ := ry
  exact SB.mul hok fun t' k' => ⟨.str _, H, I.tok k', ⟨t', rfl⟩, q⟩
theorem zero_mul {k : Int} (h1 : 1 ≤ k) (h2 : k ≤ 12) : MulOk "0" k ∧ (PySem.Txt.mul "0" k).length ≤ 1000 := by
  have h : k = 1 ∨ k = 2 ∨ k = 3 ∨ k = 4 ∨ k = 5 ∨ k = 6 ∨ k = 7 ∨ k = 8 ∨ k = 9 ∨ k = 10 ∨ k = 11 ∨ k = 12 := by omega
  rcases h with rfl | rfl | rfl | rfl | rfl | rfl | rfl | rfl | rfl | rfl | rfl | rfl <;> exact ⟨⟨by decide +kernel, fun _ _ => by decide +kernel, fun _ _ => by decide +kernel⟩, by decide +kernel⟩
end L2
namespace L2
open PySem PySem.Spec PyProof.Rows
theorem passN {X : Cx} (σ : St) : PassesAt (L2.CX X.prog X.w) X σ E0 := fun pins H s e s' I c => passL pins σ H s e s' I c
end L2
set_option Elab.async false
set_option linter.all false
set_option maxRecDepth 100000
set_option maxHeartbeats 1000000
/-! list(o): o with an own __iter__ over a tuple and an own __len__ -/
namespace L2
open PySem PySem.Spec PyProof.Rows
section
variable {X : Cx} {pins : List (Addr × Obj)} {σ : St} {A1 : Around} {H0 : Hp}
theorem tup_loop {it t q : Addr} {zs : List V} {Rs : Result → Shared → Prop} (hd : A1.handled = none) (hz : ∀ ys, SqT X.K (upd H0 q (.lst ys)) t zs) (hf : ∀ ys, FpOk X pins (upd H0 q (.lst ys)) it) (zl : zs.length ≤ sizeLine)
    (hdone : ∀ s', Inv X pins σ (upd H0 q (.lst zs)) s' → Rs (.ok (.ret .none)) s') :
    ∀ (k i : Nat) (s : Shared), zs.length = i + k → Inv X pins σ (upd H0 q (.lst (zs.take i))) s → s.heap.IsTupleIter it t i → codeAny (model X.prog X.w) A1 (.builtin "list.extend.loop" ⟨[.ref q, .ref it, .none], []⟩) Rs s := by
  intro k
  induction k with
  | zero =>
    intro i s hl I hit
    obtain ⟨its, rv, pl, _⟩ := I.tuple (hz _)
    refine codeAny_builtin PySem.F.entry_extend_loop ?_
    rw [Around.under_plainId PySem.F.plain_extend_loop _]
    show wpAny _ A1.in1 (pyNext (.ref it) >>= _) _ _ s
    have lr := rv.length
    refine wpAny_bind (wpAny_pyNext_tuple_end (items := its.toArray) (i := i) hd hit (show s.heap.IsTuple t its.toArray from pl) (by simp; omega) fun h' e => ?_)
    refine wpAny_pure (hdone _ ?_)
    have e0 : zs.take i = zs := List.take_of_length_le (by omega)
    rw [e0] at I
    exact I.turnedL (t' := s.toks) (ch := [it]) (fun b o hb q => (e b o (fun z => hb (by simp [z])) q)) fun b hb => (show b = it by simpa using hb) ▸ hf zs
  | succ k ih =>
    intro i s hl I hit
    obtain ⟨its, rv, pl, _⟩ := I.tuple (hz _)
    have lr := rv.length
    have hi : i < zs.length := by omega
    obtain ⟨u, eu, ru⟩ := rv.get (List.getElem?_eq_getElem hi)
    refine codeAny_builtin PySem.F.entry_extend_loop ?_
    rw [Around.under_plainId PySem.F.plain_extend_loop _]
    show wpAny _ A1.in1 (pyNext (.ref it) >>= _) _ _ s
    refine wpAny_bind (wpAny_pyNext_tuple_item (items := its.toArray) (i := i) (x := u) hit (show s.heap.IsTuple t its.toArray from pl) (by simpa using eu) fun h' hit' e => ?_)
    have I2 : Inv X pins σ (upd H0 q (.lst (zs.take i))) { s with heap := h' } := I.turnedL (t' := s.toks) (ch := [it]) (fun b o hb q => e.extBut b o (fun z => hb (by simp [z])) q) fun b hb => (show b = it by simpa using hb) ▸ hf _
    show wpAny _ A1.in1 (updateSeq q (·.push u) >>= _) _ _ _
    obtain ⟨z, its2, c, r2, hl2, e2⟩ := I2.lstM upd_same
    have lz : (zs.take i).length = i := by rw [List.length_take]; omega
    have I3 := I2.lset (f := (·.push u)) (its' := its2 ++ [u]) (ys := zs.take i ++ [zs[i]]) (t' := s.toks) upd_same e2 (by simp) (r2.append (.cons ru .nil)) (by rw [List.length_append, lz, List.length_singleton]; omega)
    have et : zs.take i ++ [zs[i]] = zs.take (i + 1) := by rw [List.take_succ, List.getElem?_eq_getElem hi]; rfl
    rw [upd_upd, et] at I3
    have ne : it ≠ q := by
      intro z
      have := (hf []).1
      rw [z, upd_same] at this
      cases this
    refine wpAny_bind (wpAny_updateSeq e2 rfl (wpAny_pure ⟨plainId_quiet PySem.F.plain_extend_loop _, ih (i + 1) _ (by omega) I3 ?_⟩) (by rw [List.size_toArray]; omega) (by show (its2.toArray.push u).size ≤ sizeLine + 1; rw [Array.size_push, List.size_toArray]; omega))
    exact hit'.at fun o e => (Heap.get?_update_other _ _ (Ne.symm ne)).trans e
/-- a call of a def below -/
theorem run_sub {CX : CXT} {k : Nat} {ps : List Str} {sp : Sp} {H : Hp} {s : Shared} {Q : VK} {A : Around} {f : Addr} {fd : FuncData} {us : List Value} {vs : List V} {E : Value → Shared → Prop} (F : FnOk X.prog X.w X.K X.mg X.base CX0 k f fd ps sp) (hr : Room k A) (e0 : Env0 X.prog X.w X.K X.mg X.base A X.stack s H) (hb : Binds X.K fd ps [])
    (I : Inv X pins σ H s) (r : Vals vs us) (h : sp vs H Q E0) : wpAny (model X.prog X.w) A (call (.ref f) us) (EP X pins σ Q) E s := by
  have hl : (us ++ []).length = ps.length := by
    rw [List.append_nil, ← r.length]
    exact F.len _ _ _ _ h
  have hb' := hb s us I.kIn hl
  rw [List.append_nil] at hb'
  refine wpAny_call (codeAny_mono (F.run A X.stack s H ⟨us, []⟩ us vs Q E0 hr e0 hb' r h) fun z s' hq => ?_)
  match z, hq with
  | .error e, hq => exact hq.elim
  | .ok (.ret u), hq => exact I.after hq
/-- a promise of a length: the memory stays -/
def LenIs (sp : Sp) (H : Hp) (a : Addr) : Prop := sp [.ref a] H (fun v H' => ∃ n : Nat, v = .int n ∧ n < 1000000 ∧ H' = H) E0
theorem hint_len {C : Addr} {k : Nat} {ps : List Str} {sp : Sp} {H : Hp} {s : Shared} {A : Around} {a dx : Addr} {fs : List (Str × V)} {Q : Bool → Shared → Prop} {E : Value → Shared → Prop} (c : CalM X.prog X.w X.K X.mg X.base CX0 k C "__len__" ps sp) (hr : Room k A.in1) (e0 : Env0 X.prog X.w X.K X.mg X.base A.in1 X.stack s H)
    (I : Inv X pins σ H s) (ha : H a = some (.ins C dx fs)) (hl : LenIs sp H a) (q : ∀ b s', Inv X pins σ H s' → Q b s') : wpAny (model X.prog X.w) A (Builtin.List.listLengthHint (.ref a)) Q E s := by
  obtain ⟨f, fd, h1, h2, h4⟩ := c
  obtain ⟨mA, J, _⟩ := ins_get I.hok ha
  obtain ⟨od, J, _⟩ := J.look
  unfold Builtin.List.listLengthHint
  refine wpAny_bind (wpAny_bind (J.type.here ((PySem.W.looks_findIn I.kIn h2.at_).here ?_)))
  refine PySem.W.KFB.if_not rfl ?_
  refine PySem.W.KFB.if_so rfl ?_
  refine wpAny_bind (wpAny_rule ?_)
  refine wpAny_bind (wpAny_attempt (Calls.call_function_entry kind_len plain_len entry_len (args_len1 _) ?_))
  unfold Builtin.«len»
  refine wpAny_bind (m := oneArg "len" _) (wpAny_pure ?_)
  refine wpAny_bind (m := callSpecial? (.ref a) (Str.ofString "__len__")) (PySem.W.special_fn I.kIn J h2.at_ (beq_iff_eq.mp h2.fn) (wpAny_mono (run_sub (CX := CX0) h1 hr e0 h4 I (show Vals [V.ref a] [Value.ref a] from .cons rfl .nil) hl) (fun v s' hv => ?_) fun _ _ z => z))
  obtain ⟨v', H', I', rv, n, rfl, hn, rfl⟩ := hv
  obtain ⟨t, rfl⟩ := rv
  refine wpAny_bind (wpAny_holding (wpAny_pure ?_))
  refine wpAny_bind (wpAny_letGo ?_)
  show wpAny _ _ (if (n : Int) < 0 then _ else _) _ _ _
  rw [if_neg (show ¬ ((n : Int) < 0) by omega)]
  show wpAny _ _ (if (n : Int) ≥ 2 ^ 63 then _ else _) _ _ _
  rw [if_neg (show ¬ ((n : Int) ≥ 2 ^ 63) by omega)]
  refine wpAny_bind (wpAny_mkInt (wpAny_pure ⟨_, rfl, ?_⟩))
  show wpAny _ _ (asInt? _ >>= _) _ _ _
  refine wpAny_bind (wpAny_of_eq (a := some (n : Int)) rfl ?_)
  have lt : Builtin.List.listTooLong (n : Int).toNat = false := by
    have : n ≤ sizeLine := by
      have : (1000000 : Nat) ≤ sizeLine := by decide
      omega
    simpa using notLongL this
  show wpAny _ _ (if Builtin.List.listTooLong (n : Int).toNat = true then _ else _) _ _ _
  rw [if_neg (by rw [lt]; exact Bool.false_ne_true)]
  exact wpAny_pure (q _ _ (I'.tok _))
def rListI (K : PySem.W.Frag) (C : Addr) (f : Str) (sp : Sp) : List V → Hp → VK → Prop := fun xs H Q => ∃ (a dx t : Addr) (fs : List (Str × V)) (zs : List V), xs = [.ref a] ∧ H a = some (.ins C dx fs) ∧ fs.lookup f = some (.ref t) ∧ H t = some (.tup zs) ∧ (∀ H', Same H H' → LenIs sp H' a) ∧ ∀ l, H l = none → Q (.ref l) (upd H l (.lst zs))
theorem call_listI {C : Addr} {f : Str} {k : Nat} {ps : List Str} {sp : Sp} (ci : CalI X.prog X.w X.K X.mg X.base k C f) (cn : CalM X.prog X.w X.K X.mg X.base CX0 k C "__len__" ps sp) (hr : Room (k + 3) X.A) : CallR X (.type "list") (rListI X.K C f sp) := by
  intro pins s σ H xs us Q I rv h
  obtain ⟨a, dx, t, fs, zs, rfl, ha, hft, ht, hln, hq⟩ := h
  obtain ⟨u, rfl, ru⟩ := rv.one
  cases ru
  obtain ⟨g, fd, h1, h2, h4⟩ := ci
  refine callType_codes (Q₁ := fun obj s₁ => obj = .ref s.heap.objs.size ∧ s₁ = { s with heap := s.heap.push { cls := .type "list", data := .seq #[] } }) PySem.F.called_list (PySem.F.typeCall_list_1 _) PySem.F.entry_list_init
    (code_list_new _ ⟨rfl, rfl⟩) fun obj s₁ h₁ => ?_
  obtain ⟨rfl, rfl⟩ := h₁
  have hS : (s.heap.push { cls := .type "list", data := .seq #[] }).get? s.heap.objs.size = some { cls := .type "list", data := .seq #[] } := Heap.get?_push_size _ rfl
  refine ⟨⟨_, hS, rfl⟩, PySem.F.args_list_init_2 _ _, ?_⟩
  have fr : H s.heap.objs.size = none := I.hok.fresh (Nat.le_refl _)
  have I1 : Inv X pins σ (upd H s.heap.objs.size (.lst [])) { s with heap := s.heap.push { cls := .type "list", data := .seq #[] } } := I.lnew (its := []) (t' := s.toks) .nil (Nat.zero_le _)
  show wpAny _ _ (do let old ← Builtin.List.listItems (.ref s.heap.objs.size); Builtin.List.listUpdate (.ref s.heap.objs.size) (fun _ => #[]); letGo old.toList.reverse; Builtin.List.listExtendWith (.ref s.heap.objs.size) (.ref a) .none) _ _ _
  refine wpAny_bind ?_
  unfold Builtin.List.listItems
  refine wpAny_bind (wpAny_seqItems hS rfl (wpAny_pure ?_))
  show wpAny _ _ (updateSeq s.heap.objs.size (fun _ => #[]) >>= fun _ => letGo (#[] : Array Value).toList.reverse >>= fun _ => Builtin.List.listExtendWith (.ref s.heap.objs.size) (.ref a) .none) _ _ _
  refine wpAny_bind (wpAny_updateSeq hS rfl ?_)
  have I2 := I1.lset (f := fun _ => #[]) (its := []) (its' := []) (ys := []) (t' := s.toks) upd_same hS rfl .nil (Nat.zero_le _)
  rw [upd_upd] at I2
  refine wpAny_bind (wpAny_letGo ?_)
  have S1 : Same H (upd H s.heap.objs.size (.lst [])) := sNew fr
  have ha2 := S1 _ _ ha
  have hfin := hq _ fr
  have hqq : (upd H s.heap.objs.size (.lst [])) s.heap.objs.size = some (.lst []) := upd_same
  have nta : s.heap.objs.size ≠ a := Ne.symm (ne_of_none ha fr)
  have ntt : t ≠ s.heap.objs.size := ne_of_none ht fr
  generalize eq : s.heap.objs.size = q at *
  obtain ⟨mA, J, _⟩ := ins_get I2.hok ha2
  obtain ⟨od, J, _⟩ := J.look
  obtain ⟨m0, hF⟩ := I2.fr
  unfold Builtin.List.listExtendWith
  refine wpAny_bind (J.type.here ?_)
  have e1 : Builtin.List.listSameRef (.ref q) (.ref a) = false := by simp [Builtin.List.listSameRef, nta]
  have e2 : (Value.ref C == Value.type "list") = false := rfl
  have e3 : (Value.ref C == Value.type "tuple") = false := rfl
  simp only [e1, e2, e3, Bool.or_false, Bool.false_eq_true, if_false]
  refine wpAny_bind (PySem.W.owit_iter hF I2.ok.mod.kin J h2.at_ h2.fn ?_)
  have hb' := fun s1 (kin : X.K.In s1.heap) => h4 s1 [.ref a] kin rfl
  have hr2 : Room k X.A.in1.in1 := (show Room (k + 2) X.A from hr.mono (by omega)).in1.in1
  have hr3 : Room k X.A.in1.in1.in1 := hr.in1.in1.in1
  refine wpAny_call (codeAny_mono (h1.run X.A.in1.in1 X.stack _ (upd H q (.lst [])) [.ref a] [.ref a] (fun v H' => ∃ it, v = .ref it ∧ (upd H q (.lst [])) it = none ∧ X.s_0.heap.objs.size ≤ it ∧ H' = upd (upd H q (.lst [])) it (ItT t it)) E0 hr2 I2.env0.in1.in1 (by
    have := hb' _ I2.kIn
    rw [List.append_nil] at this
    exact this) (.cons rfl .nil) ⟨a, dx, t, fs, zs, rfl, ha2, hft, SqT.of (S1 _ _ ht), fun it n1 n2 => ⟨it, rfl, n1, Nat.le_trans I2.sz n2, rfl⟩⟩) fun z s' hq' => ?_)
  match z, hq' with
  | .error e, hq' => exact hq'.elim
  | .ok (.ret u), hq' =>
    obtain ⟨v, H', I', rv, it, rfl, n1, n2, rfl⟩ := I2.after hq'
    obtain rfl : u = Value.ref it := rv
    have eo := (I'.hok it _ upd_same).1
    unfold PySem.W.OwitIt
    refine looks_next eo fun _ => ?_
    have S2 : Same (upd H q (.lst [])) (upd (upd H q (.lst [])) it (ItT t it)) := sNew n1
    refine wpAny_bind (wpAny_holding (hint_len cn hr3 I'.env0.in1.in1.in1 I' (S2 _ _ ha2) (hln _ (S1.trans S2)) fun b s2 I4 => ?_))
    have eo := (I4.hok it _ upd_same).1
    have nqi : q ≠ it := ne_of_none hqq n1
    have h4q : (upd (upd H q (.lst [])) it (ItT t it)) q = some (.lst []) := S2 _ _ hqq
    have fin : ∀ s3, Inv X pins σ (upd (upd H q (.lst [])) it (ItT t it)) s3 → s3.heap.get? it = some { cls := .type "tuple_iterator", data := .fields #[.ref t, .int 0 0] } →
        codeAny (model X.prog X.w) X.A.in1 (.builtin "list.extend.loop" ⟨[.ref q, .ref it, .none], []⟩) (wants (fun r s₂ => r = .none ∧ EP X pins σ Q (.ref q) s₂) X.xe) s3 := fun s3 I5 eo => by
      have I6 := ItX.inv_drop I5 (a := it) (φ := fun h => h.get? it = some { cls := .type "tuple_iterator", data := .fields #[.ref t, .int 0 0] }) upd_same
      have fp := ItX.inv_fp I5 (a := it) (u := ItT t it) upd_same n2
      rw [ItX.dropH_upd n1] at I6 fp
      have hi0 : H it = none := by rw [upd_ne (Ne.symm nqi)] at n1; exact n1
      have hzt := I.tuple (SqT.of ht)
      obtain ⟨itsz, rvz, _, hzl⟩ := hzt
      have hzl2 := rvz.length
      refine tup_loop (H0 := H) (zs := zs) (t := t) (q := q) (it := it) (A1 := X.A.in1) hr.hd (fun ys => SqT.of (by rw [upd_ne ntt]; exact ht)) (fun ys => ⟨by rw [upd_ne (Ne.symm nqi)]; exact hi0, fp.2⟩) ?_ (fun s' J => ?_) zs.length 0 s3 (by omega) I6 ⟨_, eo, rfl, rfl⟩
      · first | exact hzl | omega
      · exact ⟨rfl, .ref q, _, J, rfl, hfin⟩
    refine wpAny_ite_split (fun _ => ?_) (fun _ => wpAny_pure ⟨plainId_quiet PySem.F.plain_extend_loop _, fin s2 I4 eo⟩)
    refine wpAny_bind (wpAny_rule ?_)
    refine wpAny_bind ?_
    show wpAny _ _ (updateSeq q (·.push .none) >>= fun _ => updateSeq q (·.pop)) _ _ _
    obtain ⟨z3, its3, k3, r3, hl3, e3⟩ := I4.lstM h4q
    cases r3
    refine wpAny_bind (wpAny_updateSeq e3 rfl ?_)
    have I5 := I4.lset (f := (·.push Value.none)) (its' := [Value.none]) (ys := [.non]) (t' := s2.toks) h4q e3 (by simp) (.cons rfl .nil) (by rw [List.length_singleton, sizeLine_eq]; decide)
    obtain ⟨z4, its4, k4, r4, hl4, e4⟩ := I5.lstM upd_same
    obtain ⟨u4, rfl, ru4⟩ := r4.one
    refine wpAny_updateSeq e4 rfl ?_ (by show 1 ≤ sizeLine; rw [sizeLine_eq]; decide) (by show 0 ≤ sizeLine + 1; exact Nat.zero_le _)
    have I6 := I5.lset (f := (·.pop)) (its := [u4]) (its' := []) (ys := []) (t' := s2.toks) upd_same e4 (by rfl) .nil (Nat.zero_le _)
    rw [upd_upd] at I6
    have hH : upd (upd (upd H q (.lst [])) it (ItT t it)) q (.lst []) = upd (upd H q (.lst [])) it (ItT t it) := by
      funext b
      by_cases hb : b = q
      · rw [hb, upd_same, h4q]
      · rw [upd_ne hb]
    rw [hH] at I6
    exact wpAny_pure ⟨plainId_quiet PySem.F.plain_extend_loop _, fin _ I6 (I6.hok it _ upd_same).1⟩
end
end L2
set_option Elab.async false
set_option linter.all false
set_option maxRecDepth 100000
set_option maxHeartbeats 1000000
/-! enumerate over a tuple of the module; a class made with its defaults -/
namespace L2
open PySem PySem.Spec PyProof.Rows
def iEnuK (K : PySem.W.Frag) (ta : TA) : TI := fun σ H R => ta σ H fun vs H1 => ∃ (a : Addr) (xs : List V), vs = [.ref a] ∧ SqT K H1 a xs ∧ ∀ J, Walk J xs.length (fun H' => SqT K H' a xs) (YPair (fun i => some (.int (i : Nat))) (fun i => xs[i]?)) → R J H1
theorem pi_enuK {X : Cx} {e : Expr} {ta : TA} {p pos tpos : Pos} {elts : List Expr} {kk : Nat} (hg : Gl X "enumerate") (hm : X.mg "enumerate" = none) (ha : PA X [e] ta) (hs : starEach [e] X.env = [(false, eval e X.env)] := by rfl) :
    PI X (.Tuple elts kk tpos) (.Call (.Name "enumerate" p) [e] [] pos) (iEnuK X.K ta) := by
  refine ⟨fun pins s σ H R I h => ?_⟩
  refine Call_ (ld_blt I hg hm boot_enumerate (PyProof.Rows.callWith_type1 (thn (ha.run pos pins s σ H _ I h) fun us s1 ⟨vs, H1, I1, r1, q1⟩ => ?_) hs rfl))
  obtain ⟨a, xs, rfl, ho, q⟩ := q1
  obtain ⟨u, rfl, ru⟩ := vals1 r1
  obtain rfl : u = Value.ref a := ru
  have fresh : ∀ b ∈ [s1.heap.objs.size + 1, s1.heap.objs.size], s1.heap.objs.size ≤ b := fun b hb => by
    rcases (show b = s1.heap.objs.size + 1 ∨ b = s1.heap.objs.size by simpa using hb) with rfl | rfl
    · exact Nat.le_add_right _ _
    · exact Nat.le_refl _
  obtain ⟨its, rv, p', hz⟩ := I1.tuple ho
  refine EnT.call_enumT (show s1.heap.IsTuple a its.toArray from p') fun h' he hit hk => wpAny_pyIter_enum he ?_
  exact ⟨s1.heap.objs.size + 1, [s1.heap.objs.size + 1, s1.heap.objs.size], _, _, H1, rfl, I1.kept (t' := s1.toks) hk, turn_enumT a _ _, ⟨⟨.none, he⟩, hit, Nat.succ_ne_self _⟩, fun b hb => I1.fpOk (fresh b hb) (I1.hok.fresh (fresh b hb)), q _ walk_enumT⟩
/-- the class at C makes its instances by sp, its last parameters by their defaults -/
def CalCD (P : Program) (w : World) (K : PySem.W.Frag) (mg : Str → Option Value) (base : Heap) (CX : CXT) (k : Nat) (C : Addr) (ps : List Str) (sp : Sp) (dvs : List V) : Prop :=
  ∃ (f : Addr) (fd : FuncData) (ds : List Value), FnOk P w K mg base CX k f fd ps sp ∧ Mk K C f ∧ Vals dvs ds ∧ Binds K fd ps ds
theorem pe_mkD {X : Cx} {CX : CXT} {k : Nat} {ps : List Str} {sp : Sp} {dvs : List V} {x : Str} {p pos : Pos} {e : Expr} {es : List Expr} {t : TA} {C : Addr} (c : CalCD X.prog X.w X.K X.mg X.base CX k C ps sp dvs) (hm : X.mg x = some (.ref C)) (hr : Room (k + 1) X.A) (ha : PA X (e :: es) t) (hx : Passes CX X E0 := by first | exact pass0 | exact passL) (hg : Gl X x := by rfl) (hdb : (x == ("__debug__" : Str)) = false := by decide) (he : starEach (e :: es) X.env = (false, eval e X.env) :: starEach es X.env := by rfl)
    (hpl : (backTo pos (starEach es X.env)).any (·.1) = false := by rfl) : PE X (.Call (.Name x p) (e :: es) [] pos) (tMake C sp dvs E0 t) := by
  obtain ⟨f, fd, ds, h1, h2, h3, h4⟩ := c
  exact pe_make h2 h1 hr hg hm h4 h3 hx ha hdb he hpl
/-- a tuple that stands in the frame -/
theorem tyK0 {K : PySem.W.Frag} {a : Addr} {xs : List V} (h : ∀ H, SqT K H a xs) (H : Hp) : TyX K H (.ref a) (.type "tuple") := by
  rcases h (fun _ => none) with h | ⟨o, its, n, h1, h2, _⟩
  · rcases h with h | ⟨o, h⟩ <;> cases h
  · exact .kTuple h1 h2
end L2
set_option Elab.async false
set_option linter.all false
set_option maxRecDepth 100000
set_option maxHeartbeats 4000000
/-! tuple * 1 is the tuple itself -/
namespace L2
open PySem PySem.Spec PyProof.Rows
theorem tuple_mul1 (l : Addr) (items : Array Value) (n : Nat) (dd : Option Addr) (sl : Array (Option Value)) (u : Tok) :
    Meets (Builtin.«tuple.__mul__» ⟨[.ref l, .int 1 u], []⟩) (fun _ R s => s.heap.get? l = some { cls := .type "tuple", dict := dd, data := .seq items n, slots := sl } ∧
      R (.ok (.ret (Value.ref l))) s) :=
  .of_wp fun prog w A R s h => by
    obtain ⟨hp, g, d, tk, os⟩ := s
    obtain ⟨hl, h⟩ := h
    have f1 := AutoSeq1.idx_int
    have c1 : (items.isEmpty || (1 : Int) == 1) = true := by cases items.isEmpty <;> rfl
    wp_walk using wpAny_loadPart' hl
    repeat (first
      | (refine wpAny_ite_false (decide_eq_false (by decide)) ?_; wp_walk using wpAny_loadPart' hl)
      | (refine wpAny_ite_true (decide_eq_true c1) ?_; wp_walk using wpAny_loadPart' hl))
    exact ⟨_, rfl, h⟩
def rRepA (K : PySem.W.Frag) : R2 := fun x y H Q => ∃ l k xs, x = .ref l ∧ y = .int k ∧ SqT K H l xs ∧ xs ≠ [] ∧ 1 ≤ k ∧ k ≤ 1000 ∧ xs.length ≤ 1000 ∧ (k = 1 → Q (.ref l) H) ∧ (2 ≤ k → ∀ p, H p = none → Q (.ref p) (upd H p (.tup (List.replicate k.toNat xs).flatten)))
theorem op_repA {X : Cx} : OpR X (binaryOp .Mult) (rRepA X.K) := by
  intro pins s σ H x y v u Q I rx ry h
  obtain ⟨l, k, xs, rfl, rfl, hT, hne, h1, h2, hz, q1, q2⟩ := h
  by_cases g : 2 ≤ k
  · exact op_repT pins s σ H _ _ v u Q I rx ry ⟨l, k, xs, rfl, rfl, hT, hne, g, h2, hz, q2 g⟩
  obtain rfl : k = 1 := by omega
  cases rx
  obtain ⟨t, rfl⟩ := ry
  obtain ⟨its, r, ⟨⟨cls, dd, data, sl⟩, ho, hc, n, hd⟩, hs⟩ := I.tuple hT
  simp only at hc hd
  subst hc hd
  refine wpAny_binaryOp_repeat_ref (T := "tuple") (U := "int") (by decide) ⟨_, ho, rfl⟩ (fun s' => typeIs_int s' 1 t) noFill_tuple_mul F.fills_int_mul F.slot_int_rmul repeat_tuple F.slot_int_index.lookup
    (call_meets F.slot_int_rmul (typeIs_int s 1 t) F.entry_int_rmul (F.args_int_rmul_2 _ _) (int_rmul_tuple 1 t l its.toArray n dd sl)
      ⟨ho, rfl, ⟨_, ho, rfl⟩, call_meets F.slot_tuple_mul ⟨_, ho, rfl⟩ F.entry_tuple_mul (F.args_tuple_mul_2 _ _) (tuple_mul1 l its.toArray n dd sl t) ⟨ho, ?_⟩⟩)
  exact ⟨.ref l, H, I, rfl, q1 rfl⟩
theorem op_repAK {X : Cx} {K : PySem.W.Frag} (h : X.K = K) : OpR X (binaryOp .Mult) (rRepA K) := h ▸ op_repA
/-- a lone try under a name of its own -/
def tW (t : TS) : TS := fun D σ H => t D σ H
theorem pss_oneW {X : Cx} {st : Stmt} {t : TS} (h : PS X st t) : PSs X [st] (tW t) := pss_one h
end L2
set_option Elab.async false
set_option linter.all false
set_option maxRecDepth 100000
set_option maxHeartbeats 4000000
/-! t[::-1] of a tuple -/
namespace RvT
open PySem PySem.Spec PyProof.Rows HT
section
variable {prog : Program} {w : World} {A : Around} {E : Value → Shared → Prop} {s : Shared}
theorem places_rev (n : Nat) : Builtin.Slice.slicePlaces ((n : Int) - 1) (-1) (-1) = n := by
  unfold Builtin.Slice.slicePlaces
  rw [if_neg (by decide)]
  split
  · show ((((n : Int) - 1 - (-1) - 1) / (-(-1)) + 1)).toNat = n
    have : (-(-1 : Int)) = 1 := by decide
    rw [this, Int.ediv_one]
    omega
  · show (0 : Int).toNat = n
    have : n = 0 := by omega
    rw [this]
    rfl
theorem fm_congr {α β : Type} {f g : α → Option β} : ∀ {l : List α}, (∀ x ∈ l, f x = g x) → l.filterMap f = l.filterMap g
  | [], _ => rfl
  | x :: l, h => by
    rw [List.filterMap_cons, List.filterMap_cons, h x List.mem_cons_self, fm_congr fun y hy => h y (List.mem_cons_of_mem _ hy)]
theorem pick_rev (xs : Array Value) : ((List.range xs.size).filterMap fun (m : Nat) => xs[((xs.size : Int) - 1 + (m : Int) * (-1)).toNat]?).toArray = xs.toList.reverse.toArray := by
  have h := pick_gen xs.toList.reverse.toArray 0 xs.size
  have e : (List.range xs.size).filterMap (fun (m : Nat) => xs[((xs.size : Int) - 1 + (m : Int) * (-1)).toNat]?) = (List.range xs.size).filterMap fun (m : Nat) => xs.toList.reverse.toArray[(((0 : Nat) : Int) + (m : Int) * 1).toNat]? := by
    refine fm_congr fun m hm => ?_
    have hm := List.mem_range.mp hm
    rw [show ((xs.size : Int) - 1 + (m : Int) * (-1)).toNat = xs.size - 1 - m by omega, show (((0 : Nat) : Int) + (m : Int) * 1).toNat = m by omega]
    have e1 : xs.toList.reverse.toArray[m]? = xs.toList.reverse[m]? := by simp
    have e2 : xs[xs.size - 1 - m]? = xs.toList[xs.size - 1 - m]? := by simp
    rw [e1, e2, List.getElem?_reverse (by rw [Array.length_toList]; exact hm), Array.length_toList]
  rw [e, h]
  rw [List.drop_zero, List.take_of_length_le]
  rw [List.length_reverse, Array.length_toList]
  exact Nat.le_refl _
theorem applied_rev {sl : Addr} {vs : Value} {n : Nat} {Q : Int × Int × Nat → Shared → Prop} (hs : s.heap.IsSliceOf sl .none .none vs) (ps : IsPart vs (some (-1)))
    (h : Q ((n : Int) - 1, -1, n) s) : wpAny (model prog w) A (Builtin.Slice.sliceApplied (.ref sl) (pure (n : Int))) Q E s := by
  obtain ⟨os, hos, hcs, hds⟩ := id hs
  unfold Builtin.Slice.sliceApplied Builtin.Slice.sliceFields
  refine wpAny_bind (wpAny_bind (wpAny_field hos hds (x := .none) rfl (wpAny_bind (wpAny_field hos hds (x := .none) rfl (wpAny_bind (wpAny_field hos hds (x := vs) rfl (wpAny_pure ?_)))))))
  refine wpAny_bind (slicePart_ ps ?_)
  show wpAny _ _ (if ((-1 : Int) == 0) = true then _ else _) _ _ s
  rw [if_neg (by decide)]
  refine wpAny_bind (slicePart_ .none (wpAny_bind (slicePart_ .none (wpAny_bind (wpAny_pure ?_)))))
  show wpAny _ _ (pure ((n : Int) - 1, (-1 : Int), Builtin.Slice.slicePlaces ((n : Int) - 1) (-1) (-1))) _ _ s
  rw [places_rev]
  exact wpAny_pure h
theorem getItem_tuple_rev {t sl : Addr} {items : Array Value} {vs : Value} {Q : Value → Shared → Prop} (ht : IsTup s.heap t items) (hs : s.heap.IsSliceOf sl .none .none vs) (ps : IsPart vs (some (-1)))
    (h : Q (.ref s.heap.objs.size) { s with heap := s.heap.push { cls := .type "tuple", data := .seq items.toList.reverse.toArray } })
    (hsz : items.size ≤ sizeLine) : wpAny (model prog w) A (getItem (.ref t) (.ref sl)) Q E s := by
  have htake : sizeOk (.seq items.toList.reverse.toArray) := by
    show items.toList.reverse.toArray.size ≤ sizeLine
    rw [List.size_toArray, List.length_reverse, Array.length_toList]
    exact hsz
  obtain ⟨os, hos, hcs, hds⟩ := id hs
  have hTs : s.TypeIs (.ref sl) "slice" := ⟨os, hos, hcs⟩
  unfold getItem
  try with_reducible refine wpAny_holding ?_
  first | refine wpAny_bind (wpAny_pure ?_) | skip
  refine wpAny_bind (wpAny_sequenceKey ht.typeIs (by decide) ?_)
  refine wpAny_bind (wpAny_callSpecial?_slot (name := Str.ofString "__getitem__") ht.typeIs PyProof.Rows.slot_tuple_getitem
    (wpAny_call_entry PyProof.Rows.slot_tuple_getitem ht.typeIs entry_tuple_getitem ?_ (args_tuple_getitem _ _)))
  show wpAny _ _ (Builtin.Tuple.tupleItemsOf (.ref t) >>= _) _ _ s
  refine wpAny_bind (tupleItemsOf_ ht ?_)
  refine wpAny_bind (wpAny_typeOf hTs ?_)
  rw [if_pos (by decide)]
  refine wpAny_bind (applied_rev hs ps ?_)
  have hno : ¬ ((((items.size : Int) - 1) == 0 && (-1 : Int) == 1 && items.size == items.size) = true) := by
    intro q
    rw [Bool.and_eq_true, Bool.and_eq_true] at q
    exact absurd q.1.2 (by decide)
  show wpAny _ _ (if (((items.size : Int) - 1) == 0 && (-1 : Int) == 1 && items.size == items.size) = true then _ else _) _ _ s
  rw [if_neg hno, pick_rev]
  first
    | exact wpAny_bind (m := Builtin.Tuple.tupleExact _) (wpAny_newObj_type (wpAny_pure ⟨_, rfl, wpAny_pure h⟩) htake)
    | exact wpAny_bind (m := Builtin.Tuple.tupleExact _) (wpAny_newObj_type (wpAny_bind (wpAny_pure (wpAny_pure ⟨_, rfl, wpAny_pure h⟩))) htake)
    | exact wpAny_bind (wpAny_bind (m := Builtin.Tuple.tupleExact _) (wpAny_newObj_type (wpAny_pure (wpAny_pure ⟨_, rfl, wpAny_pure h⟩)) htake))
    | exact wpAny_bind (wpAny_bind (m := Builtin.Tuple.tupleExact _) (wpAny_newObj_type (wpAny_pure ⟨_, rfl, wpAny_pure h⟩) htake))
end
end RvT
namespace L2
open PySem PySem.Spec PyProof.Rows
section
variable {X : Cx}
def tRevT (K : PySem.W.Frag) (te : TE) : TE := fun σ H Q => te σ H fun x H1 => ∃ a xs, x = .ref a ∧ SqT K H1 a xs ∧ ∀ l, H1 l = none → Q (.ref l) (upd H1 l (.tup xs.reverse))
theorem pe_revT {e : Expr} {te : TE} {k : Nat} {p1 p2 p3 pos : Pos} (he : PE X e te) : PE X (.Subscript e (.Slice none none (some (.UnaryOp .USub (.Constant (.int 1) k p1) p2)) p3) pos) (tRevT X.K te) := by
  refine ⟨fun pins s σ H Q I h => ?_⟩
  refine Subscript_ (thn (he.run pins s σ H _ I h) fun v s1 ⟨x, H1, I1, r1, q1⟩ => ?_)
  obtain ⟨a, xs, ex, hx, q⟩ := q1
  subst ex
  cases r1
  have hst : PO X (some (.UnaryOp .USub (.Constant (.int 1) k p1) p2)) (tPart (tUn (rU fun i => .int (-i)) (tC (.int 1)))) := po_some (pe_un un_neg pe_int)
  refine wpAny_Slice (thn (po_none.run pins s1 σ H1 (fun o H2 => o = none ∧ H2 = H1) I1 ⟨rfl, rfl⟩) fun vl s2 ⟨l, H2, I2, pl, el, e2⟩ => ?_)
  subst el e2
  refine thn (po_none.run pins s2 σ H2 (fun o H3 => o = none ∧ H3 = H2) I2 ⟨rfl, rfl⟩) fun vu s3 ⟨u, H3, I3, pu, eu, e3⟩ => ?_
  subst eu e3
  refine thn (hst.run pins s3 σ H3 (fun o H4 => o = some (-1) ∧ H4 = H3) I3 ⟨1, rfl, -1, rfl, rfl, rfl⟩) fun vs s4 ⟨o, H4, I4, ps, eo, e4⟩ => ?_
  subst eo e4
  cases pl
  cases pu
  have I5 : Inv X pins σ H4 { s4 with heap := s4.heap.push { cls := .type "slice", data := .fields #[.none, .none, vs] } } := I4.kept (t' := s4.toks) fun b ob q => Heap.get?_push_of_some _ q
  obtain ⟨its, r, ht, hz⟩ := I5.tuple hx
  have hlen := r.length
  show wpAny (model X.prog X.w) X.A (subscriptTail e (.Slice none none (some (.UnaryOp .USub (.Constant (.int 1) k p1) p2)) p3) (.ref a) (.ref s4.heap.objs.size)) (EP X pins σ Q) X.xe { s4 with heap := s4.heap.push { cls := .type "slice", data := .fields #[.none, .none, vs] } }
  refine tail_any (ops := [.ref a, .ref s4.heap.objs.size]) ht.typeIs (PyProof.Rows.slot_tuple_getitem.lookup) ?_ (by with_unfolding_all rfl)
  refine RvT.getItem_tuple_rev ht (Heap.IsSliceOf.new _ .none .none vs) ps ?_ (by rw [List.size_toArray]; omega)
  refine ⟨.ref _, _, I5.laid (t' := s4.toks) (o := .tup xs.reverse) (fun b ob q => Heap.get?_push_of_some _ q) (Nat.le_refl _) ?_, rfl, q _ (I5.hok.fresh (Nat.le_refl _))⟩
  exact ⟨by rw [List.length_reverse]; exact hz, _, r.reverse, IsTup.new _ _⟩
end
end L2
set_option Elab.async false
set_option linter.all false
set_option maxRecDepth 100000
/-! systems of differences: lowering times round by round (plain) -/
namespace Bf
abbrev NL := Nat × Nat × Int
def gO {α : Type} (xs : List (Option α)) (i : Nat) : Option α := (xs[i]?).join
theorem gO_set {α : Type} {xs : List (Option α)} {i j : Nat} {x : Option α} (h : i < xs.length) : gO (xs.set i x) j = if i = j then x else gO xs j := by
  unfold gO
  rw [List.getElem?_set]
  by_cases e : i = j
  · subst e
    simp [h]
  · simp [e]
theorem gO_lt {α : Type} {xs : List (Option α)} {i : Nat} {x : α} (h : gO xs i = some x) : i < xs.length := by
  unfold gO at h
  cases e : xs[i]? with
  | none => rw [e] at h; cases h
  | some y => exact (List.getElem?_eq_some_iff.mp e).1
theorem gO_at {α : Type} {xs : List (Option α)} {i : Nat} (h : i < xs.length) : gO xs i = xs[i] := by
  unfold gO
  rw [List.getElem?_eq_getElem h]
  rfl
structure BS where
  ts : List (Option Int)
  cm : List (Option Nat)
  lo : Option Nat
def rl (i : Nat) (l : NL) (s : BS) : BS := match gO s.ts l.2.1 with
  | none => s
  | some t => match gO s.ts l.1 with
    | none => ⟨s.ts.set l.1 (some (t + l.2.2)), s.cm.set l.1 (some i), some l.1⟩
    | some v => if v > t + l.2.2 then ⟨s.ts.set l.1 (some (t + l.2.2)), s.cm.set l.1 (some i), some l.1⟩ else s
def rls : Nat → List NL → BS → BS
  | _, [], s => s
  | i, l :: ls, s => rls (i + 1) ls (rl i l s)
def rnd (ls : List NL) (s : BS) : BS := rls 0 ls { s with lo := none }
/-- the rounds: where they end, and whether without a lowering -/
def run (ls : List NL) : Nat → BS → BS × Bool
  | 0, s => (s, false)
  | k + 1, s => if (rnd ls s).lo = none then (rnd ls s, true) else run ls k (rnd ls s)
/-- the times keep a link -/
def Sat (ts : List (Option Int)) (l : NL) : Prop := ∀ t, gO ts l.2.1 = some t → ∃ v, gO ts l.1 = some v ∧ v ≤ t + l.2.2
def Unsat (s : BS) (l : NL) (t : Int) : Prop := gO s.ts l.2.1 = some t ∧ ∀ v, gO s.ts l.1 = some v → t + l.2.2 < v
def low (i : Nat) (l : NL) (t : Int) (s : BS) : BS := ⟨s.ts.set l.1 (some (t + l.2.2)), s.cm.set l.1 (some i), some l.1⟩
theorem rl_cases (i : Nat) (l : NL) (s : BS) : (Sat s.ts l ∧ rl i l s = s) ∨ ∃ t, Unsat s l t ∧ rl i l s = low i l t s := by
  unfold rl
  cases h : gO s.ts l.2.1 with
  | none => exact .inl ⟨fun t e => (by rw [h] at e; cases e), rfl⟩
  | some t =>
    cases h1 : gO s.ts l.1 with
    | none => exact .inr ⟨t, ⟨h, fun v e => (by rw [h1] at e; cases e)⟩, rfl⟩
    | some v =>
      by_cases g : v > t + l.2.2
      · refine .inr ⟨t, ⟨h, fun v' e => ?_⟩, ?_⟩
        · rw [h1] at e
          cases e
          exact g
        · show (if v > t + l.2.2 then _ else s) = _
          rw [if_pos g]
          rfl
      · refine .inl ⟨fun t' e => ?_, ?_⟩
        · rw [h] at e
          cases e
          exact ⟨v, h1, by omega⟩
        · show (if v > t + l.2.2 then _ else s) = _
          rw [if_neg g]
theorem rls_some : ∀ (ls : List NL) (i : Nat) (s : BS), s.lo ≠ none → (rls i ls s).lo ≠ none
  | [], _, _, h => h
  | l :: ls, i, s, h => by
    refine rls_some ls (i + 1) _ ?_
    rcases rl_cases i l s with ⟨_, e⟩ | ⟨t, _, e⟩
    · rw [e]; exact h
    · rw [e]; exact fun z => nomatch z
theorem rls_none : ∀ (ls : List NL) (i : Nat) (s : BS), (rls i ls s).lo = none → rls i ls s = s ∧ ∀ l ∈ ls, Sat s.ts l
  | [], _, _, _ => ⟨rfl, fun l h => by cases h⟩
  | l :: ls, i, s, h => by
    have h : (rls (i + 1) ls (rl i l s)).lo = none := h
    rcases rl_cases i l s with ⟨st, e⟩ | ⟨t, _, e⟩
    · rw [e] at h
      obtain ⟨h1, h2⟩ := rls_none ls (i + 1) s h
      refine ⟨?_, fun x hx => ?_⟩
      · show rls (i + 1) ls (rl i l s) = s
        rw [e, h1]
      · rcases List.mem_cons.mp hx with rfl | hx
        · exact st
        · exact h2 x hx
    · rw [e] at h
      exact absurd h (rls_some ls (i + 1) _ fun z => nomatch z)
/-- what holds amid round r, the links below j being done; T the clock of the last lowering, L its round -/
structure Iv (ls : List NL) (bg : List (Option Int)) (n r j c : Nat) (T L : Nat → Nat) (s : BS) : Prop where
  lt : s.ts.length = n
  lc : s.cm.length = n
  ok : ∀ l ∈ ls, l.1 < n ∧ l.2.1 < n
  cm : ∀ v i, gO s.cm v = some i → ∃ (l : NL) (tv tu : Int), ls[i]? = some l ∧ l.1 = v ∧ gO s.ts v = some tv ∧ gO s.ts l.2.1 = some tu ∧ tu + l.2.2 ≤ tv ∧ (tu + l.2.2 = tv → T l.2.1 < T v) ∧ L v ≤ L l.2.1 + 1
  no : ∀ v, gO s.cm v = none → gO s.ts v = gO bg v
  cl : ∀ v, T v ≤ c
  lr : ∀ v, L v ≤ r
  l1 : ∀ v, 1 ≤ L v → gO s.cm v ≠ none
  lo : ∀ v, s.lo = some v → L v = r
  dn : ∀ i l, ls[i]? = some l → i < j → L l.2.1 < r → Sat s.ts l
  un : ∀ i l, ls[i]? = some l → j ≤ i → L l.2.1 + 1 < r → Sat s.ts l
  so : ∀ v, (gO bg v).isSome = true → (gO s.ts v).isSome = true
theorem Iv.step {ls : List NL} {bg : List (Option Int)} {n r j c : Nat} {T L : Nat → Nat} {s : BS} {l : NL} (V : Iv ls bg n r j c T L s) (hl : ls[j]? = some l) : ∃ c' T' L', Iv ls bg n r (j + 1) c' T' L' (rl j l s) := by
  rcases rl_cases j l s with ⟨st, e⟩ | ⟨t, ⟨ht, hv⟩, e⟩
  · rw [e]
    refine ⟨c, T, L, { V with dn := fun i l' h1 h2 h3 => ?_, un := fun i l' h1 h2 h3 => V.un i l' h1 (by omega) h3 }⟩
    by_cases g : i = j
    · subst g
      rw [hl] at h1
      cases h1
      exact st
    · exact V.dn i l' h1 (by omega) h3
  · rw [e]
    obtain ⟨o1, o2⟩ := V.ok l (List.mem_of_getElem? hl)
    have lr1 : r ≤ L l.2.1 + 1 := by
      refine Nat.le_of_not_lt fun z => ?_
      obtain ⟨v, h1, h2⟩ := V.un j l hl (Nat.le_refl _) (by omega) t ht
      have := hv v h1
      omega
    have gt : ∀ x, gO (low j l t s).ts x = if l.1 = x then some (t + l.2.2) else gO s.ts x := fun x => gO_set (by rw [V.lt]; exact o1)
    have gc : ∀ x, gO (low j l t s).cm x = if l.1 = x then some j else gO s.cm x := fun x => gO_set (by rw [V.lc]; exact o1)
    -- a time that was there is lower or the same
    have dec : ∀ x w, gO s.ts x = some w → ∃ w', gO (low j l t s).ts x = some w' ∧ w' ≤ w ∧ (l.1 = x → w' < w) ∧ (l.1 ≠ x → w' = w) := fun x w hw => by
      rw [gt]
      by_cases g : l.1 = x
      · rw [if_pos g]
        subst g
        have := hv w hw
        exact ⟨_, rfl, by omega, fun _ => this, fun z => absurd rfl z⟩
      · rw [if_neg g]
        exact ⟨w, hw, Int.le_refl _, fun z => absurd z g, fun _ => rfl⟩
    have satk : ∀ l' : NL, l'.2.1 ≠ l.1 → Sat s.ts l' → Sat (low j l t s).ts l' := fun l' g h t' ht' => by
      rw [gt, if_neg (Ne.symm g)] at ht'
      obtain ⟨w, h1, h2⟩ := h t' ht'
      obtain ⟨w', h3, h4, _⟩ := dec _ _ h1
      exact ⟨w', h3, by omega⟩
    refine ⟨c + 1, fun x => if l.1 = x then c + 1 else T x, fun x => if l.1 = x then r else L x, ?_⟩
    refine ⟨by rw [← V.lt]; exact List.length_set, by rw [← V.lc]; exact List.length_set, V.ok, fun v i hi => ?_, fun v h => ?_, fun v => ?_, fun v => ?_, fun v h => ?_, fun v h => ?_, fun i l' h1 h2 h3 => ?_, fun i l' h1 h2 h3 => ?_, fun v h => ?_⟩
    · rw [gc] at hi
      by_cases g : l.1 = v
      · subst g
        rw [if_pos rfl] at hi
        cases hi
        obtain ⟨tu, h1, h2, h3, h4⟩ := dec _ _ ht
        refine ⟨l, t + l.2.2, tu, hl, rfl, by rw [gt, if_pos rfl], h1, by omega, fun q => ?_, ?_⟩
        · by_cases g2 : l.1 = l.2.1
          · have := h3 g2
            omega
          · show (if l.1 = l.2.1 then c + 1 else T l.2.1) < (if l.1 = l.1 then c + 1 else T l.1)
            rw [if_neg g2, if_pos rfl]
            have := V.cl l.2.1
            omega
        · show (if l.1 = l.1 then r else L l.1) ≤ (if l.1 = l.2.1 then r else L l.2.1) + 1
          rw [if_pos rfl]
          split <;> omega
      · rw [if_neg g] at hi
        obtain ⟨l', tv, tu, h1, h2, h3, h4, h5, h6, h7⟩ := V.cm v i hi
        obtain ⟨tu', k1, k2, k3, k4⟩ := dec _ _ h4
        refine ⟨l', tv, tu', h1, h2, by rw [gt, if_neg g]; exact h3, k1, by omega, fun q => ?_, ?_⟩
        · by_cases g2 : l.1 = l'.2.1
          · have := k3 g2
            omega
          · have := k4 g2
            show (if l.1 = l'.2.1 then c + 1 else T l'.2.1) < (if l.1 = v then c + 1 else T v)
            rw [if_neg g2, if_neg g]
            exact h6 (by omega)
        · show (if l.1 = v then r else L v) ≤ (if l.1 = l'.2.1 then r else L l'.2.1) + 1
          rw [if_neg g]
          have := V.lr v
          split <;> omega
    · rw [gc] at h
      by_cases g : l.1 = v
      · rw [if_pos g] at h
        cases h
      · rw [if_neg g] at h
        rw [gt, if_neg g]
        exact V.no v h
    · show (if l.1 = v then c + 1 else T v) ≤ c + 1
      have := V.cl v
      split <;> omega
    · show (if l.1 = v then r else L v) ≤ r
      have := V.lr v
      split <;> omega
    · rw [gc]
      by_cases g : l.1 = v
      · rw [if_pos g]
        exact fun z => nomatch z
      · rw [if_neg g]
        have h : 1 ≤ (if l.1 = v then r else L v) := h
        rw [if_neg g] at h
        exact V.l1 v h
    · have h : some l.1 = some v := h
      cases h
      show (if l.1 = l.1 then r else L l.1) = r
      rw [if_pos rfl]
    · have h3 : (if l.1 = l'.2.1 then r else L l'.2.1) < r := h3
      have g : ¬ l.1 = l'.2.1 := fun z => by rw [if_pos z] at h3; omega
      rw [if_neg g] at h3
      by_cases gj : i = j
      · subst gj
        rw [hl] at h1
        cases h1
        intro t' ht'
        rw [gt, if_neg g, ht] at ht'
        cases ht'
        exact ⟨t + l.2.2, by rw [gt, if_pos rfl], Int.le_refl _⟩
      · exact satk l' (Ne.symm g) (V.dn i l' h1 (by omega) h3)
    · have h3 : (if l.1 = l'.2.1 then r else L l'.2.1) + 1 < r := h3
      have g : ¬ l.1 = l'.2.1 := fun z => by rw [if_pos z] at h3; omega
      rw [if_neg g] at h3
      exact satk l' (Ne.symm g) (V.un i l' h1 (by omega) h3)
    · obtain ⟨w, hw⟩ := Option.isSome_iff_exists.mp (V.so v h)
      obtain ⟨w', h1, _⟩ := dec v w hw
      rw [h1]
      rfl
theorem Iv.steps {ls : List NL} {bg : List (Option Int)} {n r : Nat} : ∀ (xs : List NL) (j c : Nat) (T L : Nat → Nat) (s : BS), ls.drop j = xs → Iv ls bg n r j c T L s → ∃ c' T' L', Iv ls bg n r ls.length c' T' L' (rls j xs s)
  | [], j, c, T, L, s, e, V => by
    have : ls.length ≤ j := by
      have := congrArg List.length e
      rw [List.length_drop] at this
      simp at this
      omega
    refine ⟨c, T, L, { V with dn := fun i l h1 h2 h3 => V.dn i l h1 (by omega) h3, un := fun i l h1 h2 h3 => ?_ }⟩
    have := (List.getElem?_eq_some_iff.mp h1).1
    omega
  | x :: xs, j, c, T, L, s, e, V => by
    have hx : ls[j]? = some x := by
      have := congrArg List.head? e
      rw [List.head?_drop] at this
      exact this
    obtain ⟨c', T', L', V'⟩ := V.step hx
    refine Iv.steps xs (j + 1) c' T' L' _ ?_ V'
    rw [← List.drop_drop, e]
    rfl
/-- a whole round -/
theorem Iv.round {ls : List NL} {bg : List (Option Int)} {n r c : Nat} {T L : Nat → Nat} {s : BS} (V : Iv ls bg n r ls.length c T L s) : ∃ c' T' L', Iv ls bg n (r + 1) ls.length c' T' L' (rnd ls s) := by
  refine Iv.steps ls 0 c T L _ rfl { V with lr := fun v => Nat.le_succ_of_le (V.lr v), lo := fun v h => (by cases h), dn := fun i l h1 h2 h3 => absurd h2 (Nat.not_lt_zero i), un := fun i l h1 h2 h3 => V.dn i l h1 (List.getElem?_eq_some_iff.mp h1).1 (by omega) }
end Bf
set_option Elab.async false
set_option linter.all false
set_option maxRecDepth 100000
/-! the ends of the rounds: times that keep all links, or a ring below 0 -/
namespace Bf
def bs0 (bg : List (Option Int)) : BS := ⟨bg, bg.map fun _ => none, none⟩
def IxOk (n : Nat) (ls : List NL) : Prop := ∀ l ∈ ls, l.1 < n ∧ l.2.1 < n
theorem gO_none {α β : Type} (xs : List β) (i : Nat) : gO (xs.map fun _ => (none : Option α)) i = none := by
  unfold gO
  rw [List.getElem?_map]
  cases xs[i]? <;> rfl
theorem Iv.start {ls : List NL} {bg : List (Option Int)} (ok : IxOk bg.length ls) : Iv ls bg bg.length 0 ls.length 0 (fun _ => 0) (fun _ => 0) (bs0 bg) :=
  ⟨rfl, List.length_map _, ok, fun v i h => (by rw [show gO (bs0 bg).cm v = none from gO_none bg v] at h; cases h), fun v _ => rfl, fun v => Nat.le_refl _, fun v => Nat.le_refl _, fun v h => (by cases h), fun v h => (by cases h), fun i l h1 h2 h3 => absurd h3 (Nat.not_lt_zero _), fun i l h1 h2 h3 => absurd h3 (Nat.not_lt_zero _), fun v h => h⟩
theorem Iv.runs {ls : List NL} {bg : List (Option Int)} {n : Nat} : ∀ (k r c : Nat) (T L : Nat → Nat) (s : BS), Iv ls bg n r ls.length c T L s →
    ((run ls k s).2 = true → ∃ r' c' T' L', Iv ls bg n r' ls.length c' T' L' (run ls k s).1 ∧ (run ls k s).1.lo = none ∧ ∀ l ∈ ls, Sat (run ls k s).1.ts l) ∧
    ((run ls k s).2 = false → 1 ≤ k → ∃ c' T' L', Iv ls bg n (r + k) ls.length c' T' L' (run ls k s).1 ∧ (run ls k s).1.lo ≠ none)
  | 0, r, c, T, L, s, V => ⟨fun h => (by cases h), fun _ h => absurd h (Nat.not_succ_le_zero 0)⟩
  | k + 1, r, c, T, L, s, V => by
    obtain ⟨c', T', L', V'⟩ := V.round
    have un : run ls (k + 1) s = if (rnd ls s).lo = none then (rnd ls s, true) else run ls k (rnd ls s) := rfl
    by_cases g : (rnd ls s).lo = none
    · rw [un, if_pos g]
      refine ⟨fun _ => ⟨_, _, _, _, V', g, ?_⟩, fun h => (by cases h)⟩
      obtain ⟨h1, h2⟩ := rls_none ls 0 _ g
      have e : (rnd ls s).ts = s.ts := by
        unfold rnd
        rw [h1]
      rw [e]
      exact h2
    · rw [un, if_neg g]
      obtain ⟨h1, h2⟩ := Iv.runs k (r + 1) c' T' L' _ V'
      refine ⟨h1, fun h _ => ?_⟩
      by_cases k0 : k = 0
      · subst k0
        exact ⟨c', T', L', V', g⟩
      · obtain ⟨c2, T2, L2, V2, q⟩ := h2 h (by omega)
        refine ⟨c2, T2, L2, ?_, q⟩
        rw [show r + (k + 1) = r + 1 + k by omega]
        exact V2
/-! going back -/
def nx (ls : List NL) (cm : List (Option Nat)) (x : Nat) : Nat := (((gO cm x).bind fun i => ls[i]?).map fun l => l.2.1).getD 0
def wt (ls : List NL) (cm : List (Option Nat)) (x : Nat) : Int := (((gO cm x).bind fun i => ls[i]?).map fun l => l.2.2).getD 0
def ic (cm : List (Option Nat)) (x : Nat) : Nat := (gO cm x).getD 0
def itN (ls : List NL) (cm : List (Option Nat)) : Nat → Nat → Nat
  | 0, x => x
  | k + 1, x => itN ls cm k (nx ls cm x)
def smW (ls : List NL) (cm : List (Option Nat)) : Nat → Nat → Int
  | 0, _ => 0
  | k + 1, x => wt ls cm x + smW ls cm k (nx ls cm x)
def pth (ls : List NL) (cm : List (Option Nat)) : Nat → Nat → List Nat
  | 0, _ => []
  | k + 1, x => ic cm x :: pth ls cm k (nx ls cm x)
section
variable {ls : List NL} {cm : List (Option Nat)}
theorem nx_at {x i : Nat} {l : NL} (h : gO cm x = some i) (hl : ls[i]? = some l) : nx ls cm x = l.2.1 ∧ wt ls cm x = l.2.2 ∧ ic cm x = i := by
  unfold nx wt ic
  rw [h]
  show ((ls[i]?).map _).getD 0 = _ ∧ ((ls[i]?).map _).getD 0 = _ ∧ _
  rw [hl]
  exact ⟨rfl, rfl, rfl⟩
theorem itN_add : ∀ (a b x : Nat), itN ls cm (a + b) x = itN ls cm b (itN ls cm a x)
  | 0, b, x => by rw [Nat.zero_add]; rfl
  | a + 1, b, x => by
    rw [show a + 1 + b = (a + b) + 1 by omega]
    exact itN_add a b (nx ls cm x)
theorem itN_succ (k x : Nat) : itN ls cm (k + 1) x = nx ls cm (itN ls cm k x) := itN_add k 1 x
theorem pth_snoc : ∀ (k x : Nat), pth ls cm (k + 1) x = pth ls cm k x ++ [ic cm (itN ls cm k x)]
  | 0, x => rfl
  | k + 1, x => by
    show ic cm x :: pth ls cm (k + 1) (nx ls cm x) = _
    rw [pth_snoc k]
    rfl
end
/-- indexes of links that lead on from a to b -/
def Leads (ls : List NL) : List Nat → Nat → Nat → Prop
  | [], a, b => a = b
  | i :: is, a, b => ∃ l, ls[i]? = some l ∧ l.2.1 = a ∧ Leads ls is l.1 b
def smI (ls : List NL) (is : List Nat) : Int := (is.map fun i => (ls[i]?.map fun l => l.2.2).getD 0).sum
theorem Leads.app {ls : List NL} : ∀ {is js : List Nat} {a b c : Nat}, Leads ls is a b → Leads ls js b c → Leads ls (is ++ js) a c
  | [], _, _, _, _, h, k => by cases h; exact k
  | _ :: _, _, _, _, _, ⟨l, h1, h2, h3⟩, k => ⟨l, h1, h2, h3.app k⟩
theorem smI_app {ls : List NL} (is js : List Nat) : smI ls (is ++ js) = smI ls is + smI ls js := by
  unfold smI
  rw [List.map_append, List.sum_append]
/-- times φ keep all links -/
def Keeps (ls : List NL) (φ : Nat → Int) : Prop := ∀ l ∈ ls, φ l.1 - φ l.2.1 ≤ l.2.2
theorem Leads.bound {ls : List NL} {φ : Nat → Int} (K : Keeps ls φ) : ∀ {is : List Nat} {a b : Nat}, Leads ls is a b → φ b - φ a ≤ smI ls is
  | [], a, b, h => by
    cases h
    show φ a - φ a ≤ 0
    omega
  | i :: is, a, b, ⟨l, h1, h2, h3⟩ => by
    have h := h3.bound K
    have k := K l (List.mem_of_getElem? h1)
    have e : smI ls (i :: is) = l.2.2 + smI ls is := by
      unfold smI
      rw [List.map_cons, List.sum_cons, h1]
      rfl
    subst h2
    omega
theorem pth_leads {ls : List NL} {cm : List (Option Nat)} : ∀ (k x : Nat), (∀ m, m < k → ∃ i l, gO cm (itN ls cm m x) = some i ∧ ls[i]? = some l ∧ l.1 = itN ls cm m x) → Leads ls (pth ls cm k x).reverse (itN ls cm k x) x ∧ smI ls (pth ls cm k x).reverse = smW ls cm k x
  | 0, x, _ => ⟨rfl, rfl⟩
  | k + 1, x, h => by
    obtain ⟨i, l, h1, h2, h3⟩ := h 0 (by omega)
    obtain ⟨e1, e2, e3⟩ := nx_at h1 h2
    have h3 : l.1 = x := h3
    obtain ⟨k1, k2⟩ := pth_leads k (nx ls cm x) fun m hm => h (m + 1) (by omega)
    show Leads ls (ic cm x :: pth ls cm k (nx ls cm x)).reverse (itN ls cm k (nx ls cm x)) x ∧ smI ls (ic cm x :: pth ls cm k (nx ls cm x)).reverse = wt ls cm x + smW ls cm k (nx ls cm x)
    have e3 : ic cm x = i := e3
    have e2 : wt ls cm x = l.2.2 := e2
    rw [List.reverse_cons, e3]
    refine ⟨k1.app ⟨l, h2, e1.symm, h3⟩, ?_⟩
    rw [smI_app, k2, e2]
    have : smI ls [i] = l.2.2 := by
      unfold smI
      rw [List.map_cons, List.map_nil, List.sum_cons, List.sum_nil, h2]
      show l.2.2 + 0 = l.2.2
      omega
    omega
/-- numbers below n that differ are n at most -/
theorem pigeon : ∀ (n : Nat) (xs : List Nat), xs.Nodup → (∀ x ∈ xs, x < n) → xs.length ≤ n
  | 0, xs, _, h => by
    cases xs with
    | nil => exact Nat.le_refl _
    | cons x xs => exact absurd (h x List.mem_cons_self) (Nat.not_lt_zero _)
  | n + 1, xs, d, h => by
    have d2 : (xs.erase n).Nodup := d.erase n
    have k := pigeon n (xs.erase n) d2 fun x hx => by
      have h1 := h x (List.mem_of_mem_erase hx)
      have h2 : x ≠ n := fun e => by
        subst e
        exact (List.Nodup.mem_erase_iff d).mp hx |>.1 rfl
      omega
    by_cases g : n ∈ xs
    · rw [List.length_erase_of_mem g] at k
      omega
    · rw [List.erase_of_not_mem g] at k
      omega
theorem twice (n : Nat) (f : Nat → Nat) (h : ∀ k, k ≤ n → f k < n) : ∃ i j, i < j ∧ j ≤ n ∧ f i = f j := by
  refine Classical.byContradiction fun z => ?_
  have nd : ((List.range (n + 1)).map f).Nodup := by
    refine List.pairwise_map.mpr (List.Pairwise.imp_of_mem (R := fun a b => a < b) (fun {a b} ha hb hab => fun e => z ⟨a, b, hab, by have := List.mem_range.mp hb; omega, e⟩) List.pairwise_lt_range)
  have := pigeon n _ nd fun x hx => by
    obtain ⟨k, hk, rfl⟩ := List.mem_map.mp hx
    exact h k (by have := List.mem_range.mp hk; omega)
  rw [List.length_map, List.length_range] at this
  omega
end Bf
namespace Bf
/-- what came before is there -/
def Has (ls : List NL) (cm : List (Option Nat)) (x : Nat) : Prop := ∃ i l, gO cm x = some i ∧ ls[i]? = some l ∧ l.1 = x
section
variable {ls : List NL} {bg : List (Option Int)} {n r j c : Nat} {T L : Nat → Nat} {s : BS}
theorem Iv.has (V : Iv ls bg n r j c T L s) {x : Nat} (h : gO s.cm x ≠ none) : Has ls s.cm x := by
  cases e : gO s.cm x with
  | none => exact absurd e h
  | some i =>
    obtain ⟨l, _, _, h1, h2, _⟩ := V.cm x i e
    exact ⟨i, l, e, h1, h2⟩
theorem Iv.lt_of (V : Iv ls bg n r j c T L s) {x : Nat} (h : gO s.cm x ≠ none) : x < n := by
  cases e : gO s.cm x with
  | none => exact absurd e h
  | some i =>
    have := gO_lt e
    rw [V.lc] at this
    exact this
/-- one step back -/
theorem Iv.one (V : Iv ls bg n r j c T L s) {x : Nat} (h : gO s.cm x ≠ none) : ∃ tv tu, gO s.ts x = some tv ∧ gO s.ts (nx ls s.cm x) = some tu ∧ tu + wt ls s.cm x ≤ tv ∧ (tu + wt ls s.cm x = tv → T (nx ls s.cm x) < T x) ∧ L x ≤ L (nx ls s.cm x) + 1 := by
  cases e : gO s.cm x with
  | none => exact absurd e h
  | some i =>
    obtain ⟨l, tv, tu, h1, h2, h3, h4, h5, h6, h7⟩ := V.cm x i e
    obtain ⟨e1, e2, _⟩ := nx_at e h1
    rw [e1, e2]
    exact ⟨tv, tu, h3, h4, h5, h6, h7⟩
theorem Iv.chainL (V : Iv ls bg n r j c T L s) : ∀ (k x : Nat), k < L x → gO s.cm (itN ls s.cm k x) ≠ none ∧ L x ≤ L (itN ls s.cm k x) + k
  | 0, x, h => ⟨V.l1 x h, Nat.le_refl _⟩
  | k + 1, x, h => by
    obtain ⟨tv, tu, _, _, _, _, h7⟩ := V.one (V.l1 x (by omega))
    obtain ⟨h1, h2⟩ := V.chainL k (nx ls s.cm x) (by omega)
    exact ⟨h1, by show L x ≤ L (itN ls s.cm k (nx ls s.cm x)) + (k + 1); omega⟩
theorem Iv.chainT (V : Iv ls bg n r j c T L s) : ∀ (k x : Nat), (∀ m, m ≤ k → gO s.cm (itN ls s.cm m x) ≠ none) → ∃ tx ty, gO s.ts x = some tx ∧ gO s.ts (itN ls s.cm (k + 1) x) = some ty ∧ ty + smW ls s.cm (k + 1) x ≤ tx ∧ (ty + smW ls s.cm (k + 1) x = tx → T (itN ls s.cm (k + 1) x) < T x)
  | 0, x, h => by
    obtain ⟨tv, tu, h1, h2, h3, h4, _⟩ := V.one (x := x) (h 0 (Nat.le_refl _))
    exact ⟨tv, tu, h1, h2, by show tu + (wt ls s.cm x + 0) ≤ tv; omega, fun e => h4 (by have e : tu + (wt ls s.cm x + 0) = tv := e; omega)⟩
  | k + 1, x, h => by
    obtain ⟨tv, tu, h1, h2, h3, h4, _⟩ := V.one (x := x) (h 0 (Nat.zero_le _))
    obtain ⟨tx, ty, k1, k2, k3, k4⟩ := V.chainT k (nx ls s.cm x) fun m hm => h (m + 1) (by omega)
    rw [h2] at k1
    cases k1
    have h3 : tu + wt ls s.cm x ≤ tv := h3
    have h4 : tu + wt ls s.cm x = tv → T (nx ls s.cm x) < T x := h4
    refine ⟨tv, ty, h1, k2, ?_, fun e => ?_⟩
    · show ty + (wt ls s.cm x + smW ls s.cm (k + 1) (nx ls s.cm x)) ≤ tv
      omega
    · have e : ty + (wt ls s.cm x + smW ls s.cm (k + 1) (nx ls s.cm x)) = tv := e
      have := k4 (by omega)
      have := h4 (by omega)
      exact Nat.lt_trans ‹T (itN ls s.cm (k + 1) (nx ls s.cm x)) < _› this
/-- a ring in what came before is below 0 -/
theorem Iv.ring (V : Iv ls bg n r j c T L s) {x d : Nat} (h : ∀ m, gO s.cm (itN ls s.cm m x) ≠ none) (d1 : 1 ≤ d) (e : itN ls s.cm d x = x) : smW ls s.cm d x < 0 := by
  obtain ⟨k, rfl⟩ : ∃ k, d = k + 1 := ⟨d - 1, by omega⟩
  obtain ⟨tx, ty, h1, h2, h3, h4⟩ := V.chainT k x fun m _ => h m
  rw [e] at h2 h4
  rw [h1] at h2
  cases h2
  by_cases g : smW ls s.cm (k + 1) x = 0
  · have := h4 (by omega)
    omega
  · omega
/-- behind n rounds and one more, each with a lowering: n steps back there is a ring -/
theorem Iv.found (V : Iv ls bg n (n + 1) j c T L s) {v : Nat} (hv : s.lo = some v) : (∀ m, gO s.cm (itN ls s.cm m v) ≠ none) ∧ ∃ d, 1 ≤ d ∧ itN ls s.cm d (itN ls s.cm n v) = itN ls s.cm n v := by
  have lv := V.lo v hv
  have has : ∀ k, k ≤ n → gO s.cm (itN ls s.cm k v) ≠ none := fun k hk => (V.chainL k v (by omega)).1
  obtain ⟨i, jj, h1, h2, h3⟩ := twice n (fun k => itN ls s.cm k v) fun k hk => V.lt_of (has k hk)
  have h3 : itN ls s.cm i v = itN ls s.cm jj v := h3
  have per : ∀ m, itN ls s.cm (jj + m) v = itN ls s.cm (i + m) v := fun m => by rw [itN_add, itN_add, h3]
  have back : ∀ k, ∃ k', k' ≤ n ∧ itN ls s.cm k v = itN ls s.cm k' v := fun k => by
    induction k using Nat.strongRecOn with
    | _ k ih =>
      by_cases g : k ≤ n
      · exact ⟨k, g, rfl⟩
      · obtain ⟨k', q1, q2⟩ := ih (i + (k - jj)) (by omega)
        refine ⟨k', q1, ?_⟩
        rw [← q2, ← per, show jj + (k - jj) = k by omega]
  refine ⟨fun m => ?_, jj - i, by omega, ?_⟩
  · obtain ⟨k', q1, q2⟩ := back m
    rw [q2]
    exact has k' q1
  · rw [← itN_add, show n + (jj - i) = jj + (n - i) by omega, per, show i + (n - i) = n by omega]
end
end Bf
set_option Elab.async false
set_option linter.all false
set_option maxRecDepth 100000
/-! what the rounds end with -/
namespace Bf
/-- the rounds from bg: n and one more -/
def sett (ls : List NL) (bg : List (Option Int)) : BS × Bool := run ls (bg.length + 1) (bs0 bg)
section
variable {ls : List NL} {bg : List (Option Int)}
/-- a ring: n steps back from the place lowered last -/
theorem sett_ring (ok : IxOk bg.length ls) (h : (sett ls bg).2 = false) : ∃ v, (sett ls bg).1.lo = some v ∧ (∀ m, Has ls (sett ls bg).1.cm (itN ls (sett ls bg).1.cm m v)) ∧ (∃ d, 1 ≤ d ∧ itN ls (sett ls bg).1.cm d (itN ls (sett ls bg).1.cm bg.length v) = itN ls (sett ls bg).1.cm bg.length v) ∧
    (∀ d, 1 ≤ d → itN ls (sett ls bg).1.cm d (itN ls (sett ls bg).1.cm bg.length v) = itN ls (sett ls bg).1.cm bg.length v → smW ls (sett ls bg).1.cm d (itN ls (sett ls bg).1.cm bg.length v) < 0) := by
  obtain ⟨c, T, L, V, nl⟩ := ((Iv.start ok).runs (bg.length + 1) 0 0 _ _ _).2 h (by omega)
  rw [Nat.zero_add] at V
  have V : Iv ls bg bg.length (bg.length + 1) ls.length c T L (sett ls bg).1 := V
  have nl : (sett ls bg).1.lo ≠ none := nl
  obtain ⟨v, hv⟩ := Option.ne_none_iff_exists'.mp nl
  obtain ⟨h1, h2⟩ := V.found hv
  refine ⟨v, hv, fun m => V.has (h1 m), h2, fun d d1 e => V.ring (fun m => ?_) d1 e⟩
  rw [← itN_add]
  exact h1 _
/-- times that keep all links, so far as they are -/
theorem sett_kept (ok : IxOk bg.length ls) (h : (sett ls bg).2 = true) : (sett ls bg).1.ts.length = bg.length ∧ (sett ls bg).1.cm.length = bg.length ∧ (sett ls bg).1.lo = none ∧ (∀ l ∈ ls, Sat (sett ls bg).1.ts l) ∧ (∀ v, (gO bg v).isSome = true → (gO (sett ls bg).1.ts v).isSome = true) ∧
    ∃ T : Nat → Nat, (∀ v, gO (sett ls bg).1.cm v = none → gO (sett ls bg).1.ts v = gO bg v) ∧ ∀ v, gO (sett ls bg).1.cm v ≠ none → ∃ i l tv tu, gO (sett ls bg).1.cm v = some i ∧ ls[i]? = some l ∧ l.1 = v ∧ gO (sett ls bg).1.ts v = some tv ∧ gO (sett ls bg).1.ts l.2.1 = some tu ∧ tu + l.2.2 = tv ∧ T l.2.1 < T v := by
  obtain ⟨r, c, T, L, V, hlo, hs⟩ := ((Iv.start ok).runs (bg.length + 1) 0 0 _ _ _).1 h
  have V : Iv ls bg bg.length r ls.length c T L (sett ls bg).1 := V
  have hs : ∀ l ∈ ls, Sat (sett ls bg).1.ts l := hs
  refine ⟨V.lt, V.lc, hlo, hs, V.so, T, V.no, fun v hv => ?_⟩
  cases e : gO (sett ls bg).1.cm v with
  | none => exact absurd e hv
  | some i =>
    obtain ⟨l, tv, tu, h1, h2, h3, h4, h5, h6, _⟩ := V.cm v i e
    obtain ⟨w, k1, k2⟩ := hs l (List.mem_of_getElem? h1) tu h4
    rw [h2, h3] at k1
    cases k1
    have eq : tu + l.2.2 = tv := by omega
    exact ⟨i, l, tv, tu, rfl, h1, h2, h3, h4, eq, h6 eq⟩
/-- the path of a ring, told from its start -/
theorem ring_path {cm : List (Option Nat)} {p d : Nat} (h : ∀ m, Has ls cm (itN ls cm m p)) (e : itN ls cm d p = p) : Leads ls (pth ls cm d p).reverse p p ∧ smI ls (pth ls cm d p).reverse = smW ls cm d p := by
  obtain ⟨h1, h2⟩ := pth_leads d p fun m _ => h m
  rw [e] at h1
  exact ⟨h1, h2⟩
/-- where times keep all links, no ring is found -/
theorem sett_keeps {φ : Nat → Int} (ok : IxOk bg.length ls) (K : Keeps ls φ) : (sett ls bg).2 = true := by
  cases h : (sett ls bg).2 with
  | true => rfl
  | false =>
    obtain ⟨v, _, h1, ⟨d, d1, e⟩, h2⟩ := sett_ring ok h
    have neg := h2 d d1 e
    obtain ⟨k1, k2⟩ := ring_path (fun m => by rw [← itN_add]; exact h1 _) e
    have := k1.bound K
    omega
/-- all begun: the times keep all links -/
theorem sett_all (ok : IxOk bg.length ls) (h : (sett ls bg).2 = true) (al : ∀ v, v < bg.length → (gO bg v).isSome = true) : Keeps ls fun v => (gO (sett ls bg).1.ts v).getD 0 := fun l hl => by
  obtain ⟨_, _, _, h3, h4, _⟩ := sett_kept ok h
  obtain ⟨o1, o2⟩ := ok l hl
  obtain ⟨t, ht⟩ := Option.isSome_iff_exists.mp (h4 l.2.1 (al _ o2))
  obtain ⟨v, k1, k2⟩ := h3 l hl t ht
  show (gO _ l.1).getD 0 - (gO _ l.2.1).getD 0 ≤ l.2.2
  rw [ht, k1]
  show v - t ≤ l.2.2
  omega
end
end Bf
set_option Elab.async false
set_option linter.all false
set_option maxRecDepth 100000
/-! rings cut at their first return; times from one place; times with a difference -/
namespace Bf
theorem first_ret {f : Nat → Nat} {p : Nat} : ∀ d, 1 ≤ d → f d = p → ∃ d', 1 ≤ d' ∧ d' ≤ d ∧ f d' = p ∧ ∀ m, 1 ≤ m → m < d' → f m ≠ p := by
  intro d
  induction d using Nat.strongRecOn with
  | _ d ih =>
    intro d1 e
    by_cases g : ∃ m, 1 ≤ m ∧ m < d ∧ f m = p
    · obtain ⟨m, m1, m2, em⟩ := g
      obtain ⟨d', h1, h2, h3⟩ := ih m m2 m1 em
      exact ⟨d', h1, by omega, h3⟩
    · exact ⟨d, d1, Nat.le_refl _, e, fun m m1 m2 em => g ⟨m, m1, m2, em⟩⟩
section
variable {ls : List NL} {cm : List (Option Nat)}
theorem Has.lt {x : Nat} (h : Has ls cm x) : x < cm.length := by
  obtain ⟨i, l, h1, _⟩ := h
  exact gO_lt h1
/-- a walk back that does not come to p before d steps is short -/
theorem walk_short {x p d : Nat} (h : ∀ m, m < d → Has ls cm (itN ls cm m x)) (e : itN ls cm d x = p) (f : ∀ m, 1 ≤ m → m < d → itN ls cm m x ≠ p) : d ≤ cm.length := by
  refine Nat.le_of_not_lt fun z => ?_
  obtain ⟨i, j, h1, h2, h3⟩ := twice cm.length (fun k => itN ls cm k x) fun k hk => (h k (by omega)).lt
  have h3 : itN ls cm i x = itN ls cm j x := h3
  refine f (i + (d - j)) (by omega) (by omega) ?_
  rw [itN_add, h3, ← itN_add, show j + (d - j) = d by omega, e]
end
/-- one place begun -/
def og (c o : Nat) : List (Option Int) := (List.range c).map fun i => if i = o then some 0 else none
theorem og_len (c o : Nat) : (og c o).length = c := by unfold og; rw [List.length_map, List.length_range]
theorem og_at {c o v : Nat} : gO (og c o) v = if v < c then (if v = o then some 0 else none) else none := by
  unfold gO og
  rw [List.getElem?_map]
  by_cases h : v < c
  · rw [List.getElem?_range h, if_pos h]
    rfl
  · rw [List.getElem?_eq_none (by rw [List.length_range]; omega), if_neg h]
    rfl
section
variable {ls : List NL} {c o : Nat}
/-- from a place that is reached the way leads back to the origin -/
theorem og_chain (ok : IxOk c ls) (oc : o < c) (h : (sett ls (og c o)).2 = true) : gO (sett ls (og c o)).1.cm o = none ∧ gO (sett ls (og c o)).1.ts o = some 0 ∧
    ∀ v t, gO (sett ls (og c o)).1.ts v = some t → ∃ k, k ≤ c ∧ itN ls (sett ls (og c o)).1.cm k v = o ∧ (∀ m, m < k → Has ls (sett ls (og c o)).1.cm (itN ls (sett ls (og c o)).1.cm m v) ∧ itN ls (sett ls (og c o)).1.cm m v ≠ o) ∧ smW ls (sett ls (og c o)).1.cm k v = t := by
  have ok' : IxOk (og c o).length ls := by rw [og_len]; exact ok
  obtain ⟨l1, l2, _, sat, so, T, k1, k2⟩ := sett_kept ok' h
  rw [og_len] at l1 l2
  generalize (sett ls (og c o)).1 = s at *
  obtain ⟨t0, ht0⟩ := Option.isSome_iff_exists.mp (so o (by rw [og_at, if_pos oc, if_pos rfl]; rfl))
  have main : ∀ n v t, T v = n → gO s.ts v = some t → ∃ k, itN ls s.cm k v = o ∧ (∀ m, m < k → Has ls s.cm (itN ls s.cm m v)) ∧ smW ls s.cm k v + t0 = t ∧ (1 ≤ k → T o < T v) ∧ (gO s.cm v ≠ none → 1 ≤ k) := by
    intro n
    induction n using Nat.strongRecOn with
    | _ n ih =>
      intro v t hn ht
      cases hc : gO s.cm v with
      | none =>
        have e := k1 v hc
        rw [ht, og_at] at e
        by_cases g : v < c
        · rw [if_pos g] at e
          by_cases g2 : v = o
          · subst g2
            rw [ht0] at ht
            cases ht
            exact ⟨0, rfl, fun m hm => absurd hm (Nat.not_lt_zero m), Int.zero_add _, fun z => absurd z (by decide), fun z => absurd rfl z⟩
          · rw [if_neg g2] at e
            cases e
        · rw [if_neg g] at e
          cases e
      | some i =>
        obtain ⟨i', l, tv, tu, h1, h2, h3, h4, h5, h6, h7⟩ := k2 v (by rw [hc]; exact fun z => nomatch z)
        obtain ⟨e1, e2, _⟩ := nx_at h1 h2
        rw [h4] at ht
        cases ht
        obtain ⟨k, q1, q2, q3, q4, q5⟩ := ih (T l.2.1) (by omega) l.2.1 tu rfl h5
        refine ⟨k + 1, ?_, fun m hm => ?_, ?_, fun _ => ?_, fun _ => by omega⟩
        · show itN ls s.cm k (nx ls s.cm v) = o
          rw [e1]
          exact q1
        · cases m with
          | zero => exact ⟨i', l, h1, h2, h3⟩
          | succ m =>
            show Has ls s.cm (itN ls s.cm m (nx ls s.cm v))
            rw [e1]
            exact q2 m (by omega)
        · show wt ls s.cm v + smW ls s.cm k (nx ls s.cm v) + t0 = t
          rw [e1, e2]
          omega
        · by_cases g : 1 ≤ k
          · have := q4 g
            omega
          · have : k = 0 := by omega
            subst this
            have q1 : l.2.1 = o := q1
            rw [q1] at h7
            exact h7
  have c0 : gO s.cm o = none := by
    cases hc : gO s.cm o with
    | none => rfl
    | some i =>
      obtain ⟨k, _, _, _, q4, q5⟩ := main _ o t0 rfl ht0
      have := q4 (q5 (by rw [hc]; exact fun z => nomatch z))
      omega
  have z0 : t0 = 0 := by
    have := k1 o c0
    rw [ht0, og_at, if_pos oc, if_pos rfl] at this
    exact Option.some.inj this
  subst z0
  refine ⟨c0, ht0, fun v t ht => ?_⟩
  obtain ⟨k, q1, q2, q3, _⟩ := main _ v t rfl ht
  have q2' : ∀ m, m < k → Has ls s.cm (itN ls s.cm m v) ∧ itN ls s.cm m v ≠ o := fun m hm => ⟨q2 m hm, fun z => by
    obtain ⟨i, l, h1, _⟩ := q2 m hm
    rw [z, c0] at h1
    cases h1⟩
  refine ⟨k, ?_, q1, q2', by omega⟩
  have := walk_short q2 q1 fun m _ hm => (q2' m hm).2
  rw [l2] at this
  exact this
end
/-! times raised where nothing leads; the times of two, joined -/
def rz (ts : List (Option Int)) (base : Nat → Int) : List NL → Int → Int
  | [], r => r
  | l :: ls, r => rz ts base ls (match gO ts l.1, gO ts l.2.1 with
    | some t, none => max r (t - l.2.2 - base l.2.1)
    | _, _ => r)
def cpl (ts : List (Option Int)) (base : Nat → Int) (r : Int) (v : Nat) : Int := match gO ts v with
  | some t => t
  | none => base v + r
theorem rz_ge (ts : List (Option Int)) (base : Nat → Int) : ∀ (ls : List NL) (r : Int), r ≤ rz ts base ls r ∧ ∀ l ∈ ls, ∀ t, gO ts l.1 = some t → gO ts l.2.1 = none → t - l.2.2 - base l.2.1 ≤ rz ts base ls r
  | [], r => ⟨Int.le_refl _, fun l h => by cases h⟩
  | x :: ls, r => by
    have un : rz ts base (x :: ls) r = rz ts base ls (match gO ts x.1, gO ts x.2.1 with
      | some t, none => max r (t - x.2.2 - base x.2.1)
      | _, _ => r) := rfl
    obtain ⟨h1, h2⟩ := rz_ge ts base ls (match gO ts x.1, gO ts x.2.1 with
      | some t, none => max r (t - x.2.2 - base x.2.1)
      | _, _ => r)
    rw [un]
    refine ⟨Int.le_trans ?_ h1, fun l hl t ht hn => ?_⟩
    · split
      · omega
      · exact Int.le_refl _
    · rcases List.mem_cons.mp hl with rfl | hl
      · refine Int.le_trans ?_ h1
        rw [ht, hn]
        show _ ≤ max r (t - l.2.2 - base l.2.1)
        omega
      · exact h2 l hl t ht hn
theorem cpl_keeps {ls : List NL} {ts : List (Option Int)} {base : Nat → Int} (K : Keeps ls base) (S : ∀ l ∈ ls, Sat ts l) : Keeps ls (cpl ts base (rz ts base ls 0)) := fun l hl => by
  have s := S l hl
  have k := K l hl
  have r := (rz_ge ts base ls 0).2 l hl
  unfold cpl
  cases h1 : gO ts l.1 with
  | none =>
    cases h2 : gO ts l.2.1 with
    | none =>
      show base l.1 + _ - (base l.2.1 + _) ≤ l.2.2
      omega
    | some t =>
      obtain ⟨v, q, _⟩ := s t h2
      rw [h1] at q
      cases q
  | some t1 =>
    cases h2 : gO ts l.2.1 with
    | none =>
      have := r t1 h1 h2
      show t1 - (base l.2.1 + _) ≤ l.2.2
      omega
    | some t =>
      obtain ⟨v, q, q2⟩ := s t h2
      rw [h1] at q
      cases q
      show t1 - t ≤ l.2.2
      omega
/-- places not reached can be raised -/
theorem up_keeps {ls : List NL} {ts : List (Option Int)} {base : Nat → Int} (K : Keeps ls base) (S : ∀ l ∈ ls, Sat ts l) {r : Int} (r0 : 0 ≤ r) : Keeps ls fun v => if gO ts v = none then base v + r else base v := fun l hl => by
  have s := S l hl
  have k := K l hl
  show (if gO ts l.1 = none then base l.1 + r else base l.1) - (if gO ts l.2.1 = none then base l.2.1 + r else base l.2.1) ≤ l.2.2
  by_cases h1 : gO ts l.1 = none
  · by_cases h2 : gO ts l.2.1 = none
    · rw [if_pos h1, if_pos h2]
      omega
    · obtain ⟨t, ht⟩ := Option.ne_none_iff_exists'.mp h2
      obtain ⟨v, q, _⟩ := s t ht
      rw [h1] at q
      cases q
  · rw [if_neg h1]
    split <;> omega
theorem min_keeps {ls : List NL} {f g : Nat → Int} (F : Keeps ls f) (G : Keeps ls g) : Keeps ls fun v => min (f v) (g v) := fun l hl => by
  have a := F l hl
  have b := G l hl
  show min (f l.1) (g l.1) - min (f l.2.1) (g l.2.1) ≤ l.2.2
  omega
theorem max_keeps {ls : List NL} {f g : Nat → Int} (F : Keeps ls f) (G : Keeps ls g) : Keeps ls fun v => max (f v) (g v) := fun l hl => by
  have a := F l hl
  have b := G l hl
  show max (f l.1) (g l.1) - max (f l.2.1) (g l.2.1) ≤ l.2.2
  omega
theorem add_keeps {ls : List NL} {f : Nat → Int} (F : Keeps ls f) (r : Int) : Keeps ls fun v => f v + r := fun l hl => by
  have a := F l hl
  show f l.1 + r - (f l.2.1 + r) ≤ l.2.2
  omega
/-- between two differences there is each -/
theorem between {ls : List NL} {f g : Nat → Int} {a b : Nat} {m : Int} (F : Keeps ls f) (G : Keeps ls g) (h1 : g a - g b ≤ m) (h2 : m ≤ f a - f b) : ∃ φ, Keeps ls φ ∧ φ a - φ b = m := by
  refine ⟨_, min_keeps (add_keeps F (- f b)) (add_keeps G (m - g a)), ?_⟩
  show min (f a + -f b) (g a + (m - g a)) - min (f b + -f b) (g b + (m - g a)) = m
  omega
/-- two links that tie a difference -/
def tie (a b : Nat) (m : Int) : List NL := [(a, b, m), (b, a, -m)]
theorem tie_keeps {ls : List NL} {φ : Nat → Int} {a b : Nat} {m : Int} : Keeps (ls ++ tie a b m) φ ↔ Keeps ls φ ∧ φ a - φ b = m := by
  constructor
  · intro K
    refine ⟨fun l hl => K l (List.mem_append_left _ hl), ?_⟩
    have h1 := K (a, b, m) (by simp [tie])
    have h2 := K (b, a, -m) (by simp [tie])
    have h1 : φ a - φ b ≤ m := h1
    have h2 : φ b - φ a ≤ -m := h2
    omega
  · rintro ⟨K, e⟩ l hl
    rcases List.mem_append.mp hl with hl | hl
    · exact K l hl
    · simp only [tie, List.mem_cons, List.not_mem_nil, or_false] at hl
      rcases hl with rfl | rfl
      · show φ a - φ b ≤ m
        omega
      · show φ b - φ a ≤ -m
        omega
def zr (c : Nat) : List (Option Int) := (List.range c).map fun _ => some 0
theorem zr_len (c : Nat) : (zr c).length = c := by unfold zr; rw [List.length_map, List.length_range]
theorem zr_at {c v : Nat} (h : v < c) : (gO (zr c) v).isSome = true := by
  unfold gO zr
  rw [List.getElem?_map, List.getElem?_range h]
  rfl
/-- the difference m is had by times exactly if no ring is found -/
theorem tied {ls : List NL} {c a b : Nat} {m : Int} (ok : IxOk c ls) (ha : a < c) (hb : b < c) : ((sett (ls ++ tie a b m) (zr c)).2 = true ↔ ∃ φ, Keeps ls φ ∧ φ a - φ b = m) ∧
    ((sett (ls ++ tie a b m) (zr c)).2 = true → Keeps ls (fun v => (gO (sett (ls ++ tie a b m) (zr c)).1.ts v).getD 0) ∧ (gO (sett (ls ++ tie a b m) (zr c)).1.ts a).getD 0 - (gO (sett (ls ++ tie a b m) (zr c)).1.ts b).getD 0 = m) := by
  have ok' : IxOk (zr c).length (ls ++ tie a b m) := by
    rw [zr_len]
    intro l hl
    rcases List.mem_append.mp hl with hl | hl
    · exact ok l hl
    · simp only [tie, List.mem_cons, List.not_mem_nil, or_false] at hl
      rcases hl with rfl | rfl
      · exact ⟨ha, hb⟩
      · exact ⟨hb, ha⟩
  have all : (sett (ls ++ tie a b m) (zr c)).2 = true → _ := fun h => tie_keeps.mp (sett_all ok' h fun v hv => zr_at (by rw [zr_len] at hv; exact hv))
  exact ⟨⟨fun h => ⟨_, all h⟩, fun ⟨φ, K, e⟩ => sett_keeps ok' (tie_keeps.mpr ⟨K, e⟩)⟩, all⟩
end Bf
set_option Elab.async false
set_option linter.all false
/-! the law's table of least sums: one turn per place in the middle (plain; none is endless) -/
namespace Fw
abbrev Tb := Nat → Nat → Option Int
/-- a is at most b -/
def Le (a : Option Int) (b : Option Int) : Prop := ∀ y, b = some y → ∃ x, a = some x ∧ x ≤ y
def ad : Option Int → Option Int → Option Int
  | some x, some y => some (x + y)
  | _, _ => none
def mi : Option Int → Option Int → Option Int
  | some x, some y => some (if y < x then y else x)
  | some x, none => some x
  | none, b => b
/-- the turn of k -/
def turn (d : Tb) (k : Nat) : Tb := fun i x => mi (d i x) (ad (d i k) (d k x))
/-- no way is shortened by k -/
def Via (d : Tb) (n k : Nat) : Prop := ∀ i x, i < n → x < n → Le (d i x) (ad (d i k) (d k x))
theorem Le.mi_l (a b : Option Int) : Le (mi a b) a := fun y h => by
  subst h
  cases b with
  | none => exact ⟨y, rfl, Int.le_refl _⟩
  | some z =>
    refine ⟨_, rfl, ?_⟩
    split <;> omega
theorem Le.mi_r (a b : Option Int) : Le (mi a b) b := fun y h => by
  subst h
  cases a with
  | none => exact ⟨y, rfl, Int.le_refl _⟩
  | some z =>
    refine ⟨_, rfl, ?_⟩
    split <;> omega
theorem Le.trans {a b c : Option Int} (h : Le a b) (k : Le b c) : Le a c := fun y e => by
  obtain ⟨x, e1, l1⟩ := k y e
  obtain ⟨z, e2, l2⟩ := h x e1
  exact ⟨z, e2, by omega⟩
theorem mi_cases (a b : Option Int) : mi a b = a ∨ mi a b = b := by
  cases a with
  | none => exact .inr rfl
  | some x =>
    cases b with
    | none => exact .inl rfl
    | some y =>
      show some (if y < x then y else x) = _ ∨ some (if y < x then y else x) = _
      by_cases h : y < x
      · rw [if_pos h]
        exact .inr rfl
      · rw [if_neg h]
        exact .inl rfl
theorem Le.refl (a : Option Int) : Le a a := fun y h => ⟨y, h, Int.le_refl _⟩
theorem Le.ad {a a' b b' : Option Int} (h : Le a a') (k : Le b b') : Le (ad a b) (ad a' b') := fun y e => by
  cases a' with
  | none => cases e
  | some x' =>
    cases b' with
    | none => cases e
    | some y' =>
      cases e
      obtain ⟨x, rfl, l1⟩ := h x' rfl
      obtain ⟨z, rfl, l2⟩ := k y' rfl
      exact ⟨_, rfl, by omega⟩
theorem ad_assoc (a b c : Option Int) : ad (ad a b) c = ad a (ad b c) := by
  cases a <;> cases b <;> cases c <;> first | rfl | (show some _ = some _; congr 1; omega)
theorem turn_col {d : Tb} {k : Nat} (kk : d k k = some 0) (i : Nat) : turn d k i k = d i k := by
  unfold turn
  rw [kk]
  cases d i k with
  | none => rfl
  | some x =>
    show some (if x + 0 < x then x + 0 else x) = some x
    rw [if_neg (by omega)]
theorem turn_row {d : Tb} {k : Nat} (kk : d k k = some 0) (x : Nat) : turn d k k x = d k x := by
  unfold turn
  rw [kk]
  cases d k x with
  | none => rfl
  | some y =>
    show some (if 0 + y < y then 0 + y else y) = some y
    rw [if_neg (by omega)]
theorem turn_self {d : Tb} {n k : Nat} (kk : d k k = some 0) : Via (turn d k) n k := fun i x _ _ => by
  rw [turn_col kk, turn_row kk]
  exact Le.mi_r _ _
theorem turn_keep {d : Tb} {n k k' : Nat} (kk : d k k = some 0) (kn : k < n) (V : Via d n k') : Via (turn d k) n k' := fun i x hi hx => by
  have m : Le (turn d k i x) (ad (d i k) (d k x)) := Le.mi_r _ _
  rcases mi_cases (d i k') (ad (d i k) (d k k')) with e1 | e1 <;> rcases mi_cases (d k' x) (ad (d k' k) (d k x)) with e2 | e2
  · rw [show turn d k i k' = _ from e1, show turn d k k' x = _ from e2]
    exact (Le.mi_l _ _).trans (V i x hi hx)
  · rw [show turn d k i k' = _ from e1, show turn d k k' x = _ from e2, ← ad_assoc]
    exact m.trans ((V i k hi kn).ad (Le.refl _))
  · rw [show turn d k i k' = _ from e1, show turn d k k' x = _ from e2, ad_assoc]
    exact m.trans ((Le.refl _).ad (V k x kn hx))
  · rw [show turn d k i k' = _ from e1, show turn d k k' x = _ from e2]
    refine m.trans ?_
    have z := V k k kn kn
    rw [kk] at z
    intro y e
    cases h1 : d i k with
    | none => rw [h1] at e; cases e
    | some a =>
      cases h2 : d k k' with
      | none => rw [h1, h2] at e; cases e
      | some b =>
        cases h3 : d k' k with
        | none => rw [h1, h2, h3] at e; cases e
        | some c =>
          cases h4 : d k x with
          | none => rw [h1, h2, h3, h4] at e; cases e
          | some f =>
            rw [h1, h2, h3, h4] at e
            rw [h2, h3] at z
            obtain ⟨w, hw, l⟩ := z (b + c) rfl
            cases hw
            have e : some ((a + b) + (c + f)) = some y := e
            cases e
            exact ⟨a + f, rfl, by omega⟩
end Fw
set_option Elab.async false
set_option linter.all false
/-! the law's table tells what the rounds of lowering tell -/
namespace Fw
open Bf
/-- each entry is a path's sum -/
def Snd (ls : List NL) (n : Nat) (d : Tb) : Prop := ∀ i x v, i < n → x < n → d i x = some v → ∃ is, Leads ls is x i ∧ smI ls is = v
theorem Snd.turn {ls : List NL} {n k : Nat} {d : Tb} (S : Snd ls n d) (kn : k < n) : Snd ls n (turn d k) := fun i x v hi hx e => by
  rcases mi_cases (d i x) (ad (d i k) (d k x)) with h | h
  · exact S i x v hi hx (by rw [← h]; exact e)
  · have e : ad (d i k) (d k x) = some v := by rw [← h]; exact e
    cases h1 : d i k with
    | none => rw [h1] at e; cases e
    | some a =>
      cases h2 : d k x with
      | none => rw [h1, h2] at e; cases e
      | some b =>
        rw [h1, h2] at e
        have e : some (a + b) = some v := e
        cases e
        obtain ⟨is, l1, s1⟩ := S i k a hi kn h1
        obtain ⟨js, l2, s2⟩ := S k x b kn hx h2
        exact ⟨js ++ is, l2.app l1, by rw [smI_app]; omega⟩
/-- after all turns an entry is at most each path's sum -/
theorem least {ls : List NL} {n : Nat} {d : Tb} (ok : IxOk n ls) (z : ∀ k, k < n → d k k = some 0) (V : ∀ k, k < n → Via d n k) (L : ∀ l ∈ ls, Le (d l.1 l.2.1) (some l.2.2)) : ∀ {is : List Nat} {x i : Nat}, x < n → i < n → Leads ls is x i → Le (d i x) (some (smI ls is))
  | [], x, i, hx, hi, h => by
    cases h
    rw [z x hx]
    exact Le.refl _
  | j :: is, x, i, hx, hi, ⟨l, h1, h2, h3⟩ => by
    have hm := List.mem_of_getElem? h1
    have ih := least ok z V L (ok l hm).1 hi h3
    have e : smI ls (j :: is) = l.2.2 + smI ls is := by
      unfold smI
      rw [List.map_cons, List.sum_cons, h1]
      rfl
    subst h2
    rw [e]
    refine (V l.1 (ok l hm).1 i l.2.1 hi hx).trans ?_
    have := ih.ad (L l hm)
    intro y hy
    exact this y (by rw [← hy]; show some (smI ls is + l.2.2) = _; rw [Int.add_comm])
end Fw
set_option Elab.async false
set_option linter.all false
/-! the law's table and the times from one place -/
namespace Fw
open Bf
/-- times that keep all links bound each path's sum -/
theorem sat_path {ls : List NL} {ts : List (Option Int)} (S : ∀ l ∈ ls, Sat ts l) : ∀ {is : List Nat} {x i : Nat} {t0 : Int}, gO ts x = some t0 → Leads ls is x i → ∃ t, gO ts i = some t ∧ t ≤ t0 + smI ls is
  | [], x, i, t0, h, l => by
    cases l
    exact ⟨t0, h, by show t0 ≤ t0 + 0; omega⟩
  | j :: is, x, i, t0, h, ⟨l, h1, h2, h3⟩ => by
    subst h2
    obtain ⟨v, e, le⟩ := S l (List.mem_of_getElem? h1) t0 h
    obtain ⟨t, e2, l2⟩ := sat_path S e h3
    have e3 : smI ls (j :: is) = l.2.2 + smI ls is := by
      unfold smI
      rw [List.map_cons, List.sum_cons, h1]
      rfl
    exact ⟨t, e2, by omega⟩
/-- a sound table at most each path's sum tells the times of the rounds -/
theorem table_is {ls : List NL} {n : Nat} {d : Tb} (ok : IxOk n ls) (S : Snd ls n d) (C : ∀ {is : List Nat} {x i : Nat}, x < n → i < n → Leads ls is x i → Le (d i x) (some (smI ls is))) {x i : Nat} (hx : x < n) (hi : i < n) (h : (sett ls (og n x)).2 = true) : d i x = gO (sett ls (og n x)).1.ts i := by
  have ok' : IxOk (og n x).length ls := by rw [og_len]; exact ok
  obtain ⟨_, _, _, sat, _, _⟩ := sett_kept ok' h
  obtain ⟨_, z0, chain⟩ := og_chain ok hx h
  cases ht : gO (sett ls (og n x)).1.ts i with
  | none =>
    cases hd : d i x with
    | none => rfl
    | some v =>
      obtain ⟨is, l, _⟩ := S i x v hi hx hd
      obtain ⟨t, e, _⟩ := sat_path sat z0 l
      rw [ht] at e
      cases e
  | some t =>
    obtain ⟨k, _, e1, e2, e3⟩ := chain i t ht
    obtain ⟨g1, g2⟩ := pth_leads k i fun m hm => (e2 m hm).1
    rw [e1] at g1
    obtain ⟨v, hv, le⟩ := C hx hi g1 _ rfl
    rw [g2, e3] at le
    obtain ⟨is, l, s⟩ := S i x v hi hx hv
    obtain ⟨t', e, le2⟩ := sat_path sat z0 l
    rw [ht] at e
    cases e
    rw [hv]
    congr 1
    omega
end Fw
set_option Elab.async false
set_option linter.all false
/-! all turns -/
namespace Fw
open Bf
/-- what a table holds at the turn of k -/
structure At (ls : List NL) (n : Nat) (d : Tb) (k : Nat) : Prop where
  snd : Snd ls n d
  diag : ∀ i, i < n → d i i = some 0
  low : ∀ l ∈ ls, Le (d l.1 l.2.1) (some l.2.2)
  via : ∀ j, j < k → Via d n j
theorem At.turn {ls : List NL} {n k : Nat} {d : Tb} {φ : Nat → Int} (K : Keeps ls φ) (A : At ls n d k) (kn : k < n) : At ls n (turn d k) (k + 1) := by
  refine ⟨A.snd.turn kn, fun i hi => ?_, fun l hl => (Le.mi_l _ _).trans (A.low l hl), fun j hj => ?_⟩
  · unfold Fw.turn
    rw [A.diag i hi]
    cases h1 : d i k with
    | none => rfl
    | some a =>
      cases h2 : d k i with
      | none => rfl
      | some b =>
        obtain ⟨is, l1, s1⟩ := A.snd i k a hi kn h1
        obtain ⟨js, l2, s2⟩ := A.snd k i b kn hi h2
        have b1 := l1.bound K
        have b2 := l2.bound K
        show some (if a + b < 0 then a + b else 0) = some 0
        rw [if_neg (by omega)]
  · by_cases g : j = k
    · subst g
      exact turn_self (A.diag j kn)
    · exact turn_keep (A.diag k kn) kn (A.via j (by omega))
def turns (d : Tb) : Nat → Tb
  | 0 => d
  | k + 1 => turn (turns d k) k
theorem At.turns {ls : List NL} {n : Nat} {d : Tb} {φ : Nat → Int} (K : Keeps ls φ) (A : At ls n d 0) : ∀ k, k ≤ n → At ls n (turns d k) k
  | 0, _ => A
  | k + 1, h => (At.turns K A k (by omega)).turn K (by omega)
/-- the table after all turns -/
theorem turns_is {ls : List NL} {n : Nat} {d : Tb} {φ : Nat → Int} (ok : IxOk n ls) (K : Keeps ls φ) (A : At ls n d 0) {x i : Nat} (hx : x < n) (hi : i < n) : Fw.turns d n i x = gO (sett ls (og n x)).1.ts i := by
  have B := At.turns K A n (Nat.le_refl _)
  exact table_is ok B.snd (fun hx hi l => least ok B.diag (fun k hk => B.via k hk) B.low hx hi l) hx hi (sett_keeps (by rw [og_len]; exact ok) K)
end Fw
set_option Elab.async false
set_option linter.all false
/-! the first table: 0 in the middle, the least amount of a link -/
namespace Fw
open Bf
def put (d : Tb) (l : NL) : Tb := fun i x => if i = l.1 ∧ x = l.2.1 then mi (d i x) (some l.2.2) else d i x
def eye : Tb := fun i x => if i = x then some 0 else none
theorem put_le (d : Tb) (l : NL) (i x : Nat) : Le (put d l i x) (d i x) := by
  unfold put
  split
  · exact Le.mi_l _ _
  · exact Le.refl _
theorem first_at {ls : List NL} {n : Nat} {φ : Nat → Int} (K : Keeps ls φ) : ∀ (xs dn : List NL) (d : Tb), (∀ l ∈ xs, l ∈ ls) → Snd ls n d → (∀ i, i < n → d i i = some 0) → (∀ l ∈ dn, Le (d l.1 l.2.1) (some l.2.2)) →
    Snd ls n (xs.foldl put d) ∧ (∀ i, i < n → (xs.foldl put d) i i = some 0) ∧ (∀ l, l ∈ dn ∨ l ∈ xs → Le ((xs.foldl put d) l.1 l.2.1) (some l.2.2))
  | [], dn, d, _, S, z, L => ⟨S, z, fun l hl => hl.elim (L l) fun h => by cases h⟩
  | l :: xs, dn, d, sub, S, z, L => by
    have hl := sub l List.mem_cons_self
    obtain ⟨h1, h2, h3⟩ := first_at K xs (l :: dn) (put d l) (fun y hy => sub y (List.mem_cons_of_mem _ hy)) (fun i x v hi hx e => by
      unfold put at e
      split at e
      · rename_i g
        rcases mi_cases (d i x) (some l.2.2) with m | m
        · exact S i x v hi hx (by rw [← m]; exact e)
        · rw [m] at e
          cases e
          obtain ⟨j, hj⟩ := List.mem_iff_getElem?.mp hl
          obtain ⟨rfl, rfl⟩ := g
          refine ⟨[j], ⟨l, hj, rfl, rfl⟩, ?_⟩
          unfold smI
          rw [List.map_cons, List.map_nil, List.sum_cons, List.sum_nil, hj]
          show l.2.2 + 0 = l.2.2
          omega
      · exact S i x v hi hx e) (fun i hi => by
      unfold put
      split
      · rename_i g
        rw [z i hi]
        have := K l hl
        rw [← g.1, ← g.2] at this
        show some (if l.2.2 < 0 then l.2.2 else 0) = some 0
        rw [if_neg (by omega)]
      · exact z i hi) (fun y hy => by
      rcases List.mem_cons.mp hy with rfl | hy
      · unfold put
        rw [if_pos ⟨rfl, rfl⟩]
        exact Le.mi_r _ _
      · exact (put_le d l _ _).trans (L y hy))
    refine ⟨h1, h2, fun y hy => h3 y ?_⟩
    rcases hy with h | h
    · exact .inl (List.mem_cons_of_mem _ h)
    · rcases List.mem_cons.mp h with rfl | h
      · exact .inl List.mem_cons_self
      · exact .inr h
theorem first_start {ls : List NL} {n : Nat} {φ : Nat → Int} (K : Keeps ls φ) : At ls n (ls.foldl put eye) 0 := by
  obtain ⟨h1, h2, h3⟩ := first_at (n := n) K ls [] eye (fun l h => h) (fun i x v hi hx e => by
    unfold eye at e
    split at e
    · rename_i g
      cases e
      exact ⟨[], g.symm, rfl⟩
    · cases e) (fun i _ => if_pos rfl) (fun l h => by cases h)
  exact ⟨h1, h2, fun l hl => h3 l (.inr hl), fun j hj => absurd hj (Nat.not_lt_zero j)⟩
end Fw
set_option Elab.async false
set_option linter.all false
/-! links implied by links; links dropped one after another -/
namespace Fw
open Bf
/-- whether links tell a link -/
def impB (ls : List NL) (n : Nat) (l : NL) : Bool := match gO (sett ls (og n l.2.1)).1.ts l.1 with
  | some t => decide (t ≤ l.2.2)
  | none => false
theorem imp_keeps {ls : List NL} {n : Nat} {l : NL} {φ : Nat → Int} (ok : IxOk n ls) (h2 : l.2.1 < n) (K : Keeps ls φ) (h : impB ls n l = true) : φ l.1 - φ l.2.1 ≤ l.2.2 := by
  have ok' : IxOk (og n l.2.1).length ls := by rw [og_len]; exact ok
  obtain ⟨_, z0, chain⟩ := og_chain ok h2 (sett_keeps ok' K)
  unfold impB at h
  cases e : gO (sett ls (og n l.2.1)).1.ts l.1 with
  | none => rw [e] at h; cases h
  | some t =>
    rw [e] at h
    have h := of_decide_eq_true h
    obtain ⟨k, _, e1, e2, e3⟩ := chain l.1 t e
    obtain ⟨g1, g2⟩ := pth_leads k l.1 fun m hm => (e2 m hm).1
    rw [e1] at g1
    have := g1.bound K
    omega
theorem imp_not {ls : List NL} {n : Nat} {l : NL} {φ : Nat → Int} (ok : IxOk n ls) (h2 : l.2.1 < n) (K : Keeps ls φ) (h : impB ls n l = false) : ∃ ψ, Keeps ls ψ ∧ l.2.2 < ψ l.1 - ψ l.2.1 := by
  have ok' : IxOk (og n l.2.1).length ls := by rw [og_len]; exact ok
  have h2' := sett_keeps ok' K
  obtain ⟨_, _, _, sat, _, _⟩ := sett_kept ok' h2'
  obtain ⟨_, z0, chain⟩ := og_chain ok h2 h2'
  unfold impB at h
  cases e : gO (sett ls (og n l.2.1)).1.ts l.1 with
  | none =>
    refine ⟨_, up_keeps K sat (r := max 0 (l.2.2 + 1 - φ l.1 + φ l.2.1)) (by omega), ?_⟩
    show l.2.2 < (if gO _ l.1 = none then φ l.1 + _ else φ l.1) - (if gO _ l.2.1 = none then φ l.2.1 + _ else φ l.2.1)
    rw [if_pos e, if_neg (by rw [z0]; exact fun z => nomatch z)]
    omega
  | some t =>
    rw [e] at h
    have h := of_decide_eq_false h
    refine ⟨_, cpl_keeps K sat, ?_⟩
    unfold cpl
    rw [e, z0]
    show l.2.2 < t - 0
    omega
theorem imp_all {ls : List NL} {n : Nat} {l : NL} {φ : Nat → Int} (ok : IxOk n ls) (h2 : l.2.1 < n) (K : Keeps ls φ) (h : ∀ ψ, Keeps ls ψ → ψ l.1 - ψ l.2.1 ≤ l.2.2) : impB ls n l = true := by
  cases e : impB ls n l with
  | true => rfl
  | false =>
    obtain ⟨ψ, h1, h3⟩ := imp_not ok h2 K e
    have := h ψ h1
    omega
/-- some of some things, by their places -/
def pick {α : Type} (ls : List α) (is : List Nat) : List α := is.filterMap fun i => ls[i]?
theorem pick_map {α β : Type} (f : α → β) (ls : List α) (is : List Nat) : (pick ls is).map f = pick (ls.map f) is := by
  unfold pick
  rw [List.map_filterMap]
  congr 1
  funext i
  rw [List.getElem?_map]
theorem pick_mem {α : Type} {ls : List α} {is : List Nat} {l : α} (h : l ∈ pick ls is) : l ∈ ls := by
  obtain ⟨i, _, e⟩ := List.mem_filterMap.mp h
  exact List.mem_of_getElem? e
theorem pick_ok {ls : List NL} {n : Nat} (is : List Nat) (ok : IxOk n ls) : IxOk n (pick ls is) := fun l hl => ok l (pick_mem hl)
theorem pick_keeps {ls : List NL} {is : List Nat} {φ : Nat → Int} : Keeps (pick ls is) φ ↔ ∀ i ∈ is, ∀ l, ls[i]? = some l → φ l.1 - φ l.2.1 ≤ l.2.2 := by
  constructor
  · exact fun h i hi l e => h l (List.mem_filterMap.mpr ⟨i, hi, e⟩)
  · intro h l hl
    obtain ⟨i, hi, e⟩ := List.mem_filterMap.mp hl
    exact h i hi l e
theorem pick_sub {ls : List NL} {is js : List Nat} {φ : Nat → Int} (s : ∀ i ∈ js, i ∈ is) (h : Keeps (pick ls is) φ) : Keeps (pick ls js) φ := pick_keeps.mpr fun i hi => pick_keeps.mp h i (s i hi)
theorem keeps_pick {ls : List NL} {φ : Nat → Int} (is : List Nat) (h : Keeps ls φ) : Keeps (pick ls is) φ := fun l hl => h l (pick_mem hl)
theorem pick_len {α : Type} {ls : List α} : ∀ {is : List Nat}, (∀ i ∈ is, i < ls.length) → (pick ls is).length = is.length
  | [], _ => rfl
  | i :: is, h => by
    unfold pick
    rw [List.filterMap_cons, List.getElem?_eq_getElem (h i List.mem_cons_self)]
    show (pick ls is).length + 1 = is.length + 1
    rw [pick_len fun j hj => h j (List.mem_cons_of_mem _ hj)]
theorem pick_at {α : Type} {ls : List α} : ∀ {is : List Nat}, (∀ i ∈ is, i < ls.length) → ∀ k : Nat, (pick ls is)[k]? = (is[k]?).bind fun i => ls[i]?
  | [], _, k => by cases k <;> rfl
  | i :: is, h, k => by
    unfold pick
    rw [List.filterMap_cons, List.getElem?_eq_getElem (h i List.mem_cons_self)]
    cases k with
    | zero => show some _ = (some i).bind _; rw [Option.bind_some, List.getElem?_eq_getElem (h i List.mem_cons_self)]
    | succ k =>
      show (pick ls is)[k]? = _
      rw [pick_at fun j hj => h j (List.mem_cons_of_mem _ hj)]
      rfl
def ne (i : Nat) (j : Nat) : Bool := !decide (j = i)
theorem ne_mem {i j : Nat} {is : List Nat} : j ∈ is.filter (ne i) ↔ j ∈ is ∧ j ≠ i := by
  rw [List.mem_filter]
  unfold ne
  simp
def at_ (ls : List NL) (i : Nat) : NL := ls[i]?.getD (0, 0, 0)
theorem at_some {ls : List NL} {i : Nat} (h : i < ls.length) : ls[i]? = some (at_ ls i) := by
  unfold at_
  rw [List.getElem?_eq_getElem h]
  rfl
/-- the links that stay after i turns -/
def grd (ls : List NL) (n : Nat) : Nat → List Nat
  | 0 => List.range ls.length
  | i + 1 => if impB (pick ls ((grd ls n i).filter (ne i))) n (at_ ls i) = true then (grd ls n i).filter (ne i) else grd ls n i
theorem grd_sub (ls : List NL) (n : Nat) : ∀ i k, ∀ j ∈ grd ls n (i + k), j ∈ grd ls n i
  | i, 0, j, h => h
  | i, k + 1, j, h => by
    refine grd_sub ls n i k j ?_
    have h : j ∈ (if impB (pick ls ((grd ls n (i + k)).filter (ne (i + k)))) n (at_ ls (i + k)) = true then (grd ls n (i + k)).filter (ne (i + k)) else grd ls n (i + k)) := h
    split at h
    · exact (ne_mem.mp h).1
    · exact h
theorem grd_lt {ls : List NL} {n i j : Nat} (h : j ∈ grd ls n i) : j < ls.length := by
  have := grd_sub ls n 0 i j (by rw [Nat.zero_add]; exact h)
  exact List.mem_range.mp this
theorem grd_ahead {ls : List NL} {n : Nat} : ∀ i j, i ≤ j → j < ls.length → j ∈ grd ls n i
  | 0, j, _, h => List.mem_range.mpr h
  | i + 1, j, hi, h => by
    have ih := grd_ahead (n := n) i j (by omega) h
    show j ∈ (if _ then _ else _)
    split
    · exact ne_mem.mpr ⟨ih, by omega⟩
    · exact ih
theorem grd_sorted {ls : List NL} {n : Nat} : ∀ i, (grd ls n i).Sublist (List.range ls.length)
  | 0 => List.Sublist.refl _
  | i + 1 => by
    show List.Sublist (if _ then _ else _) _
    split
    · exact List.filter_sublist.trans (grd_sorted i)
    · exact grd_sorted i
theorem grd_nodup {ls : List NL} {n : Nat} (i : Nat) : (grd ls n i).Nodup := (grd_sorted i).nodup List.nodup_range
theorem grd_len {ls : List NL} {n : Nat} (i : Nat) : (grd ls n i).length ≤ ls.length := by
  have := (grd_sorted (ls := ls) (n := n) i).length_le
  rw [List.length_range] at this
  exact this
section
variable {ls : List NL} {n : Nat} {φ : Nat → Int} (ok : IxOk n ls) (K : Keeps ls φ)
include ok K
theorem grd_keeps : ∀ i, i ≤ ls.length → ∀ ψ, Keeps (pick ls (grd ls n i)) ψ → Keeps ls ψ
  | 0, _, ψ, h => fun l hl => by
    obtain ⟨j, hj⟩ := List.mem_iff_getElem?.mp hl
    exact pick_keeps.mp h j (List.mem_range.mpr (List.getElem?_eq_some_iff.mp hj).1) l hj
  | i + 1, hi, ψ, h => by
    have li : i < ls.length := by omega
    have ih := grd_keeps i (by omega)
    have h : Keeps (pick ls (if impB (pick ls ((grd ls n i).filter (ne i))) n (at_ ls i) = true then (grd ls n i).filter (ne i) else grd ls n i)) ψ := h
    split at h
    · rename_i g
      refine ih ψ (pick_keeps.mpr fun j hj l e => ?_)
      by_cases z : j = i
      · subst z
        have e2 := at_some li
        rw [e] at e2
        cases e2
        exact imp_keeps (pick_ok _ ok) (ok _ (List.mem_of_getElem? (at_some li))).2 h g
      · exact pick_keeps.mp h j (ne_mem.mpr ⟨hj, z⟩) l e
    · exact ih ψ h
theorem grd_in {i : Nat} (hi : i ∈ grd ls n ls.length) : impB (pick ls ((grd ls n ls.length).filter (ne i))) n (at_ ls i) = false := by
  have li := grd_lt hi
  obtain ⟨k, ek⟩ : ∃ k, ls.length = (i + 1) + k := ⟨ls.length - (i + 1), by omega⟩
  have o2 := (ok _ (List.mem_of_getElem? (at_some li))).2
  have h1 : i ∈ grd ls n (i + 1) := grd_sub ls n (i + 1) k i (by rw [← ek]; exact hi)
  have h1 : i ∈ (if impB (pick ls ((grd ls n i).filter (ne i))) n (at_ ls i) = true then (grd ls n i).filter (ne i) else grd ls n i) := h1
  split at h1
  · exact absurd rfl (ne_mem.mp h1).2
  · rename_i g
    obtain ⟨ψ, k1, k2⟩ := imp_not (pick_ok _ ok) o2 (keeps_pick _ K) (Bool.eq_false_iff.mpr g)
    cases e : impB (pick ls ((grd ls n ls.length).filter (ne i))) n (at_ ls i) with
    | false => rfl
    | true =>
      have := imp_keeps (pick_ok _ ok) o2 (φ := ψ) (pick_sub (fun j hj => by
        obtain ⟨a, b⟩ := ne_mem.mp hj
        refine ne_mem.mpr ⟨grd_sub ls n i (k + 1) j ?_, b⟩
        rw [show i + (k + 1) = ls.length by omega]
        exact a) k1) e
      omega
theorem grd_out {i : Nat} (li : i < ls.length) (hi : i ∉ grd ls n ls.length) : impB (pick ls ((grd ls n ls.length).filter (ne i))) n (at_ ls i) = true := by
  have e := at_some li
  refine imp_all (pick_ok _ ok) (ok _ (List.mem_of_getElem? e)).2 (keeps_pick _ K) fun ψ h => ?_
  have h2 : Keeps (pick ls (grd ls n ls.length)) ψ := pick_sub (fun j hj => ne_mem.mpr ⟨hj, fun z => by subst z; exact hi hj⟩) h
  exact grd_keeps ok K _ (Nat.le_refl _) ψ h2 _ (List.mem_of_getElem? e)
end
/-- a path through picked links is a path through all -/
theorem pick_leads {ls : List NL} {os : List Nat} (ho : ∀ i ∈ os, i < ls.length) : ∀ {is : List Nat} {a b : Nat}, Leads (pick ls os) is a b → Leads ls (is.map fun k => os[k]?.getD 0) a b ∧ smI ls (is.map fun k => os[k]?.getD 0) = smI (pick ls os) is ∧ ∀ k ∈ is, k < os.length
  | [], a, b, h => ⟨h, rfl, fun k hk => by cases hk⟩
  | j :: is, a, b, ⟨l, h1, h2, h3⟩ => by
    obtain ⟨k1, k2, k3⟩ := pick_leads ho h3
    rw [pick_at ho] at h1
    cases e : os[j]? with
    | none => rw [e] at h1; cases h1
    | some x =>
      rw [e] at h1
      have h1' : ls[x]? = some l := h1
      refine ⟨⟨l, ?_, h2, k1⟩, ?_, fun k hk => ?_⟩
      · show ls[(os[j]?).getD 0]? = some l
        rw [e]
        exact h1'
      · unfold smI at *
        rw [List.map_cons, List.map_cons, List.map_cons, List.sum_cons, List.sum_cons, k2, pick_at ho, e]
        rfl
      · rcases List.mem_cons.mp hk with rfl | hk
        · exact (List.getElem?_eq_some_iff.mp e).1
        · exact k3 k hk
end Fw
set_option Elab.async false
set_option linter.all false
set_option maxRecDepth 100000
set_option maxHeartbeats 1000000
namespace My
open PySem L2 Dw Wp
open C8 (pss_cut tCut)
def top (i : Nat) : Stmt := PySem.Challenge.pw_lastlife_k36_whole_implied_needed_compar.main.body.getD i (.Pass ⟨0, 0, 0, 0⟩)
abbrev s__wall : Stmt := top 0
theorem sc__wall : FnScope ["k"] ["k"] (defScope s__wall) := ⟨rfl, rfl, rfl, by decide +kernel, rfl, by decide +kernel, by decide +kernel⟩
abbrev s_BadSystem_init : Stmt := inClass (top 3) 0
theorem sc_BadSystem_init : FnScope ["self", "index", "what"] ["self", "index", "what"] (defScope s_BadSystem_init) := ⟨rfl, rfl, rfl, by decide +kernel, rfl, by decide +kernel, by decide +kernel⟩
abbrev s_BadTimes_init : Stmt := inClass (top 4) 0
theorem sc_BadTimes_init : FnScope ["self"] ["self"] (defScope s_BadTimes_init) := ⟨rfl, rfl, rfl, by decide +kernel, rfl, by decide +kernel, by decide +kernel⟩
abbrev s_OtherCount_init : Stmt := inClass (top 5) 0
theorem sc_OtherCount_init : FnScope ["self"] ["self"] (defScope s_OtherCount_init) := ⟨rfl, rfl, rfl, by decide +kernel, rfl, by decide +kernel, by decide +kernel⟩
abbrev s_NoTimes_init : Stmt := inClass (top 6) 0
theorem sc_NoTimes_init : FnScope ["self", "path"] ["self", "path"] (defScope s_NoTimes_init) := ⟨rfl, rfl, rfl, by decide +kernel, rfl, by decide +kernel, by decide +kernel⟩
abbrev s_is_integer : Stmt := top 10
theorem sc_is_integer : FnScope ["thing"] ["thing"] (defScope s_is_integer) := ⟨rfl, rfl, rfl, by decide +kernel, rfl, by decide +kernel, by decide +kernel⟩
abbrev s_is_instant : Stmt := top 11
theorem sc_is_instant : FnScope ["thing", "count"] ["thing", "count"] (defScope s_is_instant) := ⟨rfl, rfl, rfl, by decide +kernel, rfl, by decide +kernel, by decide +kernel⟩
abbrev s_are_times : Stmt := top 12
theorem sc_are_times : FnScope ["thing", "count", "time"] ["thing", "count"] (defScope s_are_times) := ⟨rfl, rfl, rfl, by decide +kernel, rfl, by decide +kernel, by decide +kernel⟩
abbrev s_link_fault : Stmt := top 13
theorem sc_link_fault : FnScope ["link", "count", "part"] ["link", "count"] (defScope s_link_fault) := ⟨rfl, rfl, rfl, by decide +kernel, rfl, by decide +kernel, by decide +kernel⟩
abbrev s_keeps_link : Stmt := top 14
theorem sc_keeps_link : FnScope ["times", "link", "one", "other", "amount"] ["times", "link"] (defScope s_keeps_link) := ⟨rfl, rfl, rfl, by decide +kernel, rfl, by decide +kernel, by decide +kernel⟩
abbrev s_System_init : Stmt := inClass (top 15) 0
theorem sc_System_init : FnScope ["self", "count", "links", "index", "link", "word"] ["self", "count", "links"] (defScope s_System_init) := ⟨rfl, rfl, rfl, by decide +kernel, rfl, by decide +kernel, by decide +kernel⟩
abbrev s_System_broken : Stmt := inClass (top 15) 1
theorem sc_System_broken : FnScope ["self", "times", "index", "link"] ["self", "times"] (defScope s_System_broken) := ⟨rfl, rfl, rfl, by decide +kernel, rfl, by decide +kernel, by decide +kernel⟩
abbrev s_System_keeps : Stmt := inClass (top 15) 2
theorem sc_System_keeps : FnScope ["self", "times"] ["self", "times"] (defScope s_System_keeps) := ⟨rfl, rfl, rfl, by decide +kernel, rfl, by decide +kernel, by decide +kernel⟩
abbrev s_System_with_links : Stmt := inClass (top 15) 3
theorem sc_System_with_links : FnScope ["self", "links"] ["self", "links"] (defScope s_System_with_links) := ⟨rfl, rfl, rfl, by decide +kernel, rfl, by decide +kernel, by decide +kernel⟩
abbrev s_System_eq : Stmt := inClass (top 15) 4
theorem sc_System_eq : FnScope ["self", "other"] ["self", "other"] (defScope s_System_eq) := ⟨rfl, rfl, rfl, by decide +kernel, rfl, by decide +kernel, by decide +kernel⟩
abbrev s_System_len : Stmt := inClass (top 15) 5
theorem sc_System_len : FnScope ["self"] ["self"] (defScope s_System_len) := ⟨rfl, rfl, rfl, by decide +kernel, rfl, by decide +kernel, by decide +kernel⟩
abbrev s_System_iter : Stmt := inClass (top 15) 6
theorem sc_System_iter : FnScope ["self"] ["self"] (defScope s_System_iter) := ⟨rfl, rfl, rfl, by decide +kernel, rfl, by decide +kernel, by decide +kernel⟩
abbrev s_are_indexes : Stmt := top 16
theorem sc_are_indexes : FnScope ["links", "path", "index"] ["links", "path"] (defScope s_are_indexes) := ⟨rfl, rfl, rfl, by decide +kernel, rfl, by decide +kernel, by decide +kernel⟩
abbrev s_has_joints : Stmt := top 17
theorem sc_has_joints : FnScope ["links", "path", "place"] ["links", "path"] (defScope s_has_joints) := ⟨rfl, rfl, rfl, by decide +kernel, rfl, by decide +kernel, by decide +kernel⟩
abbrev s_sum_of : Stmt := top 18
theorem sc_sum_of : FnScope ["links", "path", "index"] ["links", "path"] (defScope s_sum_of) := ⟨rfl, rfl, rfl, by decide +kernel, rfl, by decide +kernel, by decide +kernel⟩
abbrev s_path_fault : Stmt := top 19
theorem sc_path_fault : FnScope ["system", "path", "start", "end", "links"] ["system", "path", "start", "end"] (defScope s_path_fault) := ⟨rfl, rfl, rfl, by decide +kernel, rfl, by decide +kernel, by decide +kernel⟩
abbrev s_times_fault : Stmt := top 20
theorem sc_times_fault : FnScope ["system", "times"] ["system", "times"] (defScope s_times_fault) := ⟨rfl, rfl, rfl, by decide +kernel, rfl, by decide +kernel, by decide +kernel⟩
abbrev s_Kept_init : Stmt := inClass (top 22) 0
theorem sc_Kept_init : FnScope ["self", "times"] ["self", "times"] (defScope s_Kept_init) := ⟨rfl, rfl, rfl, by decide +kernel, rfl, by decide +kernel, by decide +kernel⟩
abbrev s_Ring_init : Stmt := inClass (top 23) 0
theorem sc_Ring_init : FnScope ["self", "path"] ["self", "path"] (defScope s_Ring_init) := ⟨rfl, rfl, rfl, by decide +kernel, rfl, by decide +kernel, by decide +kernel⟩
abbrev s_ring_behind : Stmt := top 24
theorem sc_ring_behind : FnScope ["links", "came", "place", "_", "path", "back"] ["links", "came", "place"] (defScope s_ring_behind) := ⟨rfl, rfl, rfl, by decide +kernel, rfl, by decide +kernel, by decide +kernel⟩
abbrev s_settle : Stmt := top 25
theorem sc_settle : FnScope ["links", "begun", "times", "came", "lowered", "_", "index", "one", "other", "amount", "limit", "time"] ["links", "begun"] (defScope s_settle) := ⟨rfl, rfl, rfl, by decide +kernel, rfl, by decide +kernel, by decide +kernel⟩
abbrev s_settled_from : Stmt := top 26
theorem sc_settled_from : FnScope ["count", "links", "origin", "times", "came", "_", "place"] ["count", "links", "origin"] (defScope s_settled_from) := ⟨rfl, rfl, rfl, by decide +kernel, rfl, by decide +kernel, by decide +kernel⟩
abbrev s_solved : Stmt := top 27
theorem sc_solved : FnScope ["system", "times", "_", "ring", "place"] ["system"] (defScope s_solved) := ⟨rfl, rfl, rfl, by decide +kernel, rfl, by decide +kernel, by decide +kernel⟩
abbrev s_kept_times : Stmt := top 28
theorem sc_kept_times : FnScope ["system", "answer"] ["system"] (defScope s_kept_times) := ⟨rfl, rfl, rfl, by decide +kernel, rfl, by decide +kernel, by decide +kernel⟩
abbrev s_path_back : Stmt := top 30
theorem sc_path_back : FnScope ["links", "came", "start", "end", "path", "place"] ["links", "came", "start", "end"] (defScope s_path_back) := ⟨rfl, rfl, rfl, by decide +kernel, rfl, by decide +kernel, by decide +kernel⟩
abbrev s_completed : Stmt := top 31
theorem sc_completed : FnScope ["links", "reached", "base", "raised", "one", "other", "amount", "place", "time"] ["links", "reached", "base"] (defScope s_completed) := ⟨rfl, rfl, rfl, by decide +kernel, rfl, by decide +kernel, by decide +kernel⟩
abbrev s_Implied_init : Stmt := inClass (top 33) 0
theorem sc_Implied_init : FnScope ["self", "path"] ["self", "path"] (defScope s_Implied_init) := ⟨rfl, rfl, rfl, by decide +kernel, rfl, by decide +kernel, by decide +kernel⟩
abbrev s_Unimplied_init : Stmt := inClass (top 34) 0
theorem sc_Unimplied_init : FnScope ["self", "times"] ["self", "times"] (defScope s_Unimplied_init) := ⟨rfl, rfl, rfl, by decide +kernel, rfl, by decide +kernel, by decide +kernel⟩
abbrev s_Needed_init : Stmt := inClass (top 35) 0
theorem sc_Needed_init : FnScope ["self", "kept", "dropped"] ["self", "kept", "dropped"] (defScope s_Needed_init) := ⟨rfl, rfl, rfl, by decide +kernel, rfl, by decide +kernel, by decide +kernel⟩
abbrev s_KeptByAll_init : Stmt := inClass (top 36) 0
theorem sc_KeptByAll_init : FnScope ["self", "paths"] ["self", "paths"] (defScope s_KeptByAll_init) := ⟨rfl, rfl, rfl, by decide +kernel, rfl, by decide +kernel, by decide +kernel⟩
abbrev s_PartedAt_init : Stmt := inClass (top 37) 0
theorem sc_PartedAt_init : FnScope ["self", "index", "times"] ["self", "index", "times"] (defScope s_PartedAt_init) := ⟨rfl, rfl, rfl, by decide +kernel, rfl, by decide +kernel, by decide +kernel⟩
abbrev s_check_link : Stmt := top 38
theorem sc_check_link : FnScope ["system", "link", "word"] ["system", "link"] (defScope s_check_link) := ⟨rfl, rfl, rfl, by decide +kernel, rfl, by decide +kernel, by decide +kernel⟩
abbrev s_shown : Stmt := top 39
theorem sc_shown : FnScope ["count", "links", "link", "base", "one", "other", "amount", "reached", "came", "raised", "place"] ["count", "links", "link", "base"] (defScope s_shown) := ⟨rfl, rfl, rfl, by decide +kernel, rfl, by decide +kernel, by decide +kernel⟩
abbrev s_implied : Stmt := top 40
theorem sc_implied : FnScope ["system", "link", "base"] ["system", "link"] (defScope s_implied) := ⟨rfl, rfl, rfl, by decide +kernel, rfl, by decide +kernel, by decide +kernel⟩
abbrev s_implied_fault : Stmt := top 41
theorem sc_implied_fault : FnScope ["system", "link", "answer", "one", "other", "amount", "word"] ["system", "link", "answer"] (defScope s_implied_fault) := ⟨rfl, rfl, rfl, by decide +kernel, rfl, by decide +kernel, by decide +kernel⟩
abbrev s_needed_indexes : Stmt := top 42
theorem sc_needed_indexes : FnScope ["count", "links", "base", "left", "index", "others", "at"] ["count", "links", "base"] (defScope s_needed_indexes) := ⟨rfl, rfl, rfl, by decide +kernel, rfl, by decide +kernel, by decide +kernel⟩
abbrev s_needed : Stmt := top 43
theorem sc_needed : FnScope ["system", "base", "links", "left", "stay", "fall", "index", "link", "others", "answer", "at", "place"] ["system"] (defScope s_needed) := ⟨rfl, rfl, rfl, by decide +kernel, rfl, by decide +kernel, by decide +kernel⟩
abbrev s_compare_systems : Stmt := top 44
theorem sc_compare_systems : FnScope ["one", "other", "times", "_", "ring", "paths", "index", "link", "answer", "place"] ["one", "other"] (defScope s_compare_systems) := ⟨rfl, rfl, rfl, by decide +kernel, rfl, by decide +kernel, by decide +kernel⟩
abbrev s_bag : Stmt := top 46
theorem sc_bag : FnScope ["_law_script", "_law_at", "_law_cell", "_law_seed", "_law_k"] ["_law_script", "_law_at"] (defScope s_bag) := ⟨rfl, rfl, rfl, by decide +kernel, rfl, by decide +kernel, by decide +kernel⟩
abbrev s_take : Stmt := top 47
theorem sc_take : FnScope ["_law_bag_here", "_law_many", "_law_digit"] ["_law_bag_here", "_law_many"] (defScope s_take) := ⟨rfl, rfl, rfl, by decide +kernel, rfl, by decide +kernel, by decide +kernel⟩
abbrev s_of : Stmt := top 48
theorem sc_of : FnScope ["_law_bag_here", "_law_some"] ["_law_bag_here", "_law_some"] (defScope s_of) := ⟨rfl, rfl, rfl, by decide +kernel, rfl, by decide +kernel, by decide +kernel⟩
abbrev s_amount : Stmt := top 49
theorem sc_amount : FnScope ["_law_bag_here", "_law_kind", "_law_worth"] ["_law_bag_here"] (defScope s_amount) := ⟨rfl, rfl, rfl, by decide +kernel, rfl, by decide +kernel, by decide +kernel⟩
abbrev s_times : Stmt := top 50
theorem sc_times : FnScope ["_law_bag_here", "_law_count", "_law_wide", "_law_found", "_law_k"] ["_law_bag_here", "_law_count"] (defScope s_times) := ⟨rfl, rfl, rfl, by decide +kernel, rfl, by decide +kernel, by decide +kernel⟩
abbrev s_links : Stmt := top 51
theorem sc_links : FnScope ["_law_bag_here", "_law_count", "_law_many", "_law_times_here", "_law_found", "_law_k", "_law_one", "_law_other_here"] ["_law_bag_here", "_law_count", "_law_many", "_law_times_here"] (defScope s_links) := ⟨rfl, rfl, rfl, by decide +kernel, rfl, by decide +kernel, by decide +kernel⟩
abbrev s_is_whole : Stmt := top 52
theorem sc_is_whole : FnScope ["_law_thing"] ["_law_thing"] (defScope s_is_whole) := ⟨rfl, rfl, rfl, by decide +kernel, rfl, by decide +kernel, by decide +kernel⟩
abbrev s_L_are_times : Stmt := top 53
theorem sc_L_are_times : FnScope ["_law_thing", "_law_count", "_law_x"] ["_law_thing", "_law_count"] (defScope s_L_are_times) := ⟨rfl, rfl, rfl, by decide +kernel, rfl, by decide +kernel, by decide +kernel⟩
abbrev s_keep : Stmt := top 54
theorem sc_keep : FnScope ["_law_links_here", "_law_times_here", "_law_x"] ["_law_links_here", "_law_times_here"] (defScope s_keep) := ⟨rfl, rfl, rfl, by decide +kernel, rfl, by decide +kernel, by decide +kernel⟩
abbrev s_leads : Stmt := top 55
theorem sc_leads : FnScope ["_law_links_here", "_law_path", "_law_start", "_law_end", "_law_here", "_law_x"] ["_law_links_here", "_law_path", "_law_start", "_law_end"] (defScope s_leads) := ⟨rfl, rfl, rfl, by decide +kernel, rfl, by decide +kernel, by decide +kernel⟩
abbrev s_sum : Stmt := top 56
theorem sc_sum : FnScope ["_law_links_here", "_law_path", "_law_x"] ["_law_links_here", "_law_path"] (defScope s_sum) := ⟨rfl, rfl, rfl, by decide +kernel, rfl, by decide +kernel, by decide +kernel⟩
abbrev s_bars : Stmt := top 57
theorem sc_bars : FnScope ["_law_links_here", "_law_path", "_law_start"] ["_law_links_here", "_law_path"] (defScope s_bars) := ⟨rfl, rfl, rfl, by decide +kernel, rfl, by decide +kernel, by decide +kernel⟩
abbrev s_spans : Stmt := top 58
theorem sc_spans : FnScope ["_law_count", "_law_links_here", "_law_table", "_law_one", "_law_other_here", "_law_amount_here", "_law_row", "_law_turn", "_law_step", "_law_via", "_law_x", "_law_y"] ["_law_count", "_law_links_here"] (defScope s_spans) := ⟨rfl, rfl, rfl, by decide +kernel, rfl, by decide +kernel, by decide +kernel⟩
abbrev s_implies : Stmt := top 59
theorem sc_implies : FnScope ["_law_count", "_law_links_here", "_law_link", "_law_table", "_law_row"] ["_law_count", "_law_links_here", "_law_link"] (defScope s_implies) := ⟨rfl, rfl, rfl, by decide +kernel, rfl, by decide +kernel, by decide +kernel⟩
abbrev s_path_due : Stmt := top 60
theorem sc_path_due : FnScope ["_law_links_here", "_law_path", "_law_start", "_law_end", "_law_x", "_law_k"] ["_law_links_here", "_law_path", "_law_start", "_law_end"] (defScope s_path_due) := ⟨rfl, rfl, rfl, by decide +kernel, rfl, by decide +kernel, by decide +kernel⟩
abbrev s_bent : Stmt := top 61
theorem sc_bent : FnScope ["_law_bag_here", "_law_row", "_law_most", "_law_kind", "_law_at", "_law_worth"] ["_law_bag_here", "_law_row", "_law_most"] (defScope s_bent) := ⟨rfl, rfl, rfl, by decide +kernel, rfl, by decide +kernel, by decide +kernel⟩
abbrev s_near : Stmt := top 62
theorem sc_near : FnScope ["_law_bag_here", "_law_count", "_law_links_here", "_law_link", "_law_table", "_law_row"] ["_law_bag_here", "_law_count", "_law_links_here"] (defScope s_near) := ⟨rfl, rfl, rfl, by decide +kernel, rfl, by decide +kernel, by decide +kernel⟩
abbrev s_shows : Stmt := top 63
theorem sc_shows : FnScope ["_law_links_here", "_law_path", "_law_link"] ["_law_links_here", "_law_path", "_law_link"] (defScope s_shows) := ⟨rfl, rfl, rfl, by decide +kernel, rfl, by decide +kernel, by decide +kernel⟩
abbrev s_parts : Stmt := top 64
theorem sc_parts : FnScope ["_law_count", "_law_links_here", "_law_times_here", "_law_link"] ["_law_count", "_law_links_here", "_law_times_here", "_law_link"] (defScope s_parts) := ⟨rfl, rfl, rfl, by decide +kernel, rfl, by decide +kernel, by decide +kernel⟩
abbrev s_L_implied : Stmt := top 65
theorem sc_L_implied : FnScope ["_law_count", "_law_links_here", "_law_link", "_law_answer"] ["_law_count", "_law_links_here", "_law_link", "_law_answer"] (defScope s_L_implied) := ⟨rfl, rfl, rfl, by decide +kernel, rfl, by decide +kernel, by decide +kernel⟩
abbrev s_due : Stmt := top 66
theorem sc_due : FnScope ["_law_count", "_law_links_here", "_law_link", "_law_answer", "_law_word"] ["_law_count", "_law_links_here", "_law_link", "_law_answer"] (defScope s_due) := ⟨rfl, rfl, rfl, by decide +kernel, rfl, by decide +kernel, by decide +kernel⟩
abbrev s_judged : Stmt := top 67
theorem sc_judged : FnScope ["_law_bag_here", "_law_system", "_law_count", "_law_links_here", "_law_link", "_law_told", "_law_kind", "_law_answer", "_law_x"] ["_law_bag_here", "_law_system", "_law_count", "_law_links_here", "_law_link", "_law_told"] (defScope s_judged) := ⟨rfl, rfl, rfl, by decide +kernel, rfl, by decide +kernel, by decide +kernel⟩
abbrev s_bad_link : Stmt := top 68
theorem sc_bad_link : FnScope ["_law_bag_here", "_law_system", "_law_count", "_law_one", "_law_other_here", "_law_amount_here", "_law_table", "_law_link", "_law_word", "_law_found", "_law_kind", "e"] ["_law_bag_here", "_law_system", "_law_count"] (defScope s_bad_link) := ⟨rfl, rfl, rfl, by decide +kernel, rfl, by decide +kernel, by decide +kernel⟩
abbrev s_greedy : Stmt := top 69
theorem sc_greedy : FnScope ["_law_count", "_law_links_here", "_law_left", "_law_k", "_law_others", "_law_x"] ["_law_count", "_law_links_here"] (defScope s_greedy) := ⟨rfl, rfl, rfl, by decide +kernel, rfl, by decide +kernel, by decide +kernel⟩
abbrev s_L_needed : Stmt := top 70
theorem sc_L_needed : FnScope ["_law_system", "_law_count", "_law_links_here", "_law_told", "_law_rows", "_law_left", "_law_k", "_law_times_here", "_law_path", "_law_x"] ["_law_system", "_law_count", "_law_links_here"] (defScope s_L_needed) := ⟨rfl, rfl, rfl, by decide +kernel, rfl, by decide +kernel, by decide +kernel⟩
abbrev s_other : Stmt := top 71
theorem sc_other : FnScope ["_law_bag_here", "_law_count", "_law_links_here", "_law_found", "_law_k", "_law_kind", "_law_one", "_law_other_here", "_law_amount_here"] ["_law_bag_here", "_law_count", "_law_links_here"] (defScope s_other) := ⟨rfl, rfl, rfl, by decide +kernel, rfl, by decide +kernel, by decide +kernel⟩
abbrev s_compared : Stmt := top 72
theorem sc_compared : FnScope ["_law_bag_here", "_law_system", "_law_count", "_law_links_here", "_law_some", "_law_answer", "_law_left", "_law_k"] ["_law_bag_here", "_law_system", "_law_count", "_law_links_here"] (defScope s_compared) := ⟨rfl, rfl, rfl, by decide +kernel, rfl, by decide +kernel, by decide +kernel⟩
abbrev s_barred : Stmt := top 73
theorem sc_barred : FnScope ["_law_one", "_law_other_here", "_law_kind", "_law_link", "e"] ["_law_one", "_law_other_here", "_law_kind", "_law_link"] (defScope s_barred) := ⟨rfl, rfl, rfl, by decide +kernel, rfl, by decide +kernel, by decide +kernel⟩
abbrev s_other_count : Stmt := top 74
theorem sc_other_count : FnScope ["_law_one", "_law_other_here"] ["_law_one", "_law_other_here"] (defScope s_other_count) := ⟨rfl, rfl, rfl, by decide +kernel, rfl, by decide +kernel, by decide +kernel⟩
abbrev s_law : Stmt := top 75
theorem sc_law : FnScope ["_law_script", "_law_at", "_law_bag_here", "_law_count", "_law_times_here", "_law_links_here", "_law_system", "_law_lesser", "_law_link", "_law_kind", "_law_turn", "_law_answer"] ["_law_script"] (defScope s_law) := ⟨rfl, rfl, rfl, by decide +kernel, rfl, by decide +kernel, by decide +kernel⟩
/-- what the top has written -/
structure Txt (P : Program) (w : World) (K : PySem.W.Frag) (mg : Str → Option Value) (cl : String → Addr) : Prop where
  n_len : mg "len" = none
  n_int : mg "int" = none
  n_bool : mg "bool" = none
  n_list : mg "list" = none
  n_tuple : mg "tuple" = none
  n_isinstance : mg "isinstance" = none
  n_range : mg "range" = none
  n_ValueError : mg "ValueError" = none
  n_abs : mg "abs" = none
  n_min : mg "min" = none
  n_max : mg "max" = none
  n_sum : mg "sum" = none
  n_iter : mg "iter" = none
  n_enumerate : mg "enumerate" = none
  n_zip : mg "zip" = none
  c_MOST_INSTANTS : ∃ u, mg "MOST_INSTANTS" = some u ∧ RelV (.int 12) u
  c_MOST_LINKS : ∃ u, mg "MOST_LINKS" = some u ∧ RelV (.int 200) u
  m_DeedError : mg "DeedError" = some (.ref (cl "DeedError"))
  m_BadSystem : mg "BadSystem" = some (.ref (cl "BadSystem"))
  m_BadTimes : mg "BadTimes" = some (.ref (cl "BadTimes"))
  m_OtherCount : mg "OtherCount" = some (.ref (cl "OtherCount"))
  m_NoTimes : mg "NoTimes" = some (.ref (cl "NoTimes"))
  m_System : mg "System" = some (.ref (cl "System"))
  m_Kept : mg "Kept" = some (.ref (cl "Kept"))
  m_Ring : mg "Ring" = some (.ref (cl "Ring"))
  m_Implied : mg "Implied" = some (.ref (cl "Implied"))
  m_Unimplied : mg "Unimplied" = some (.ref (cl "Unimplied"))
  m_Needed : mg "Needed" = some (.ref (cl "Needed"))
  m_KeptByAll : mg "KeptByAll" = some (.ref (cl "KeptByAll"))
  m_PartedAt : mg "PartedAt" = some (.ref (cl "PartedAt"))
  o_BadSystem : OexC K (cl "BadSystem")
  i_BadSystem : ∃ (f : Addr) (fd : FuncData), Fun K "__init__" "BadSystem.__init__" s_BadSystem_init f fd ∧ PySem.W.findIn K (.ref (cl "BadSystem")) "__init__" = some (some (.ref f)) ∧ PySem.W.typeIn K (.ref f) = some (.type "function")
  o_BadTimes : OexC K (cl "BadTimes")
  i_BadTimes : ∃ (f : Addr) (fd : FuncData), Fun K "__init__" "BadTimes.__init__" s_BadTimes_init f fd ∧ PySem.W.findIn K (.ref (cl "BadTimes")) "__init__" = some (some (.ref f)) ∧ PySem.W.typeIn K (.ref f) = some (.type "function")
  o_OtherCount : OexC K (cl "OtherCount")
  i_OtherCount : ∃ (f : Addr) (fd : FuncData), Fun K "__init__" "OtherCount.__init__" s_OtherCount_init f fd ∧ PySem.W.findIn K (.ref (cl "OtherCount")) "__init__" = some (some (.ref f)) ∧ PySem.W.typeIn K (.ref f) = some (.type "function")
  o_NoTimes : OexC K (cl "NoTimes")
  i_NoTimes : ∃ (f : Addr) (fd : FuncData), Fun K "__init__" "NoTimes.__init__" s_NoTimes_init f fd ∧ PySem.W.findIn K (.ref (cl "NoTimes")) "__init__" = some (some (.ref f)) ∧ PySem.W.typeIn K (.ref f) = some (.type "function")
  xf_BadSystem_index : PySem.W.findIn K (.ref (cl "BadSystem")) "index" = some none
  xf_BadSystem_what : PySem.W.findIn K (.ref (cl "BadSystem")) "what" = some none
  cr : ClX.CRead K (cl "DeedError") (.type "type")
  vi : PySem.W.findCls K (.ref (cl "DeedError")) (.type "type") "__init__" = some (.val (.builtin "ValueError.__init__"))
  x_BadSystem : ExcC K (cl "BadSystem")
  x_BadTimes : ExcC K (cl "BadTimes")
  x_OtherCount : ExcC K (cl "OtherCount")
  x_NoTimes : ExcC K (cl "NoTimes")
  is_BadSystem : PySem.W.exmOne K (.ref (cl "BadSystem")) (.ref (cl "BadSystem")) = some true
  is_BadTimes : PySem.W.exmOne K (.ref (cl "BadTimes")) (.ref (cl "BadTimes")) = some true
  ne_System : NeOf K (cl "System")
  cl_System : Cls K (cl "System")
  na_System : ∀ f : Str, f ∈ (["count", "links"] : List Str) → NoAttr K (cl "System") f
  y_System : PySem.W.findIn K (.ref (cl "System")) "__class__" = some (some (.builtin "object.__class__"))
  z3_System : PySem.W.mroIn K (cl "System") (.type "object") = some true
  cl_Kept : Cls K (cl "Kept")
  na_Kept : ∀ f : Str, f ∈ (["times"] : List Str) → NoAttr K (cl "Kept") f
  y_Kept : PySem.W.findIn K (.ref (cl "Kept")) "__class__" = some (some (.builtin "object.__class__"))
  z3_Kept : PySem.W.mroIn K (cl "Kept") (.type "object") = some true
  cl_Ring : Cls K (cl "Ring")
  na_Ring : ∀ f : Str, f ∈ (["path"] : List Str) → NoAttr K (cl "Ring") f
  y_Ring : PySem.W.findIn K (.ref (cl "Ring")) "__class__" = some (some (.builtin "object.__class__"))
  z3_Ring : PySem.W.mroIn K (cl "Ring") (.type "object") = some true
  k_in_Sy : ∀ n : String, n ∈ (["NoneType", "bool", "int", "str", "list", "tuple"] : List String) → PySem.W.kitOne K (.type n) (.ref (cl "System")) = some false
  nf_System : ∀ n : String, n ∈ (["NoneType", "bool", "int", "str", "list", "tuple"] : List String) → PySem.W.notFirst K (cl "System") (.type n) = true
  nf2_System : PySem.W.notFirst K (cl "System") (.ref (cl "System")) = true
  k_Sy_Sy : PySem.W.kitOne K (.ref (cl "System")) (.ref (cl "System")) = some true
  k_Ri_Ri : PySem.W.kitOne K (.ref (cl "Ring")) (.ref (cl "Ring")) = some true
  k_Ke_Ri : PySem.W.kitOne K (.ref (cl "Kept")) (.ref (cl "Ring")) = some false
  i_System : ∃ (f : Addr) (fd : FuncData), HeM.FunV K "__init__" "System.__init__" s_System_init f fd ∧ Mk K (cl "System") f
  i_Kept : DefC K (cl "Kept") "Kept.__init__" s_Kept_init
  i_Ring : DefC K (cl "Ring") "Ring.__init__" s_Ring_init
  d_System_broken : DefM K (cl "System") "broken" "System.broken" s_System_broken
  d_System_eq : DefM K (cl "System") "__eq__" "System.__eq__" s_System_eq
  d_System_len : DefM K (cl "System") "__len__" "System.__len__" s_System_len
  d_System_iter : DefM K (cl "System") "__iter__" "System.__iter__" s_System_iter
  d_is_integer : Def K mg "is_integer" s_is_integer
  d_is_instant : Def K mg "is_instant" s_is_instant
  d_are_times : Def K mg "are_times" s_are_times
  d_link_fault : Def K mg "link_fault" s_link_fault
  d_keeps_link : Def K mg "keeps_link" s_keeps_link
  d_are_indexes : Def K mg "are_indexes" s_are_indexes
  d_has_joints : Def K mg "has_joints" s_has_joints
  d_sum_of : Def K mg "sum_of" s_sum_of
  d_path_fault : Def K mg "path_fault" s_path_fault
  d_times_fault : Def K mg "times_fault" s_times_fault
  d_ring_behind : Def K mg "ring_behind" s_ring_behind
  d_settle : Def K mg "settle" s_settle
  d_settled_from : Def K mg "settled_from" s_settled_from
  d_solved : Def K mg "solved" s_solved
  d_kept_times : Def K mg "kept_times" s_kept_times
  d_path_back : Def K mg "path_back" s_path_back
  d_completed : Def K mg "completed" s_completed
  d_check_link : Def K mg "check_link" s_check_link
  d_shown : Def K mg "shown" s_shown
  d_implied : Def K mg "implied" s_implied
  d_implied_fault : Def K mg "implied_fault" s_implied_fault
  d_needed_indexes : Def K mg "needed_indexes" s_needed_indexes
  d_needed : Def K mg "needed" s_needed
  d_compare_systems : Def K mg "compare_systems" s_compare_systems
  d_bag : Def K mg "_law_bag" s_bag
  d_take : Def K mg "_law_take" s_take
  d_of : Def K mg "_law_of" s_of
  d_amount : Def K mg "_law_amount" s_amount
  d_times : Def K mg "_law_times" s_times
  d_links : Def K mg "_law_links" s_links
  d_is_whole : Def K mg "_law_is_whole" s_is_whole
  d_L_are_times : Def K mg "_law_are_times" s_L_are_times
  d_keep : Def K mg "_law_keep" s_keep
  d_leads : Def K mg "_law_leads" s_leads
  d_sum : Def K mg "_law_sum" s_sum
  d_bars : Def K mg "_law_bars" s_bars
  d_spans : Def K mg "_law_spans" s_spans
  d_implies : Def K mg "_law_implies" s_implies
  d_path_due : Def K mg "_law_path_due" s_path_due
  d_bent : Def K mg "_law_bent" s_bent
  d_near : Def K mg "_law_near" s_near
  d_shows : Def K mg "_law_shows" s_shows
  d_parts : Def K mg "_law_parts" s_parts
  d_L_implied : Def K mg "_law_implied" s_L_implied
  d_due : Def K mg "_law_due" s_due
  d_judged : Def K mg "_law_judged" s_judged
  d_bad_link : Def K mg "_law_bad_link" s_bad_link
  d_greedy : Def K mg "_law_greedy" s_greedy
  d_L_needed : Def K mg "_law_needed" s_L_needed
  d_other : Def K mg "_law_other" s_other
  d_compared : Def K mg "_law_compared" s_compared
  d_barred : Def K mg "_law_barred" s_barred
  d_other_count : Def K mg "_law_other_count" s_other_count
  d_law : Def K mg "law" s_law
  xf_NoTimes_path : PySem.W.findIn K (.ref (cl "NoTimes")) "path" = some none
  is_NoTimes : PySem.W.exmOne K (.ref (cl "NoTimes")) (.ref (cl "NoTimes")) = some true
  k_Ke_Ke : PySem.W.kitOne K (.ref (cl "Kept")) (.ref (cl "Kept")) = some true
  k_Ri_Ke : PySem.W.kitOne K (.ref (cl "Ring")) (.ref (cl "Kept")) = some false
  is_OtherCount : PySem.W.exmOne K (.ref (cl "OtherCount")) (.ref (cl "OtherCount")) = some true
  cl_Implied : Cls K (cl "Implied")
  na_Implied : ∀ f : Str, f ∈ (["path"] : List Str) → NoAttr K (cl "Implied") f
  y_Implied : PySem.W.findIn K (.ref (cl "Implied")) "__class__" = some (some (.builtin "object.__class__"))
  z3_Implied : PySem.W.mroIn K (cl "Implied") (.type "object") = some true
  cl_Unimplied : Cls K (cl "Unimplied")
  na_Unimplied : ∀ f : Str, f ∈ (["times"] : List Str) → NoAttr K (cl "Unimplied") f
  y_Unimplied : PySem.W.findIn K (.ref (cl "Unimplied")) "__class__" = some (some (.builtin "object.__class__"))
  z3_Unimplied : PySem.W.mroIn K (cl "Unimplied") (.type "object") = some true
  cl_Needed : Cls K (cl "Needed")
  na_Needed : ∀ f : Str, f ∈ (["kept", "dropped"] : List Str) → NoAttr K (cl "Needed") f
  y_Needed : PySem.W.findIn K (.ref (cl "Needed")) "__class__" = some (some (.builtin "object.__class__"))
  z3_Needed : PySem.W.mroIn K (cl "Needed") (.type "object") = some true
  cl_KeptByAll : Cls K (cl "KeptByAll")
  na_KeptByAll : ∀ f : Str, f ∈ (["paths"] : List Str) → NoAttr K (cl "KeptByAll") f
  y_KeptByAll : PySem.W.findIn K (.ref (cl "KeptByAll")) "__class__" = some (some (.builtin "object.__class__"))
  z3_KeptByAll : PySem.W.mroIn K (cl "KeptByAll") (.type "object") = some true
  cl_PartedAt : Cls K (cl "PartedAt")
  na_PartedAt : ∀ f : Str, f ∈ (["index", "times"] : List Str) → NoAttr K (cl "PartedAt") f
  y_PartedAt : PySem.W.findIn K (.ref (cl "PartedAt")) "__class__" = some (some (.builtin "object.__class__"))
  z3_PartedAt : PySem.W.mroIn K (cl "PartedAt") (.type "object") = some true
  i_Implied : DefC K (cl "Implied") "Implied.__init__" s_Implied_init
  i_Unimplied : DefC K (cl "Unimplied") "Unimplied.__init__" s_Unimplied_init
  i_Needed : DefC K (cl "Needed") "Needed.__init__" s_Needed_init
  i_KeptByAll : DefC K (cl "KeptByAll") "KeptByAll.__init__" s_KeptByAll_init
  i_PartedAt : DefC K (cl "PartedAt") "PartedAt.__init__" s_PartedAt_init
  k_Im_Im : PySem.W.kitOne K (.ref (cl "Implied")) (.ref (cl "Implied")) = some true
  k_Im_Un : PySem.W.kitOne K (.ref (cl "Implied")) (.ref (cl "Unimplied")) = some false
  k_Im_Ne : PySem.W.kitOne K (.ref (cl "Implied")) (.ref (cl "Needed")) = some false
  k_Im_Kb : PySem.W.kitOne K (.ref (cl "Implied")) (.ref (cl "KeptByAll")) = some false
  k_Im_Pa : PySem.W.kitOne K (.ref (cl "Implied")) (.ref (cl "PartedAt")) = some false
  k_Un_Im : PySem.W.kitOne K (.ref (cl "Unimplied")) (.ref (cl "Implied")) = some false
  k_Un_Un : PySem.W.kitOne K (.ref (cl "Unimplied")) (.ref (cl "Unimplied")) = some true
  k_Un_Ne : PySem.W.kitOne K (.ref (cl "Unimplied")) (.ref (cl "Needed")) = some false
  k_Un_Kb : PySem.W.kitOne K (.ref (cl "Unimplied")) (.ref (cl "KeptByAll")) = some false
  k_Un_Pa : PySem.W.kitOne K (.ref (cl "Unimplied")) (.ref (cl "PartedAt")) = some false
  k_Ne_Im : PySem.W.kitOne K (.ref (cl "Needed")) (.ref (cl "Implied")) = some false
  k_Ne_Un : PySem.W.kitOne K (.ref (cl "Needed")) (.ref (cl "Unimplied")) = some false
  k_Ne_Ne : PySem.W.kitOne K (.ref (cl "Needed")) (.ref (cl "Needed")) = some true
  k_Ne_Kb : PySem.W.kitOne K (.ref (cl "Needed")) (.ref (cl "KeptByAll")) = some false
  k_Ne_Pa : PySem.W.kitOne K (.ref (cl "Needed")) (.ref (cl "PartedAt")) = some false
  k_Kb_Im : PySem.W.kitOne K (.ref (cl "KeptByAll")) (.ref (cl "Implied")) = some false
  k_Kb_Un : PySem.W.kitOne K (.ref (cl "KeptByAll")) (.ref (cl "Unimplied")) = some false
  k_Kb_Ne : PySem.W.kitOne K (.ref (cl "KeptByAll")) (.ref (cl "Needed")) = some false
  k_Kb_Kb : PySem.W.kitOne K (.ref (cl "KeptByAll")) (.ref (cl "KeptByAll")) = some true
  k_Kb_Pa : PySem.W.kitOne K (.ref (cl "KeptByAll")) (.ref (cl "PartedAt")) = some false
  k_Pa_Im : PySem.W.kitOne K (.ref (cl "PartedAt")) (.ref (cl "Implied")) = some false
  k_Pa_Un : PySem.W.kitOne K (.ref (cl "PartedAt")) (.ref (cl "Unimplied")) = some false
  k_Pa_Ne : PySem.W.kitOne K (.ref (cl "PartedAt")) (.ref (cl "Needed")) = some false
  k_Pa_Kb : PySem.W.kitOne K (.ref (cl "PartedAt")) (.ref (cl "KeptByAll")) = some false
  k_Pa_Pa : PySem.W.kitOne K (.ref (cl "PartedAt")) (.ref (cl "PartedAt")) = some true
  z1 : PySem.W.specialIn K (.builtin "object.__class__") "__get__" = some (some (.builtin "getset_descriptor.__get__"))
  z2 : PySem.W.takesIn K (.builtin "object.__class__") = some true
end My
set_option Elab.async false
set_option linter.all false
set_option maxRecDepth 100000
set_option maxHeartbeats 8000000
namespace My
open PySem L2 Dw He
def faL : List He.Fa := [.free "len", .free "int", .free "bool", .free "list", .free "tuple", .free "isinstance", .free "range", .free "ValueError", .free "abs", .free "min", .free "max", .free "sum", .free "iter", .free "enumerate", .free "zip", .int "MOST_INSTANTS" (12), .int "MOST_LINKS" (200), .glo "DeedError", .glo "BadSystem", .glo "BadTimes", .glo "OtherCount", .glo "NoTimes", .glo "System", .glo "Kept", .glo "Ring", .glo "Implied", .glo "Unimplied", .glo "Needed", .glo "KeptByAll", .glo "PartedAt", .cls "System", .cls "Kept", .cls "Ring", .mkr "System", .mkr "Kept", .mkr "Ring", .meth "System" "broken", .meth "System" "__eq__", .meth "System" "__len__", .meth "System" "__iter__", .glo "is_integer", .glo "is_instant", .glo "are_times", .glo "link_fault", .glo "keeps_link", .glo "are_indexes", .glo "has_joints", .glo "sum_of", .glo "path_fault", .glo "times_fault", .glo "ring_behind", .glo "settle", .glo "settled_from", .glo "solved", .glo "kept_times", .glo "path_back", .glo "completed", .glo "check_link", .glo "shown", .glo "implied", .glo "implied_fault", .glo "needed_indexes", .glo "needed", .glo "compare_systems", .glo "_law_bag", .glo "_law_take", .glo "_law_of", .glo "_law_amount", .glo "_law_times", .glo "_law_links", .glo "_law_is_whole", .glo "_law_are_times", .glo "_law_keep", .glo "_law_leads", .glo "_law_sum", .glo "_law_bars", .glo "_law_spans", .glo "_law_implies", .glo "_law_path_due", .glo "_law_bent", .glo "_law_near", .glo "_law_shows", .glo "_law_parts", .glo "_law_implied", .glo "_law_due", .glo "_law_judged", .glo "_law_bad_link", .glo "_law_greedy", .glo "_law_needed", .glo "_law_other", .glo "_law_compared", .glo "_law_barred", .glo "_law_other_count", .glo "law", .cls "Implied", .cls "Unimplied", .cls "Needed", .cls "KeptByAll", .cls "PartedAt", .mkr "Implied", .mkr "Unimplied", .mkr "Needed", .mkr "KeptByAll", .mkr "PartedAt"]
def fnL : List He.DefD := [⟨("BadSystem", some "__init__"), "__init__", "BadSystem.__init__", defArgs s_BadSystem_init, defBody s_BadSystem_init, defScope s_BadSystem_init, [], []⟩,
  ⟨("BadTimes", some "__init__"), "__init__", "BadTimes.__init__", defArgs s_BadTimes_init, defBody s_BadTimes_init, defScope s_BadTimes_init, [], []⟩,
  ⟨("OtherCount", some "__init__"), "__init__", "OtherCount.__init__", defArgs s_OtherCount_init, defBody s_OtherCount_init, defScope s_OtherCount_init, [], []⟩,
  ⟨("NoTimes", some "__init__"), "__init__", "NoTimes.__init__", defArgs s_NoTimes_init, defBody s_NoTimes_init, defScope s_NoTimes_init, [], []⟩,
  ⟨("Kept", some "__init__"), "__init__", "Kept.__init__", defArgs s_Kept_init, defBody s_Kept_init, defScope s_Kept_init, [], []⟩,
  ⟨("Ring", some "__init__"), "__init__", "Ring.__init__", defArgs s_Ring_init, defBody s_Ring_init, defScope s_Ring_init, [], []⟩,
  ⟨("System", some "broken"), "broken", "System.broken", defArgs s_System_broken, defBody s_System_broken, defScope s_System_broken, [], []⟩,
  ⟨("System", some "__eq__"), "__eq__", "System.__eq__", defArgs s_System_eq, defBody s_System_eq, defScope s_System_eq, [], []⟩,
  ⟨("System", some "__len__"), "__len__", "System.__len__", defArgs s_System_len, defBody s_System_len, defScope s_System_len, [], []⟩,
  ⟨("System", some "__iter__"), "__iter__", "System.__iter__", defArgs s_System_iter, defBody s_System_iter, defScope s_System_iter, [], []⟩,
  ⟨("is_integer", none), "is_integer", "is_integer", defArgs s_is_integer, defBody s_is_integer, defScope s_is_integer, [], []⟩,
  ⟨("is_instant", none), "is_instant", "is_instant", defArgs s_is_instant, defBody s_is_instant, defScope s_is_instant, [], []⟩,
  ⟨("are_times", none), "are_times", "are_times", defArgs s_are_times, defBody s_are_times, defScope s_are_times, [], []⟩,
  ⟨("link_fault", none), "link_fault", "link_fault", defArgs s_link_fault, defBody s_link_fault, defScope s_link_fault, [], []⟩,
  ⟨("keeps_link", none), "keeps_link", "keeps_link", defArgs s_keeps_link, defBody s_keeps_link, defScope s_keeps_link, [], []⟩,
  ⟨("are_indexes", none), "are_indexes", "are_indexes", defArgs s_are_indexes, defBody s_are_indexes, defScope s_are_indexes, [], []⟩,
  ⟨("has_joints", none), "has_joints", "has_joints", defArgs s_has_joints, defBody s_has_joints, defScope s_has_joints, [], []⟩,
  ⟨("sum_of", none), "sum_of", "sum_of", defArgs s_sum_of, defBody s_sum_of, defScope s_sum_of, [], []⟩,
  ⟨("path_fault", none), "path_fault", "path_fault", defArgs s_path_fault, defBody s_path_fault, defScope s_path_fault, [], []⟩,
  ⟨("times_fault", none), "times_fault", "times_fault", defArgs s_times_fault, defBody s_times_fault, defScope s_times_fault, [], []⟩,
  ⟨("ring_behind", none), "ring_behind", "ring_behind", defArgs s_ring_behind, defBody s_ring_behind, defScope s_ring_behind, [], []⟩,
  ⟨("settle", none), "settle", "settle", defArgs s_settle, defBody s_settle, defScope s_settle, [], []⟩,
  ⟨("settled_from", none), "settled_from", "settled_from", defArgs s_settled_from, defBody s_settled_from, defScope s_settled_from, [], []⟩,
  ⟨("solved", none), "solved", "solved", defArgs s_solved, defBody s_solved, defScope s_solved, [], []⟩,
  ⟨("kept_times", none), "kept_times", "kept_times", defArgs s_kept_times, defBody s_kept_times, defScope s_kept_times, [], []⟩,
  ⟨("path_back", none), "path_back", "path_back", defArgs s_path_back, defBody s_path_back, defScope s_path_back, [], []⟩,
  ⟨("completed", none), "completed", "completed", defArgs s_completed, defBody s_completed, defScope s_completed, [], []⟩,
  ⟨("check_link", none), "check_link", "check_link", defArgs s_check_link, defBody s_check_link, defScope s_check_link, [], []⟩,
  ⟨("shown", none), "shown", "shown", defArgs s_shown, defBody s_shown, defScope s_shown, [], []⟩,
  ⟨("implied", none), "implied", "implied", defArgs s_implied, defBody s_implied, defScope s_implied, [], []⟩,
  ⟨("implied_fault", none), "implied_fault", "implied_fault", defArgs s_implied_fault, defBody s_implied_fault, defScope s_implied_fault, [], []⟩,
  ⟨("needed_indexes", none), "needed_indexes", "needed_indexes", defArgs s_needed_indexes, defBody s_needed_indexes, defScope s_needed_indexes, [], []⟩,
  ⟨("needed", none), "needed", "needed", defArgs s_needed, defBody s_needed, defScope s_needed, [], []⟩,
  ⟨("compare_systems", none), "compare_systems", "compare_systems", defArgs s_compare_systems, defBody s_compare_systems, defScope s_compare_systems, [], []⟩,
  ⟨("_law_bag", none), "_law_bag", "_law_bag", defArgs s_bag, defBody s_bag, defScope s_bag, [], []⟩,
  ⟨("_law_take", none), "_law_take", "_law_take", defArgs s_take, defBody s_take, defScope s_take, [], []⟩,
  ⟨("_law_of", none), "_law_of", "_law_of", defArgs s_of, defBody s_of, defScope s_of, [], []⟩,
  ⟨("_law_amount", none), "_law_amount", "_law_amount", defArgs s_amount, defBody s_amount, defScope s_amount, [], []⟩,
  ⟨("_law_times", none), "_law_times", "_law_times", defArgs s_times, defBody s_times, defScope s_times, [], []⟩,
  ⟨("_law_links", none), "_law_links", "_law_links", defArgs s_links, defBody s_links, defScope s_links, [], []⟩,
  ⟨("_law_is_whole", none), "_law_is_whole", "_law_is_whole", defArgs s_is_whole, defBody s_is_whole, defScope s_is_whole, [], []⟩,
  ⟨("_law_are_times", none), "_law_are_times", "_law_are_times", defArgs s_L_are_times, defBody s_L_are_times, defScope s_L_are_times, [], []⟩,
  ⟨("_law_keep", none), "_law_keep", "_law_keep", defArgs s_keep, defBody s_keep, defScope s_keep, [], []⟩,
  ⟨("_law_leads", none), "_law_leads", "_law_leads", defArgs s_leads, defBody s_leads, defScope s_leads, [], []⟩,
  ⟨("_law_sum", none), "_law_sum", "_law_sum", defArgs s_sum, defBody s_sum, defScope s_sum, [], []⟩,
  ⟨("_law_bars", none), "_law_bars", "_law_bars", defArgs s_bars, defBody s_bars, defScope s_bars, [], []⟩,
  ⟨("_law_spans", none), "_law_spans", "_law_spans", defArgs s_spans, defBody s_spans, defScope s_spans, [], []⟩,
  ⟨("_law_implies", none), "_law_implies", "_law_implies", defArgs s_implies, defBody s_implies, defScope s_implies, [], []⟩,
  ⟨("_law_path_due", none), "_law_path_due", "_law_path_due", defArgs s_path_due, defBody s_path_due, defScope s_path_due, [], []⟩,
  ⟨("_law_bent", none), "_law_bent", "_law_bent", defArgs s_bent, defBody s_bent, defScope s_bent, [], []⟩,
  ⟨("_law_near", none), "_law_near", "_law_near", defArgs s_near, defBody s_near, defScope s_near, [], []⟩,
  ⟨("_law_shows", none), "_law_shows", "_law_shows", defArgs s_shows, defBody s_shows, defScope s_shows, [], []⟩,
  ⟨("_law_parts", none), "_law_parts", "_law_parts", defArgs s_parts, defBody s_parts, defScope s_parts, [], []⟩,
  ⟨("_law_implied", none), "_law_implied", "_law_implied", defArgs s_L_implied, defBody s_L_implied, defScope s_L_implied, [], []⟩,
  ⟨("_law_due", none), "_law_due", "_law_due", defArgs s_due, defBody s_due, defScope s_due, [], []⟩,
  ⟨("_law_judged", none), "_law_judged", "_law_judged", defArgs s_judged, defBody s_judged, defScope s_judged, [], []⟩,
  ⟨("_law_bad_link", none), "_law_bad_link", "_law_bad_link", defArgs s_bad_link, defBody s_bad_link, defScope s_bad_link, [], []⟩,
  ⟨("_law_greedy", none), "_law_greedy", "_law_greedy", defArgs s_greedy, defBody s_greedy, defScope s_greedy, [], []⟩,
  ⟨("_law_needed", none), "_law_needed", "_law_needed", defArgs s_L_needed, defBody s_L_needed, defScope s_L_needed, [], []⟩,
  ⟨("_law_other", none), "_law_other", "_law_other", defArgs s_other, defBody s_other, defScope s_other, [], []⟩,
  ⟨("_law_compared", none), "_law_compared", "_law_compared", defArgs s_compared, defBody s_compared, defScope s_compared, [], []⟩,
  ⟨("_law_barred", none), "_law_barred", "_law_barred", defArgs s_barred, defBody s_barred, defScope s_barred, [], []⟩,
  ⟨("_law_other_count", none), "_law_other_count", "_law_other_count", defArgs s_other_count, defBody s_other_count, defScope s_other_count, [], []⟩,
  ⟨("law", none), "law", "law", defArgs s_law, defBody s_law, defScope s_law, [], []⟩,
  ⟨("Implied", some "__init__"), "__init__", "Implied.__init__", defArgs s_Implied_init, defBody s_Implied_init, defScope s_Implied_init, [], []⟩,
  ⟨("Unimplied", some "__init__"), "__init__", "Unimplied.__init__", defArgs s_Unimplied_init, defBody s_Unimplied_init, defScope s_Unimplied_init, [], []⟩,
  ⟨("Needed", some "__init__"), "__init__", "Needed.__init__", defArgs s_Needed_init, defBody s_Needed_init, defScope s_Needed_init, [], []⟩,
  ⟨("KeptByAll", some "__init__"), "__init__", "KeptByAll.__init__", defArgs s_KeptByAll_init, defBody s_KeptByAll_init, defScope s_KeptByAll_init, [], []⟩,
  ⟨("PartedAt", some "__init__"), "__init__", "PartedAt.__init__", defArgs s_PartedAt_init, defBody s_PartedAt_init, defScope s_PartedAt_init, [], []⟩]
def iniL : List HeM.IniD := []
def prpL : List He.DefD := []
def tsL : HeM.TabM := ([], [⟨("System", some "__init__"), "__init__", "System.__init__", defArgs s_System_init, defBody s_System_init, defScope s_System_init, [], []⟩])
def exL : List (PySem.W.Frag → Bool) := [fun K => HeM.zB K,
  fun K => eqO (PySem.W.nsIn K cStatics "thirdparty.any") (some none),
  fun K => HeM.oxB K (ga K "BadSystem"),
  fun K => HeM.inB K "BadSystem",
  fun K => HeM.oxB K (ga K "BadTimes"),
  fun K => HeM.inB K "BadTimes",
  fun K => HeM.oxB K (ga K "OtherCount"),
  fun K => HeM.inB K "OtherCount",
  fun K => HeM.oxB K (ga K "NoTimes"),
  fun K => HeM.inB K "NoTimes",
  fun K => eqO (PySem.W.findIn K (.ref (ga K "BadSystem")) "index") (some none),
  fun K => eqO (PySem.W.findIn K (.ref (ga K "BadSystem")) "what") (some none),
  fun K => PySem.W.readsIn K (ga K "DeedError") (.type "type"),
  fun K => eqO (PySem.W.specialIn K (.ref (ga K "DeedError")) "__getattribute__") (some (some (.builtin "type.__getattribute__"))),
  fun K => HeM.valIs (PySem.W.findCls K (.ref (ga K "DeedError")) (.type "type") "__init__") (.builtin "ValueError.__init__"),
  fun K => HeM.xcB K (ga K "BadSystem"),
  fun K => HeM.xcB K (ga K "BadTimes"),
  fun K => HeM.xcB K (ga K "OtherCount"),
  fun K => HeM.xcB K (ga K "NoTimes"),
  fun K => decide (PySem.W.exmOne K (.ref (ga K "BadSystem")) (.ref (ga K "BadSystem")) = some true),
  fun K => decide (PySem.W.exmOne K (.ref (ga K "BadTimes")) (.ref (ga K "BadTimes")) = some true),
  fun K => decide (PySem.W.mroIn K (ga K "System") (.type "object") = some true),
  fun K => eqO (PySem.W.findIn K (.ref (ga K "System")) "__ne__") (some (some (.builtin "object.__ne__"))),
  fun K => (["count", "links"] : List Str).all fun f => eqO (PySem.W.findIn K (.ref (ga K "System")) f) (some none),
  fun K => eqO (PySem.W.findIn K (.ref (ga K "System")) "__class__") (some (some (.builtin "object.__class__"))),
  fun K => (["times"] : List Str).all fun f => eqO (PySem.W.findIn K (.ref (ga K "Kept")) f) (some none),
  fun K => eqO (PySem.W.findIn K (.ref (ga K "Kept")) "__class__") (some (some (.builtin "object.__class__"))),
  fun K => decide (PySem.W.mroIn K (ga K "Kept") (.type "object") = some true),
  fun K => (["path"] : List Str).all fun f => eqO (PySem.W.findIn K (.ref (ga K "Ring")) f) (some none),
  fun K => eqO (PySem.W.findIn K (.ref (ga K "Ring")) "__class__") (some (some (.builtin "object.__class__"))),
  fun K => decide (PySem.W.mroIn K (ga K "Ring") (.type "object") = some true),
  fun K => (["NoneType", "bool", "int", "str", "list", "tuple"] : List String).all fun n => decide (PySem.W.kitOne K (.type n) (.ref (ga K "System")) = some false),
  fun K => (["NoneType", "bool", "int", "str", "list", "tuple"] : List String).all fun n => PySem.W.notFirst K (ga K "System") (.type n),
  fun K => PySem.W.notFirst K (ga K "System") (.ref (ga K "System")),
  fun K => decide (PySem.W.kitOne K (.ref (ga K "System")) (.ref (ga K "System")) = some true),
  fun K => decide (PySem.W.kitOne K (.ref (ga K "Ring")) (.ref (ga K "Ring")) = some true),
  fun K => decide (PySem.W.kitOne K (.ref (ga K "Kept")) (.ref (ga K "Ring")) = some false),
  fun K => eqO (PySem.W.findIn K (.ref (ga K "NoTimes")) "path") (some none),
  fun K => decide (PySem.W.exmOne K (.ref (ga K "NoTimes")) (.ref (ga K "NoTimes")) = some true),
  fun K => decide (PySem.W.kitOne K (.ref (ga K "Kept")) (.ref (ga K "Kept")) = some true),
  fun K => decide (PySem.W.kitOne K (.ref (ga K "Ring")) (.ref (ga K "Kept")) = some false),
  fun K => decide (PySem.W.exmOne K (.ref (ga K "OtherCount")) (.ref (ga K "OtherCount")) = some true),
  fun K => (["path"] : List Str).all fun f => eqO (PySem.W.findIn K (.ref (ga K "Implied")) f) (some none),
  fun K => eqO (PySem.W.findIn K (.ref (ga K "Implied")) "__class__") (some (some (.builtin "object.__class__"))),
  fun K => decide (PySem.W.mroIn K (ga K "Implied") (.type "object") = some true),
  fun K => (["times"] : List Str).all fun f => eqO (PySem.W.findIn K (.ref (ga K "Unimplied")) f) (some none),
  fun K => eqO (PySem.W.findIn K (.ref (ga K "Unimplied")) "__class__") (some (some (.builtin "object.__class__"))),
  fun K => decide (PySem.W.mroIn K (ga K "Unimplied") (.type "object") = some true),
  fun K => (["kept", "dropped"] : List Str).all fun f => eqO (PySem.W.findIn K (.ref (ga K "Needed")) f) (some none),
  fun K => eqO (PySem.W.findIn K (.ref (ga K "Needed")) "__class__") (some (some (.builtin "object.__class__"))),
  fun K => decide (PySem.W.mroIn K (ga K "Needed") (.type "object") = some true),
  fun K => (["paths"] : List Str).all fun f => eqO (PySem.W.findIn K (.ref (ga K "KeptByAll")) f) (some none),
  fun K => eqO (PySem.W.findIn K (.ref (ga K "KeptByAll")) "__class__") (some (some (.builtin "object.__class__"))),
  fun K => decide (PySem.W.mroIn K (ga K "KeptByAll") (.type "object") = some true),
  fun K => (["index", "times"] : List Str).all fun f => eqO (PySem.W.findIn K (.ref (ga K "PartedAt")) f) (some none),
  fun K => eqO (PySem.W.findIn K (.ref (ga K "PartedAt")) "__class__") (some (some (.builtin "object.__class__"))),
  fun K => decide (PySem.W.mroIn K (ga K "PartedAt") (.type "object") = some true),
  fun K => decide (PySem.W.kitOne K (.ref (ga K "Implied")) (.ref (ga K "Implied")) = some true),
  fun K => decide (PySem.W.kitOne K (.ref (ga K "Implied")) (.ref (ga K "Unimplied")) = some false),
  fun K => decide (PySem.W.kitOne K (.ref (ga K "Implied")) (.ref (ga K "Needed")) = some false),
  fun K => decide (PySem.W.kitOne K (.ref (ga K "Implied")) (.ref (ga K "KeptByAll")) = some false),
  fun K => decide (PySem.W.kitOne K (.ref (ga K "Implied")) (.ref (ga K "PartedAt")) = some false),
  fun K => decide (PySem.W.kitOne K (.ref (ga K "Unimplied")) (.ref (ga K "Implied")) = some false),
  fun K => decide (PySem.W.kitOne K (.ref (ga K "Unimplied")) (.ref (ga K "Unimplied")) = some true),
  fun K => decide (PySem.W.kitOne K (.ref (ga K "Unimplied")) (.ref (ga K "Needed")) = some false),
  fun K => decide (PySem.W.kitOne K (.ref (ga K "Unimplied")) (.ref (ga K "KeptByAll")) = some false),
  fun K => decide (PySem.W.kitOne K (.ref (ga K "Unimplied")) (.ref (ga K "PartedAt")) = some false),
  fun K => decide (PySem.W.kitOne K (.ref (ga K "Needed")) (.ref (ga K "Implied")) = some false),
  fun K => decide (PySem.W.kitOne K (.ref (ga K "Needed")) (.ref (ga K "Unimplied")) = some false),
  fun K => decide (PySem.W.kitOne K (.ref (ga K "Needed")) (.ref (ga K "Needed")) = some true),
  fun K => decide (PySem.W.kitOne K (.ref (ga K "Needed")) (.ref (ga K "KeptByAll")) = some false),
  fun K => decide (PySem.W.kitOne K (.ref (ga K "Needed")) (.ref (ga K "PartedAt")) = some false),
  fun K => decide (PySem.W.kitOne K (.ref (ga K "KeptByAll")) (.ref (ga K "Implied")) = some false),
  fun K => decide (PySem.W.kitOne K (.ref (ga K "KeptByAll")) (.ref (ga K "Unimplied")) = some false),
  fun K => decide (PySem.W.kitOne K (.ref (ga K "KeptByAll")) (.ref (ga K "Needed")) = some false),
  fun K => decide (PySem.W.kitOne K (.ref (ga K "KeptByAll")) (.ref (ga K "KeptByAll")) = some true),
  fun K => decide (PySem.W.kitOne K (.ref (ga K "KeptByAll")) (.ref (ga K "PartedAt")) = some false),
  fun K => decide (PySem.W.kitOne K (.ref (ga K "PartedAt")) (.ref (ga K "Implied")) = some false),
  fun K => decide (PySem.W.kitOne K (.ref (ga K "PartedAt")) (.ref (ga K "Unimplied")) = some false),
  fun K => decide (PySem.W.kitOne K (.ref (ga K "PartedAt")) (.ref (ga K "Needed")) = some false),
  fun K => decide (PySem.W.kitOne K (.ref (ga K "PartedAt")) (.ref (ga K "KeptByAll")) = some false),
  fun K => decide (PySem.W.kitOne K (.ref (ga K "PartedAt")) (.ref (ga K "PartedAt")) = some true)]
def exB (K : PySem.W.Frag) : Bool := exL.all fun b => b K
abbrev Rw : PySem.W.OpenRow := PySem.W.OpenLaw.row PySem.Challenge.rw_lastlife_k36_whole_implied_needed_compar
def lawFile : Str := Rw.prog.main.file
abbrev hkM : PySem.W.Hook := HeM.hookM lawFile 5 faL fnL iniL prpL tsL exB
def obM (s : PySem.W.SharedT) : HeM.AlM := HeM.obsMG lawFile 5 faL fnL iniL prpL tsL exB (HandSHeadRun.getT s)
theorem obM_eq (s : PySem.W.SharedT) : obM s = hkM.obs s.abs := HeM.obsMG_eq (HandSHeadRun.getT_eq s)
def looseL : List PySem.Str := (["_wall", "DeedError", "BadSystem", "BadTimes", "OtherCount", "NoTimes", "MOST_INSTANTS", "MOST_LINKS", "is_integer", "is_instant", "are_times", "link_fault", "keeps_link", "System", "are_indexes", "has_joints", "sum_of", "path_fault", "times_fault", "Kept", "Ring", "ring_behind", "settle", "settled_from", "solved", "kept_times", "path_back", "completed", "Implied", "Unimplied"] : List PySem.Str) ++ (["Needed", "KeptByAll", "PartedAt", "check_link", "shown", "implied", "implied_fault", "needed_indexes", "needed", "compare_systems", "_law_bag", "_law_take", "_law_of", "_law_amount", "_law_times", "_law_links", "_law_is_whole", "_law_are_times", "_law_keep", "_law_leads", "_law_sum", "_law_bars", "_law_spans", "_law_implies", "_law_path_due", "_law_bent", "_law_near", "_law_shows", "_law_parts", "_law_implied"] : List PySem.Str) ++ (["_law_due", "_law_judged", "_law_bad_link", "_law_greedy", "_law_needed", "_law_other", "_law_compared", "_law_barred", "_law_other_count"] : List PySem.Str)
theorem runM (w : World) : HandSHeadRun.RunEq Rw (PySem.W.view Rw.prog [75]) hkM obM 12000 looseL w := by
  intro os
  kernel_rfl

end My
set_option Elab.async false
set_option linter.all false
set_option maxRecDepth 100000
set_option maxHeartbeats 1000000
namespace My
open PySem L2 Dw Wp
open C8 (pss_cut tCut)
set_option pp.maxSteps 600
theorem isLT {K : PySem.W.Frag} {H : Hp} {v : V} {n : String} (dm : Dm K H v n) : PySem.W.kitAny K (.type n) [.type "list", .type "tuple"] = some (decide (n = "list") || decide (n = "tuple")) := by
  cases dm <;> first | (exact kitAny_cons (b := false) (kit_ty (by decide +kernel)) (fun _ => kitAny_cons (b := false) (kit_ty (by decide +kernel)) (fun _ => kitAny_nil) (fun h => nomatch h)) (fun h => nomatch h)) | (exact kitAny_cons (b := true) (kit_ty (by decide +kernel)) (fun h => nomatch h) (fun _ => rfl)) | (exact kitAny_cons (b := false) (kit_ty (by decide +kernel)) (fun _ => kitAny_cons (b := true) (kit_ty (by decide +kernel)) (fun h => nomatch h) (fun _ => rfl)) (fun h => nomatch h))
theorem gOr {K : PySem.W.Frag} {n : Nat} {t : TGs} {b : Addr} {xs : List V} {σ : St} {H : Hp} {Q : St → Hp → Prop} (hb : H b = some (.lst xs) ∨ H b = some (.tup xs)) (hl : xs.length = n) (k : t xs σ H Q) : gTup K n t (.ref b) σ H Q ∨ gLst K n t (.ref b) σ H Q :=
  hb.elim (fun h => .inr ⟨b, xs, rfl, SqL.of h, hl, k⟩) fun h => .inl ⟨b, xs, rfl, SqT.of h, hl, k⟩
/-- a row handed in: a list or tuple of plain things, or a plain thing -/
inductive Rd where
  | sq (xs : List V)
  | pl (v : V)
/-- plain -/
def Sr : V → Prop
  | .non => True
  | .bl _ => True
  | .int _ => True
  | .str x => x.length ≤ 1000 ∧ PyData.strOk x = true
  | _ => False
theorem Sr.ok {v : V} (h : Sr v) : okV v = true := by
  cases v with
  | str x => exact h.2
  | _ => first | rfl | exact h.elim
theorem Sr.dm {K : PySem.W.Frag} {H : Hp} {v : V} (h : Sr v) : ∃ n, Dm K H v n ∧ n ≠ "list" ∧ n ≠ "tuple" := by
  cases v with
  | non => exact ⟨_, .non, by decide, by decide⟩
  | bl b => exact ⟨_, .bl b, by decide, by decide⟩
  | int i => exact ⟨_, .int i, by decide, by decide⟩
  | str x => exact ⟨_, .str x (Nat.le_of_lt (small1000 h.1)), by decide, by decide⟩
  | _ => exact h.elim
def RdOk : Rd → Prop
  | .sq xs => xs.length ≤ 6 ∧ ∀ x ∈ xs, Sr x
  | .pl v => Sr v
def RdAt (H : Hp) (v : V) : Rd → Prop
  | .sq xs => ∃ b, v = .ref b ∧ (H b = some (.lst xs) ∨ H b = some (.tup xs))
  | .pl x => v = x
theorem RdAt.same {H H' : Hp} {v : V} {r : Rd} (h : RdAt H v r) (S : Same H H') : RdAt H' v r := by
  cases r with
  | sq xs =>
    obtain ⟨b, e, hb⟩ := h
    exact ⟨b, e, hb.imp (S _ _) (S _ _)⟩
  | pl x => exact h
def isSqR : Rd → Bool
  | .sq _ => true
  | .pl _ => false
theorem isLT_rd {K : PySem.W.Frag} {H : Hp} {v : V} {r : Rd} (h : RdAt H v r) (ok : RdOk r) : ∃ n, Dm K H v n ∧ PySem.W.kitAny K (.type n) [.type "list", .type "tuple"] = some (isSqR r) := by
  cases r with
  | sq xs =>
    obtain ⟨b, rfl, hb | hb⟩ := h
    · exact ⟨_, .lst hb, isLT (K := K) (H := H) (.lst hb)⟩
    · exact ⟨_, .tup hb, isLT (K := K) (H := H) (.tup hb)⟩
  | pl x =>
    obtain rfl : v = x := h
    obtain ⟨n, d, h1, h2⟩ := Sr.dm (K := K) (H := H) (show Sr v from ok)
    refine ⟨n, d, ?_⟩
    rw [isLT d, decide_eq_false h1, decide_eq_false h2]
    rfl

/-! whole numbers, instants -/
def isI : V → Bool
  | .int _ => true
  | _ => false
def isT (c : Int) : V → Bool
  | .int i => decide (0 ≤ i) && decide (i < c)
  | _ => false
def spIsI (K : PySem.W.Frag) : Sp := fun vs H Q _ => ∃ (v : V) (n : String), vs = [v] ∧ Dm K H v n ∧ Q (.bl (isI v)) H
def spInst (K : PySem.W.Frag) : Sp := fun vs H Q _ => ∃ (v : V) (n : String) (c : Int), vs = [v, .int c] ∧ Dm K H v n ∧ Q (.bl (isT c v)) H
section
variable {P : Program} {w : World} {K : PySem.W.Frag} {mg : Str → Option Value} {base : Heap} {cl : String → Addr}
theorem ok_is_integer {f : Addr} {fd : FuncData} (F : Fun K "is_integer" "is_integer" s_is_integer f fd) (T : Txt P w K mg cl) : FnOk P w K mg base CX0 1 f fd ["thing"] (spIsI K) := by
  refine F.ok sc_is_integer (fun vs H Q E h => ?_) (fun cdv A outer s H vs Q E hr h => ?_)
  · obtain ⟨v, n, rfl, _⟩ := h
    rfl
  · obtain ⟨v, n, rfl, d, k⟩ := h
    refine ⟨_, (pss_one (ps_ret (pe_and (pe_callB call_isi (by rfl) T.n_isinstance (by decide +kernel) (pa_cons (pv 0) (pa_cons (pe_ty "int" T.n_int) pa_nil))) (pe_one (pe_not (pe_callB call_isi (by rfl) T.n_isinstance (by decide +kernel) (pa_cons (pv 0) (pa_cons (pe_ty "bool" T.n_bool) pa_nil)))))))), ?_⟩
    cases d with
    | int i =>
      refine ⟨_, rfl, _, _, _, _, _, rfl, .ty "int", .base (.int i), kit_ty (by decide +kernel), true, rfl, iteT ?_⟩
      exact ⟨_, rfl, _, _, _, _, _, rfl, .ty "bool", .base (.int i), kit_ty (by decide +kernel), false, rfl, k⟩
    | bl b =>
      refine ⟨_, rfl, _, _, _, _, _, rfl, .ty "int", .base (.bl b), kit_ty (by decide +kernel), true, rfl, iteT ?_⟩
      exact ⟨_, rfl, _, _, _, _, _, rfl, .ty "bool", .base (.bl b), kit_ty (by decide +kernel), true, rfl, k⟩
    | non => exact ⟨_, rfl, _, _, _, _, _, rfl, .ty "int", .base .non, kit_ty (by decide +kernel), false, rfl, iteF k⟩
    | str x hx => exact ⟨_, rfl, _, _, _, _, _, rfl, .ty "int", .base (.str x), kit_ty (by decide +kernel), false, rfl, iteF k⟩
    | lst e => exact ⟨_, rfl, _, _, _, _, _, rfl, .ty "int", .base (.lst e), kit_ty (by decide +kernel), false, rfl, iteF k⟩
    | tup e => exact ⟨_, rfl, _, _, _, _, _, rfl, .ty "int", .base (.tup e), kit_ty (by decide +kernel), false, rfl, iteF k⟩
theorem cal_is_integer (T : Txt P w K mg cl) : Cal P w K mg base CX0 1 "is_integer" ["thing"] (spIsI K) := by
  obtain ⟨f, fd, F, m⟩ := T.d_is_integer
  exact ⟨f, fd, ok_is_integer F T, m, F.kp, F.binds fun _ _ _ _ _ _ us hl => match us, hl with | [_], _ => rfl⟩
theorem ok_is_whole {f : Addr} {fd : FuncData} (F : Fun K "_law_is_whole" "_law_is_whole" s_is_whole f fd) (T : Txt P w K mg cl) : FnOk P w K mg base CX0 1 f fd ["_law_thing"] (spIsI K) := by
  refine F.ok sc_is_whole (fun vs H Q E h => ?_) (fun cdv A outer s H vs Q E hr h => ?_)
  · obtain ⟨v, n, rfl, _⟩ := h
    rfl
  · obtain ⟨v, n, rfl, d, k⟩ := h
    refine ⟨_, (pss_one (ps_ret (pe_and (pe_callB call_isi (by rfl) T.n_isinstance (by decide +kernel) (pa_cons (pv 0) (pa_cons (pe_ty "int" T.n_int) pa_nil))) (pe_one (pe_not (pe_callB call_isi (by rfl) T.n_isinstance (by decide +kernel) (pa_cons (pv 0) (pa_cons (pe_ty "bool" T.n_bool) pa_nil)))))))), ?_⟩
    cases d with
    | int i =>
      refine ⟨_, rfl, _, _, _, _, _, rfl, .ty "int", .base (.int i), kit_ty (by decide +kernel), true, rfl, iteT ?_⟩
      exact ⟨_, rfl, _, _, _, _, _, rfl, .ty "bool", .base (.int i), kit_ty (by decide +kernel), false, rfl, k⟩
    | bl b =>
      refine ⟨_, rfl, _, _, _, _, _, rfl, .ty "int", .base (.bl b), kit_ty (by decide +kernel), true, rfl, iteT ?_⟩
      exact ⟨_, rfl, _, _, _, _, _, rfl, .ty "bool", .base (.bl b), kit_ty (by decide +kernel), true, rfl, k⟩
    | non => exact ⟨_, rfl, _, _, _, _, _, rfl, .ty "int", .base .non, kit_ty (by decide +kernel), false, rfl, iteF k⟩
    | str x hx => exact ⟨_, rfl, _, _, _, _, _, rfl, .ty "int", .base (.str x), kit_ty (by decide +kernel), false, rfl, iteF k⟩
    | lst e => exact ⟨_, rfl, _, _, _, _, _, rfl, .ty "int", .base (.lst e), kit_ty (by decide +kernel), false, rfl, iteF k⟩
    | tup e => exact ⟨_, rfl, _, _, _, _, _, rfl, .ty "int", .base (.tup e), kit_ty (by decide +kernel), false, rfl, iteF k⟩
theorem cal_is_whole (T : Txt P w K mg cl) : Cal P w K mg base CX0 1 "_law_is_whole" ["_law_thing"] (spIsI K) := by
  obtain ⟨f, fd, F, m⟩ := T.d_is_whole
  exact ⟨f, fd, ok_is_whole F T, m, F.kp, F.binds fun _ _ _ _ _ _ us hl => match us, hl with | [_], _ => rfl⟩
theorem ok_is_instant {f : Addr} {fd : FuncData} (F : Fun K "is_instant" "is_instant" s_is_instant f fd) (T : Txt P w K mg cl) : FnOk P w K mg base CX0 2 f fd ["thing", "count"] (spInst K) := by
  refine F.ok sc_is_instant (fun vs H Q E h => ?_) (fun cdv A outer s H vs Q E hr h => ?_)
  · obtain ⟨v, n, c, rfl, _⟩ := h
    rfl
  · obtain ⟨v, n, c, rfl, d, k⟩ := h
    have C_is_integer : Cal P w K mg base CX0 1 "is_integer" _ (spIsI K) := cal_is_integer T
    refine ⟨_, (pss_one (ps_ret (pe_and (pe_cal C_is_integer (hr.mono (by decide)) (pa_cons (pv 0) pa_nil)) (pe_one (pe_chain op_le op_lt pe_int (pv 0) (pv 1)))))), ?_⟩
    refine ⟨_, rfl, v, n, rfl, d, _, rfl, ?_⟩
    cases d with
    | int i =>
      refine iteT ⟨_, rfl, _, _, rfl, rfl, _, rfl, ?_⟩
      have k : Q (.bl (decide (0 ≤ i) && decide (i < c))) H := k
      refine ite2 (fun h => ?_) (fun h => ?_)
      · rw [h] at k
        exact ⟨_, rfl, _, _, rfl, rfl, k⟩
      · rw [Bool.eq_false_iff.mpr h] at k
        exact k
    | bl b => exact iteF k
    | non => exact iteF k
    | str x hx => exact iteF k
    | lst e => exact iteF k
    | tup e => exact iteF k
theorem cal_is_instant (T : Txt P w K mg cl) : Cal P w K mg base CX0 2 "is_instant" ["thing", "count"] (spInst K) := by
  obtain ⟨f, fd, F, m⟩ := T.d_is_instant
  exact ⟨f, fd, ok_is_instant F T, m, F.kp, F.binds fun _ _ _ _ _ _ us hl => match us, hl with | [_, _], _ => rfl⟩
end
end My
set_option Elab.async false
set_option linter.all false
set_option maxRecDepth 100000
set_option maxHeartbeats 1000000
namespace My
open PySem L2 Dw Wp
open C8 (pss_cut tCut)
set_option pp.maxSteps 600
def optV : Option Str → V
  | some s => .str s
  | none => .non
theorem ixOr {K : PySem.W.Frag} {H : Hp} {b : Addr} {xs : List V} {j : Nat} {v : V} {Q : VK} (hb : H b = some (.lst xs) ∨ H b = some (.tup xs)) (ha : xs[j]? = some v) (q : Q v H) : rIxL K (.ref b) (.int (j : Int)) H Q ∨ rIxT K (.ref b) (.int (j : Int)) H Q :=
  hb.imp (fun h => ⟨b, xs, j, v, rfl, rfl, SqL.of h, atI_nat ha, q⟩) fun h => ⟨b, xs, j, v, rfl, rfl, SqT.of h, atI_nat ha, q⟩
/-! the first word of a link -/
def linkV (c : Int) (xs : List V) : Option Str := if xs.all isI = false then some "link" else if (isT c (xs[0]?.getD .non) && isT c (xs[1]?.getD .non)) = true then none else some "instant"
def linkW (c : Int) : Rd → Option Str
  | .pl _ => some "link"
  | .sq xs => if xs.length = 3 then linkV c xs else some "link"
def oddF (v : V) : Option V := if isI v = true then none else some v
theorem odd_all : ∀ xs : List V, (xs.filterMap oddF).isEmpty = xs.all isI
  | [] => rfl
  | x :: xs => by
    have ih := odd_all xs
    cases h : isI x with
    | true => rw [List.filterMap_cons_none (show oddF x = none from if_pos h), List.all_cons, h, Bool.true_and]; exact ih
    | false => rw [List.filterMap_cons_some (show oddF x = some x from if_neg (by rw [h]; decide)), List.all_cons, h]; rfl
def spLkF (K : PySem.W.Frag) : Sp := fun vs H Q _ => ∃ (v : V) (r : Rd) (c : Int), vs = [v, .int c] ∧ RdAt H v r ∧ RdOk r ∧ ∀ H', Same H H' → Q (optV (linkW c r)) H'
section
variable {P : Program} {w : World} {K : PySem.W.Frag} {mg : Str → Option Value} {base : Heap} {cl : String → Addr}
theorem ok_link_fault {f : Addr} {fd : FuncData} (F : Fun K "link_fault" "link_fault" s_link_fault f fd) (T : Txt P w K mg cl) : FnOk P w K mg base CX0 3 f fd ["link", "count"] (spLkF K) := by
  refine F.ok sc_link_fault (fun vs H Q E h => ?_) (fun cdv A outer s H vs Q E hr h => ?_)
  · obtain ⟨v, r, c, rfl, _⟩ := h
    rfl
  · obtain ⟨v, r, c, rfl, hv, ok, k⟩ := h
    have C_is_integer : Cal P w K mg base CX0 1 "is_integer" _ (spIsI K) := cal_is_integer T
    have C_is_instant : Cal P w K mg base CX0 2 "is_instant" _ (spInst K) := cal_is_instant T
    refine ⟨_, (pss_cons (ps_if (PW.pt (pw_or (pt_not (pt_val (pe_callB call_isiT (by rfl) T.n_isinstance (by decide +kernel) (pa_cons (pv 0) (pa_cons (pe_tup (pa_cons (pe_ty "list" T.n_list) (pa_cons (pe_ty "tuple" T.n_tuple) pa_nil))) pa_nil))))) (pw_or1 (pt_cmpR op_ne (pe_callB call_len_seq (by rfl) T.n_len PySem.boot_len (pa_cons (pv 0) pa_nil)) pe_int (nomark _)))))
          (pss_one (ps_ret pe_str)) pss_nil)
        (pss_cons (ps_if (pt_truth (pe_lc (own := [("part", 2)]) (g := gName 2)  rfl sc_link_fault.nd (pi_seq (pv 0)) (blkOk_by (own := [("part", 2)]) (N := ["link", "count", "part"]) (sc := defScope s_link_fault) (by decide +kernel)) (fun _ _ _ _ _ => pg_name (i := 2) sc_link_fault.nd rfl (Or.inl rfl)) (fun _ _ _ _ _ => pts_one (pt_not (pt_val (pe_cal C_is_integer (hr.mono (by decide)) (pa_cons (pv 2) pa_nil))))) (fun _ _ _ _ _ => (pv 2))) (by intro _; rfl))
          (pss_one (ps_ret pe_str)) pss_nil)
        (pss_cons (ps_if (PW.pt (pw_or (pt_not (pt_val (pe_cal C_is_instant (hr.mono (by decide)) (pa_cons (pe_ix ix_either (pv 0) pe_int (fun _ _ => rfl)) (pa_cons (pv 1) pa_nil))))) (pw_or1 (pt_not (pt_val (pe_cal C_is_instant (hr.mono (by decide)) (pa_cons (pe_ix ix_either (pv 0) pe_int (fun _ _ => rfl)) (pa_cons (pv 1) pa_nil))))))))
          (pss_one (ps_ret pe_str)) pss_nil)
        (pss_one (ps_ret pe_non))))), ?_⟩
    refine ⟨_, rfl, by show 2 ≤ sizeLine; decide, fun tp htp => ?_⟩
    have S0 := sNew (o := .tup [.ty "list", .ty "tuple"]) htp
    obtain ⟨nv, dv, ka⟩ := isLT_rd (K := K) (hv.same S0) ok
    refine ⟨v, tp, _, .type nv, _, _, rfl, upd_same, .cons (.ty "list") (.cons (.ty "tuple") .nil), dv.ty, ka, _, rfl, ?_⟩
    cases r with
    | pl x => exact iteT (iteT (k _ S0))
    | sq xs =>
      refine iteF ?_
      obtain ⟨b, rfl, hb⟩ := hv.same S0
      generalize upd H tp (.tup [.ty "list", .ty "tuple"]) = H1 at S0 hb
      refine ⟨_, rfl, b, xs, rfl, hb.imp SqL.of SqT.of, rfl, _, rfl, ?_⟩
      refine ite2 (fun g => ?_) (fun g => ?_)
      · have k := k _ S0
        have g : ¬ xs.length = 3 := fun e => by rw [e] at g; exact absurd g (by decide)
        rw [show linkW c (.sq xs) = some "link" from if_neg g] at k
        exact k
      have g : xs.length = 3 := by
        simp only [Bool.not_eq_true', decide_eq_false_iff_not, Decidable.not_not] at g
        exact Int.ofNat.inj (V.int.inj g)
      have keep : ∀ {D : Addr} {o : HO}, H1 D = none → upd H1 D o b = H1 b := fun {D o} nD => by
        rcases hb with h | h <;> exact upd_ne (ne_of_none h nD)
      refine ⟨_, rfl, b, xs, rfl, hb, fun J wk D nD => lc_it wk (PvF H1 D xs oddF) rfl (fun i H'' _ q => by rw [q]; exact keep nD) ?_ ?_⟩
      · rintro i x H2 H3 hi rfl ⟨rfl, hx⟩
        obtain ⟨tn, dn, _⟩ := (ok.2 x (List.mem_of_getElem? hx)).dm (K := K) (H := upd H1 D (.lst ((xs.take i).filterMap oddF)))
        refine ⟨rfl, _, rfl, x, tn, rfl, dn, _, rfl, ?_⟩
        refine ite2 (fun h => ?_) (fun h => ?_)
        · exact ⟨_, rfl, fm_put hx (if_neg (by simpa using h)) (small1000 (by have := ok.1; omega))⟩
        · exact fm_skip hx (if_pos (by simpa using h))
      · intro H' q
        obtain rfl := fm_end q
        have S1 := S0.trans (sNew (o := .lst (xs.filterMap oddF)) nD)
        have oa := odd_all xs
        have k := k _ S1
        rw [show linkW c (.sq xs) = linkV c xs from if_pos g] at k
        unfold linkV at k
        refine ⟨_, .inl ⟨_, SqL.of upd_same, rfl⟩, ?_⟩
        rw [oa]
        cases ha : xs.all isI with
        | false =>
          rw [if_pos ha] at k
          exact iteT k
        | true =>
          rw [if_neg (by rw [ha]; decide)] at k
          refine iteF ?_
          obtain ⟨x0, x1, x2, rfl⟩ : ∃ x0 x1 x2, xs = [x0, x1, x2] := by
            match xs, g with
            | [x0, x1, x2], _ => exact ⟨_, _, _, rfl⟩
          have hb2 := hb.imp (sNew (o := .lst ([x0, x1, x2].filterMap oddF)) nD _ _) (sNew (o := .lst ([x0, x1, x2].filterMap oddF)) nD _ _)
          generalize upd H1 D (.lst ([x0, x1, x2].filterMap oddF)) = H2 at hb2 k
          obtain ⟨t0, d0, _⟩ := (ok.2 x0 (by simp)).dm (K := K) (H := H2)
          obtain ⟨t1, d1, _⟩ := (ok.2 x1 (by simp)).dm (K := K) (H := H2)
          have k : Q (optV (if (isT c x0 && isT c x1) = true then (none : Option Str) else some ("instant" : Str))) H2 := k
          refine ⟨_, rfl, ixOr hb2 (j := 0) rfl ?_⟩
          refine ⟨_, rfl, x0, t0, c, rfl, d0, _, rfl, ?_⟩
          cases h0 : isT c x0 with
          | false =>
            rw [h0] at k
            exact iteT k
          | true =>
            rw [h0] at k
            refine iteF ⟨_, rfl, ixOr hb2 (j := 1) rfl ⟨_, rfl, x1, t1, c, rfl, d1, _, rfl, ?_⟩⟩
            cases h1 : isT c x1 with
            | false =>
              rw [h1] at k
              exact iteT k
            | true =>
              rw [h1] at k
              exact iteF k
theorem cal_link_fault (T : Txt P w K mg cl) : Cal P w K mg base CX0 3 "link_fault" ["link", "count"] (spLkF K) := by
  obtain ⟨f, fd, F, m⟩ := T.d_link_fault
  exact ⟨f, fd, ok_link_fault F T, m, F.kp, F.binds fun _ _ _ _ _ _ us hl => match us, hl with | [_, _], _ => rfl⟩
end
end My
set_option Elab.async false
set_option linter.all false
set_option maxRecDepth 100000
set_option maxHeartbeats 1000000
namespace My
open PySem L2 Dw Wp
open C8 (pss_cut tCut)
set_option pp.maxSteps 600
section
variable {P : Program} {w : World} {K : PySem.W.Frag} {mg : Str → Option Value} {base : Heap} {cl : String → Addr}
theorem oki_BadSystem {f : Addr} {fd : FuncData} (F : Fun K "__init__" "BadSystem.__init__" s_BadSystem_init f fd) (T : Txt P w K mg cl) : FnOk P w K mg base CX0 1 f fd ["self", "index", "what"] (spIni (cl "BadSystem") ["index", "what"]) := by
  refine F.ok sc_BadSystem_init (fun vs H Q E h => ?_) (fun cdv A outer s H vs Q E hr h => ?_)
  · obtain ⟨a, us, rfl, hl, _⟩ := h
    rw [List.length_cons, hl]
    rfl
  · obtain ⟨a, us, rfl, hl, ha, h0, k⟩ := h
    match us, hl with
    | [u0, u1], _ =>
      refine ⟨_, (pss_cons (ps_expr (pe_deinit T.cr T.vi T.m_DeedError (pa_cons (pv 0) (pa_cons pe_str pa_nil))))
        (pss_cons (ps_ost (pv 0) (pv 1))
        (pss_one (ps_ost (pv 0) (pv 2))))), ?_⟩
      refine ⟨_, rfl, a, cl "BadSystem", [.str _], rfl, by decide, T.o_BadSystem, ha, ?_⟩
      refine ⟨_, rfl, _, rfl, a, cl "BadSystem", rfl, T.o_BadSystem, T.xf_BadSystem_index, .inl ⟨ha, fun dx nd ne => ?_⟩⟩
      refine ⟨_, rfl, _, rfl, a, cl "BadSystem", rfl, T.o_BadSystem, T.xf_BadSystem_what, .inr ⟨dx, _, upd_same, by rw [upd_ne ne]; exact upd_same, by show 1 ≤ 900; decide, ?_⟩⟩
      exact k dx _ nd ne (fun b o q nb => by rw [upd_ne (ne_of_none q nd), upd_ne nb, upd_ne (ne_of_none q nd)]; exact q) (by rw [upd_ne (Ne.symm ne)]; exact upd_same) upd_same
theorem ini_BadSystem (T : Txt P w K mg cl) : CalO P w K mg base 1 (cl "BadSystem") ["self", "index", "what"] (spIni (cl "BadSystem") ["index", "what"]) := by
  obtain ⟨f, fd, F, h1, h2⟩ := T.i_BadSystem
  exact ⟨T.o_BadSystem, f, fd, oki_BadSystem F T, h1, h2, F.binds fun _ _ _ _ _ _ us hl => match us, hl with | [_, _, _], _ => rfl⟩
theorem oki_BadTimes {f : Addr} {fd : FuncData} (F : Fun K "__init__" "BadTimes.__init__" s_BadTimes_init f fd) (T : Txt P w K mg cl) : FnOk P w K mg base CX0 1 f fd ["self"] (spIni (cl "BadTimes") []) := by
  refine F.ok sc_BadTimes_init (fun vs H Q E h => ?_) (fun cdv A outer s H vs Q E hr h => ?_)
  · obtain ⟨a, us, rfl, hl, _⟩ := h
    rw [List.length_cons, hl]
    rfl
  · obtain ⟨a, us, rfl, hl, ha, h0, k⟩ := h
    match us, hl with
    | [], _ =>
      refine ⟨_, (pss_one (ps_expr (pe_deinit T.cr T.vi T.m_DeedError (pa_cons (pv 0) (pa_cons pe_str pa_nil))))), ?_⟩
      refine ⟨_, rfl, a, cl "BadTimes", [.str _], rfl, by decide, T.o_BadTimes, ha, ?_⟩
      exact h0 rfl
theorem ini_BadTimes (T : Txt P w K mg cl) : CalO P w K mg base 1 (cl "BadTimes") ["self"] (spIni (cl "BadTimes") []) := by
  obtain ⟨f, fd, F, h1, h2⟩ := T.i_BadTimes
  exact ⟨T.o_BadTimes, f, fd, oki_BadTimes F T, h1, h2, F.binds fun _ _ _ _ _ _ us hl => match us, hl with | [_], _ => rfl⟩
end
end My
set_option Elab.async false
set_option linter.all false
set_option maxRecDepth 100000
set_option maxHeartbeats 1000000
namespace My
open PySem L2 Dw Wp
open C8 (pss_cut tCut)
set_option pp.maxSteps 600
/-! a system in the memory -/
abbrev Lk := Int × Int × Int
def lkV (l : Lk) : List V := [.int l.1, .int l.2.1, .int l.2.2]
def lkR (l : Lk) : Rd := .sq (lkV l)
def LkT (H : Hp) (v : V) (l : Lk) : Prop := ∃ b, v = .ref b ∧ H b = some (.tup (lkV l))
def syF (c : Int) (t : Addr) : List (Str × V) := [("count", .int c), ("links", .ref t)]
structure SyAt (C : Addr) (H : Hp) (p : Addr) (c : Int) (t : Addr) (us : List V) (ls : List Lk) : Prop where
  self : ∃ dx, H p = some (.ins C dx (syF c t))
  rows : H t = some (.tup us)
  each : Paired (LkT H) us ls
theorem Paired.impP {α β : Type} {F G : α → β → Prop} (h : ∀ a b, F a b → G a b) : ∀ {xs : List α} {ys : List β}, Paired F xs ys → Paired G xs ys
  | _, _, .nil => .nil
  | _, _, .cons a t => .cons (h _ _ a) (Paired.impP h t)
theorem SyAt.same {C : Addr} {H H' : Hp} {p t : Addr} {c : Int} {us : List V} {ls : List Lk} (h : SyAt C H p c t us ls) (S : Same H H') : SyAt C H' p c t us ls := by
  obtain ⟨⟨dx, h1⟩, h2, h3⟩ := h
  exact ⟨⟨dx, S _ _ h1⟩, S _ _ h2, Paired.impP (fun _ _ ⟨b, q1, q2⟩ => ⟨b, q1, S _ _ q2⟩) h3⟩
/-- the first word of links -/
def linksW (c : Int) : Nat → List Rd → Option (V × Str)
  | _, [] => none
  | i, r :: rs => match linkW c r with
    | some w => some (.int (i : Nat), w)
    | none => linksW c (i + 1) rs
def isCt : V → Bool
  | .int c => decide (1 ≤ c) && decide (c ≤ 12)
  | _ => false
def ctI : V → Int
  | .int c => c
  | _ => 0
def sysW (cv : V) (ro : Option (List Rd)) : Option (V × Str) :=
  if isCt cv = false then some (.non, "count") else match ro with
    | none => some (.non, "links")
    | some rs => if 200 < rs.length then some (.non, "links") else linksW (ctI cv) 0 rs
/-- a thing that is neither list nor tuple -/
def NotLT (K : PySem.W.Frag) (H : Hp) (v : V) : Prop := ∀ H', Same H H' → ∃ t, TyX K H' v t ∧ PySem.W.kitAny K t [.type "list", .type "tuple"] = some false
def LsAt (K : PySem.W.Frag) (H : Hp) (v : V) : Option (List Rd) → Prop
  | some rs => ∃ r ws, v = .ref r ∧ (H r = some (.lst ws) ∨ H r = some (.tup ws)) ∧ Paired (RdAt H) ws rs ∧ (∀ x ∈ rs, RdOk x) ∧ rs.length ≤ 300
  | none => NotLT K H v
theorem LsAt.same {K : PySem.W.Frag} {H H' : Hp} {v : V} {ro : Option (List Rd)} (h : LsAt K H v ro) (S : Same H H') : LsAt K H' v ro := by
  cases ro with
  | none => exact fun H2 S2 => h H2 (S.trans S2)
  | some rs =>
    obtain ⟨r, ws, e, h1, h2, h3, h4⟩ := h
    exact ⟨r, ws, e, h1.imp (S _ _) (S _ _), Paired.impP (fun _ _ q => q.same S) h2, h3, h4⟩
def spSys (K : PySem.W.Frag) (C CB : Addr) : Sp := fun vs H Q E => ∃ (p dx : Addr) (cv lv : V) (n : String) (ro : Option (List Rd)), vs = [.ref p, cv, lv] ∧ H p = some (.ins C dx []) ∧ Dm K H cv n ∧ LsAt K H lv ro ∧
  (∀ i w G e, sysW cv ro = some (i, w) → Same H G → H e = none → E (.ref CB) (some e) (upd G e (.xd [("what", .str w), ("index", i)]))) ∧
  (∀ c ls t us H', cv = .int c → ro = some (ls.map lkR) → sysW cv ro = none → But p H H' → SyAt C H' p c t us ls → Q .non H')
theorem sysW_n {c : Int} (h : (decide (1 ≤ c) && decide (c ≤ 12)) = true) : sysW (.int c) none = some (V.non, ("links" : Str)) := by
  have h : isCt (.int c) = true := h
  unfold sysW
  rw [if_neg (by rw [h]; decide)]
theorem sysW_s {c : Int} {rs : List Rd} (h : (decide (1 ≤ c) && decide (c ≤ 12)) = true) : sysW (.int c) (some rs) = if 200 < rs.length then some (V.non, ("links" : Str)) else linksW c 0 rs := by
  have h : isCt (.int c) = true := h
  unfold sysW
  rw [if_neg (by rw [h]; decide)]
  rfl
/-- an error with its two fields is made and raised -/
theorem raise2 {H H1 : Hp} {C : Addr} {i w : V} {E : XK} (S : Same H H1) (k : ∀ G e, Same H G → H e = none → E (.ref C) (some e) (upd G e (.xd [("what", w), ("index", i)]))) :
    ([i, w] : List V).length ≤ 1000 ∧ ∀ a, H1 a = none → spIni C ["index", "what"] (.ref a :: ([i, w] ++ [])) (upd H1 a (exo a C none)) (fun v H2 => v = .non ∧ ∃ (d : Addr) (fs : List (Str × V)), H2 a = some (exo a C (some d)) ∧ H2 d = some (exd d fs) ∧ H1 d = none ∧ E (.ref C) (some d) (upd (del H2 a) d (.xd fs))) (fun _ _ _ => False) := by
  refine ⟨by show 2 ≤ 1000; decide, fun a na => ⟨a, [i, w], rfl, rfl, upd_same, (fun z => by cases z), fun d H' nd ne kp h1 h2 => ⟨rfl, d, _, h1, h2, ?_, k (del H' a) d (fun b o q => ?_) ?_⟩⟩⟩
  · rw [upd_ne ne] at nd
    exact nd
  · have nb : b ≠ a := ne_of_none (S _ _ q) na
    rw [del_ne nb]
    exact kp b o (by rw [upd_ne nb]; exact S _ _ q) nb
  · rw [upd_ne ne] at nd
    cases q : H d with
    | none => rfl
    | some o => rw [S _ _ q] at nd; cases nd
theorem take_drop_at {α : Type} {xs : List α} {i : Nat} {x : α} (h : xs[i]? = some x) : xs.drop i = x :: xs.drop (i + 1) := by
  obtain ⟨h1, h2⟩ := List.getElem?_eq_some_iff.mp h
  rw [List.drop_eq_getElem_cons h1, h2]
theorem linkW_good {c : Int} {r : Rd} (h : linkW c r = none) : ∃ l : Lk, r = lkR l ∧ (0 ≤ l.1 ∧ l.1 < c) ∧ (0 ≤ l.2.1 ∧ l.2.1 < c) := by
  cases r with
  | pl v => cases h
  | sq xs =>
    have h : (if xs.length = 3 then linkV c xs else some "link") = none := h
    split at h
    · rename_i g
      obtain ⟨x0, x1, x2, rfl⟩ : ∃ x0 x1 x2, xs = [x0, x1, x2] := by
        match xs, g with
        | [x0, x1, x2], _ => exact ⟨_, _, _, rfl⟩
      unfold linkV at h
      split at h
      · cases h
      · rename_i ha
        split at h
        · rename_i hb
          have ha : [x0, x1, x2].all isI = true := by simpa using ha
          simp only [List.all_cons, List.all_nil, Bool.and_true, Bool.and_eq_true] at ha
          obtain ⟨a0, a1, a2⟩ := ha
          obtain ⟨i0, rfl⟩ : ∃ i, x0 = .int i := by cases x0 with
            | int i => exact ⟨i, rfl⟩
            | _ => cases a0
          obtain ⟨i1, rfl⟩ : ∃ i, x1 = .int i := by cases x1 with
            | int i => exact ⟨i, rfl⟩
            | _ => cases a1
          obtain ⟨i2, rfl⟩ : ∃ i, x2 = .int i := by cases x2 with
            | int i => exact ⟨i, rfl⟩
            | _ => cases a2
          have hb : ((decide (0 ≤ i0) && decide (i0 < c)) && (decide (0 ≤ i1) && decide (i1 < c))) = true := hb
          simp only [Bool.and_eq_true, decide_eq_true_eq] at hb
          exact ⟨(i0, i1, i2), rfl, hb.1, hb.2⟩
        · cases h
    · cases h
def LkOk (c : Int) (l : Lk) : Prop := (0 ≤ l.1 ∧ l.1 < c) ∧ (0 ≤ l.2.1 ∧ l.2.1 < c)
theorem linksW_good {c : Int} : ∀ {rs : List Rd} {i : Nat}, linksW c i rs = none → ∃ ls : List Lk, rs = ls.map lkR ∧ ∀ l ∈ ls, LkOk c l
  | [], _, _ => ⟨[], rfl, fun l h => by cases h⟩
  | r :: rs, i, h => by
    have st0 : linksW c i (r :: rs) = (match linkW c r with
      | some w => some (V.int (i : Nat), w)
      | none => linksW c (i + 1) rs) := rfl
    cases e : linkW c r with
    | some w => rw [st0, e] at h; cases h
    | none =>
      rw [st0, e] at h
      have h : linksW c (i + 1) rs = none := h
      obtain ⟨l, e1, hl⟩ := linkW_good e
      rw [e1]
      obtain ⟨ls, e2, hls⟩ := linksW_good h
      exact ⟨l :: ls, by rw [e2]; rfl, fun x hx => by
        rcases List.mem_cons.mp hx with rfl | hx
        · exact hl
        · exact hls x hx⟩
section
variable {P : Program} {w : World} {K : PySem.W.Frag} {mg : Str → Option Value} {base : Heap} {cl : String → Addr}
theorem ok_System_init {f : Addr} {fd : FuncData} (F : HeM.FunV K "__init__" "System.__init__" s_System_init f fd) (T : Txt P w K mg cl) : FnOk P w K mg base (L2.CX P w) 4 f fd ["self", "count", "links"] (spSys K (cl "System") (cl "BadSystem")) := by
  refine HeM.FunV.ok F sc_System_init (fun vs H Q E h => ?_) (fun cdv A outer s H vs Q E hr h => ?_)
  · obtain ⟨p, dx, cv, lv, n, ro, rfl, _⟩ := h
    rfl
  · obtain ⟨p, dx, cv, lv, n, ro, rfl, hp, dc, hl, bad, good⟩ := h
    have C_is_integer : Cal P w K mg base CX0 1 "is_integer" _ (spIsI K) := cal_is_integer T
    have C_link_fault : Cal P w K mg base CX0 3 "link_fault" _ (spLkF K) := cal_link_fault T
    refine ⟨_, (pss_cons (ps_if (PW.pt (pw_or (pt_not (pt_val (pe_cal C_is_integer (hr.mono (by decide)) (pa_cons (pv 1) pa_nil)))) (pw_or1 (pt_not (pt_chain op_le op_le pe_int (pv 1) (pe_gl T.c_MOST_INSTANTS))))))
          (pss_one (ps_raiseO rfl (ini_BadSystem (base := base) T) T.m_BadSystem (hr.mono (by decide)) (takes_of rfl rfl rfl rfl) (by exact (pa_cons pe_non (pa_cons pe_str pa_nil))))) pss_nil)
        (pss_cons (ps_if (PW.pt (pw_or (pt_not (pt_val (pe_callB call_isiT (by rfl) T.n_isinstance (by decide +kernel) (pa_cons (pv 2) (pa_cons (pe_tup (pa_cons (pe_ty "list" T.n_list) (pa_cons (pe_ty "tuple" T.n_tuple) pa_nil))) pa_nil))))) (pw_or1 (pt_cmpR op_gt (pe_callB call_len_seq (by rfl) T.n_len PySem.boot_len (pa_cons (pv 2) pa_nil)) (pe_gl T.c_MOST_LINKS) (nomark _)))))
          (pss_one (ps_raiseO rfl (ini_BadSystem (base := base) T) T.m_BadSystem (hr.mono (by decide)) (takes_of rfl rfl rfl rfl) (by exact (pa_cons pe_non (pa_cons pe_str pa_nil))))) pss_nil)
        (pss_cons (ps_for (passes_of rfl) rfl (pi_enu2 (by rfl) T.n_enumerate (pa_cons (pv 2) pa_nil)) (pg_tup rfl (pgs_cons (pg_name (i := 3) sc_System_init.nd rfl (Or.inl rfl)) (pgs_cons (pg_name (i := 4) sc_System_init.nd rfl (Or.inl rfl)) pgs_nil)))
          (pss_cons (ps_set (i := 5) sc_System_init.nd rfl (Or.inl rfl) (pe_cal C_link_fault (hr.mono (by decide)) (pa_cons (pv 4) (pa_cons (pv 1) pa_nil))))
            (pss_one (ps_if (pt_cmpR op_notN (pv 5) pe_non (nomark _))
              (pss_one (ps_raiseO rfl (ini_BadSystem (base := base) T) T.m_BadSystem (hr.mono (by decide)) (takes_of rfl rfl rfl rfl) (by exact (pa_cons (pv 3) (pa_cons (pv 5) pa_nil))))) pss_nil))))
        (pss_cons (ps_fld (pv 0) (pv 1) rfl)
        (pss_one (ps_fld (pv 0) (pe_callTy call_tuple_of (by rfl) T.n_tuple (by decide +kernel) (pa_cons (pe_lc (own := [("link", 4)]) (g := gName 4) (tt := tYes) rfl sc_System_init.nd (pi_seq (pv 2)) (blkOk_by (own := [("link", 4)]) (N := ["self", "count", "links", "index", "link", "word"]) (sc := defScope s_System_init) (by decide +kernel)) (fun _ _ _ _ _ => pg_name (i := 4) sc_System_init.nd rfl (Or.inl rfl)) (fun _ _ _ _ _ => pts_nil) (fun _ _ _ _ _ => (pe_callTy (call_tuple_ofK (K := K) rfl) (by rfl) T.n_tuple (by decide +kernel) (pa_cons (pv 4) pa_nil)))) pa_nil)) rfl)))))), ?_⟩
    refine ⟨_, rfl, cv, n, rfl, dc, _, rfl, ?_⟩
    have bad0 : ∀ {i : V} {w : Str} {H1 : Hp}, sysW cv ro = some (i, w) → Same H H1 → ∀ G e, Same H G → H e = none → E (.ref (cl "BadSystem")) (some e) (upd G e (.xd [("what", .str w), ("index", i)])) := fun h _ G e S q => bad _ _ G e h S q
    by_cases hc : isCt cv = true
    rotate_left
    · have hs : sysW cv ro = some (V.non, ("count" : Str)) := by
        unfold sysW
        exact if_pos (by simpa using hc)
      have fin := raise2 (C := cl "BadSystem") (E := E) (Same.refl H) (fun G e => bad _ _ G e hs)
      cases dc with
      | int c =>
        have hc : ¬ (decide (1 ≤ c) && decide (c ≤ 12)) = true := hc
        refine iteF ⟨_, rfl, _, _, rfl, rfl, _, rfl, ?_⟩
        refine ite2 (fun h1 => ?_) (fun h1 => ?_)
        · have h2 : decide (c ≤ 12) = false := by
            rw [h1, Bool.true_and] at hc
            exact Bool.eq_false_iff.mpr hc
          refine ⟨_, _, rfl, rfl, _, rfl, ?_⟩
          rw [h2]
          exact iteT fin
        · exact ⟨_, rfl, iteT fin⟩
      | bl b => exact iteT (iteT fin)
      | non => exact iteT (iteT fin)
      | str x hx => exact iteT (iteT fin)
      | lst e => exact iteT (iteT fin)
      | tup e => exact iteT (iteT fin)
    obtain ⟨c, rfl⟩ : ∃ c, cv = .int c := by
      cases cv with
      | int c => exact ⟨c, rfl⟩
      | _ => cases hc
    have hc : (decide (1 ≤ c) && decide (c ≤ 12)) = true := hc
    obtain ⟨c1, c2⟩ := Bool.and_eq_true_iff.mp hc
    cases dc
    refine iteF ⟨_, rfl, _, _, rfl, rfl, _, rfl, ?_⟩
    rw [c1]
    refine iteT ⟨_, _, rfl, rfl, _, rfl, ?_⟩
    rw [c2]
    refine iteF ?_
    refine ⟨_, rfl, by show 2 ≤ sizeLine; decide, fun tp htp => ?_⟩
    have S0 := sNew (o := .tup [.ty "list", .ty "tuple"]) htp
    cases ro with
    | none =>
      obtain ⟨ty, d1, d2⟩ := hl _ S0
      refine ⟨lv, tp, _, ty, _, _, rfl, upd_same, .cons (.ty "list") (.cons (.ty "tuple") .nil), d1, d2, _, rfl, iteT (iteT ?_)⟩
      exact raise2 S0 (fun G e => bad _ _ G e (sysW_n hc))
    | some rs =>
      obtain ⟨r, ws, rfl, hr0, hpw0, _, _⟩ := id hl
      obtain ⟨r', ws', e', hr1, hpw, rok, rl⟩ := hl.same S0
      have er : r = r' := V.ref.inj e'
      subst er
      have ew : ws = ws' := by
        rcases hr0 with h | h <;> rcases hr1 with h' | h' <;> (have h'' := S0 _ _ h; rw [h''] at h'; cases h' <;> rfl)
      subst ew
      have lw := hpw.length
      obtain ⟨ty, d1, d2⟩ : ∃ t, TyX K (upd H tp (.tup [.ty "list", .ty "tuple"])) (.ref r) t ∧ PySem.W.kitAny K t [.type "list", .type "tuple"] = some true := by
        rcases hr1 with h | h
        · exact ⟨_, (Dm.lst h : Dm K _ (.ref r) "list").ty, isLT (.lst h)⟩
        · exact ⟨_, (Dm.tup h : Dm K _ (.ref r) "tuple").ty, isLT (.tup h)⟩
      refine ⟨_, tp, _, ty, _, _, rfl, upd_same, .cons (.ty "list") (.cons (.ty "tuple") .nil), d1, d2, _, rfl, iteF ?_⟩
      refine ⟨_, rfl, r, ws, rfl, hr1.imp SqL.of SqT.of, _, _, rfl, rfl, _, rfl, ?_⟩
      generalize upd H tp (.tup [.ty "list", .ty "tuple"]) = H1 at S0 hr1 hpw d1
      have us := sysW_s (rs := rs) hc
      refine ite2 (fun g => ?_) (fun g => ?_)
      · have g : (200 : Int) < ws.length := of_decide_eq_true g
        rw [if_pos (by omega)] at us
        exact raise2 S0 (fun G e => bad _ _ G e us)
      have g : ¬ (200 : Int) < ws.length := fun z => g (decide_eq_true z)
      rw [if_neg (by omega)] at us
      refine ⟨_, rfl, r, ws, rfl, hr1, fun J wk => for_it wk (fun i σ H' => Same H1 H' ∧ linksW c 0 rs = linksW c i (rs.drop i) ∧ ∃ (v3 v4 v5 : Option V), σ = [some (.ref p), some (.int c), some (.ref r), v3, v4, v5]) ⟨Same.refl _, rfl, _, _, _, rfl⟩ (fun i σ H' _ q => ?_) ?_ ?_⟩
      · rcases hr1 with h | h
        · rw [h, q.1 _ _ h]
        · rw [h, q.1 _ _ h]
      · rintro i xv σ H3 H4 hi ⟨S3, hg, v3, v4, v5, rfl⟩ ⟨Tt, x1, y1, rfl, hT, rfl, e1, e2⟩
        cases e1
        obtain ⟨x, hx, hvx⟩ := Paired.at hpw e2
        have S4 := S3.trans (sNew (o := .tup [.int (i : Nat), y1]) hT)
        refine ⟨Tt, _, rfl, SqT.of upd_same, rfl, _, _, rfl, _, _, rfl, rfl, ?_⟩
        refine ⟨_, rfl, _, rfl, y1, x, c, rfl, hvx.same S4, rok x (List.mem_of_getElem? hx), fun H5 S5 => ?_⟩
        have S6 := S4.trans S5
        rw [take_drop_at hx] at hg
        have st : linksW c i (x :: rs.drop (i + 1)) = (match linkW c x with
          | some w => some (.int (i : Nat), w)
          | none => linksW c (i + 1) (rs.drop (i + 1))) := rfl
        rw [st] at hg
        cases e : linkW c x with
        | some w =>
          rw [e] at hg
          refine ⟨_, rfl, rfl, _, rfl, iteT ⟨_, rfl, _, rfl, ?_⟩⟩
          exact raise2 (S0.trans S6) (fun G e => bad _ _ G e (us.trans hg))
        | none =>
          rw [e] at hg
          exact ⟨_, rfl, rfl, _, rfl, iteF ⟨S6, hg, _, _, _, rfl⟩⟩
      · rintro σ H3 ⟨S3, hg, v3, v4, v5, rfl⟩
        rw [List.drop_of_length_le (Nat.le_of_eq lw.symm)] at hg
        have un : sysW (.int c) (some rs) = none := us.trans hg
        obtain ⟨ls, rfl, lsok⟩ := linksW_good hg
        have S3 := S0.trans S3
        have hw : H r = some (.lst ws) ∨ H r = some (.tup ws) := hr0
        have hself := S3 _ _ hp
        refine ⟨_, rfl, _, rfl, p, _, dx, _, rfl, hself, T.cl_System, T.na_System _ (by decide), (by show 0 < 1000; decide), ?_⟩
        have npr : r ≠ p := by rcases hw with h | h <;> exact ne_of h hp (fun z => nomatch z)
        have ws3 := hw.imp (S3 _ _) (S3 _ _)
        have hw4 : ∀ o, (upd H3 p o) r = some (.lst ws) ∨ (upd H3 p o) r = some (.tup ws) := fun o => ws3.imp (fun h => (upd_ne npr).trans h) fun h => (upd_ne npr).trans h
        have B4 : ∀ o, But p H (upd H3 p o) := fun o b u e n => (upd_ne n).trans (S3 _ _ e)
        have self4 : ∀ o, (upd H3 p o) p = some o := fun o => upd_same
        have hpw4 : ∀ o, Paired (RdAt (upd H3 p o)) ws (ls.map lkR) := fun o => Paired.impP (fun v x h => by
          cases x with
          | sq xs =>
            obtain ⟨b, e, hb⟩ := h
            have nb : b ≠ p := by rcases hb with h | h <;> exact ne_of h hp (fun z => nomatch z)
            exact ⟨b, e, hb.imp (fun h => (upd_ne nb).trans (S3 _ _ h)) fun h => (upd_ne nb).trans (S3 _ _ h)⟩
          | pl x => exact h) hpw0
        refine ⟨_, rfl, r, ws, rfl, hw4 _, fun J wk D hD => lc_it wk (fun i H' => ∃ us, H' D = some (.lst us) ∧ us.length = i ∧ Paired (LkT H') us (ls.take i) ∧ Same (upd H3 p (.ins (cl "System") dx [("count", .int c)])) H') ⟨[], upd_same, rfl, .nil, sNew hD⟩ (fun i H' _ ⟨us, _, _, _, S⟩ => ?_) ?_ ?_⟩
        · rcases hw4 (.ins (cl "System") dx [("count", .int c)]) with h | h
          · exact (S _ _ h).trans h.symm
          · exact (S _ _ h).trans h.symm
        · rintro i v H5 H6 hi ⟨us, hD5, hlen, hp5, S5⟩ ⟨rfl, hv⟩
          obtain ⟨x, hx, hvx⟩ := Paired.at (hpw4 (.ins (cl "System") dx [("count", .int c)])) hv
          rw [List.getElem?_map] at hx
          obtain ⟨l, hl0, rfl⟩ : ∃ l, ls[i]? = some l ∧ lkR l = x := by
            cases e : ls[i]? with
            | none => rw [e] at hx; cases hx
            | some l => rw [e] at hx; exact ⟨l, rfl, Option.some.inj hx⟩
          obtain ⟨b, rfl, hb⟩ := hvx.same S5
          have hlz : us.length < sizeLine := small1000 (by rw [List.length_map] at rl; omega)
          refine ⟨rfl, _, rfl, b, lkV l, rfl, ?_⟩
          rcases hb with hb | hb
          · refine .inl ⟨SqL.of hb, fun q hq => ⟨us, by rw [upd_ne (ne_of_none hD5 hq)]; exact hD5, hlz, us ++ [.ref q], upd_same, by simp [hlen], ?_, fun b' o e => ?_⟩⟩
            · rw [take_snoc hl0]
              have nlD : q ≠ D := Ne.symm (ne_of_none hD5 hq)
              refine Paired.appendP (Paired.impP (fun _ _ ⟨b', e1, e2⟩ => ⟨b', e1, ?_⟩) hp5) (.cons ⟨q, rfl, by rw [upd_ne nlD]; exact upd_same⟩ .nil)
              rw [upd_ne (ne_of e2 hD5 (fun z => nomatch z)), upd_ne (ne_of_none e2 hq)]
              exact e2
            · rw [upd_ne (ne_of_none e hD), upd_ne (ne_of_none (S5 _ _ e) hq)]
              exact S5 _ _ e
          · refine .inr ⟨SqT.of hb, us, hD5, hlz, us ++ [.ref b], upd_same, by simp [hlen], ?_, fun b' o e => ?_⟩
            · rw [take_snoc hl0]
              have nbD : b ≠ D := ne_of hb hD5 (fun z => nomatch z)
              refine Paired.appendP (Paired.impP (fun _ _ ⟨b', e1, e2⟩ => ⟨b', e1, ?_⟩) hp5) (.cons ⟨b, rfl, by rw [upd_ne nbD]; exact hb⟩ .nil)
              rw [upd_ne (ne_of e2 hD5 (fun z => nomatch z))]
              exact e2
            · rw [upd_ne (ne_of_none e hD)]
              exact S5 _ _ e
        · rintro H5 ⟨us, hD5, hlen, hp5, S5⟩
          rw [List.take_of_length_le (by rw [lw, List.length_map]; exact Nat.le_refl _)] at hp5
          refine ⟨D, us, rfl, .inl ⟨SqL.of hD5, fun t ht => ?_⟩⟩
          have hs5 := S5 _ _ (self4 (.ins (cl "System") dx [("count", .int c)]))
          have npt : p ≠ t := ne_of_none hs5 ht
          refine ⟨_, rfl, p, _, dx, _, rfl, (upd_ne npt).trans hs5, T.cl_System, T.na_System _ (by decide), (by show 1 < 1000; decide), ?_⟩
          have stay : ∀ b u, H5 b = some u → b ≠ p → ∀ o, (upd (upd H5 t (.tup us)) p o) b = some u := fun b u e n o => (upd_ne n).trans ((upd_ne (ne_of_none e ht)).trans e)
          exact good c ls t us _ rfl rfl un (fun b u e n => stay _ _ (S5 _ _ (B4 _ _ _ e n)) n _) ⟨⟨dx, upd_same⟩, (upd_ne (Ne.symm npt)).trans upd_same, Paired.impP (fun _ _ ⟨b', e1, e2⟩ => ⟨b', e1, stay _ _ e2 (ne_of e2 hs5 (fun z => nomatch z)) _⟩) hp5⟩
theorem cal_System_init (T : Txt P w K mg cl) : CalC P w K mg base (L2.CX P w) 4 (cl "System") ["self", "count", "links"] (spSys K (cl "System") (cl "BadSystem")) := by
  obtain ⟨f, fd, F, m⟩ := T.i_System
  exact ⟨f, fd, ok_System_init F T, m, HeM.FunV.binds F fun _ _ _ _ _ _ _ us its hl hi => match us, its, hl, hi with | [_, _, _], [_], _, _ => ⟨_, rfl, rfl⟩⟩
end
end My
set_option Elab.async false
set_option linter.all false
set_option maxRecDepth 100000
set_option maxHeartbeats 1000000
namespace My
open PySem L2 Dw Wp
open C8 (pss_cut tCut)
set_option pp.maxSteps 600
/-! whole numbers in a list or tuple; links in a tuple -/
def IsAt (H : Hp) (a : Addr) (ns : List Int) : Prop := H a = some (.lst (ns.map V.int)) ∨ H a = some (.tup (ns.map V.int))
theorem IsAt.same {H H' : Hp} {a : Addr} {ns : List Int} (h : IsAt H a ns) (S : Same H H') : IsAt H' a ns := h.imp (S _ _) (S _ _)
def LsT (H : Hp) (t : Addr) (us : List V) (ls : List Lk) : Prop := H t = some (.tup us) ∧ Paired (LkT H) us ls
theorem LsT.same {H H' : Hp} {t : Addr} {us : List V} {ls : List Lk} (h : LsT H t us ls) (S : Same H H') : LsT H' t us ls := ⟨S _ _ h.1, Paired.impP (fun _ _ ⟨b, q1, q2⟩ => ⟨b, q1, S _ _ q2⟩) h.2⟩
def LsE (H : Hp) (t : Addr) (us : List V) (ls : List Lk) : Prop := (H t = some (.lst us) ∨ H t = some (.tup us)) ∧ Paired (LkT H) us ls
theorem LsE.same {H H' : Hp} {t : Addr} {us : List V} {ls : List Lk} (h : LsE H t us ls) (S : Same H H') : LsE H' t us ls := ⟨h.1.imp (S _ _) (S _ _), Paired.impP (fun _ _ ⟨b, q1, q2⟩ => ⟨b, q1, S _ _ q2⟩) h.2⟩
theorem LsT.e {H : Hp} {t : Addr} {us : List V} {ls : List Lk} (h : LsT H t us ls) : LsE H t us ls := ⟨.inr h.1, h.2⟩
theorem seqEq {H H' : Hp} {t : Addr} {us : List V} (S : Same H H') (h : H t = some (.lst us) ∨ H t = some (.tup us)) : H' t = H t := by
  rcases h with h | h
  · rw [h]; exact S _ _ h
  · rw [h]; exact S _ _ h
theorem is_at {ns : List Int} {j : Nat} {x : Int} (h : ns[j]? = some x) : (ns.map V.int)[j]? = some (.int x) := by rw [List.getElem?_map, h]; rfl
def spKeep : Sp := fun vs H Q _ => ∃ (a b : Addr) (ns : List Int) (i j : Nat) (x y m : Int), vs = [.ref a, .ref b] ∧ IsAt H a ns ∧ H b = some (.tup (lkV ((i : Int), (j : Int), m))) ∧ ns[i]? = some x ∧ ns[j]? = some y ∧ Q (.bl (decide (x - y ≤ m))) H
section
variable {P : Program} {w : World} {K : PySem.W.Frag} {mg : Str → Option Value} {base : Heap} {cl : String → Addr}
theorem ok_keeps_link {f : Addr} {fd : FuncData} (F : Fun K "keeps_link" "keeps_link" s_keeps_link f fd) (T : Txt P w K mg cl) : FnOk P w K mg base CX0 1 f fd ["times", "link"] spKeep := by
  refine F.ok sc_keeps_link (fun vs H Q E h => ?_) (fun cdv A outer s H vs Q E hr h => ?_)
  · obtain ⟨a, b, ns, i, j, x, y, m, rfl, _⟩ := h
    rfl
  · obtain ⟨a, b, ns, i, j, x, y, m, rfl, ha, hb, hx, hy, k⟩ := h
    refine ⟨_, (pss_cons (ps_asg (pv 1) (pg_tup rfl (pgs_cons (pg_name (i := 2) sc_keeps_link.nd rfl (Or.inl rfl)) (pgs_cons (pg_name (i := 3) sc_keeps_link.nd rfl (Or.inl rfl)) (pgs_cons (pg_name (i := 4) sc_keeps_link.nd rfl (Or.inl rfl)) pgs_nil)))))
        (pss_one (ps_ret (pe_cmpR op_le (pe_op op_sub (pe_ix ix_either (pv 0) (pv 2) (fun _ _ => rfl)) (pe_ix ix_either (pv 0) (pv 3) (fun _ _ => rfl))) (pv 4) (nomark _))))), ?_⟩
    refine ⟨_, rfl, b, _, rfl, SqT.of hb, rfl, _, _, rfl, _, _, rfl, _, _, rfl, rfl, ?_⟩
    refine ⟨_, rfl, _, rfl, ixOr ha (j := i) (is_at hx) ⟨_, rfl, _, rfl, ixOr ha (j := j) (is_at hy) ⟨_, _, rfl, rfl, _, rfl, _, _, rfl, rfl, k⟩⟩⟩
theorem cal_keeps_link (T : Txt P w K mg cl) : Cal P w K mg base CX0 1 "keeps_link" ["times", "link"] (spKeep) := by
  obtain ⟨f, fd, F, m⟩ := T.d_keeps_link
  exact ⟨f, fd, ok_keeps_link F T, m, F.kp, F.binds fun _ _ _ _ _ _ us hl => match us, hl with | [_, _], _ => rfl⟩
end
end My
set_option Elab.async false
set_option linter.all false
set_option maxRecDepth 100000
set_option maxHeartbeats 1000000
namespace My
open PySem L2 Dw Wp
open C8 (pss_cut tCut)
set_option pp.maxSteps 600
def isIx (n : Nat) (i : Int) : Bool := decide (0 ≤ i) && decide (i < (n : Int))
def ixF (n : Nat) : V → Option V
  | .int i => if isIx n i = true then none else some (.int i)
  | _ => none
theorem ix_all (n : Nat) : ∀ is : List Int, ((is.map V.int).filterMap (ixF n)).isEmpty = is.all (isIx n)
  | [] => rfl
  | i :: is => by
    have ih := ix_all n is
    rw [List.map_cons]
    cases h : isIx n i with
    | true => rw [List.filterMap_cons_none (show ixF n (.int i) = none from if_pos h), List.all_cons, h, Bool.true_and]; exact ih
    | false => rw [List.filterMap_cons_some (show ixF n (.int i) = some (.int i) from if_neg (by rw [h]; decide)), List.all_cons, h]; rfl
def spAre : Sp := fun vs H Q _ => ∃ (t a : Addr) (us : List V) (ls : List Lk) (is : List Int), vs = [.ref t, .ref a] ∧ LsT H t us ls ∧ ls.length ≤ 900 ∧ IsAt H a is ∧ is.length ≤ 900 ∧ ∀ H', Same H H' → Q (.bl (is.all (isIx ls.length))) H'
def sumO (ls : List Lk) (is : List Nat) : Int := (is.map fun i => (ls[i]?.map fun l => l.2.2).getD 0).sum
def spSum : Sp := fun vs H Q _ => ∃ (t a : Addr) (us : List V) (ls : List Lk) (is : List Nat), vs = [.ref t, .ref a] ∧ LsT H t us ls ∧ IsAt H a (is.map fun (i : Nat) => (i : Int)) ∧ is.length ≤ 900 ∧ (∀ i ∈ is, i < ls.length) ∧ ∀ H', Same H H' → Q (.int (sumO ls is)) H'
section
variable {P : Program} {w : World} {K : PySem.W.Frag} {mg : Str → Option Value} {base : Heap} {cl : String → Addr}
theorem ok_are_indexes {f : Addr} {fd : FuncData} (F : Fun K "are_indexes" "are_indexes" s_are_indexes f fd) (T : Txt P w K mg cl) : FnOk P w K mg base CX0 2 f fd ["links", "path"] spAre := by
  refine F.ok sc_are_indexes (fun vs H Q E h => ?_) (fun cdv A outer s H vs Q E hr h => ?_)
  · obtain ⟨t, a, us, ls, is, rfl, _⟩ := h
    rfl
  · obtain ⟨t, a, us, ls, is, rfl, hL, ln, ha, le, k⟩ := h
    have C_is_integer : Cal P w K mg base CX0 1 "is_integer" _ (spIsI K) := cal_is_integer T
    refine ⟨_, (pss_one (ps_ret (pe_notT (pe_lc (own := [("index", 2)]) (g := gName 2)  rfl sc_are_indexes.nd (pi_seq (pv 1)) (blkOk_by (own := [("index", 2)]) (N := ["links", "path", "index"]) (sc := defScope s_are_indexes) (by decide +kernel)) (fun _ _ _ _ _ => pg_name (i := 2) sc_are_indexes.nd rfl (Or.inl rfl)) (fun _ _ _ _ _ => pts_one (PW.pt (pw_or (pt_not (pt_val (pe_cal C_is_integer (hr.mono (by decide)) (pa_cons (pv 2) pa_nil)))) (pw_or1 (pt_not (pt_chain op_le op_lt pe_int (pv 2) (pe_callB (call_len_seqK (K := K) rfl) (by rfl) T.n_len PySem.boot_len (pa_cons (pv 0) pa_nil)))))))) (fun _ _ _ _ _ => (pv 2)))))), ?_⟩
    have keep : ∀ {D : Addr} {o : HO}, H D = none → upd H D o a = H a := fun {D o} nD => by
      rcases ha with h | h <;> exact upd_ne (ne_of_none h nD)
    have lu := hL.2.length
    refine ⟨_, rfl, a, is.map V.int, rfl, ha, fun J wk D nD => lc_it wk (PvF H D (is.map V.int) (ixF ls.length)) rfl (fun i H'' _ q => by rw [q]; exact keep nD) ?_ ?_⟩
    · rintro j x H2 H3 hi rfl ⟨rfl, hx⟩
      rw [List.getElem?_map] at hx
      obtain ⟨i, hi2, rfl⟩ : ∃ i, is[j]? = some i ∧ V.int i = x := by
        cases e : is[j]? with
        | none => rw [e] at hx; cases hx
        | some i => rw [e] at hx; exact ⟨i, rfl, Option.some.inj hx⟩
      have hx2 : (is.map V.int)[j]? = some (.int i) := is_at hi2
      have hz : (is.map V.int).length < sizeLine := small1000 (by rw [List.length_map]; omega)
      have hL := hL.same (sNew (o := .lst (((is.map V.int).take j).filterMap (ixF ls.length))) nD)
      refine ⟨rfl, _, rfl, _, _, rfl, (.int i : Dm K _ (.int i) "int"), _, rfl, iteF ?_⟩
      refine ⟨_, rfl, _, _, rfl, rfl, _, rfl, ?_⟩
      refine ite2 (fun h1 => ?_) (fun h1 => ?_)
      · refine ⟨_, rfl, t, us, rfl, .inr (SqT.of hL.1), _, _, rfl, rfl, _, rfl, ?_⟩
        rw [lu]
        cases h2 : decide (i < (ls.length : Int)) with
        | true => exact iteF (fm_skip hx2 (show (if isIx ls.length i = true then none else some (V.int i)) = none from if_pos (by unfold isIx; rw [h1, h2]; rfl)))
        | false => exact iteT ⟨_, rfl, fm_put hx2 (show (if isIx ls.length i = true then none else some (V.int i)) = some (V.int i) from if_neg (by unfold isIx; rw [h1, h2]; decide)) hz⟩
      · exact ⟨_, rfl, iteT ⟨_, rfl, fm_put hx2 (show (if isIx ls.length i = true then none else some (V.int i)) = some (V.int i) from if_neg (by unfold isIx; rw [Bool.eq_false_iff.mpr h1]; simp)) hz⟩⟩
    · intro H' q
      obtain rfl := fm_end q
      have k := k _ (sNew (o := .lst ((is.map V.int).filterMap (ixF ls.length))) nD)
      rw [← ix_all] at k
      refine ⟨_, .inl ⟨_, SqL.of upd_same, rfl⟩, ?_⟩
      rw [Bool.not_not]
      exact k
theorem cal_are_indexes (T : Txt P w K mg cl) : Cal P w K mg base CX0 2 "are_indexes" ["links", "path"] (spAre) := by
  obtain ⟨f, fd, F, m⟩ := T.d_are_indexes
  exact ⟨f, fd, ok_are_indexes F T, m, F.kp, F.binds fun _ _ _ _ _ _ us hl => match us, hl with | [_, _], _ => rfl⟩
theorem ok_sum_of {f : Addr} {fd : FuncData} (F : Fun K "sum_of" "sum_of" s_sum_of f fd) (T : Txt P w K mg cl) : FnOk P w K mg base CX0 1 f fd ["links", "path"] spSum := by
  refine F.ok sc_sum_of (fun vs H Q E h => ?_) (fun cdv A outer s H vs Q E hr h => ?_)
  · obtain ⟨t, a, us, ls, is, rfl, _⟩ := h
    rfl
  · obtain ⟨t, a, us, ls, is, rfl, hL, ha, le, hix, k⟩ := h
    refine ⟨_, (pss_one (ps_ret (pe_callB (cr_sum rfl) (by rfl) T.n_sum (by decide +kernel) (pa_cons (pe_lc (own := [("index", 2)]) (g := gName 2) (tt := tYes) rfl sc_sum_of.nd (pi_seq (pv 1)) (blkOk_by (own := [("index", 2)]) (N := ["links", "path", "index"]) (sc := defScope s_sum_of) (by decide +kernel)) (fun _ _ _ _ _ => pg_name (i := 2) sc_sum_of.nd rfl (Or.inl rfl)) (fun _ _ _ _ _ => pts_nil) (fun _ _ _ _ _ => (pe_ix (ix_tupK (K := K) rfl) (pe_ix (ix_tupK (K := K) rfl) (pv 0) (pv 2) (fun _ _ => rfl)) pe_int (fun _ _ => rfl)))) pa_nil)))), ?_⟩
    have keep : ∀ {D : Addr} {o : HO}, H D = none → upd H D o a = H a := fun {D o} nD => by
      rcases ha with h | h <;> exact upd_ne (ne_of_none h nD)
    let g : Nat → Int := fun i => (ls[i]?.map fun l => l.2.2).getD 0
    refine ⟨_, rfl, a, (is.map fun (i : Nat) => (i : Int)).map V.int, rfl, ha, fun J wk D nD => lc_it wk (fun j H' => H' = upd H D (.lst (((is.take j).map g).map V.int))) rfl (fun i H'' _ q => by rw [q]; exact keep nD) ?_ ?_⟩
    · rintro j x H2 H3 hi rfl ⟨rfl, hx⟩
      rw [List.getElem?_map, List.getElem?_map] at hx
      obtain ⟨i, hi2, rfl⟩ : ∃ i, is[j]? = some i ∧ V.int (i : Nat) = x := by
        cases e : is[j]? with
        | none => rw [e] at hx; cases hx
        | some i => rw [e] at hx; exact ⟨i, rfl, Option.some.inj hx⟩
      have hl := hix i (List.mem_of_getElem? hi2)
      have hL := hL.same (sNew (o := .lst (((is.take j).map g).map V.int)) nD)
      obtain ⟨v, hv, b, rfl, hb⟩ := Paired.at' (i := i) (y := ls[i]) hL.2 (List.getElem?_eq_getElem hl)
      refine ⟨rfl, _, rfl, _, rfl, t, _, _, _, rfl, rfl, SqT.of hL.1, atI_nat hv, b, _, _, _, rfl, rfl, SqT.of hb, atI_nat (j := 2) rfl, ?_⟩
      refine ⟨_, upd_same, small1000 (by rw [List.length_map, List.length_map, List.length_take]; omega), ?_⟩
      rw [upd_upd, take_snoc hi2, List.map_append, List.map_append]
      show _ = upd H D (.lst (_ ++ [V.int (g i)]))
      rw [show g i = ls[i].2.2 by show (ls[i]?.map fun l => l.2.2).getD 0 = _; rw [List.getElem?_eq_getElem hl]; rfl]
    · intro H' q
      rw [List.length_map, List.length_map, List.take_length] at q
      subst q
      exact ⟨D, is.map g, rfl, SqL.of upd_same, k _ (sNew nD)⟩
theorem cal_sum_of (T : Txt P w K mg cl) : Cal P w K mg base CX0 1 "sum_of" ["links", "path"] (spSum) := by
  obtain ⟨f, fd, F, m⟩ := T.d_sum_of
  exact ⟨f, fd, ok_sum_of F T, m, F.kp, F.binds fun _ _ _ _ _ _ us hl => match us, hl with | [_, _], _ => rfl⟩
end
end My
set_option Elab.async false
set_option linter.all false
set_option maxRecDepth 100000
set_option maxHeartbeats 1000000
namespace My
open PySem L2 Dw Wp
open C8 (pss_cut tCut)
set_option pp.maxSteps 600
/-- a maker without a field -/
def spIni0 (C : Addr) : Sp := fun vs H Q _ => ∃ a : Addr, vs = [.ref a] ∧ H a = some (exo a C none) ∧ Q .non H
/-- a thing handed in as times -/
def TsAt (K : PySem.W.Frag) (H : Hp) (v : V) : Option (List V) → Prop
  | some xs => ∃ r, v = .ref r ∧ (H r = some (.lst xs) ∨ H r = some (.tup xs)) ∧ (∀ x ∈ xs, ∃ n, Dm K H x n) ∧ xs.length ≤ 900
  | none => NotLT K H v
theorem TsAt.same {K : PySem.W.Frag} {H H' : Hp} {v : V} {to : Option (List V)} (h : TsAt K H v to) (S : Same H H') : TsAt K H' v to := by
  cases to with
  | none => exact fun H2 S2 => h H2 (S.trans S2)
  | some xs =>
    obtain ⟨r, e, h1, h2, h3⟩ := h
    exact ⟨r, e, h1.imp (S _ _) (S _ _), fun x hx => (h2 x hx).imp fun n d => d.same S, h3⟩
def tmsB (c : Int) : Option (List V) → Bool
  | none => false
  | some xs => decide ((xs.length : Int) = c) && xs.all isI
def spTms (K : PySem.W.Frag) : Sp := fun vs H Q _ => ∃ (v : V) (to : Option (List V)) (c : Int), vs = [v, .int c] ∧ TsAt K H v to ∧ ∀ H', Same H H' → Q (.bl (tmsB c to)) H'
section
variable {P : Program} {w : World} {K : PySem.W.Frag} {mg : Str → Option Value} {base : Heap} {cl : String → Addr}
theorem oki0_BadTimes {f : Addr} {fd : FuncData} (F : Fun K "__init__" "BadTimes.__init__" s_BadTimes_init f fd) (T : Txt P w K mg cl) : FnOk P w K mg base CX0 1 f fd ["self"] (spIni0 (cl "BadTimes")) := by
  refine F.ok sc_BadTimes_init (fun vs H Q E h => ?_) (fun cdv A outer s H vs Q E hr h => ?_)
  · obtain ⟨a, rfl, _⟩ := h
    rfl
  · obtain ⟨a, rfl, ha, k⟩ := h
    refine ⟨_, (pss_one (ps_expr (pe_deinit T.cr T.vi T.m_DeedError (pa_cons (pv 0) (pa_cons pe_str pa_nil))))), ?_⟩
    exact ⟨_, rfl, a, cl "BadTimes", [.str _], rfl, by decide, T.o_BadTimes, ha, k⟩
theorem ini0_BadTimes (T : Txt P w K mg cl) : CalO P w K mg base 1 (cl "BadTimes") ["self"] (spIni0 (cl "BadTimes")) := by
  obtain ⟨f, fd, F, h1, h2⟩ := T.i_BadTimes
  exact ⟨T.o_BadTimes, f, fd, oki0_BadTimes F T, h1, h2, F.binds fun _ _ _ _ _ _ us hl => match us, hl with | [_], _ => rfl⟩
theorem ok_are_times {f : Addr} {fd : FuncData} (F : Fun K "are_times" "are_times" s_are_times f fd) (T : Txt P w K mg cl) : FnOk P w K mg base CX0 2 f fd ["thing", "count"] (spTms K) := by
  refine F.ok sc_are_times (fun vs H Q E h => ?_) (fun cdv A outer s H vs Q E hr h => ?_)
  · obtain ⟨v, to, c, rfl, _⟩ := h
    rfl
  · obtain ⟨v, to, c, rfl, hv, k⟩ := h
    have C_is_integer : Cal P w K mg base CX0 1 "is_integer" _ (spIsI K) := cal_is_integer T
    refine ⟨_, (pss_cons (ps_if (PW.pt (pw_or (pt_not (pt_val (pe_callB call_isiT (by rfl) T.n_isinstance (by decide +kernel) (pa_cons (pv 0) (pa_cons (pe_tup (pa_cons (pe_ty "list" T.n_list) (pa_cons (pe_ty "tuple" T.n_tuple) pa_nil))) pa_nil))))) (pw_or1 (pt_cmpR op_ne (pe_callB call_len_seq (by rfl) T.n_len PySem.boot_len (pa_cons (pv 0) pa_nil)) (pv 1) (nomark _)))))
          (pss_one (ps_ret pe_bl)) pss_nil)
        (pss_one (ps_ret (pe_notT (pe_lc (own := [("time", 2)]) (g := gName 2)  rfl sc_are_times.nd (pi_seq (pv 0)) (blkOk_by (own := [("time", 2)]) (N := ["thing", "count", "time"]) (sc := defScope s_are_times) (by decide +kernel)) (fun _ _ _ _ _ => pg_name (i := 2) sc_are_times.nd rfl (Or.inl rfl)) (fun _ _ _ _ _ => pts_one (pt_not (pt_val (pe_cal C_is_integer (hr.mono (by decide)) (pa_cons (pv 2) pa_nil))))) (fun _ _ _ _ _ => (pv 2))))))), ?_⟩
    refine ⟨_, rfl, by show 2 ≤ sizeLine; decide, fun tp htp => ?_⟩
    have S0 := sNew (o := .tup [.ty "list", .ty "tuple"]) htp
    cases to with
    | none =>
      obtain ⟨ty, d1, d2⟩ := hv _ S0
      exact ⟨v, tp, _, ty, _, _, rfl, upd_same, .cons (.ty "list") (.cons (.ty "tuple") .nil), d1, d2, _, rfl, iteT (iteT (k _ S0))⟩
    | some xs =>
      obtain ⟨r, rfl, hb, dm, le⟩ := hv.same S0
      obtain ⟨ty, d1, d2⟩ : ∃ t, TyX K (upd H tp (.tup [.ty "list", .ty "tuple"])) (.ref r) t ∧ PySem.W.kitAny K t [.type "list", .type "tuple"] = some true := by
        rcases hb with h | h
        · exact ⟨_, (Dm.lst h : Dm K _ (.ref r) "list").ty, isLT (.lst h)⟩
        · exact ⟨_, (Dm.tup h : Dm K _ (.ref r) "tuple").ty, isLT (.tup h)⟩
      refine ⟨_, tp, _, ty, _, _, rfl, upd_same, .cons (.ty "list") (.cons (.ty "tuple") .nil), d1, d2, _, rfl, iteF ?_⟩
      generalize upd H tp (.tup [.ty "list", .ty "tuple"]) = H1 at S0 hb dm d1
      refine ⟨_, rfl, r, xs, rfl, hb.imp SqL.of SqT.of, _, rfl, rfl, _, rfl, ?_⟩
      have e0 : tmsB c (some xs) = (decide ((xs.length : Int) = c) && xs.all isI) := rfl
      rw [e0] at k
      refine ite2 (fun g => ?_) (fun g => ?_)
      · have g : ¬ (xs.length : Int) = c := fun e => by rw [e] at g; simp at g
        rw [decide_eq_false g] at k
        exact k _ S0
      have g : (xs.length : Int) = c := by
        simp only [Bool.not_eq_true', decide_eq_false_iff_not, Decidable.not_not] at g
        exact V.int.inj g
      rw [decide_eq_true g, Bool.true_and] at k
      have keep : ∀ {D : Addr} {o : HO}, H1 D = none → upd H1 D o r = H1 r := fun {D o} nD => by
        rcases hb with h | h <;> exact upd_ne (ne_of_none h nD)
      refine ⟨_, rfl, r, xs, rfl, hb, fun J wk D nD => lc_it wk (PvF H1 D xs oddF) rfl (fun i H'' _ q => by rw [q]; exact keep nD) ?_ ?_⟩
      · rintro i x H2 H3 hi rfl ⟨rfl, hx⟩
        obtain ⟨tn, dn⟩ := dm x (List.mem_of_getElem? hx)
        refine ⟨rfl, _, rfl, x, tn, rfl, dn.same (sNew nD), _, rfl, ?_⟩
        refine ite2 (fun h => ?_) (fun h => ?_)
        · exact ⟨_, rfl, fm_put hx (if_neg (by simpa using h)) (small1000 (by omega))⟩
        · exact fm_skip hx (if_pos (by simpa using h))
      · intro H' q
        obtain rfl := fm_end q
        have k := k _ (S0.trans (sNew (o := .lst (xs.filterMap oddF)) nD))
        rw [← odd_all] at k
        refine ⟨_, .inl ⟨_, SqL.of upd_same, rfl⟩, ?_⟩
        rw [Bool.not_not]
        exact k
theorem cal_are_times (T : Txt P w K mg cl) : Cal P w K mg base CX0 2 "are_times" ["thing", "count"] (spTms K) := by
  obtain ⟨f, fd, F, m⟩ := T.d_are_times
  exact ⟨f, fd, ok_are_times F T, m, F.kp, F.binds fun _ _ _ _ _ _ us hl => match us, hl with | [_, _], _ => rfl⟩
end
end My
set_option Elab.async false
set_option linter.all false
set_option maxRecDepth 100000
set_option maxHeartbeats 1000000
namespace My
open PySem L2 Dw Wp
open C8 (pss_cut tCut)
set_option pp.maxSteps 600
theorem same_upd {H H' : Hp} {a : Addr} {o : HO} (S : Same H H') (h : H a = none) : Same H (upd H' a o) := fun b u e => by rw [upd_ne (ne_of_none e h)]; exact S _ _ e
def keepB (ts : List Int) (l : Lk) : Bool := decide ((ts[l.1.toNat]?.getD 0) - (ts[l.2.1.toNat]?.getD 0) ≤ l.2.2)
def brkTo (ls : List Lk) (ts : List Int) (n : Nat) : List Nat := (List.range n).filter fun i => !((ls[i]?.map (keepB ts)).getD true)
theorem brkTo_succ {ls : List Lk} {ts : List Int} {i : Nat} {l : Lk} (h : ls[i]? = some l) : brkTo ls ts (i + 1) = brkTo ls ts i ++ (if keepB ts l = true then [] else [i]) := by
  unfold brkTo
  rw [List.range_succ, List.filter_append]
  congr 1
  cases e : keepB ts l <;> simp [h, e]
def brk (ls : List Lk) (ts : List Int) : List Nat := brkTo ls ts ls.length
def spBrk (K : PySem.W.Frag) (C CT : Addr) : Sp := fun vs H Q E => ∃ (p t : Addr) (c : Int) (us : List V) (ls : List Lk) (v : V) (to : Option (List V)), vs = [.ref p, v] ∧ SyAt C H p c t us ls ∧ (∀ l ∈ ls, LkOk c l) ∧ ls.length ≤ 900 ∧ TsAt K H v to ∧
  (tmsB c to = false → ∀ G, Same H G → E (.ref CT) none G) ∧
  (∀ ts : List Int, to = some (ts.map V.int) → (ts.length : Int) = c → ∀ t' H', Same H H' → H' t' = some (.tup ((brk ls ts).map fun (i : Nat) => V.int i)) → Q (.ref t') H')
theorem tms_ints {c : Int} {to : Option (List V)} (h : tmsB c to = true) : ∃ ts : List Int, to = some (ts.map V.int) ∧ (ts.length : Int) = c := by
  cases to with
  | none => cases h
  | some xs =>
    have h : (decide ((xs.length : Int) = c) && xs.all isI) = true := h
    obtain ⟨h1, h2⟩ := Bool.and_eq_true_iff.mp h
    have go : ∀ xs : List V, xs.all isI = true → ∃ ts : List Int, xs = ts.map V.int := fun xs => by
      induction xs with
      | nil => exact fun _ => ⟨[], rfl⟩
      | cons x xs ih =>
        intro h
        rw [List.all_cons] at h
        obtain ⟨a, b⟩ := Bool.and_eq_true_iff.mp h
        obtain ⟨ts, e⟩ := ih b
        cases x with
        | int i => exact ⟨i :: ts, by rw [e]; rfl⟩
        | _ => cases a
    obtain ⟨ts, rfl⟩ := go xs h2
    refine ⟨ts, rfl, ?_⟩
    have := of_decide_eq_true h1
    rw [List.length_map] at this
    exact this
theorem raise0 {H H1 H0 : Hp} {C : Addr} {E : XK} {X : Cx} (S : Same H H1) (e0 : X.H_0 = H) (R : Raises X (.ref C)) (k : ∀ G, Same H G → E (.ref C) none G) :
    ([] : List V).length ≤ 1000 ∧ ∀ a, H1 a = none → spIni0 C (.ref a :: ([] ++ [])) (upd H1 a (exo a C none)) (fun v H2 => v = .non ∧ ∃ b C', V.ref a = .ref b ∧ H2 b = some (exo b C' none) ∧ Fr0 X.H_0 b ∧ Raises X (.ref C') ∧ E (.ref C') none (delH H2 b)) (fun _ _ _ => False) := by
  refine ⟨by decide, fun a na => ⟨a, rfl, upd_same, rfl, a, C, rfl, upd_same, fun u e => ?_, R, k _ fun b o q => ?_⟩⟩
  · rw [e0] at e
    rw [S _ _ e] at na
    cases na
  · have nb : b ≠ a := ne_of_none (S _ _ q) na
    rw [delH_ne nb, upd_ne nb]
    exact S _ _ q
section
variable {P : Program} {w : World} {K : PySem.W.Frag} {mg : Str → Option Value} {base : Heap} {cl : String → Addr}
theorem ok_System_broken {f : Addr} {fd : FuncData} (F : Fun K "broken" "System.broken" s_System_broken f fd) (T : Txt P w K mg cl) : FnOk P w K mg base (L2.CX P w) 3 f fd ["self", "times"] (spBrk K (cl "System") (cl "BadTimes")) := by
  refine F.okX sc_System_broken (fun vs H Q E h => ?_) (fun cdv A outer s H vs Q E hr h => ?_)
  · obtain ⟨p, t, c, us, ls, v, to, rfl, _⟩ := h
    rfl
  · obtain ⟨p, t, c, us, ls, v, to, rfl, X, lok, le, hv, bad, good⟩ := h
    have C_are_times : Cal P w K mg base CX0 2 "are_times" _ (spTms K) := cal_are_times T
    have C_keeps_link : Cal P w K mg base CX0 1 "keeps_link" _ spKeep := cal_keeps_link T
    refine ⟨_, (pss_cons (ps_if (pt_not (pt_val (pe_cal C_are_times (hr.mono (by decide)) (pa_cons (pv 1) (pa_cons (pe_fld (pv 0) rfl) pa_nil)))))
          (pss_one (ps_raiseO0 rfl rfl (ini0_BadTimes (base := base) T) T.m_BadTimes (hr.mono (by decide)) (takes_of rfl rfl rfl rfl))) pss_nil)
        (pss_one (ps_ret (pe_callTy call_tuple_of (by rfl) T.n_tuple (by decide +kernel) (pa_cons (pe_lc (own := [("index", 2), ("link", 3)]) (g := gTup K 2 (gCons (gName 2) (gCons (gName 3) gNil)))  rfl sc_System_broken.nd (pi_enu2 (by rfl) T.n_enumerate (pa_cons (pe_fld (pv 0) rfl) pa_nil)) (blkOk_by (own := [("index", 2), ("link", 3)]) (N := ["self", "times", "index", "link"]) (sc := defScope s_System_broken) (by decide +kernel)) (fun _ _ _ _ _ => (pg_tup rfl (pgs_cons (pg_name (i := 2) sc_System_broken.nd rfl (Or.inl rfl)) (pgs_cons (pg_name (i := 3) sc_System_broken.nd rfl (Or.inl rfl)) pgs_nil)))) (fun _ _ _ _ _ => pts_one (pt_not (pt_val (pe_cal C_keeps_link (hr.mono (by decide)) (pa_cons (pv 1) (pa_cons (pv 3) pa_nil)))))) (fun _ _ _ _ _ => (pv 2))) pa_nil))))), ?_⟩
    obtain ⟨dx, hself⟩ := X.self
    refine ⟨_, rfl, _, rfl, p, _, _, _, _, rfl, hself, T.cl_System, T.na_System _ (by decide), rfl, v, to, c, rfl, hv, fun H1 S1 => ⟨_, rfl, ?_⟩⟩
    cases hb : tmsB c to with
    | false => exact iteT (raise0 (H0 := H) S1 rfl (raises_own T.o_BadTimes.exC T.o_BadTimes.tyC) (bad hb))
    | true =>
      obtain ⟨ts, rfl, lt⟩ := tms_ints hb
      refine iteF ?_
      have X := X.same S1
      have hself := S1 _ _ hself
      have hv := hv.same S1
      obtain ⟨r, rfl, hr2, _, _⟩ := hv
      refine ⟨_, rfl, p, _, _, _, _, rfl, hself, T.cl_System, T.na_System _ (by decide), rfl, t, us, rfl, .inr X.rows, fun J wk D nD => lc_it wk (fun i H' => H' D = some (.lst ((brkTo ls ts i).map fun (i : Nat) => V.int i)) ∧ Same H1 H') ⟨upd_same, sNew nD⟩ (fun i H' _ q => by rw [q.2 _ _ X.rows]; exact X.rows.symm) ?_ ?_⟩
      · rintro i x H2 H3 hi ⟨hD, S2⟩ ⟨Tt, x1, y1, rfl, hT, rfl, e1, e2⟩
        cases e1
        obtain ⟨l, hl, b, rfl, hb⟩ := Paired.at X.each e2
        have ST := sNew (o := .tup [.int (i : Nat), .ref b]) hT
        have S3 := S2.trans ST
        obtain ⟨⟨a1, a2⟩, a3, a4⟩ := lok l (List.mem_of_getElem? hl)
        have j1 : l.1.toNat < ts.length := by omega
        have j2 : l.2.1.toNat < ts.length := by omega
        have el : lkV ((l.1.toNat : Int), (l.2.1.toNat : Int), l.2.2) = lkV l := by
          unfold lkV
          rw [Int.toNat_of_nonneg a1, Int.toNat_of_nonneg a3]
        have bs := brkTo_succ (ts := ts) hl
        have kb : keepB ts l = decide (ts[l.1.toNat] - ts[l.2.1.toNat] ≤ l.2.2) := by
          unfold keepB
          rw [List.getElem?_eq_getElem j1, List.getElem?_eq_getElem j2]
          rfl
        have li : i < ls.length := (List.getElem?_eq_some_iff.mp hl).1
        refine ⟨Tt, _, rfl, SqT.of upd_same, rfl, _, _, rfl, _, _, rfl, rfl, rfl, _, rfl, _, rfl, r, b, ts, l.1.toNat, l.2.1.toNat, _, _, l.2.2, rfl, (IsAt.same hr2 S3), by rw [el]; exact S3 _ _ hb, List.getElem?_eq_getElem j1, List.getElem?_eq_getElem j2, _, rfl, ?_⟩
        rw [← kb]
        refine ite2 (fun h => ?_) (fun h => ?_)
        · have h : keepB ts l = false := by simpa using h
          rw [h] at bs
          refine ⟨_, rfl, _, ST _ _ hD, small1000 ?_, ?_⟩
          · rw [List.length_map]
            have := List.length_filter_le (fun i => !((ls[i]?.map (keepB ts)).getD true)) (List.range i)
            rw [List.length_range] at this
            unfold brkTo
            omega
          · refine ⟨?_, same_upd S3 nD⟩
            rw [bs, List.map_append]
            exact upd_same
        · have h : keepB ts l = true := by simpa using h
          rw [h] at bs
          refine ⟨?_, S3⟩
          rw [bs]
          simpa using ST _ _ hD
      · rintro H2 ⟨hD, S2⟩
        rw [X.each.length] at hD
        refine ⟨D, _, rfl, .inl ⟨SqL.of hD, fun t' nt => good ts rfl lt t' _ (S1.trans (S2.trans (sNew nt))) upd_same⟩⟩
theorem cal_System_broken (T : Txt P w K mg cl) : CalM P w K mg base (L2.CX P w) 3 (cl "System") "broken" ["self", "times"] (spBrk K (cl "System") (cl "BadTimes")) := by
  obtain ⟨f, fd, F, m⟩ := T.d_System_broken
  exact ⟨f, fd, ok_System_broken F T, m, F.binds fun _ _ _ _ _ _ us hl => match us, hl with | [_, _], _ => rfl⟩
end
end My
set_option Elab.async false
set_option linter.all false
set_option maxRecDepth 100000
set_option maxHeartbeats 1000000
namespace My
open PySem L2 Dw Wp
open C8 (pss_cut tCut)
set_option pp.maxSteps 600
def lkD (l : Lk) : PyData := sqD false ((lkV l).map vD)
def lksD (ls : List Lk) : PyData := sqD false (ls.map lkD)
theorem lk_okV (l : Lk) : ∀ x ∈ lkV l, okV x = true := fun x hx => by
  rcases (show x = .int l.1 ∨ x = .int l.2.1 ∨ x = .int l.2.2 by simpa [lkV] using hx) with rfl | rfl | rfl <;> rfl
theorem lks_dp {K : PySem.W.Frag} {H : Hp} : ∀ {us : List V} {ls : List Lk}, Paired (LkT H) us ls → DpAll K H us (ls.map lkD)
  | _, _, .nil => .nil
  | _, _, .cons ⟨b, e, hb⟩ t => by
    subst e
    exact .cons (dp_tup (SqT.of hb) (dpvs fun x hx => okV.flat (lk_okV _ x hx))) (lks_dp t)
theorem lks_fl (ls : List Lk) : ∀ d ∈ ls.map lkD, Fl1 d := fun d hd => by
  obtain ⟨l, _, rfl⟩ := List.mem_map.mp hd
  exact fl_row false (lk_okV l)
theorem lksD_self (ls : List Lk) : PyData.eqv (lksD ls) (lksD ls) = true := sqD_self false fun d hd => by
  obtain ⟨l, _, rfl⟩ := List.mem_map.mp hd
  exact row_self false _
theorem eqv_nilV (xs : List V) : PyData.eqv (sqD false (xs.map vD)) (sqD false []) = xs.isEmpty := by
  cases xs <;> simp [sqD, PyData.eqv, PyData.eqvAll]
def spKps (K : PySem.W.Frag) (C CT : Addr) : Sp := fun vs H Q E => ∃ (p t : Addr) (c : Int) (us : List V) (ls : List Lk) (v : V) (to : Option (List V)), vs = [.ref p, v] ∧ SyAt C H p c t us ls ∧ (∀ l ∈ ls, LkOk c l) ∧ ls.length ≤ 900 ∧ TsAt K H v to ∧
  (tmsB c to = false → ∀ G, Same H G → E (.ref CT) none G) ∧
  (∀ ts : List Int, to = some (ts.map V.int) → (ts.length : Int) = c → ∀ H', Same H H' → Q (.bl (brk ls ts).isEmpty) H')
def spLenS (C : Addr) : Sp := fun vs H Q _ => ∃ (p t : Addr) (c : Int) (us : List V) (ls : List Lk), vs = [.ref p] ∧ SyAt C H p c t us ls ∧ Q (.int ls.length) H
def spSyEq (K : PySem.W.Frag) (C : Addr) : Sp := fun vs H Q _ => ∃ (p t : Addr) (c : Int) (us : List V) (ls : List Lk) (o : V), vs = [.ref p, o] ∧ SyAt C H p c t us ls ∧
  ((∃ (q t' : Addr) (c' : Int) (us' : List V) (ls' : List Lk), o = .ref q ∧ SyAt C H q c' t' us' ls' ∧ Q (.bl (decide (c = c') && PyData.eqv (lksD ls) (lksD ls'))) H) ∨ ((∃ n, Dm K H o n) ∧ Q (.bl false) H))
section
variable {P : Program} {w : World} {K : PySem.W.Frag} {mg : Str → Option Value} {base : Heap} {cl : String → Addr}
theorem ok_System_len {f : Addr} {fd : FuncData} (F : Fun K "__len__" "System.__len__" s_System_len f fd) (T : Txt P w K mg cl) : FnOk P w K mg base CX0 1 f fd ["self"] (spLenS (cl "System")) := by
  refine F.ok sc_System_len (fun vs H Q E h => ?_) (fun cdv A outer s H vs Q E hr h => ?_)
  · obtain ⟨p, t, c, us, ls, rfl, _⟩ := h
    rfl
  · obtain ⟨p, t, c, us, ls, rfl, X, k⟩ := h
    refine ⟨_, (pss_one (ps_ret (pe_callB call_len_seq (by rfl) T.n_len PySem.boot_len (pa_cons (pe_fld (pv 0) rfl) pa_nil)))), ?_⟩
    obtain ⟨dx, hself⟩ := X.self
    rw [← X.each.length] at k
    exact ⟨_, rfl, p, _, _, _, _, rfl, hself, T.cl_System, T.na_System _ (by decide), rfl, t, us, rfl, .inr (SqT.of X.rows), k⟩
theorem cal_System_len (T : Txt P w K mg cl) : CalM P w K mg base CX0 1 (cl "System") "__len__" ["self"] (spLenS (cl "System")) := by
  obtain ⟨f, fd, F, m⟩ := T.d_System_len
  exact ⟨f, fd, ok_System_len F T, m, F.binds fun _ _ _ _ _ _ us hl => match us, hl with | [_], _ => rfl⟩
theorem ok_System_iter {f : Addr} {fd : FuncData} (F : Fun K "__iter__" "System.__iter__" s_System_iter f fd) (T : Txt P w K mg cl) : FnN P w K mg base CX0 1 f fd ["self"] (spItT K (cl "System") "links") := by
  refine F.okN sc_System_iter (fun n vs H Q E h => ?_) (fun cdv A outer s H vs Q E hr h => ?_)
  · obtain ⟨a, dx, t, fs, zs, rfl, _⟩ := h
    rfl
  · obtain ⟨a, dx, t, fs, zs, rfl, h1, h2, h3, k⟩ := h
    refine ⟨_, (pss_one (ps_ret (pe_callB call_iterT (by rfl) T.n_iter (by decide +kernel) (pa_cons (pe_fld (pv 0) rfl) pa_nil)))), ?_⟩
    exact ⟨_, rfl, a, _, dx, _, _, rfl, h1, T.cl_System, T.na_System _ (by decide), h2, t, zs, rfl, h3, k⟩
theorem cal_System_iter (T : Txt P w K mg cl) : CalI P w K mg base 1 (cl "System") "links" := by
  obtain ⟨f, fd, F, m⟩ := T.d_System_iter
  exact ⟨f, fd, ok_System_iter F T, m, F.binds fun _ _ _ _ _ _ us hl => match us, hl with | [_], _ => rfl⟩
theorem ok_System_eq {f : Addr} {fd : FuncData} (F : Fun K "__eq__" "System.__eq__" s_System_eq f fd) (T : Txt P w K mg cl) : FnOk P w K mg base CX0 1 f fd ["self", "other"] (spSyEq K (cl "System")) := by
  refine F.ok sc_System_eq (fun vs H Q E h => ?_) (fun cdv A outer s H vs Q E hr h => ?_)
  · obtain ⟨p, t, c, us, ls, o, rfl, _⟩ := h
    rfl
  · obtain ⟨p, t, c, us, ls, o, rfl, X, h⟩ := h
    refine ⟨_, (pss_one (ps_ret (pe_and (pe_callB call_isi (by rfl) T.n_isinstance (by decide +kernel) (pa_cons (pv 1) (pa_cons (pe_cls T.m_System) pa_nil))) (pe_and (pe_cmpR op_eq (pe_fld (pv 0) rfl) (pe_fld (pv 1) rfl) (nomark _)) (pe_one (pe_cmpR (op_eqD hr.units) (pe_fld (pv 0) rfl) (pe_fld (pv 1) rfl) (nomark _))))))), ?_⟩
    obtain ⟨dx, hself⟩ := X.self
    rcases h with ⟨q, t', c', us', ls', rfl, X', k⟩ | ⟨⟨n, dn⟩, k⟩
    · obtain ⟨dx', hself'⟩ := X'.self
      refine ⟨_, rfl, _, _, _, _, _, rfl, .own (cl "System"), .base (.ins hself' T.cl_System T.y_System T.z1 T.z2 T.z3_System), T.k_Sy_Sy, _, rfl, iteT ?_⟩
      refine ⟨_, rfl, p, _, _, _, _, rfl, hself, T.cl_System, T.na_System _ (by decide), rfl, _, rfl, q, _, _, _, _, rfl, hself', T.cl_System, T.na_System _ (by decide), rfl, rfl, ?_⟩
      rw [show decide (V.int c = V.int c') = decide (c = c') from decide_eq_decide.mpr ⟨V.int.inj, congrArg V.int⟩]
      refine ⟨_, rfl, ite2 (fun g => ?_) (fun g => ?_)⟩
      · refine ⟨_, rfl, p, _, _, _, _, rfl, hself, T.cl_System, T.na_System _ (by decide), rfl, _, rfl, q, _, _, _, _, rfl, hself', T.cl_System, T.na_System _ (by decide), rfl, lksD ls, lksD ls', dp_tup (SqT.of X.rows) (lks_dp X.each), dp_tup (SqT.of X'.rows) (lks_dp X'.each), fls_shaped false (lks_fl ls), fls_shaped false (lks_fl ls'), ?_⟩
        rw [g, Bool.true_and] at k
        exact k
      · rw [Bool.eq_false_iff.mpr g, Bool.false_and] at k
        exact k
    · have kt : ∀ m, Dm K H o m → m ∈ ["NoneType", "bool", "int", "str", "list", "tuple"] := fun m x => by cases x <;> decide
      exact ⟨_, rfl, _, _, _, _, _, rfl, .own (cl "System"), dn.ty, T.k_in_Sy n (kt n dn), _, rfl, iteF k⟩
theorem cal_System_eq (T : Txt P w K mg cl) : CalM P w K mg base CX0 1 (cl "System") "__eq__" ["self", "other"] (spSyEq K (cl "System")) := by
  obtain ⟨f, fd, F, m⟩ := T.d_System_eq
  exact ⟨f, fd, ok_System_eq F T, m, F.binds fun _ _ _ _ _ _ us hl => match us, hl with | [_, _], _ => rfl⟩
end
end My
set_option Elab.async false
set_option linter.all false
set_option maxRecDepth 100000
set_option maxHeartbeats 1000000
namespace My
open PySem L2 Dw Wp
open C8 (pss_cut tCut)
set_option pp.maxSteps 600
theorem lks_rd {H : Hp} : ∀ {us : List V} {ls : List Lk}, Paired (LkT H) us ls → Paired (RdAt H) us (ls.map lkR)
  | _, _, .nil => .nil
  | _, _, .cons ⟨b, e, hb⟩ t => .cons ⟨b, e, .inr hb⟩ (lks_rd t)
theorem lkR_ok (l : Lk) : RdOk (lkR l) := ⟨by show 3 ≤ 6; decide, fun x hx => by
  rcases (show x = .int l.1 ∨ x = .int l.2.1 ∨ x = .int l.2.2 by simpa [lkV] using hx) with rfl | rfl | rfl <;> trivial⟩
def spWithI (K : PySem.W.Frag) (C CB : Addr) : Sp := fun vs H Q E => ∃ (p q t : Addr) (c : Int) (us ws : List V) (ls : List Lk) (rs : List Rd), vs = [.ref p, .ref q] ∧ SyAt C H p c t us ls ∧ H q = some (.tup ws) ∧ Paired (RdAt H) ws rs ∧ (∀ x ∈ rs, RdOk x) ∧ ls.length + rs.length ≤ 300 ∧
  (∀ i w G e, sysW (.int c) (some (ls.map lkR ++ rs)) = some (i, w) → Same H G → H e = none → E (.ref CB) (some e) (upd G e (.xd [("what", .str w), ("index", i)]))) ∧
  (∀ p' ls' t' us' H', ls.map lkR ++ rs = ls'.map lkR → sysW (.int c) (some (ls.map lkR ++ rs)) = none → Same H H' → SyAt C H' p' c t' us' ls' → Q (.ref p') H')
def spWith (K : PySem.W.Frag) (C CB : Addr) : Sp := fun vs H Q E => ∃ (p : Addr) (rest : List V), vs = [.ref p] ++ rest ∧ rest.length ≤ sizeLine ∧ ∀ q, H q = none → spWithI K C CB [.ref p, .ref q] (upd H q (.tup rest)) Q E
/-- a system is made -/
theorem mkSys {K : PySem.W.Frag} {H : Hp} {C CB : Addr} {cv lv : V} {n : String} {ro : Option (List Rd)} {E : XK} {Q : Addr → Hp → Prop} (dc : Dm K H cv n) (hl : LsAt K H lv ro)
    (bad : ∀ i w G e, sysW cv ro = some (i, w) → Same H G → H e = none → E (.ref CB) (some e) (upd G e (.xd [("what", .str w), ("index", i)])))
    (good : ∀ c ls p t us H', cv = .int c → ro = some (ls.map lkR) → sysW cv ro = none → Same H H' → SyAt C H' p c t us ls → Q p H') :
    ∀ x dx, H x = none → H dx = none → dx ≠ x → spSys K C CB [.ref x, cv, lv] (upd (upd H dx (.own x)) x (.ins C dx [])) (fun v H3 => v = .non ∧ Q x H3) E := fun x dx nx ndx nex => by
  have S2 : Same H (upd (upd H dx (.own x)) x (.ins C dx [])) := (sNew ndx).trans (sNew (by rw [upd_ne (Ne.symm nex)]; exact nx))
  refine ⟨x, dx, cv, lv, n, ro, rfl, upd_same, dc.same S2, hl.same S2, fun i w G e h1 h2 h3 => bad i w G e h1 (S2.trans h2) ?_, fun c ls t us H' h1 h2 h3 h4 h5 => ⟨rfl, good c ls x t us H' h1 h2 h3 (fun b o e => h4 _ _ (S2 _ _ e) (ne_of_none e nx)) h5⟩⟩
  cases q : H e with
  | none => rfl
  | some o => rw [S2 _ _ q] at h3; cases h3
section
variable {P : Program} {w : World} {K : PySem.W.Frag} {mg : Str → Option Value} {base : Heap} {cl : String → Addr}
end
end My
set_option Elab.async false
set_option linter.all false
set_option maxRecDepth 100000
set_option maxHeartbeats 1000000
namespace My
open PySem L2 Dw Wp
open C8 (pss_cut tCut)
set_option pp.maxSteps 600
def e1 (ls : List Lk) (i : Nat) : Int := (ls[i]?.map fun l => l.1).getD 0
def e2 (ls : List Lk) (i : Nat) : Int := (ls[i]?.map fun l => l.2.1).getD 0
def jo (ls : List Lk) (is : List Nat) (k : Nat) : Bool := decide (e2 ls (is[k + 1]?.getD 0) = e1 ls (is[k]?.getD 0))
def fits (ls : List Lk) (is : List Nat) : Bool := (List.range (is.length - 1)).all (jo ls is)
theorem lk_at {H : Hp} {t : Addr} {us : List V} {ls : List Lk} {i : Nat} (hL : LsT H t us ls) (h : i < ls.length) : ∃ b, us[i]? = some (.ref b) ∧ H b = some (.tup (lkV ls[i])) := by
  obtain ⟨v, hv, b, rfl, hb⟩ := Paired.at' (i := i) (y := ls[i]) hL.2 (List.getElem?_eq_getElem h)
  exact ⟨b, hv, hb⟩
theorem lk_atE {H : Hp} {t : Addr} {us : List V} {ls : List Lk} {i : Nat} (hL : LsE H t us ls) (h : i < ls.length) : ∃ b, us[i]? = some (.ref b) ∧ H b = some (.tup (lkV ls[i])) := by
  obtain ⟨v, hv, b, rfl, hb⟩ := Paired.at' (i := i) (y := ls[i]) hL.2 (List.getElem?_eq_getElem h)
  exact ⟨b, hv, hb⟩
theorem e1_at {ls : List Lk} {i : Nat} (h : i < ls.length) : ls[i].1 = e1 ls i := by unfold e1; rw [List.getElem?_eq_getElem h]; rfl
theorem e2_at {ls : List Lk} {i : Nat} (h : i < ls.length) : ls[i].2.1 = e2 ls i := by unfold e2; rw [List.getElem?_eq_getElem h]; rfl
theorem is_atN {is : List Nat} {j x : Nat} (h : is[j]? = some x) : ((is.map fun (i : Nat) => (i : Int)).map V.int)[j]? = some (.int x) := by rw [List.getElem?_map, List.getElem?_map, h]; rfl
theorem ixOrE {K : PySem.W.Frag} {H : Hp} {b : Addr} {xs : List V} {z : Int} {j : Nat} {v : V} {Q : VK} (e : z = (j : Int)) (hb : H b = some (.lst xs) ∨ H b = some (.tup xs)) (ha : xs[j]? = some v) (q : Q v H) : rIxL K (.ref b) (.int z) H Q ∨ rIxT K (.ref b) (.int z) H Q := by
  subst e
  exact ixOr hb ha q
def spJo : Sp := fun vs H Q _ => ∃ (t a : Addr) (us : List V) (ls : List Lk) (is : List Nat), vs = [.ref t, .ref a] ∧ LsT H t us ls ∧ IsAt H a (is.map fun (i : Nat) => (i : Int)) ∧ is.length ≤ 900 ∧ (∀ i ∈ is, i < ls.length) ∧ Q (.bl (fits ls is)) H
section
variable {P : Program} {w : World} {K : PySem.W.Frag} {mg : Str → Option Value} {base : Heap} {cl : String → Addr}
theorem ok_has_joints {f : Addr} {fd : FuncData} (F : Fun K "has_joints" "has_joints" s_has_joints f fd) (T : Txt P w K mg cl) : FnOk P w K mg base CX0 1 f fd ["links", "path"] spJo := by
  refine F.ok sc_has_joints (fun vs H Q E h => ?_) (fun cdv A outer s H vs Q E hr h => ?_)
  · obtain ⟨t, a, us, ls, is, rfl, _⟩ := h
    rfl
  · obtain ⟨t, a, us, ls, is, rfl, hL, ha, le, hix, k⟩ := h
    refine ⟨_, (pss_cons (ps_for PassesOwn.never rfl (pi_range2 rfl T.n_range (pa_cons pe_int (pa_cons (pe_callB call_len_seq (by rfl) T.n_len PySem.boot_len (pa_cons (pv 1) pa_nil)) pa_nil))) (pg_name (i := 2) sc_has_joints.nd rfl (Or.inl rfl))
          (pss_one (ps_if (pt_cmpR op_ne (pe_ix ix_tup (pe_ix ix_tup (pv 0) (pe_ix ix_either (pv 1) (pv 2) (fun _ _ => rfl)) (fun _ _ => rfl)) pe_int (fun _ _ => rfl)) (pe_ix ix_tup (pe_ix ix_tup (pv 0) (pe_ix ix_either (pv 1) (pe_op op_sub (pv 2) pe_int) (fun _ _ => rfl)) (fun _ _ => rfl)) pe_int (fun _ _ => rfl)) (nomark _))
              (pss_one (ps_ret pe_bl)) pss_nil)))
        (pss_one (ps_ret pe_bl))), ?_⟩
    have lm : ((is.map fun (i : Nat) => (i : Int)).map V.int).length = is.length := by rw [List.length_map, List.length_map]
    refine ⟨_, rfl, a, _, rfl, ha.imp SqL.of SqT.of, _, _, rfl, ⟨by decide, by decide, by rw [lm]; omega, by rw [lm]; omega⟩, ?_⟩
    refine for_range (fun i σ H' => H' = H ∧ (List.range i).all (jo ls is) = true ∧ ∃ v2, σ = [some (.ref t), some (.ref a), v2]) ⟨rfl, rfl, _, rfl⟩ ?_ ?_
    · rintro i σ H' hi ⟨rfl, hj, v2, rfl⟩
      rw [lm] at hi
      have i1 : i + 1 < is.length := by omega
      have i0 : i < is.length := by omega
      have l1 := hix _ (List.getElem_mem i1)
      have l0 := hix _ (List.getElem_mem i0)
      obtain ⟨b1, hb1, hc1⟩ := lk_at hL l1
      obtain ⟨b0, hb0, hc0⟩ := lk_at hL l0
      rw [show (1 : Int) + (i : Nat) = ((i + 1 : Nat) : Int) by omega]
      refine ⟨_, rfl, _, rfl, _, rfl, ixOr ha (j := i + 1) (is_atN (List.getElem?_eq_getElem i1)) ⟨t, _, _, _, rfl, rfl, SqT.of hL.1, atI_nat hb1, b1, _, _, _, rfl, rfl, SqT.of hc1, atI_nat (j := 1) rfl, _, rfl, _, rfl, _, rfl, _, _, rfl, rfl, ?_⟩⟩
      refine ixOrE (j := i) (by omega) ha (is_atN (List.getElem?_eq_getElem i0)) ⟨t, _, _, _, rfl, rfl, SqT.of hL.1, atI_nat hb0, b0, _, _, _, rfl, rfl, SqT.of hc0, atI_nat (j := 0) rfl, rfl, _, rfl, ?_⟩
      have ej : jo ls is i = decide (ls[is[i + 1]].2.1 = ls[is[i]].1) := by
        unfold jo
        rw [List.getElem?_eq_getElem i1, List.getElem?_eq_getElem i0]
        show decide (e2 ls is[i + 1] = e1 ls is[i]) = _
        rw [e1_at l0, e2_at l1]
      refine ite2 (fun g => ?_) (fun g => ?_)
      · have fb : fits ls is = false := by
          unfold fits
          refine List.all_eq_false.mpr ⟨i, List.mem_range.mpr (by omega), ?_⟩
          rw [ej]
          intro z
          have z := of_decide_eq_true z
          simp [z] at g
        rw [fb] at k
        exact k
      · refine ⟨rfl, ?_, _, rfl⟩
        rw [List.range_succ, List.all_append, hj, Bool.true_and]
        show (jo ls is i && true) = true
        rw [Bool.and_true, ej]
        refine decide_eq_true ?_
        by_cases z : ls[is[i + 1]].2.1 = ls[is[i]].1
        · exact z
        · exfalso
          refine g ?_
          show (!decide (V.int _ = V.int _)) = true
          rw [decide_eq_false fun q => z (V.int.inj q)]
          rfl
    · rintro σ H' ⟨rfl, hj, v2, rfl⟩
      rw [lm] at hj
      rw [show ((is.length : Int) - 1).toNat = is.length - 1 by omega] at hj
      have fb : fits ls is = true := hj
      rw [fb] at k
      exact k
theorem cal_has_joints (T : Txt P w K mg cl) : Cal P w K mg base CX0 1 "has_joints" ["links", "path"] (spJo) := by
  obtain ⟨f, fd, F, m⟩ := T.d_has_joints
  exact ⟨f, fd, ok_has_joints F T, m, F.kp, F.binds fun _ _ _ _ _ _ us hl => match us, hl with | [_, _], _ => rfl⟩
end
end My
set_option Elab.async false
set_option linter.all false
set_option maxRecDepth 100000
set_option maxHeartbeats 1000000
namespace My
open PySem L2 Dw Wp
open C8 (pss_cut tCut)
set_option pp.maxSteps 600
theorem ix_nat {n : Nat} : ∀ {is : List Int}, is.all (isIx n) = true → ∃ js : List Nat, is = (js.map fun (i : Nat) => (i : Int)) ∧ ∀ j ∈ js, j < n
  | [], _ => ⟨[], rfl, fun j h => by cases h⟩
  | i :: is, h => by
    rw [List.all_cons] at h
    obtain ⟨h1, h2⟩ := Bool.and_eq_true_iff.mp h
    obtain ⟨js, e, hj⟩ := ix_nat h2
    have h1 : (decide (0 ≤ i) && decide (i < (n : Int))) = true := h1
    simp only [Bool.and_eq_true, decide_eq_true_eq] at h1
    refine ⟨i.toNat :: js, ?_, fun j hj2 => ?_⟩
    · rw [e, List.map_cons, Int.toNat_of_nonneg h1.1]
    · rcases List.mem_cons.mp hj2 with rfl | hj2
      · omega
      · exact hj j hj2
/-- the first word of a path of indexes that are right -/
def pathN (ls : List Lk) (js : List Nat) (st en : Int) : Option Str :=
  if js = [] then (if st = en then none else some "end") else if e2 ls (js[0]?.getD 0) = st then (if fits ls js = true then (if e1 ls (js.getLast?.getD 0) = en then none else some "end") else some "joint") else some "start"
theorem ixOrA {K : PySem.W.Frag} {H : Hp} {b : Addr} {xs : List V} {z : Int} {v : V} {Q : VK} (hb : H b = some (.lst xs) ∨ H b = some (.tup xs)) (ha : atI xs z = some v) (q : Q v H) : rIxL K (.ref b) (.int z) H Q ∨ rIxT K (.ref b) (.int z) H Q := hb.imp (fun h => ⟨b, _, _, _, rfl, rfl, SqL.of h, ha, q⟩) fun h => ⟨b, _, _, _, rfl, rfl, SqT.of h, ha, q⟩
def spPF (C : Addr) : Sp := fun vs H Q _ => ∃ (p t a : Addr) (c : Int) (us : List V) (ls : List Lk) (is : List Int) (st en : Int), vs = [.ref p, .ref a, .int st, .int en] ∧ SyAt C H p c t us ls ∧ ls.length ≤ 900 ∧ IsAt H a is ∧ is.length ≤ 900 ∧
  (is.all (isIx ls.length) = false → ∀ H', Same H H' → Q (.str "index") H') ∧
  (∀ js : List Nat, is = (js.map fun (i : Nat) => (i : Int)) → (∀ j ∈ js, j < ls.length) → ∀ H', Same H H' → Q (optV (pathN ls js st en)) H')
section
variable {P : Program} {w : World} {K : PySem.W.Frag} {mg : Str → Option Value} {base : Heap} {cl : String → Addr}
theorem ok_path_fault {f : Addr} {fd : FuncData} (F : Fun K "path_fault" "path_fault" s_path_fault f fd) (T : Txt P w K mg cl) : FnOk P w K mg base CX0 3 f fd ["system", "path", "start", "end"] (spPF (cl "System")) := by
  refine F.ok sc_path_fault (fun vs H Q E h => ?_) (fun cdv A outer s H vs Q E hr h => ?_)
  · obtain ⟨p, t, a, c, us, ls, is, st, en, rfl, _⟩ := h
    rfl
  · obtain ⟨p, t, a, c, us, ls, is, st, en, rfl, X, ln, ha, le, kx, kg⟩ := h
    have C_are_indexes : Cal P w K mg base CX0 2 "are_indexes" _ spAre := cal_are_indexes T
    have C_has_joints : Cal P w K mg base CX0 1 "has_joints" _ spJo := cal_has_joints T
    refine ⟨_, (pss_cons (ps_set (i := 4) sc_path_fault.nd rfl (Or.inl rfl) (pe_fld (pv 0) rfl))
        (pss_cons (ps_if (pt_not (pt_val (pe_cal C_are_indexes (hr.mono (by decide)) (pa_cons (pv 4) (pa_cons (pv 1) pa_nil)))))
          (pss_one (ps_ret pe_str)) pss_nil)
        (pss_cons (ps_if (pt_cmpR op_eq (pe_callB call_len_seq (by rfl) T.n_len PySem.boot_len (pa_cons (pv 1) pa_nil)) pe_int (nomark _))
          (pss_one (ps_ret (pe_ifExp (pt_cmpR op_eq (pv 2) (pv 3) (nomark _)) pe_non pe_str))) pss_nil)
        (pss_cons (ps_if (pt_cmpR op_ne (pe_ix ix_tup (pe_ix ix_tup (pv 4) (pe_ix ix_either (pv 1) pe_int (fun _ _ => rfl)) (fun _ _ => rfl)) pe_int (fun _ _ => rfl)) (pv 2) (nomark _))
          (pss_one (ps_ret pe_str)) pss_nil)
        (pss_cons (ps_if (pt_not (pt_val (pe_cal C_has_joints (hr.mono (by decide)) (pa_cons (pv 4) (pa_cons (pv 1) pa_nil)))))
          (pss_one (ps_ret pe_str)) pss_nil)
        (pss_one (ps_ret (pe_ifExp (pt_cmpR op_eq (pe_ix ix_tup (pe_ix ix_tup (pv 4) (pe_ix ix_either (pv 1) (pe_un un_neg pe_int) (fun _ _ => rfl)) (fun _ _ => rfl)) pe_int (fun _ _ => rfl)) (pv 3) (nomark _)) pe_non pe_str)))))))), ?_⟩
    obtain ⟨dx, hself⟩ := X.self
    refine ⟨_, rfl, p, _, _, _, _, rfl, hself, T.cl_System, T.na_System _ (by decide), rfl, ?_⟩
    refine ⟨_, rfl, _, rfl, t, a, us, ls, is, rfl, ⟨X.rows, X.each⟩, ln, ha, le, fun H1 S1 => ⟨_, rfl, ?_⟩⟩
    cases hx : is.all (isIx ls.length) with
    | false => exact iteT (kx hx _ S1)
    | true =>
      obtain ⟨js, rfl, hj⟩ := ix_nat hx
      have k := kg js rfl hj
      rw [List.length_map] at le
      have ha := IsAt.same ha S1
      have hL : LsT H1 t us ls := ⟨S1 _ _ X.rows, (X.same S1).each⟩
      refine iteF ⟨_, rfl, a, _, rfl, ha.imp SqL.of SqT.of, rfl, _, rfl, ?_⟩
      cases js with
      | nil =>
        have k : ∀ H', Same H H' → Q (optV (if st = en then (none : Option Str) else some ("end" : Str))) H' := k
        refine iteT ⟨_, rfl, _, rfl, rfl, _, rfl, ?_⟩
        refine ite2 (fun g => ?_) (fun g => ?_)
        · have g : st = en := V.int.inj (of_decide_eq_true g)
          rw [if_pos g] at k
          exact k _ S1
        · rw [if_neg fun z => g (decide_eq_true (congrArg V.int z))] at k
          exact k _ S1
      | cons j0 js =>
        have un : pathN ls (j0 :: js) st en = (if e2 ls j0 = st then (if fits ls (j0 :: js) = true then (if e1 ls ((j0 :: js).getLast?.getD 0) = en then none else some ("end" : Str)) else some ("joint" : Str)) else some ("start" : Str)) := by
          unfold pathN
          rw [if_neg (by simp)]
          rfl
        rw [un] at k
        refine iteF ?_
        have l0 := hj j0 List.mem_cons_self
        obtain ⟨b0, hb0, hc0⟩ := lk_at hL l0
        refine ⟨_, rfl, _, rfl, ixOrA ha (atI_nat (j := 0) rfl) ⟨t, _, _, _, rfl, rfl, SqT.of hL.1, atI_nat hb0, b0, _, _, _, rfl, rfl, SqT.of hc0, atI_nat (j := 1) rfl, _, rfl, rfl, _, rfl, ?_⟩⟩
        rw [e2_at l0]
        refine ite2 (fun g => ?_) (fun g => ?_)
        · have g : ¬ e2 ls j0 = st := fun z => by
            rw [z] at g
            simp at g
          rw [if_neg g] at k
          exact k _ S1
        have g : e2 ls j0 = st := by
          by_cases z : e2 ls j0 = st
          · exact z
          · exfalso
            refine g ?_
            rw [decide_eq_false fun q => z (V.int.inj q)]
            rfl
        rw [if_pos g] at k
        refine ⟨_, rfl, _, rfl, t, a, us, ls, j0 :: js, rfl, hL, ha, le, hj, _, rfl, ?_⟩
        cases hf : fits ls (j0 :: js) with
        | false =>
          rw [if_neg (by rw [hf]; decide)] at k
          exact iteT (k _ S1)
        | true =>
          rw [if_pos hf] at k
          obtain ⟨ys, z, ez⟩ : ∃ ys z, j0 :: js = ys ++ [z] := by
            rcases List.eq_nil_or_concat (j0 :: js) with h | ⟨ys, z, h⟩
            · cases h
            · exact ⟨ys, z, by rw [h, List.concat_eq_append]⟩
          rw [ez] at k hj ha
          have lz := hj z (by simp)
          obtain ⟨bz, hbz, hcz⟩ := lk_at hL lz
          have ha : IsAt H1 a ((ys.map fun (i : Nat) => (i : Int)) ++ [(z : Int)]) := by rw [List.map_append] at ha; exact ha
          have ha : H1 a = some (.lst (((ys.map fun (i : Nat) => (i : Int)).map V.int) ++ [.int (z : Int)])) ∨ H1 a = some (.tup (((ys.map fun (i : Nat) => (i : Int)).map V.int) ++ [.int (z : Int)])) := by
            unfold IsAt at ha
            rw [List.map_append] at ha
            exact ha
          refine iteF ⟨_, rfl, _, rfl, _, rfl, ixOrA ha (by exact atI_last _ _) ⟨t, _, _, _, rfl, rfl, SqT.of hL.1, atI_nat hbz, bz, _, _, _, rfl, rfl, SqT.of hcz, atI_nat (j := 0) rfl, _, rfl, rfl, _, rfl, ?_⟩⟩
          rw [List.getLast?_append] at k
          have k : ∀ H', Same H H' → Q (optV (if e1 ls z = en then (none : Option Str) else some ("end" : Str))) H' := k
          rw [e1_at lz]
          refine ite2 (fun g => ?_) (fun g => ?_)
          · rw [if_pos (V.int.inj (of_decide_eq_true g))] at k
            exact k _ S1
          · rw [if_neg fun q => g (decide_eq_true (congrArg V.int q))] at k
            exact k _ S1
theorem cal_path_fault (T : Txt P w K mg cl) : Cal P w K mg base CX0 3 "path_fault" ["system", "path", "start", "end"] (spPF (cl "System")) := by
  obtain ⟨f, fd, F, m⟩ := T.d_path_fault
  exact ⟨f, fd, ok_path_fault F T, m, F.kp, F.binds fun _ _ _ _ _ _ us hl => match us, hl with | [_, _, _, _], _ => rfl⟩
end
end My
set_option Elab.async false
set_option linter.all false
set_option maxRecDepth 100000
set_option maxHeartbeats 1000000
namespace My
open PySem L2 Dw Wp
open C8 (pss_cut tCut)
set_option pp.maxSteps 600
/-- the first word of a ring of indexes that are right, one at least -/
def ringN (ls : List Lk) (js : List Nat) : Option Str :=
  if (fits ls js && decide (e2 ls (js[0]?.getD 0) = e1 ls (js.getLast?.getD 0))) = true then (if sumO ls js < 0 then none else some "sum") else some "joint"
def spRg : Sp := fun vs H Q _ => ∃ (t a : Addr) (us : List V) (ls : List Lk) (is : List Int), vs = [.ref t, .ref a] ∧ LsT H t us ls ∧ ls.length ≤ 900 ∧ H a = some (.tup (is.map V.int)) ∧ is.length ≤ 900 ∧
  (is = [] → ∀ H', Same H H' → Q (.str "empty") H') ∧ (is ≠ [] → is.all (isIx ls.length) = false → ∀ H', Same H H' → Q (.str "index") H') ∧
  (∀ js : List Nat, js ≠ [] → is = (js.map fun (i : Nat) => (i : Int)) → (∀ j ∈ js, j < ls.length) → ∀ H', Same H H' → Q (optV (ringN ls js)) H')
section
variable {P : Program} {w : World} {K : PySem.W.Frag} {mg : Str → Option Value} {base : Heap} {cl : String → Addr}
end
end My
set_option Elab.async false
set_option linter.all false
set_option maxRecDepth 100000
set_option maxHeartbeats 1000000
namespace My
open PySem L2 Dw Wp
open C8 (pss_cut tCut)
set_option pp.maxSteps 600
def spFld1 (C : Addr) (f : Str) : Sp := fun vs H Q _ => ∃ (p dx : Addr) (v : V), vs = [.ref p, v] ∧ H p = some (.ins C dx []) ∧ Q .non (upd H p (.ins C dx [(f, v)]))
def spTF (K : PySem.W.Frag) (C : Addr) : Sp := fun vs H Q _ => ∃ (p t a : Addr) (c : Int) (us : List V) (ls : List Lk) (ts : List Int), vs = [.ref p, .ref a] ∧ SyAt C H p c t us ls ∧ (∀ l ∈ ls, LkOk c l) ∧ ls.length ≤ 900 ∧ H a = some (.tup (ts.map V.int)) ∧ ts.length ≤ 900 ∧
  (¬ (ts.length : Int) = c → ∀ H', Same H H' → Q (.str "count") H') ∧ ((ts.length : Int) = c → ∀ H', Same H H' → Q (if (brk ls ts).isEmpty = true then .non else .str "link") H')
section
variable {P : Program} {w : World} {K : PySem.W.Frag} {mg : Str → Option Value} {base : Heap} {cl : String → Addr}
theorem ok_Kept_init {f : Addr} {fd : FuncData} (F : Fun K "__init__" "Kept.__init__" s_Kept_init f fd) (T : Txt P w K mg cl) : FnOk P w K mg base CX0 1 f fd ["self", "times"] (spFld1 (cl "Kept") "times") := by
  refine F.ok sc_Kept_init (fun vs H Q E h => ?_) (fun cdv A outer s H vs Q E hr h => ?_)
  · obtain ⟨p, dx, v, rfl, _⟩ := h
    rfl
  · obtain ⟨p, dx, v, rfl, hp, k⟩ := h
    refine ⟨_, (pss_one (ps_fld (pv 0) (pv 1) rfl)), ?_⟩
    exact ⟨_, rfl, _, rfl, p, _, dx, _, rfl, hp, T.cl_Kept, T.na_Kept _ (by decide), (by show 0 < 1000; decide), k⟩
theorem cal_Kept_init (T : Txt P w K mg cl) : CalC P w K mg base CX0 1 (cl "Kept") ["self", "times"] (spFld1 (cl "Kept") "times") := by
  obtain ⟨f, fd, F, m⟩ := T.i_Kept
  exact ⟨f, fd, ok_Kept_init F T, m, F.binds fun _ _ _ _ _ _ us hl => match us, hl with | [_, _], _ => rfl⟩
theorem ok_Ring_init {f : Addr} {fd : FuncData} (F : Fun K "__init__" "Ring.__init__" s_Ring_init f fd) (T : Txt P w K mg cl) : FnOk P w K mg base CX0 1 f fd ["self", "path"] (spFld1 (cl "Ring") "path") := by
  refine F.ok sc_Ring_init (fun vs H Q E h => ?_) (fun cdv A outer s H vs Q E hr h => ?_)
  · obtain ⟨p, dx, v, rfl, _⟩ := h
    rfl
  · obtain ⟨p, dx, v, rfl, hp, k⟩ := h
    refine ⟨_, (pss_one (ps_fld (pv 0) (pv 1) rfl)), ?_⟩
    exact ⟨_, rfl, _, rfl, p, _, dx, _, rfl, hp, T.cl_Ring, T.na_Ring _ (by decide), (by show 0 < 1000; decide), k⟩
theorem cal_Ring_init (T : Txt P w K mg cl) : CalC P w K mg base CX0 1 (cl "Ring") ["self", "path"] (spFld1 (cl "Ring") "path") := by
  obtain ⟨f, fd, F, m⟩ := T.i_Ring
  exact ⟨f, fd, ok_Ring_init F T, m, F.binds fun _ _ _ _ _ _ us hl => match us, hl with | [_, _], _ => rfl⟩
theorem ok_times_fault {f : Addr} {fd : FuncData} (F : Fun K "times_fault" "times_fault" s_times_fault f fd) (T : Txt P w K mg cl) : FnOk P w K mg base CX0 4 f fd ["system", "times"] (spTF K (cl "System")) := by
  refine F.ok sc_times_fault (fun vs H Q E h => ?_) (fun cdv A outer s H vs Q E hr h => ?_)
  · obtain ⟨p, t, a, c, us, ls, ts, rfl, _⟩ := h
    rfl
  · obtain ⟨p, t, a, c, us, ls, ts, rfl, X, lok, ln, ha, le, kc, kl⟩ := h
    have C_System_broken : CalM P w K mg base (L2.CX P w) 3 (cl "System") "broken" _ (spBrk K (cl "System") (cl "BadTimes")) := cal_System_broken T
    refine ⟨_, (pss_cons (ps_if (pt_cmpR op_ne (pe_callB call_len_seq (by rfl) T.n_len PySem.boot_len (pa_cons (pv 1) pa_nil)) (pe_fld (pv 0) rfl) (nomark _))
          (pss_one (ps_ret pe_str)) pss_nil)
        (pss_one (ps_ret (pe_ifExp (pt_cmpR (op_eqD hr.units) (pe_mth T.cl_System C_System_broken (hr.mono (by decide)) (pv 0) (pa_cons (pv 1) pa_nil)) (pe_tup pa_nil) (nomark _)) pe_non pe_str)))), ?_⟩
    obtain ⟨dx, hself⟩ := X.self
    refine ⟨_, rfl, a, _, rfl, .inr (SqT.of ha), _, rfl, p, _, _, _, _, rfl, hself, T.cl_System, T.na_System _ (by decide), rfl, rfl, _, rfl, ?_⟩
    rw [List.length_map]
    by_cases g : (ts.length : Int) = c
    rotate_left
    · rw [decide_eq_false fun q => g (V.int.inj q)]
      exact iteT (kc g _ (Same.refl H))
    rw [decide_eq_true (congrArg V.int g)]
    have k := kl g
    refine iteF ?_
    refine ⟨_, rfl, p, _, _, rfl, hself, rfl, _, rfl, p, t, c, us, ls, .ref a, some (ts.map V.int), rfl, X, lok, ln, ⟨a, rfl, .inr ha, fun x hx => by obtain ⟨i, _, rfl⟩ := List.mem_map.mp hx; exact ⟨_, .int i⟩, by rw [List.length_map]; exact le⟩, fun h => ?_, fun ts' e lt t' H1 S1 ht => ?_⟩
    · exfalso
      have h : (decide (((ts.map V.int).length : Int) = c) && (ts.map V.int).all isI) = false := h
      rw [List.length_map, decide_eq_true g, Bool.true_and, List.all_map] at h
      have h2 : ts.all (isI ∘ V.int) = true := List.all_eq_true.mpr fun _ _ => rfl
      rw [h2] at h
      cases h
    · have et : ts = ts' := by
        have e := Option.some.inj e
        have inj : ∀ as bs : List Int, as.map V.int = bs.map V.int → as = bs := fun as => by
          induction as with
          | nil => intro bs h; cases bs with
            | nil => rfl
            | cons _ _ => cases h
          | cons x as ih => intro bs h; cases bs with
            | nil => cases h
            | cons y bs =>
              rw [List.map_cons, List.map_cons] at h
              injection h with h1 h2
              rw [V.int.inj h1, ih bs h2]
        exact inj _ _ e
      subst et
      have okI : ∀ x ∈ (brk ls ts).map fun (i : Nat) => V.int i, okV x = true := fun x hx => by
        obtain ⟨i, _, rfl⟩ := List.mem_map.mp hx
        rfl
      refine ⟨by show 0 ≤ sizeLine; exact Nat.zero_le _, fun q nq => ?_⟩
      have S2 := sNew (o := .tup []) nq
      refine ⟨_, _, dp_tup (SqT.of (S2 _ _ ht)) (dpvs fun x hx => okV.flat (okI x hx)), dp_tup (SqT.of upd_same) .nil, row_shaped false okI, row_shaped (xs := []) false (by simp), _, rfl, ?_⟩
      rw [eqv_nilV, show ((brk ls ts).map fun (i : Nat) => V.int i).isEmpty = (brk ls ts).isEmpty by cases brk ls ts <;> rfl]
      have k := k _ (S1.trans S2)
      cases hb : (brk ls ts).isEmpty with
      | true => rw [hb] at k; exact iteT k
      | false => rw [hb] at k; exact iteF k
theorem cal_times_fault (T : Txt P w K mg cl) : Cal P w K mg base CX0 4 "times_fault" ["system", "times"] (spTF K (cl "System")) := by
  obtain ⟨f, fd, F, m⟩ := T.d_times_fault
  exact ⟨f, fd, ok_times_fault F T, m, F.kp, F.binds fun _ _ _ _ _ _ us hl => match us, hl with | [_, _], _ => rfl⟩
end
end My
set_option Elab.async false
set_option linter.all false
set_option maxRecDepth 100000
set_option maxHeartbeats 1000000
namespace My
open PySem L2 Dw Wp
open C8 (pss_cut tCut)
set_option pp.maxSteps 600
def RgAt (C : Addr) (H : Hp) (p : Addr) (f : Str) (a : Addr) : Prop := ∃ dx, H p = some (.ins C dx [(f, .ref a)])
def spSF (K : PySem.W.Frag) (C CR CK : Addr) : Sp := fun vs H Q _ => ∃ (p q t a : Addr) (c : Int) (us : List V) (ls : List Lk) (is : List Int), vs = [.ref p, .ref q] ∧ SyAt C H p c t us ls ∧ (∀ l ∈ ls, LkOk c l) ∧ ls.length ≤ 900 ∧ H a = some (.tup (is.map V.int)) ∧ is.length ≤ 900 ∧
  ((RgAt CR H q "path" a ∧ (is = [] → ∀ H', Same H H' → Q (.str "empty") H') ∧ (is ≠ [] → is.all (isIx ls.length) = false → ∀ H', Same H H' → Q (.str "index") H') ∧
    (∀ js : List Nat, js ≠ [] → is = (js.map fun (i : Nat) => (i : Int)) → (∀ j ∈ js, j < ls.length) → ∀ H', Same H H' → Q (optV (ringN ls js)) H')) ∨
   (RgAt CK H q "times" a ∧ (¬ (is.length : Int) = c → ∀ H', Same H H' → Q (.str "count") H') ∧ ((is.length : Int) = c → ∀ H', Same H H' → Q (if (brk ls is).isEmpty = true then .non else .str "link") H')))
section
variable {P : Program} {w : World} {K : PySem.W.Frag} {mg : Str → Option Value} {base : Heap} {cl : String → Addr}
end
end My
set_option Elab.async false
set_option linter.all false
set_option maxRecDepth 100000
set_option maxHeartbeats 1000000
namespace My
open PySem L2 Dw Wp
open C8 (pss_cut tCut)
set_option pp.maxSteps 600
/-! the law's draws: a bag -/
def BgAt (H : Hp) (b : Addr) : Prop := ∃ c s : Int, H b = some (.lst [.int c, .int s]) ∧ 0 ≤ c ∧ 0 ≤ s ∧ s < 4294967296
def spTake : Sp := fun vs H Q _ => ∃ (b : Addr) (m : Int), vs = [.ref b, .int m] ∧ BgAt H b ∧ 1 ≤ m ∧ m < 1073741824 ∧ ∀ (k : Int) (H' : Hp), 0 ≤ k → k < m → BgAt H' b → But b H H' → Q (.int k) H'
section
variable {P : Program} {w : World} {K : PySem.W.Frag} {mg : Str → Option Value} {base : Heap} {cl : String → Addr}
theorem ok_take {f : Addr} {fd : FuncData} (F : Fun K "_law_take" "_law_take" s_take f fd) (T : Txt P w K mg cl) : FnOk P w K mg base CX0 1 f fd ["_law_bag_here", "_law_many"] spTake := by
  refine F.ok sc_take (fun vs H Q E h => ?_) (fun cdv A outer s H vs Q E hr h => ?_)
  · obtain ⟨b, m, rfl, _⟩ := h
    rfl
  · obtain ⟨b, m, rfl, ⟨c, s0, hb, c0, s1, s2⟩, m1, m2, k⟩ := h
    refine ⟨_, (pss_cons (ps_if (pt_cmpR op_gt (pe_ix ix_list (pv 0) pe_int (fun _ _ => rfl)) pe_int (nomark _))
          (pss_cons (ps_set (i := 2) sc_take.nd rfl (Or.inl rfl) (pe_op op_mod (pe_callTy call_int1 (by rfl) T.n_int (by decide +kernel) (pa_cons (pe_ix ix_list (pv 0) pe_int (fun _ _ => rfl)) pa_nil)) (pv 1)))
            (pss_cons (ps_asg (pe_op op_fdiv (pe_ix ix_list (pv 0) pe_int (fun _ _ => rfl)) (pv 1)) (pg_sub (pv 0) pe_int set_list))
            (pss_one (ps_ret (pv 2))))) pss_nil)
        (pss_cons (ps_asg (pe_op op_mod (pe_callTy call_int1 (by rfl) T.n_int (by decide +kernel) (pa_cons (pe_op op_add (pe_op op_mul (pe_ix ix_list (pv 0) pe_int (fun _ _ => rfl)) pe_int) pe_int) pa_nil)) pe_int) (pg_sub (pv 0) pe_int set_list))
        (pss_one (ps_ret (pe_op op_mod (pe_op op_fdiv (pe_op op_mod (pe_callTy call_int1 (by rfl) T.n_int (by decide +kernel) (pa_cons (pe_op op_mul (pe_op op_fdiv (pe_ix ix_list (pv 0) pe_int (fun _ _ => rfl)) pe_int) pe_int) pa_nil)) pe_int) pe_int) (pv 1)))))), ?_⟩
    refine ⟨_, rfl, b, _, _, _, rfl, rfl, SqL.of hb, atI_nat (j := 0) rfl, _, _, rfl, rfl, _, rfl, ?_⟩
    refine ite2 (fun g => ?_) (fun g => ?_)
    · refine ⟨_, rfl, b, _, _, _, rfl, rfl, SqL.of hb, atI_nat (j := 0) rfl, .inl ⟨_, rfl, _, rfl, _, _, rfl, rfl, by omega, ?_⟩⟩
      refine ⟨_, rfl, b, _, _, _, rfl, rfl, SqL.of hb, atI_nat (j := 0) rfl, _, rfl, _, _, rfl, rfl, by unfold CDiv; omega, ?_⟩
      refine ⟨_, rfl, b, _, 0, 0, rfl, rfl, hb, rfl, _, rfl, k _ _ (Int.emod_nonneg _ (by omega)) (Int.emod_lt_of_pos _ (by omega)) ⟨c / m, s0, upd_same, ?_, s1, s2⟩ fun x o e n => by rw [upd_ne n]; exact e⟩
      exact Int.ediv_nonneg c0 (by omega)
    · refine ⟨_, rfl, b, _, _, _, rfl, rfl, SqL.of hb, atI_nat (j := 1) rfl, _, _, rfl, rfl, .inr ⟨by decide, by decide⟩, _, _, rfl, rfl, .inl ⟨_, rfl, _, _, rfl, rfl, (by show (0 : Int) < 2147483563; decide), ?_⟩⟩
      refine ⟨_, rfl, b, _, 1, 1, rfl, rfl, hb, rfl, ?_⟩
      have n0 : (0 : Int) ≤ (s0 * 48271 + 20011) % 2147483563 := Int.emod_nonneg _ (by decide)
      have n1 : (s0 * 48271 + 20011) % 2147483563 < 2147483563 := Int.emod_lt_of_pos _ (by decide)
      have hb' : (upd H b (.lst ([V.int c, .int s0].set 1 ((fun i j : Int => V.int (i % j)) (s0 * 48271 + 20011) 2147483563)))) b = some (.lst [.int c, .int ((s0 * 48271 + 20011) % 2147483563)]) := upd_same
      refine ⟨_, rfl, b, _, _, _, rfl, rfl, SqL.of hb', atI_nat (j := 1) rfl, _, _, rfl, rfl, by unfold CDiv; omega, _, _, rfl, rfl, .inr ⟨by decide, by decide⟩, .inl ⟨_, rfl, _, _, rfl, rfl, (by show (0 : Int) < 2147483543; decide), _, _, rfl, rfl, by unfold CDiv; omega, _, rfl, _, _, rfl, rfl, by omega, ?_⟩⟩
      exact k _ _ (Int.emod_nonneg _ (by omega)) (Int.emod_lt_of_pos _ (by omega)) ⟨c, _, hb', c0, n0, by omega⟩ fun x o e n => by rw [upd_ne n]; exact e
theorem cal_take (T : Txt P w K mg cl) : Cal P w K mg base CX0 1 "_law_take" ["_law_bag_here", "_law_many"] spTake := by
  obtain ⟨f, fd, F, m⟩ := T.d_take
  exact ⟨f, fd, ok_take F T, m, F.kp, F.binds fun _ _ _ _ _ _ us hl => match us, hl with | [_, _], _ => rfl⟩
end
end My
set_option Elab.async false
set_option linter.all false
set_option maxRecDepth 100000
set_option maxHeartbeats 1000000
namespace My
open PySem L2 Dw Wp
open C8 (pss_cut tCut)
set_option pp.maxSteps 600
def spOf : Sp := fun vs H Q _ => ∃ (b a : Addr) (xs : List V), vs = [.ref b, .ref a] ∧ BgAt H b ∧ H a = some (.lst xs) ∧ a ≠ b ∧ 1 ≤ xs.length ∧ xs.length ≤ 900 ∧ ∀ (j : Nat) (x : V) (H' : Hp), xs[j]? = some x → BgAt H' b → But b H H' → Q x H'
section
variable {P : Program} {w : World} {K : PySem.W.Frag} {mg : Str → Option Value} {base : Heap} {cl : String → Addr}
theorem ok_of {f : Addr} {fd : FuncData} (F : Fun K "_law_of" "_law_of" s_of f fd) (T : Txt P w K mg cl) : FnOk P w K mg base CX0 2 f fd ["_law_bag_here", "_law_some"] spOf := by
  refine F.ok sc_of (fun vs H Q E h => ?_) (fun cdv A outer s H vs Q E hr h => ?_)
  · obtain ⟨b, a, xs, rfl, _⟩ := h
    rfl
  · obtain ⟨b, a, xs, rfl, B, ha, nab, l1, l2, k⟩ := h
    have C_take : Cal P w K mg base CX0 1 "_law_take" _ spTake := cal_take T
    refine ⟨_, (pss_one (ps_ret (pe_ix ix_list (pv 1) (pe_cal C_take (hr.mono (by decide)) (pa_cons (pv 0) (pa_cons (pe_callB call_len_seq (by rfl) T.n_len PySem.boot_len (pa_cons (pv 1) pa_nil)) pa_nil))) (fun _ _ => rfl)))), ?_⟩
    refine ⟨_, rfl, _, rfl, _, rfl, a, _, rfl, .inl (SqL.of ha), b, _, rfl, B, by omega, by omega, fun j H' j0 j1 B' D => ?_⟩
    obtain ⟨jn, rfl⟩ : ∃ jn : Nat, j = (jn : Int) := ⟨j.toNat, by omega⟩
    have hj : jn < xs.length := by omega
    exact ⟨a, _, _, _, rfl, rfl, SqL.of (D _ _ ha nab), atI_nat (j := jn) (List.getElem?_eq_getElem hj), k jn _ H' (List.getElem?_eq_getElem hj) B' D⟩
theorem cal_of (T : Txt P w K mg cl) : Cal P w K mg base CX0 2 "_law_of" ["_law_bag_here", "_law_some"] (spOf) := by
  obtain ⟨f, fd, F, m⟩ := T.d_of
  exact ⟨f, fd, ok_of F T, m, F.kp, F.binds fun _ _ _ _ _ _ us hl => match us, hl with | [_, _], _ => rfl⟩
end
end My
set_option Elab.async false
set_option linter.all false
set_option maxRecDepth 100000
set_option maxHeartbeats 1000000
namespace My
open PySem L2 Dw Wp
open C8 (pss_cut tCut)
set_option pp.maxSteps 600
theorem eqv_nilO (xs : List V) : PyData.eqv (sqD true (xs.map vD)) (sqD true []) = xs.isEmpty := by
  cases xs <;> simp [sqD, PyData.eqv, PyData.eqvAll]
theorem odd_ok {xs : List V} (h : ∀ x ∈ xs, Sr x) : ∀ x ∈ xs.filterMap oddF, okV x = true := fun x hx => by
  obtain ⟨y, hy, e⟩ := List.mem_filterMap.mp hx
  have e : (if isI y = true then none else some y) = some x := e
  split at e
  · cases e
  · cases e
    exact (h _ hy).ok
section
variable {P : Program} {w : World} {K : PySem.W.Frag} {mg : Str → Option Value} {base : Heap} {cl : String → Addr}
end
end My
set_option Elab.async false
set_option linter.all false
set_option maxRecDepth 100000
set_option maxHeartbeats 1000000
namespace My
open PySem L2 Dw Wp
open C8 (pss_cut tCut)
set_option pp.maxSteps 600
theorem but_upd {d a : Addr} {H H' : Hp} {o : HO} (k : But d H H') (h : H a = none) : But d H (upd H' a o) := fun b o e n => (upd_ne (ne_of_none e h)).trans (k _ _ e n)
theorem BgAt.same {H H' : Hp} {b : Addr} (h : BgAt H b) (S : Same H H') : BgAt H' b := by
  obtain ⟨c, s, h1, h2⟩ := h
  exact ⟨c, s, S _ _ h1, h2⟩
theorem BgAt.ne {H : Hp} {b a : Addr} (h : BgAt H b) (n : H a = none) : a ≠ b := by
  obtain ⟨c, s, h1, _⟩ := h
  exact Ne.symm (ne_of_none h1 n)
theorem BgAt.upd {H : Hp} {b a : Addr} {o : HO} (h : BgAt H b) (n : a ≠ b) : BgAt (L2.upd H a o) b := by
  obtain ⟨c, s, h1, h2⟩ := h
  exact ⟨c, s, by rw [upd_ne (Ne.symm n)]; exact h1, h2⟩
def spBag (K : PySem.W.Frag) : Sp := fun vs H Q _ => ∃ (a : Addr) (ns : List Int) (i : Nat), vs = [.ref a, .int (i : Nat)] ∧ SqL K H a (ns.map V.int) ∧ ns.length ≤ 63 ∧ i ≤ 3 ∧ ∀ b H', H b = none → BgAt H' b → Same H H' → Q (.ref b) H'
section
variable {P : Program} {w : World} {K : PySem.W.Frag} {mg : Str → Option Value} {base : Heap} {cl : String → Addr}
theorem ok_bag {f : Addr} {fd : FuncData} (F : Fun K "_law_bag" "_law_bag" s_bag f fd) (T : Txt P w K mg cl) : FnOk P w K mg base CX0 1 f fd ["_law_script", "_law_at"] (spBag K) := by
  refine F.ok sc_bag (fun vs H Q E h => ?_) (fun cdv A outer s H vs Q E hr h => ?_)
  · obtain ⟨a, ns, i, rfl, _⟩ := h
    rfl
  · obtain ⟨a, ns, i, rfl, hS, hl, i3, k⟩ := h
    refine ⟨_, (pss_cons (ps_set (i := 2) sc_bag.nd rfl (Or.inl rfl) (pe_cut (pe_ifExp (pt_cmpR op_lt (pv 1) (pe_callB call_len_seq (by rfl) T.n_len PySem.boot_len (pa_cons (pv 0) pa_nil)) (nomark _)) (pe_callTy call_int1 (by rfl) T.n_int (by decide +kernel) (pa_cons (pe_ix ix_list (pv 0) (pv 1) (fun _ _ => rfl)) pa_nil)) pe_int)))
        (pss_cons (ps_set (i := 3) sc_bag.nd rfl (Or.inl rfl) (pe_op op_add (pe_op op_mul pe_int (pv 1)) pe_int))
        (pss_cons (ps_for PassesOwn.never rfl (pi_range1 rfl T.n_range (pa_cons (pe_callB (call_min2 rfl) (by rfl) T.n_min (by decide +kernel) (pa_cons (pe_callB call_len_seq (by rfl) T.n_len PySem.boot_len (pa_cons (pv 0) pa_nil)) (pa_cons pe_int pa_nil))) pa_nil)) (pg_name (i := 4) sc_bag.nd rfl (Or.inl rfl))
          (pss_one (ps_set (i := 3) sc_bag.nd rfl (Or.inl rfl) (pe_op op_mod (pe_callTy call_int1 (by rfl) T.n_int (by decide +kernel) (pa_cons (pe_op op_add (pe_op op_add (pe_op op_add (pe_op op_mul (pv 3) pe_int) (pe_op op_mod (pe_callB call_abs (by rfl) T.n_abs (by decide +kernel) (pa_cons (pe_callTy call_int1 (by rfl) T.n_int (by decide +kernel) (pa_cons (pe_ix ix_list (pv 0) (pv 4) (fun _ _ => rfl)) pa_nil)) pa_nil)) pe_int)) (pe_op op_mul pe_int (pv 4))) (pe_callTy call_int1 (by rfl) T.n_int (by decide +kernel) (pa_cons (pe_cmpR op_lt (pe_ix ix_list (pv 0) (pv 4) (fun _ _ => rfl)) pe_int (nomark _)) pa_nil))) pa_nil)) pe_int))))
        (pss_one (ps_ret (pe_lst (pa_cons (pe_ifExp (pt_cmpR op_ge (pe_callB call_abs (by rfl) T.n_abs (by decide +kernel) (pa_cons (pv 2) pa_nil)) (pe_op op_pow pe_int pe_int) (nomark _)) (pe_op op_add (pe_op op_mul (pe_callB call_abs (by rfl) T.n_abs (by decide +kernel) (pa_cons (pv 2) pa_nil)) pe_int) (pe_callTy call_int1 (by rfl) T.n_int (by decide +kernel) (pa_cons (pe_cmpR op_lt (pv 2) pe_int (nomark _)) pa_nil))) pe_int) (pa_cons (pv 3) pa_nil)))))))), ?_⟩
    refine ⟨fun v H' => H' = H ∧ ∃ c0 : Int, v = .int c0, ?_, fun v H1 ⟨e, c0, hv⟩ => ?_⟩
    · refine ⟨_, rfl, _, rfl, a, _, rfl, .inl hS, _, _, rfl, rfl, _, rfl, ite2 (fun g => ?_) (fun g => ?_)⟩
      · have g : (i : Int) < ((ns.map V.int).length : Nat) := of_decide_eq_true g
        have hi : i < ns.length := by rw [List.length_map] at g; omega
        exact ⟨_, rfl, _, rfl, a, _, _, _, rfl, rfl, hS, atI_nat (j := i) (by rw [List.getElem?_map, List.getElem?_eq_getElem hi]; rfl), .inl ⟨_, rfl, rfl, _, rfl⟩⟩
      · exact ⟨rfl, _, rfl⟩
    subst e hv
    refine ⟨_, rfl, _, _, rfl, rfl, .inl ⟨by decide, by decide⟩, _, _, rfl, rfl, ?_⟩
    have lm : (ns.map V.int).length = ns.length := List.length_map _
    refine ⟨_, rfl, a, _, rfl, .inl hS, _, _, rfl, _, rfl, ?_⟩
    have mn : ∃ n : Nat, (if (63 : Int) < (((ns.map V.int).length : Nat) : Int) then (63 : Int) else (((ns.map V.int).length : Nat) : Int)) = (n : Int) ∧ n ≤ ns.length := by
      rw [lm]
      split
      · exact ⟨63, rfl, by omega⟩
      · exact ⟨ns.length, rfl, Nat.le_refl _⟩
    obtain ⟨n, en, hn⟩ := mn
    rw [en]
    refine ⟨by omega, by omega, ?_⟩
    refine for_range (fun j σ H' => H' = H1 ∧ ∃ (z : Int) (v4 : Option V), 0 ≤ z ∧ z < 4294967296 ∧ σ = [some (.ref a), some (.int (i : Nat)), some (.int c0), some (.int z), v4]) ⟨rfl, _, _, ?_, ?_, rfl⟩ ?_ ?_
    · omega
    · omega
    · rintro j σ H' hj ⟨rfl, z, v4, z0, z1, rfl⟩
      have hj : j < ns.length := by
        rw [Int.toNat_natCast] at hj
        omega
      have at_ : atI (ns.map V.int) ((0 : Int) + (j : Nat)) = some (.int ns[j]) := by
        rw [Int.zero_add]
        exact atI_nat (by rw [List.getElem?_map, List.getElem?_eq_getElem hj]; rfl)
      refine ⟨_, rfl, _, _, rfl, rfl, .inl ⟨by omega, by omega⟩, _, rfl, _, rfl, a, _, _, _, rfl, rfl, hS, at_, .inl ⟨_, rfl, _, rfl, _, _, rfl, rfl, (by show (0 : Int) < 2147483629; decide), _, _, rfl, rfl, _, rfl, _, _, rfl, rfl, .inl ⟨by decide, by decide⟩, _, _, rfl, rfl, _, rfl, _, rfl, a, _, _, _, rfl, rfl, hS, at_, _, _, rfl, rfl, .inr ⟨_, rfl, _, _, rfl, rfl, .inl ⟨_, rfl, _, _, rfl, rfl, (by show (0 : Int) < 2147483587; decide), ?_⟩⟩⟩⟩
      refine ⟨rfl, _, _, Int.emod_nonneg _ (by decide), ?_, rfl⟩
      exact Int.lt_trans (Int.emod_lt_of_pos _ (by decide)) (by decide)
    · rintro σ H' ⟨rfl, z, v4, z0, z1, rfl⟩
      refine ⟨_, rfl, _, rfl, _, _, rfl, rfl, ⟨by decide, by decide, by decide⟩, _, _, rfl, rfl, _, rfl, ite2 (fun _ => ?_) (fun _ => ?_)⟩
      · refine ⟨_, rfl, _, rfl, _, _, rfl, rfl, .inr ⟨by decide, by decide⟩, _, rfl, _, _, rfl, rfl, .inr ⟨_, rfl, _, _, rfl, rfl, _, rfl, by show 2 ≤ sizeLine; decide, fun b nb => k b _ nb ⟨_, _, upd_same, ?_, z0, z1⟩ (sNew nb)⟩⟩
        have : (0 : Int) ≤ (if c0 < 0 then -c0 else c0) := by split <;> omega
        split <;> omega
      · exact ⟨_, rfl, by show 2 ≤ sizeLine; decide, fun b nb => k b _ nb ⟨_, _, upd_same, Int.le_refl _, z0, z1⟩ (sNew nb)⟩
theorem cal_bag (T : Txt P w K mg cl) : Cal P w K mg base CX0 1 "_law_bag" ["_law_script", "_law_at"] (spBag K) := by
  obtain ⟨f, fd, F, m⟩ := T.d_bag
  exact ⟨f, fd, ok_bag F T, m, F.kp, F.binds fun _ _ _ _ _ _ us hl => match us, hl with | [_, _], _ => rfl⟩
end
end My
set_option Elab.async false
set_option linter.all false
set_option maxRecDepth 100000
set_option maxHeartbeats 1000000
namespace My
open PySem L2 Dw Wp
open C8 (pss_cut tCut)
set_option pp.maxSteps 600
def spAmt : Sp := fun vs H Q _ => ∃ (b : Addr), vs = [.ref b] ∧ BgAt H b ∧ ∀ (i : Int) (H' : Hp), BgAt H' b → But b H H' → Q (.int i) H'
def spTimes : Sp := fun vs H Q _ => ∃ (b : Addr) (c : Int), vs = [.ref b, .int c] ∧ BgAt H b ∧ 1 ≤ c ∧ c ≤ 12 ∧ ∀ (a : Addr) (ts : List Int) (H' : Hp), H a = none → H' a = some (.lst (ts.map V.int)) → (ts.length : Int) = c → BgAt H' b → But b H H' → Q (.ref a) H'
section
variable {P : Program} {w : World} {K : PySem.W.Frag} {mg : Str → Option Value} {base : Heap} {cl : String → Addr}
theorem ok_amount {f : Addr} {fd : FuncData} (F : Fun K "_law_amount" "_law_amount" s_amount f fd) (T : Txt P w K mg cl) : FnOk P w K mg base CX0 3 f fd ["_law_bag_here"] spAmt := by
  refine F.ok sc_amount (fun vs H Q E h => ?_) (fun cdv A outer s H vs Q E hr h => ?_)
  · obtain ⟨b, rfl, _⟩ := h
    rfl
  · obtain ⟨b, rfl, B, k⟩ := h
    have C_take : Cal P w K mg base CX0 1 "_law_take" _ spTake := cal_take T
    have C_of : Cal P w K mg base CX0 2 "_law_of" _ spOf := cal_of T
    refine ⟨_, (pss_cons (ps_set (i := 1) sc_amount.nd rfl (Or.inl rfl) (pe_cal C_take (hr.mono (by decide)) (pa_cons (pv 0) (pa_cons pe_int pa_nil))))
        (pss_cons (ps_if (pt_cmpR op_le (pv 1) pe_int (nomark _))
          (pss_one (ps_ret (pe_op op_sub (pe_cal C_take (hr.mono (by decide)) (pa_cons (pv 0) (pa_cons pe_int pa_nil))) pe_int))) pss_nil)
        (pss_cons (ps_set (i := 2) sc_amount.nd rfl (Or.inl rfl) (pe_op op_mulW (pe_cal C_of (hr.mono (by decide)) (pa_cons (pv 0) (pa_cons (pe_lst (pa_cons pe_int (pa_cons (pe_op op_pow pe_int pe_int) (pa_cons (pe_op op_pow pe_int pe_int) pa_nil)))) pa_nil))) (pe_cal C_of (hr.mono (by decide)) (pa_cons (pv 0) (pa_cons (pe_lst (pa_cons pe_int (pa_cons (pe_op op_pow pe_int pe_int) (pa_cons (pe_op op_mulW (pe_op op_pow pe_int pe_int) (pe_op op_pow pe_int pe_int)) pa_nil)))) pa_nil)))))
        (pss_cons (ps_set (i := 2) sc_amount.nd rfl (Or.inl rfl) (pe_op op_add (pv 2) (pe_cal C_take (hr.mono (by decide)) (pa_cons (pv 0) (pa_cons pe_int pa_nil)))))
        (pss_one (ps_ret (pe_ifExp (pt_cmpR op_eq (pe_cal C_take (hr.mono (by decide)) (pa_cons (pv 0) (pa_cons pe_int pa_nil))) pe_int (nomark _)) (pv 2) (pe_un un_neg (pv 2))))))))), ?_⟩
    refine ⟨_, rfl, b, _, rfl, B, by decide, by decide, fun j H1 _ _ B1 D1 => ⟨_, rfl, _, _, rfl, rfl, _, rfl, ite2 (fun _ => ?_) (fun _ => ?_)⟩⟩
    · exact ⟨_, rfl, b, _, rfl, B1, by decide, by decide, fun j H2 _ _ B2 D2 => ⟨_, _, rfl, rfl, k _ _ B2 (D1.trans D2)⟩⟩
    refine ⟨_, rfl, _, _, rfl, rfl, ⟨by decide, by decide, by decide⟩, _, _, rfl, rfl, ⟨by decide, by decide, by decide⟩, by show 3 ≤ sizeLine; decide, fun p np => ?_⟩
    refine ⟨b, p, _, rfl, B1.same (sNew np), upd_same, B1.ne np, by decide, by decide, fun jj x H2 hx B2 D2 => ?_⟩
    have hx := List.mem_of_getElem? hx
    obtain ⟨x, rfl, x0, x1⟩ : ∃ i : Int, x = .int i ∧ 0 ≤ i ∧ i < 2 ^ 200 := by
      simp only [List.mem_cons, List.not_mem_nil, or_false] at hx
      rcases hx with rfl | rfl | rfl <;> exact ⟨_, rfl, by decide, by decide⟩
    refine ⟨_, rfl, _, _, rfl, rfl, ⟨by decide, by decide, by decide⟩, _, _, rfl, rfl, ⟨by decide, by decide, by decide⟩, _, _, rfl, rfl, ⟨by decide, by decide, by decide⟩, _, _, rfl, rfl, (by unfold CMulW; decide +kernel), by show 3 ≤ sizeLine; decide, fun p2 np2 => ?_⟩
    refine ⟨b, p2, _, rfl, B2.same (sNew np2), upd_same, B2.ne np2, by decide, by decide, fun jj2 y H3 hy B3 D3 => ?_⟩
    have hy := List.mem_of_getElem? hy
    obtain ⟨y, rfl, y0, y1⟩ : ∃ i : Int, y = .int i ∧ 0 ≤ i ∧ i < 2 ^ 400 := by
      simp only [List.mem_cons, List.not_mem_nil, or_false] at hy
      rcases hy with rfl | rfl | rfl <;> exact ⟨_, rfl, by decide, by decide⟩
    have D : But b H H3 := D1.trans ((But.of (sNew np)).trans (D2.trans ((But.of (sNew np2)).trans D3)))
    refine ⟨_, _, rfl, rfl, wide_mul (a := 200) (b := 400) (by omega) (by omega) (by decide) (by decide) (by decide), ?_⟩
    refine ⟨_, rfl, _, rfl, b, _, rfl, B3, by decide, by decide, fun j H4 _ _ B4 D4 => ⟨_, _, rfl, rfl, ?_⟩⟩
    refine ⟨_, rfl, b, _, rfl, B4, by decide, by decide, fun j H5 _ _ B5 D5 => ⟨rfl, _, rfl, ite2 (fun _ => ?_) (fun _ => ?_)⟩⟩
    · exact ⟨_, rfl, k _ _ B5 (D.trans (D4.trans D5))⟩
    · exact ⟨_, rfl, _, rfl, k _ _ B5 (D.trans (D4.trans D5))⟩
theorem cal_amount (T : Txt P w K mg cl) : Cal P w K mg base CX0 3 "_law_amount" ["_law_bag_here"] (spAmt) := by
  obtain ⟨f, fd, F, m⟩ := T.d_amount
  exact ⟨f, fd, ok_amount F T, m, F.kp, F.binds fun _ _ _ _ _ _ us hl => match us, hl with | [_], _ => rfl⟩
end
end My
set_option Elab.async false
set_option linter.all false
set_option maxRecDepth 100000
set_option maxHeartbeats 1000000
namespace My
open PySem L2 Dw Wp
open C8 (pss_cut tCut)
set_option pp.maxSteps 600
theorem ints_of {xs : List V} : (∀ x ∈ xs, ∃ i : Int, x = .int i) → ∃ ts : List Int, xs = ts.map V.int := fun h => by
  induction xs with
  | nil => exact ⟨[], rfl⟩
  | cons x xs ih =>
    obtain ⟨i, rfl⟩ := h x List.mem_cons_self
    obtain ⟨ts, rfl⟩ := ih fun y hy => h y (List.mem_cons_of_mem _ hy)
    exact ⟨i :: ts, rfl⟩
section
variable {P : Program} {w : World} {K : PySem.W.Frag} {mg : Str → Option Value} {base : Heap} {cl : String → Addr}
theorem ok_times {f : Addr} {fd : FuncData} (F : Fun K "_law_times" "_law_times" s_times f fd) (T : Txt P w K mg cl) : FnOk P w K mg base CX0 4 f fd ["_law_bag_here", "_law_count"] spTimes := by
  refine F.ok sc_times (fun vs H Q E h => ?_) (fun cdv A outer s H vs Q E hr h => ?_)
  · obtain ⟨b, c, rfl, _⟩ := h
    rfl
  · obtain ⟨b, c, rfl, B, c1, c2, k⟩ := h
    have C_take : Cal P w K mg base CX0 1 "_law_take" _ spTake := cal_take T
    have C_of : Cal P w K mg base CX0 2 "_law_of" _ spOf := cal_of T
    have C_amount : Cal P w K mg base CX0 3 "_law_amount" _ spAmt := cal_amount T
    refine ⟨_, (pss_cons (ps_set (i := 2) sc_times.nd rfl (Or.inr rfl) (pe_cal C_of (hr.mono (by decide)) (pa_cons (pv 0) (pa_cons (pe_lst (pa_cons pe_int (pa_cons pe_int (pa_cons pe_int (pa_cons pe_int pa_nil))))) pa_nil))))
        (pss_cons (ps_setLc (i := 3) (own := [("_law_k", 4)]) (g := gName 4) (tt := tYes) rfl sc_times.nd rfl rfl (sw_true rfl rfl rfl (by decide +kernel)) (pi_range1 rfl T.n_range (pa_cons (pv 1) pa_nil)) (blkOk_by (own := [("_law_k", 4)]) (N := ["_law_bag_here", "_law_count", "_law_wide", "_law_found", "_law_k"]) (sc := defScope s_times) (by decide +kernel)) (fun _ _ _ _ _ => pg_name (i := 4) sc_times.nd rfl (Or.inl rfl)) (fun _ _ _ _ _ => pts_nil) (fun _ _ _ _ _ => (pe_op op_sub (pe_cal C_take (hr.mono (by decide)) (pa_cons (pv 0) (pa_cons (pv 2) pa_nil))) (pe_op op_fdiv (pv 2) pe_int))))
        (pss_cut (ps_if (pt_cmpR op_eq (pe_cal C_take (hr.mono (by decide)) (pa_cons (pv 0) (pa_cons pe_int pa_nil))) pe_int (nomark _))
          (pss_one (ps_asg (pe_cal C_amount (hr.mono (by decide)) (pa_cons (pv 0) pa_nil)) (pg_sub (pv 3) (pe_cal C_take (hr.mono (by decide)) (pa_cons (pv 0) (pa_cons (pv 1) pa_nil))) set_list))) pss_nil)
        (pss_one (ps_ret (pv 3)))))), ?_⟩
    refine ⟨_, rfl, by show 4 ≤ sizeLine; decide, fun p np => ?_⟩
    refine ⟨b, p, _, rfl, B.same (sNew np), upd_same, B.ne np, by decide, by decide, fun jj x H2 hx B2 D2 => ?_⟩
    have hx := List.mem_of_getElem? hx
    obtain ⟨x, rfl, x0, x1⟩ : ∃ i : Int, x = .int i ∧ 1 ≤ i ∧ i < 1073741824 := by
      simp only [List.mem_cons, List.not_mem_nil, or_false] at hx
      rcases hx with rfl | rfl | rfl | rfl <;> exact ⟨_, rfl, by decide, by decide⟩
    have D : But b H H2 := (But.of (sNew np)).trans D2
    clear D2
    refine ⟨_, rfl, c, rfl, by omega, by omega, fun D3 nD => lc_range (fun i H' => ∃ ts : List Int, H' D3 = some (.lst (ts.map V.int)) ∧ ts.length = i ∧ BgAt H' b ∧ But b H2 H') ⟨[], upd_same, rfl, B2.same (sNew nD), But.of (sNew nD)⟩ ?_ ?_⟩
    · rintro i H3 hi ⟨ts, h1, h2, B3, D4⟩
      refine ⟨rfl, _, rfl, _, rfl, b, _, rfl, B3, x0, x1, fun j H4 j0 j1 B4 D5 => ⟨_, rfl, _, _, rfl, rfl, by unfold CDiv; omega, _, _, rfl, rfl, ?_⟩⟩
      have nDb := B2.ne nD
      refine ⟨_, D5 _ _ h1 nDb, small1000 (by rw [List.length_map]; omega), ts ++ [j - x / 3], ?_, by rw [List.length_append, h2]; rfl, B4.upd nDb, but_upd (D4.trans D5) nD⟩
      rw [List.map_append]
      exact upd_same
    rintro H3 ⟨ts, h1, h2, B3, D4⟩
    have nDb := B2.ne nD
    have nD0 : H D3 = none := by
      cases q : H D3 with
      | none => rfl
      | some o => rw [D _ _ q nDb] at nD; cases nD
    have D := D.trans D4
    clear D4
    refine ⟨fun σ' H' => ∃ ts : List Int, H' D3 = some (.lst (ts.map V.int)) ∧ (ts.length : Int) = c ∧ BgAt H' b ∧ But b H H' ∧ ∃ v4 : Option V, σ' = [some (.ref b), some (.int c), some (.int x), some (.ref D3), v4], ?_, ?_⟩
    · refine ⟨_, rfl, b, _, rfl, B3, by decide, by decide, fun j H4 _ _ B4 D4 => ⟨rfl, _, rfl, ite2 (fun _ => ?_) (fun _ => ?_)⟩⟩
      · refine ⟨_, rfl, b, rfl, B4, fun z H5 B5 D5 => ?_⟩
        refine ⟨_, rfl, _, rfl, _, rfl, b, _, rfl, B5, c1, by omega, fun j H6 j0 j1 B6 D6 => ?_⟩
        have h1 := D6 _ _ (D5 _ _ (D4 _ _ h1 nDb) nDb) nDb
        obtain ⟨jn, rfl⟩ : ∃ jn : Nat, j = (jn : Int) := ⟨j.toNat, by omega⟩
        have ln : (ts.map V.int).length = c.toNat := by rw [List.length_map]; exact h2
        refine ⟨D3, _, jn, jn, rfl, rfl, h1, by unfold ixN; rw [if_pos (by omega), if_pos (by omega)]; rfl, ts.set jn z, ?_, ?_, B6.upd nDb, but_upd (D.trans (D4.trans (D5.trans D6))) nD0, _, rfl⟩
        · rw [List.map_set]
          exact upd_same
        · rw [List.length_set]
          omega
      · exact ⟨ts, D4 _ _ h1 nDb, by omega, B4, D.trans D4, _, rfl⟩
    · rintro σ' H4 ⟨ts, h1, h2, B4, D4, v4, rfl⟩
      exact ⟨_, rfl, k _ ts _ nD0 h1 h2 B4 D4⟩
theorem cal_times (T : Txt P w K mg cl) : Cal P w K mg base CX0 4 "_law_times" ["_law_bag_here", "_law_count"] (spTimes) := by
  obtain ⟨f, fd, F, m⟩ := T.d_times
  exact ⟨f, fd, ok_times F T, m, F.kp, F.binds fun _ _ _ _ _ _ us hl => match us, hl with | [_, _], _ => rfl⟩
end
end My
set_option Elab.async false
set_option linter.all false
set_option maxRecDepth 100000
set_option maxHeartbeats 1000000
namespace My
open PySem L2 Dw Wp
open C8 (pss_cut tCut)
set_option pp.maxSteps 600
theorem LkT.same {H H' : Hp} {v : V} {l : Lk} (h : LkT H v l) (S : Same H H') : LkT H' v l := let ⟨b, e, q⟩ := h; ⟨b, e, S _ _ q⟩
theorem BgAt.tup {H : Hp} {b a : Addr} {xs : List V} (h : BgAt H b) (t : H a = some (.tup xs)) : a ≠ b := by
  rintro rfl
  obtain ⟨c, s, h1, _⟩ := h
  rw [h1] at t
  cases t
theorem BgAt.ins {H : Hp} {b a C dx : Addr} {fs : List (Str × V)} (h : BgAt H b) (t : H a = some (.ins C dx fs)) : a ≠ b := by
  rintro rfl
  obtain ⟨c, s, h1, _⟩ := h
  rw [h1] at t
  cases t
theorem LkT.but {H H' : Hp} {b : Addr} {v : V} {l : Lk} (h : LkT H v l) (B : BgAt H b) (D : But b H H') : LkT H' v l := let ⟨a, e, q⟩ := h; ⟨a, e, D _ _ q (B.tup q)⟩
theorem LkT.upd {H : Hp} {a : Addr} {xs : List V} {o : HO} {v : V} {l : Lk} (h : LkT H v l) (e : H a = some (.lst xs)) : LkT (L2.upd H a o) v l := let ⟨b, q, t⟩ := h; ⟨b, q, by rw [upd_ne (ne_of t e (fun z => nomatch z))]; exact t⟩
/-- a list of links -/
def LlT (H : Hp) (a : Addr) (us : List V) (ls : List Lk) : Prop := H a = some (.lst us) ∧ Paired (LkT H) us ls
theorem LlT.same {H H' : Hp} {a : Addr} {us : List V} {ls : List Lk} (h : LlT H a us ls) (S : Same H H') : LlT H' a us ls := ⟨S _ _ h.1, Paired.impP (fun _ _ q => q.same S) h.2⟩
theorem LlT.but {H H' : Hp} {a b : Addr} {us : List V} {ls : List Lk} (h : LlT H a us ls) (n : a ≠ b) (B : BgAt H b) (D : But b H H') : LlT H' a us ls := ⟨D _ _ h.1 n, Paired.impP (fun _ _ q => q.but B D) h.2⟩
def TvAt (H : Hp) (b : Addr) (c : Int) (v : V) : Prop := v = .non ∨ ∃ (a : Addr) (ts : List Int), v = .ref a ∧ H a = some (.lst (ts.map V.int)) ∧ (ts.length : Int) = c ∧ a ≠ b
def spLinks : Sp := fun vs H Q _ => ∃ (b : Addr) (c m : Int) (tv : V), vs = [.ref b, .int c, .int m, tv] ∧ BgAt H b ∧ 1 ≤ c ∧ c ≤ 12 ∧ 0 ≤ m ∧ m ≤ 70 ∧ TvAt H b c tv ∧ ∀ (a : Addr) (us : List V) (ls : List Lk) (H' : Hp), H a = none → LlT H' a us ls → (∀ l ∈ ls, LkOk c l) → (ls.length : Int) = m → BgAt H' b → But b H H' → Q (.ref a) H'
theorem lk_put {H H1 H' : Hp} {b D q : Addr} {us : List V} {ls : List Lk} {x y z : Int} (hL : LlT H' D us ls) (nq : H' q = none) : LlT (upd (upd H' q (.tup [.int x, .int y, .int z])) D (.lst (us ++ [.ref q]))) D (us ++ [.ref q]) (ls ++ [(x, y, z)]) := by
  have nqD : D ≠ q := ne_of_none hL.1 nq
  refine ⟨upd_same, Paired.appendP (Paired.impP (fun _ _ h => ?_) hL.2) (.cons ⟨q, rfl, ?_⟩ .nil)⟩
  · exact LkT.upd (xs := us) (h.same (sNew nq)) (sNew nq _ _ hL.1)
  · rw [upd_ne (Ne.symm nqD)]
    exact upd_same
section
variable {P : Program} {w : World} {K : PySem.W.Frag} {mg : Str → Option Value} {base : Heap} {cl : String → Addr}
theorem ok_links {f : Addr} {fd : FuncData} (F : Fun K "_law_links" "_law_links" s_links f fd) (T : Txt P w K mg cl) : FnOk P w K mg base CX0 4 f fd ["_law_bag_here", "_law_count", "_law_many", "_law_times_here"] spLinks := by
  refine F.ok sc_links (fun vs H Q E h => ?_) (fun cdv A outer s H vs Q E hr h => ?_)
  · obtain ⟨b, c, m, tv, rfl, _⟩ := h
    rfl
  · obtain ⟨b, c, m, tv, rfl, B, c1, c2, m0, m1, htv, k⟩ := h
    have C_take : Cal P w K mg base CX0 1 "_law_take" _ spTake := cal_take T
    have C_amount : Cal P w K mg base CX0 3 "_law_amount" _ spAmt := cal_amount T
    refine ⟨_, (pss_cons (ps_set (i := 4) sc_links.nd rfl (Or.inl rfl) (pe_lst pa_nil))
        (pss_cons (ps_for PassesOwn.never rfl (pi_range1 rfl T.n_range (pa_cons (pv 2) pa_nil)) (pg_name (i := 5) sc_links.nd rfl (Or.inl rfl))
          (pss_cons (ps_par (i := 6) (j := 7) rfl sc_links.nd rfl rfl (by decide) rfl rfl (pa_cons (pe_cal C_take (hr.mono (by decide)) (pa_cons (pv 0) (pa_cons (pv 1) pa_nil))) (pa_cons (pe_cal C_take (hr.mono (by decide)) (pa_cons (pv 0) (pa_cons (pv 1) pa_nil))) pa_nil)) (by rfl))
            (pss_one (ps_if (PW.pt (pw_or (pt_cmpR op_isN (pv 3) pe_non (nomark _)) (pw_or1 (pt_cmpR op_eq (pe_cal C_take (hr.mono (by decide)) (pa_cons (pv 0) (pa_cons pe_int pa_nil))) pe_int (nomark _)))))
              (pss_one (ps_expr (pe_app1 (by exact (pv 4)) (by exact (pa_cons (pe_tup (pa_cons (pv 6) (pa_cons (pv 7) (pa_cons (pe_cal C_amount (hr.mono (by decide)) (pa_cons (pv 0) pa_nil)) pa_nil)))) pa_nil))))) (pss_one (ps_expr (pe_app1 (by exact (pv 4)) (by exact (pa_cons (pe_tup (pa_cons (pv 6) (pa_cons (pv 7) (pa_cons (pe_op op_add (pe_op op_sub (pe_ix ix_list (pv 3) (pv 6) (fun _ _ => rfl)) (pe_ix ix_list (pv 3) (pv 7) (fun _ _ => rfl))) (pe_callB (call_max2 rfl) (by rfl) T.n_max (by decide +kernel) (pa_cons pe_int (pa_cons (pe_op op_sub (pe_cal C_take (hr.mono (by decide)) (pa_cons (pv 0) (pa_cons pe_int pa_nil))) pe_int) pa_nil)))) pa_nil)))) pa_nil)))))))))
        (pss_one (ps_ret (pv 4))))), ?_⟩
    refine ⟨by show 0 ≤ sizeLine; exact Nat.zero_le _, fun D nD => ?_⟩
    have nDb := B.ne nD
    refine ⟨_, rfl, m, rfl, by omega, by omega, for_range (fun i σ H' => ∃ (us : List V) (ls : List Lk) (v5 v6 v7 : Option V), LlT H' D us ls ∧ (∀ l ∈ ls, LkOk c l) ∧ ls.length = i ∧ BgAt H' b ∧ But b H H' ∧ σ = [some (.ref b), some (.int c), some (.int m), some tv, some (.ref D), v5, v6, v7]) ⟨[], [], _, _, _, ⟨upd_same, .nil⟩, (fun l h => (by cases h)), rfl, B.same (sNew nD), But.of (sNew nD), rfl⟩ ?_ ?_⟩
    · rintro i σ H1 hi ⟨us, ls, v5, v6, v7, hL, lok, ll, B1, D1, rfl⟩
      refine ⟨_, rfl, _, rfl, b, _, rfl, B1, c1, by omega, fun o1 H2 o10 o11 B2 D2 => ⟨_, rfl, _, rfl, b, _, rfl, B2, c1, by omega, fun o2 H3 o20 o21 B3 D3 => ?_⟩⟩
      have D3 := D2.trans D3
      have hL3 := hL.but nDb B1 D3
      have D3 := D1.trans D3
      have fin : ∀ (z : Int) {H4 : Hp} {q : Addr}, LlT H4 D us ls → BgAt H4 b → But b H H4 → H4 q = none → ∃ (us' : List V) (ls' : List Lk) (v5 v6 v7 : Option V), LlT (upd (upd H4 q (.tup [.int o1, .int o2, .int z])) D (.lst (us ++ [.ref q]))) D us' ls' ∧ (∀ l ∈ ls', LkOk c l) ∧ ls'.length = i + 1 ∧ BgAt (upd (upd H4 q (.tup [.int o1, .int o2, .int z])) D (.lst (us ++ [.ref q]))) b ∧ But b H (upd (upd H4 q (.tup [.int o1, .int o2, .int z])) D (.lst (us ++ [.ref q]))) ∧ ([some (.ref b), some (.int c), some (.int m), some tv, some (.ref D), some (.int ((0 : Int) + (i : Nat))), some (.int o1), some (.int o2)] : List (Option V)) = [some (.ref b), some (.int c), some (.int m), some tv, some (.ref D), v5, v6, v7] := fun z H4 q h1 h2 h3 h4 => by
        refine ⟨_, _, _, _, _, lk_put (H := H) (H1 := H) (b := b) h1 h4, ?_, by rw [List.length_append, ll]; rfl, (h2.same (sNew h4)).upd nDb, but_upd (but_upd h3 (h3.free (fun _ _ => trivial) h4 (h2.ne h4))) nD, rfl⟩
        intro l hl
        rcases List.mem_append.mp hl with hl | hl
        · exact lok l hl
        · rw [show l = (o1, o2, z) by simpa using hl]
          exact ⟨⟨o10, o11⟩, o20, o21⟩
      have lu := hL.2.length
      have app : ∀ {H4 : Hp}, LlT H4 D us ls → us.length < sizeLine := fun _ => small1000 (by omega)
      have tm : ∀ {H4 : Hp}, BgAt H4 b → But b H3 H4 → LlT H4 D us ls := fun h1 h2 => hL3.but nDb B3 h2
      have old : TvAt H3 b c tv := by
        rcases htv with rfl | ⟨a, ts, rfl, h1, h2, h3⟩
        · exact .inl rfl
        · exact .inr ⟨a, ts, rfl, D3 _ _ h1 h3, h2, h3⟩
      rcases old with rfl | ⟨a, ts, rfl, h1, h2, h3⟩
      · refine ⟨_, _, rfl, _, rfl, rfl, _, rfl, iteT ?_⟩
        refine ⟨_, rfl, .inl ⟨rfl, _, SqL.of hL3.1⟩, _, rfl, _, rfl, _, rfl, b, rfl, B3, fun z H4 B4 D4 => ⟨by show 3 ≤ sizeLine; decide, fun q nq => ?_⟩⟩
        have hL4 := tm B4 D4
        refine ⟨D, _, _, rfl, rfl, sNew nq _ _ hL4.1, app hL4, fin z hL4 B4 (D3.trans D4) nq⟩
      · refine ⟨_, _, rfl, _, rfl, rfl, _, rfl, iteF ?_⟩
        refine ⟨_, rfl, b, _, rfl, B3, by decide, by decide, fun j H4 _ _ B4 D4 => ⟨rfl, _, rfl, ite2 (fun _ => ?_) (fun _ => ?_)⟩⟩
        · have hL4 := tm B4 D4
          refine ⟨_, rfl, .inl ⟨rfl, _, SqL.of hL4.1⟩, _, rfl, _, rfl, _, rfl, b, rfl, B4, fun z H5 B5 D5 => ⟨by show 3 ≤ sizeLine; decide, fun q nq => ?_⟩⟩
          have hL5 := tm B5 (D4.trans D5)
          refine ⟨D, _, _, rfl, rfl, sNew nq _ _ hL5.1, app hL5, fin z hL5 B5 (D3.trans (D4.trans D5)) nq⟩
        · have hL4 := tm B4 D4
          have g1 := D4 _ _ h1 h3
          obtain ⟨n1, rfl⟩ : ∃ n : Nat, o1 = (n : Int) := ⟨o1.toNat, by omega⟩
          obtain ⟨n2, rfl⟩ : ∃ n : Nat, o2 = (n : Int) := ⟨o2.toNat, by omega⟩
          have l1 : n1 < ts.length := by omega
          have l2 : n2 < ts.length := by omega
          have at_ : ∀ {n : Nat}, (h : n < ts.length) → atI (ts.map V.int) (n : Int) = some (.int ts[n]) := fun h => atI_nat (by rw [List.getElem?_map, List.getElem?_eq_getElem h]; rfl)
          refine ⟨_, rfl, .inl ⟨rfl, _, SqL.of hL4.1⟩, _, rfl, _, rfl, _, rfl, _, rfl, a, _, _, _, rfl, rfl, SqL.of g1, at_ l1, _, rfl, _, rfl, a, _, _, _, rfl, rfl, SqL.of g1, at_ l2, _, _, rfl, rfl, _, rfl, b, _, rfl, B4, by decide, by decide, fun j H5 _ _ B5 D5 => ⟨_, _, rfl, rfl, _, _, rfl, _, _, rfl, rfl, by show 3 ≤ sizeLine; decide, fun q nq => ?_⟩⟩
          have hL5 := tm B5 (D4.trans D5)
          refine ⟨D, _, _, rfl, rfl, sNew nq _ _ hL5.1, app hL5, fin _ hL5 B5 (D3.trans (D4.trans D5)) nq⟩
    · rintro σ H1 ⟨us, ls, v5, v6, v7, hL, lok, ll, B1, D1, rfl⟩
      exact ⟨_, rfl, k D us ls H1 nD hL lok (by omega) B1 D1⟩
theorem cal_links (T : Txt P w K mg cl) : Cal P w K mg base CX0 4 "_law_links" ["_law_bag_here", "_law_count", "_law_many", "_law_times_here"] (spLinks) := by
  obtain ⟨f, fd, F, m⟩ := T.d_links
  exact ⟨f, fd, ok_links F T, m, F.kp, F.binds fun _ _ _ _ _ _ us hl => match us, hl with | [_, _, _, _], _ => rfl⟩
end
end My
set_option Elab.async false
set_option linter.all false
set_option maxRecDepth 100000
set_option maxHeartbeats 1000000
namespace My
open PySem L2 Dw Wp
open C8 (pss_cut tCut)
set_option pp.maxSteps 600
def spFlds (C : Addr) (fs : List Str) : Sp := fun vs H Q _ => ∃ (p dx : Addr) (us : List V), vs = .ref p :: us ∧ us.length = fs.length ∧ H p = some (.ins C dx []) ∧ Q .non (upd H p (.ins C dx (fs.zip us)))
/-- an error with one field is made and raised -/
theorem raise1 {H H1 : Hp} {C : Addr} {f : Str} {i : V} {E : XK} (S : Same H H1) (k : ∀ G e, Same H G → H e = none → E (.ref C) (some e) (upd G e (.xd [(f, i)]))) :
    ([i] : List V).length ≤ 1000 ∧ ∀ a, H1 a = none → spIni C [f] (.ref a :: ([i] ++ [])) (upd H1 a (exo a C none)) (fun v H2 => v = .non ∧ ∃ (d : Addr) (fs : List (Str × V)), H2 a = some (exo a C (some d)) ∧ H2 d = some (exd d fs) ∧ H1 d = none ∧ E (.ref C) (some d) (upd (del H2 a) d (.xd fs))) (fun _ _ _ => False) := by
  refine ⟨by show 1 ≤ 1000; decide, fun a na => ⟨a, [i], rfl, rfl, upd_same, (fun z => by cases z), fun d H' nd ne kp h1 h2 => ⟨rfl, d, _, h1, h2, ?_, k (del H' a) d (fun b o q => ?_) ?_⟩⟩⟩
  · rw [upd_ne ne] at nd
    exact nd
  · have nb : b ≠ a := ne_of_none (S _ _ q) na
    rw [del_ne nb]
    exact kp b o (by rw [upd_ne nb]; exact S _ _ q) nb
  · rw [upd_ne ne] at nd
    cases q : H d with
    | none => rfl
    | some o => rw [S _ _ q] at nd; cases nd
def spChk (K : PySem.W.Frag) (C CN : Addr) : Sp := fun vs H Q E => ∃ (p t : Addr) (c : Int) (us : List V) (ls : List Lk) (v : V) (n : String), vs = [.ref p, v] ∧ SyAt C H p c t us ls ∧ Dm K H v n ∧ (isT c v = true → Q .non H) ∧
  (isT c v = false → ∀ G e, Same H G → H e = none → E (.ref CN) (some e) (upd G e (.xd [("instant", v)])))
section
variable {P : Program} {w : World} {K : PySem.W.Frag} {mg : Str → Option Value} {base : Heap} {cl : String → Addr}
theorem oki_NoTimes {f : Addr} {fd : FuncData} (F : Fun K "__init__" "NoTimes.__init__" s_NoTimes_init f fd) (T : Txt P w K mg cl) : FnOk P w K mg base CX0 1 f fd ["self", "path"] (spIni (cl "NoTimes") ["path"]) := by
  refine F.ok sc_NoTimes_init (fun vs H Q E h => ?_) (fun cdv A outer s H vs Q E hr h => ?_)
  · obtain ⟨a, us, rfl, hl, _⟩ := h
    rw [List.length_cons, hl]
    rfl
  · obtain ⟨a, us, rfl, hl, ha, h0, k⟩ := h
    match us, hl with
    | [u0], _ =>
      refine ⟨_, (pss_cons (ps_expr (pe_deinit T.cr T.vi T.m_DeedError (pa_cons (pv 0) (pa_cons pe_str pa_nil))))
        (pss_one (ps_ost (pv 0) (pv 1)))), ?_⟩
      refine ⟨_, rfl, a, cl "NoTimes", [.str _], rfl, by decide, T.o_NoTimes, ha, ?_⟩
      refine ⟨_, rfl, _, rfl, a, cl "NoTimes", rfl, T.o_NoTimes, T.xf_NoTimes_path, .inl ⟨ha, fun dx nd ne => ?_⟩⟩
      exact k dx _ nd ne (fun b o q nb => by rw [upd_ne nb, upd_ne (ne_of_none q nd)]; exact q) upd_same (by rw [upd_ne ne]; exact upd_same)
theorem ini_NoTimes (T : Txt P w K mg cl) : CalO P w K mg base 1 (cl "NoTimes") ["self", "path"] (spIni (cl "NoTimes") ["path"]) := by
  obtain ⟨f, fd, F, h1, h2⟩ := T.i_NoTimes
  exact ⟨T.o_NoTimes, f, fd, oki_NoTimes F T, h1, h2, F.binds fun _ _ _ _ _ _ us hl => match us, hl with | [_, _], _ => rfl⟩
end
end My
set_option Elab.async false
set_option linter.all false
set_option maxRecDepth 100000
set_option maxHeartbeats 1000000
namespace My
open PySem L2 Dw Wp
open C8 (pss_cut tCut)
set_option pp.maxSteps 600
open Bf
/-! the links with places -/
def nl (l : Lk) : NL := (l.1.toNat, l.2.1.toNat, l.2.2)
def nls (ls : List Lk) : List NL := ls.map nl
def onV : Option Nat → V
  | none => .non
  | some i => .int (i : Nat)
def oiV : Option Int → V
  | none => .non
  | some i => .int i
theorem gO_get {α : Type} {xs : List (Option α)} {i : Nat} {x : α} (h : gO xs i = some x) : xs[i]? = some (some x) := by
  unfold gO at h
  cases e : xs[i]? with
  | none => rw [e] at h; cases h
  | some y =>
    rw [e] at h
    have h : y = some x := h
    rw [h]
theorem on_at {cm : List (Option Nat)} {x i : Nat} (h : gO cm x = some i) : (cm.map onV)[x]? = some (.int (i : Nat)) := by
  rw [List.getElem?_map, gO_get h]
  rfl
theorem nls_at {ls : List Lk} {i : Nat} {l : NL} (h : (nls ls)[i]? = some l) : ∃ l', ls[i]? = some l' ∧ nl l' = l := by
  unfold nls at h
  rw [List.getElem?_map] at h
  cases e : ls[i]? with
  | none => rw [e] at h; cases h
  | some l' => rw [e] at h; exact ⟨l', rfl, Option.some.inj h⟩
def Pos (ls : List Lk) : Prop := ∀ l ∈ ls, 0 ≤ l.1 ∧ 0 ≤ l.2.1
theorem back_at {H : Hp} {t : Addr} {us : List V} {ls : List Lk} {cm : List (Option Nat)} {x : Nat} (hL : LsE H t us ls) (pos : Pos ls) (h : Has (nls ls) cm x) : ∃ (i : Nat) (b : Addr) (l : Lk), (cm.map onV)[x]? = some (.int (i : Nat)) ∧ us[i]? = some (.ref b) ∧ H b = some (.tup (lkV l)) ∧ l.2.1 = ((nx (nls ls) cm x : Nat) : Int) ∧ ic cm x = i := by
  obtain ⟨i, l, h1, h2, h3⟩ := h
  obtain ⟨e1, _, e3⟩ := nx_at h1 h2
  obtain ⟨l', k1, rfl⟩ := nls_at h2
  obtain ⟨li, e⟩ := List.getElem?_eq_some_iff.mp k1
  subst e
  obtain ⟨b, hb, hc⟩ := lk_atE hL li
  refine ⟨i, b, ls[i], on_at h1, hb, hc, ?_, e3⟩
  rw [e1]
  exact (Int.toNat_of_nonneg (pos _ (List.getElem_mem li)).2).symm
def spRB : Sp := fun vs H Q _ => ∃ (t a : Addr) (us : List V) (ls : List Lk) (cm : List (Option Nat)) (v : Nat), vs = [.ref t, .ref a, .int (v : Nat)] ∧ LsE H t us ls ∧ H a = some (.lst (cm.map onV)) ∧ cm.length ≤ 900 ∧ Pos ls ∧ (∀ m, Has (nls ls) cm (itN (nls ls) cm m v)) ∧ (∃ d, 1 ≤ d ∧ itN (nls ls) cm d (itN (nls ls) cm cm.length v) = itN (nls ls) cm cm.length v) ∧
  ∀ (d : Nat) (t' : Addr) (H' : Hp), 1 ≤ d → d ≤ cm.length → itN (nls ls) cm d (itN (nls ls) cm cm.length v) = itN (nls ls) cm cm.length v → Same H H' → H t' = none → H' t' = some (.tup ((pth (nls ls) cm d (itN (nls ls) cm cm.length v)).reverse.map fun (i : Nat) => V.int i)) → Q (.ref t') H'
section
variable {P : Program} {w : World} {K : PySem.W.Frag} {mg : Str → Option Value} {base : Heap} {cl : String → Addr}
theorem ok_ring_behind {f : Addr} {fd : FuncData} (F : Fun K "ring_behind" "ring_behind" s_ring_behind f fd) (T : Txt P w K mg cl) : FnOk P w K mg base CX0 1 f fd ["links", "came", "place"] (spRB) := by
  refine F.ok sc_ring_behind (fun vs H Q E h => ?_) (fun cdv A outer s H vs Q E hr h => ?_)
  · obtain ⟨t, a, us, ls, cm, v, rfl, _⟩ := h
    rfl
  · obtain ⟨t, a, us, ls, cm, v, rfl, hL, ha, lc, pos, has, ring, k⟩ := h
    refine ⟨_, (pss_cons (ps_for PassesOwn.never rfl (pi_range1 rfl T.n_range (pa_cons (pe_callB call_len_seq (by rfl) T.n_len PySem.boot_len (pa_cons (pv 1) pa_nil)) pa_nil)) (pg_name (i := 3) sc_ring_behind.nd rfl (Or.inl rfl))
          (pss_one (ps_set (i := 2) sc_ring_behind.nd rfl (Or.inl rfl) (pe_ix ix_tup (pe_ix ix_either (pv 0) (pe_ix ix_list (pv 1) (pv 2) (fun _ _ => rfl)) (fun _ _ => rfl)) pe_int (fun _ _ => rfl)))))
        (pss_cons (ps_set (i := 4) sc_ring_behind.nd rfl (Or.inl rfl) (pe_lst (pa_cons (pe_ix ix_list (pv 1) (pv 2) (fun _ _ => rfl)) pa_nil)))
        (pss_cons (ps_set (i := 5) sc_ring_behind.nd rfl (Or.inl rfl) (pe_ix ix_tup (pe_ix ix_either (pv 0) (pe_ix ix_list (pv 1) (pv 2) (fun _ _ => rfl)) (fun _ _ => rfl)) pe_int (fun _ _ => rfl)))
        (pss_cons (ps_while PassesOwn.never (pt_cmpR op_ne (pv 5) (pv 2) (nomark _))
          (pss_cons (ps_expr (pe_app1 (by exact (pv 4)) (by exact (pa_cons (pe_ix ix_list (pv 1) (pv 5) (fun _ _ => rfl)) pa_nil))))
            (pss_one (ps_set (i := 5) sc_ring_behind.nd rfl (Or.inl rfl) (pe_ix ix_tup (pe_ix ix_either (pv 0) (pe_ix ix_list (pv 1) (pv 5) (fun _ _ => rfl)) (fun _ _ => rfl)) pe_int (fun _ _ => rfl))))))
        (pss_one (ps_ret (pe_callTy call_tuple_of (by rfl) T.n_tuple (by decide +kernel) (pa_cons (pe_revL (pv 4)) pa_nil)))))))), ?_⟩
    have lm : (cm.map onV).length = cm.length := List.length_map _
    refine ⟨_, rfl, a, _, rfl, .inl (SqL.of ha), _, rfl, by rw [lm]; omega, by rw [lm]; omega, ?_⟩
    refine for_range (fun i σ H' => H' = H ∧ ∃ v3, σ = [some (.ref t), some (.ref a), some (.int (itN (nls ls) cm i v : Nat)), v3, none, none]) ⟨rfl, none, rfl⟩ ?_ ?_
    · rintro i σ H' hi ⟨rfl, v3, rfl⟩
      obtain ⟨j, b, l, h1, h2, h3, h4, h5⟩ := back_at hL pos (has i)
      refine ⟨_, rfl, _, rfl, _, rfl, a, _, _, _, rfl, rfl, SqL.of ha, atI_nat h1, ixOr hL.1 h2 ⟨b, _, _, _, rfl, rfl, SqT.of h3, atI_nat (j := 1) rfl, rfl, some (.int ((0 : Int) + (i : Nat))), ?_⟩⟩
      rw [itN_succ, ← h4]
      rfl
    · rintro σ H' ⟨rfl, v3, rfl⟩
      rw [lm, Int.toNat_natCast]
      generalize ep : itN (nls ls) cm cm.length v = p at *
      have hasp : ∀ m, Has (nls ls) cm (itN (nls ls) cm m p) := fun m => by
        rw [← ep, ← itN_add]
        exact has _
      obtain ⟨d0, d01, ed0⟩ := ring
      obtain ⟨d, d1, _, ed, fd⟩ := first_ret (f := fun m => itN (nls ls) cm m p) d0 d01 ed0
      have dn := walk_short (fun m _ => hasp m) ed fd
      obtain ⟨j, b, l, h1, h2, h3, h4, h5⟩ := back_at hL pos (hasp 0)
      refine ⟨_, rfl, _, rfl, a, _, _, _, rfl, rfl, SqL.of ha, atI_nat h1, by show 1 ≤ sizeLine; decide, fun D nD => ?_⟩
      have S0 := sNew (o := .lst [.int (j : Nat)]) nD
      refine ⟨_, rfl, _, rfl, _, rfl, a, _, _, _, rfl, rfl, SqL.of (S0 _ _ ha), atI_nat h1, ixOr (hL.same S0).1 h2 ⟨b, _, _, _, rfl, rfl, SqT.of (S0 _ _ h3), atI_nat (j := 1) rfl, ?_⟩⟩
      refine ⟨fun m σ H2 => ∃ q, q + m = d ∧ 1 ≤ q ∧ H2 = upd H' D (.lst ((pth (nls ls) cm q p).map fun (i : Nat) => V.int i)) ∧ σ = [some (.ref t), some (.ref a), some (.int (p : Nat)), v3, some (.ref D), some (.int (itN (nls ls) cm q p : Nat))], ⟨d - 1, 1, by omega, Nat.le_refl _, ?_, ?_⟩, ?_⟩
      · rw [← h5]
        rfl
      · rw [show itN (nls ls) cm 1 p = nx (nls ls) cm p from rfl, ← show l.2.1 = ((nx (nls ls) cm p : Nat) : Int) from h4]
        rfl
      · rintro m σ H2 ⟨q, eq, q1, rfl, rfl⟩
        refine ⟨_, rfl, _, rfl, rfl, ?_⟩
        have sz : ((pth (nls ls) cm q p).map fun (i : Nat) => V.int i).length = q := by
          rw [List.length_map]
          have : ∀ k x, (pth (nls ls) cm k x).length = k := fun k => by
            induction k with
            | zero => exact fun _ => rfl
            | succ k ih => exact fun x => by show (pth (nls ls) cm k _).length + 1 = _; rw [ih]
          exact this q p
        have S1 := sNew (o := .lst ((pth (nls ls) cm q p).map fun (i : Nat) => V.int i)) nD
        refine ⟨_, rfl, ite2 (fun g => ?_) (fun g => ?_)⟩
        · have g : ¬ itN (nls ls) cm q p = p := fun z => by
            rw [z] at g
            simp at g
          have qd : q ≠ d := fun z => g (by rw [z]; exact ed)
          obtain ⟨j2, b2, l2, g1, g2, g3, g4, g5⟩ := back_at hL pos (hasp q)
          refine ⟨fun σ' H'' => H'' = upd H' D (.lst ((pth (nls ls) cm (q + 1) p).map fun (i : Nat) => V.int i)) ∧ σ' = [some (.ref t), some (.ref a), some (.int (p : Nat)), v3, some (.ref D), some (.int (itN (nls ls) cm (q + 1) p : Nat))], fun σ' H'' ⟨e1, e2⟩ => ⟨m - 1, by omega, q + 1, by omega, by omega, e1, e2⟩, ?_⟩
          refine ⟨_, rfl, .inl ⟨rfl, _, SqL.of upd_same⟩, _, rfl, _, rfl, a, _, _, _, rfl, rfl, SqL.of (S1 _ _ ha), atI_nat g1, D, _, _, rfl, rfl, upd_same, small1000 (by rw [sz]; omega), ?_⟩
          rw [upd_upd]
          have S2 := sNew (o := .lst (((pth (nls ls) cm q p).map fun (i : Nat) => V.int i) ++ [.int (j2 : Nat)])) nD
          refine ⟨_, rfl, _, rfl, _, rfl, a, _, _, _, rfl, rfl, SqL.of (S2 _ _ ha), atI_nat g1, ixOr (hL.same S2).1 g2 ⟨b2, _, _, _, rfl, rfl, SqT.of (S2 _ _ g3), atI_nat (j := 1) rfl, ?_, ?_⟩⟩
          · rw [pth_snoc, g5, List.map_append]
            rfl
          · rw [itN_succ, ← g4]
            rfl
        · have g : itN (nls ls) cm q p = p := by
            by_cases z : itN (nls ls) cm q p = p
            · exact z
            · exfalso
              refine g ?_
              show (!decide (V.int _ = V.int _)) = true
              rw [decide_eq_false fun e => z (by have := V.int.inj e; omega)]
              rfl
          have qd : q ≤ d := by omega
          refine ⟨_, rfl, D, _, rfl, SqL.of upd_same, fun R nR => ⟨R, _, rfl, .inl ⟨SqL.of upd_same, fun t' nt => ?_⟩⟩⟩
          have SR := S1.trans (sNew (o := .lst ((pth (nls ls) cm q p).map fun (i : Nat) => V.int i).reverse) nR)
          refine k q t' _ q1 (by omega) g (SR.trans (sNew nt)) (SR.free nt) ?_
          rw [upd_same, List.map_reverse]
theorem cal_ring_behind (T : Txt P w K mg cl) : Cal P w K mg base CX0 1 "ring_behind" ["links", "came", "place"] (spRB) := by
  obtain ⟨f, fd, F, m⟩ := T.d_ring_behind
  exact ⟨f, fd, ok_ring_behind F T, m, F.kp, F.binds fun _ _ _ _ _ _ us hl => match us, hl with | [_, _, _], _ => rfl⟩
end
end My
set_option Elab.async false
set_option linter.all false
set_option maxRecDepth 100000
set_option maxHeartbeats 1000000
namespace My
open PySem L2 Dw Wp
open C8 (pss_cut tCut)
set_option pp.maxSteps 600
open Bf
def spSettle : Sp := fun vs H Q _ => ∃ (t g : Addr) (us : List V) (ls : List Lk) (bg : List (Option Int)), vs = [.ref t, .ref g] ∧ LsE H t us ls ∧ H g = some (.lst (bg.map oiV)) ∧ bg.length ≤ 800 ∧ ls.length ≤ 800 ∧ IxOk bg.length (nls ls) ∧ My.Pos ls ∧
  ∀ (R A B : Addr) (v3 : V) (H' : Hp), Same H H' → H A = none → H B = none → H' A = some (.lst ((sett (nls ls) bg).1.ts.map oiV)) → H' B = some (.lst ((sett (nls ls) bg).1.cm.map onV)) → H' R = some (.tup [.ref A, .ref B, v3]) →
    (((sett (nls ls) bg).2 = true ∧ v3 = .non) ∨ ((sett (nls ls) bg).2 = false ∧ ∃ (C : Addr) (is : List Nat) (p : Nat), v3 = .ref C ∧ H' C = some (.tup (is.map fun (i : Nat) => V.int i)) ∧ is ≠ [] ∧ is.length ≤ bg.length ∧ Leads (nls ls) is p p ∧ smI (nls ls) is < 0)) → Q (.ref R) H'
theorem pth_len {ls : List NL} {cm : List (Option Nat)} : ∀ k x, (pth ls cm k x).length = k
  | 0, _ => rfl
  | k + 1, x => by show (pth ls cm k _).length + 1 = _; rw [pth_len]
theorem oi_some {ts : List (Option Int)} {x : Nat} {i : Int} (h : gO ts x = some i) : (ts.map oiV)[x]? = some (.int i) := by
  rw [List.getElem?_map, gO_get h]
  rfl
theorem oi_none {ts : List (Option Int)} {x : Nat} (h : gO ts x = none) (l : x < ts.length) : (ts.map oiV)[x]? = some .non := by
  rw [gO_at l] at h
  rw [List.getElem?_map, List.getElem?_eq_getElem l, h]
  rfl
theorem rls_at {ls : List NL} {j : Nat} {l : NL} {s : BS} (h : ls[j]? = some l) : rls j (ls.drop j) s = rls (j + 1) (ls.drop (j + 1)) (rl j l s) := by
  rw [take_drop_at h]
  rfl
theorem lk_in {ls : List Lk} {n j : Nat} {l : Lk} (ok : IxOk n (nls ls)) (pos : My.Pos ls) (h : ls[j]? = some l) : ∃ x y : Nat, l.1 = (x : Int) ∧ l.2.1 = (y : Int) ∧ x < n ∧ y < n ∧ (nls ls)[j]? = some (x, y, l.2.2) := by
  have hm := List.mem_of_getElem? h
  obtain ⟨p1, p2⟩ := pos l hm
  have h2 : (nls ls)[j]? = some (nl l) := by unfold nls; rw [List.getElem?_map, h]; rfl
  obtain ⟨o1, o2⟩ := ok (nl l) (List.mem_of_getElem? h2)
  exact ⟨l.1.toNat, l.2.1.toNat, by omega, by omega, o1, o2, h2⟩
section
variable {P : Program} {w : World} {K : PySem.W.Frag} {mg : Str → Option Value} {base : Heap} {cl : String → Addr}
theorem ok_settle {f : Addr} {fd : FuncData} (F : Fun K "settle" "settle" s_settle f fd) (T : Txt P w K mg cl) : FnOk P w K mg base CX0 2 f fd ["links", "begun"] (spSettle) := by
  refine F.ok sc_settle (fun vs H Q E h => ?_) (fun cdv A outer s H vs Q E hr h => ?_)
  · obtain ⟨t, g, us, ls, bg, rfl, _⟩ := h
    rfl
  · obtain ⟨t, g, us, ls, bg, rfl, hL, hg, lb, ll, ok, pos, k⟩ := h
    have C_ring_behind : Cal P w K mg base CX0 1 "ring_behind" _ spRB := cal_ring_behind T
    refine ⟨_, (pss_cons (ps_set (i := 2) sc_settle.nd rfl (Or.inl rfl) (pe_callTy call_list_of (by rfl) T.n_list (by decide +kernel) (pa_cons (pv 1) pa_nil)))
        (pss_cons (ps_setLc (i := 3) (own := [("time", 11)]) (g := gName 11) (tt := tYes) rfl sc_settle.nd rfl rfl (sw_true rfl rfl rfl (by decide +kernel)) (pi_list (pv 1)) (blkOk_by (own := [("time", 11)]) (N := ["links", "begun", "times", "came", "lowered", "_", "index", "one", "other", "amount", "limit", "time"]) (sc := defScope s_settle) (by decide +kernel)) (fun _ _ _ _ _ => pg_name (i := 11) sc_settle.nd rfl (Or.inl rfl)) (fun _ _ _ _ _ => pts_nil) (fun _ _ _ _ _ => pe_non))
        (pss_cons (ps_set (i := 4) sc_settle.nd rfl (Or.inl rfl) pe_non)
        (pss_cons (ps_for PassesOwn.never rfl (pi_range1 rfl T.n_range (pa_cons (pe_op op_add (pe_callB call_len_seq (by rfl) T.n_len PySem.boot_len (pa_cons (pv 2) pa_nil)) pe_int) pa_nil)) (pg_name (i := 5) sc_settle.nd rfl (Or.inl rfl))
          (pss_cons (ps_set (i := 4) sc_settle.nd rfl (Or.inl rfl) pe_non)
            (pss_cons (ps_for PassesOwn.never rfl (pi_enu2 (by rfl) T.n_enumerate (pa_cons (pv 0) pa_nil)) (pg_tup rfl (pgs_cons (pg_name (i := 6) sc_settle.nd rfl (Or.inl rfl)) (pgs_cons (pg_tup rfl (pgs_cons (pg_name (i := 7) sc_settle.nd rfl (Or.inl rfl)) (pgs_cons (pg_name (i := 8) sc_settle.nd rfl (Or.inl rfl)) (pgs_cons (pg_name (i := 9) sc_settle.nd rfl (Or.inl rfl)) pgs_nil)))) pgs_nil)))
              (pss_cons (ps_if (pt_cmpR op_isN (pe_ix ix_list (pv 2) (pv 8) (fun _ _ => rfl)) pe_non (nomark _))
                  (pss_one ps_continue) pss_nil)
                (pss_cons (ps_set (i := 10) sc_settle.nd rfl (Or.inl rfl) (pe_op op_add (pe_ix ix_list (pv 2) (pv 8) (fun _ _ => rfl)) (pv 9)))
                (pss_one (ps_if (PW.pt (pw_or (pt_cmpR op_isN (pe_ix ix_list (pv 2) (pv 7) (fun _ _ => rfl)) pe_non (nomark _)) (pw_or1 (pt_cmpR op_gt (pe_ix ix_list (pv 2) (pv 7) (fun _ _ => rfl)) (pv 10) (nomark _)))))
                  (pss_cons (ps_asg (pv 10) (pg_sub (pv 2) (pv 7) set_list))
                    (pss_cons (ps_asg (pv 6) (pg_sub (pv 3) (pv 7) set_list))
                    (pss_one (ps_set (i := 4) sc_settle.nd rfl (Or.inl rfl) (pv 7))))) pss_nil)))))
            (pss_one (ps_if (pt_cmpR op_isN (pv 4) pe_non (nomark _))
              (pss_one (ps_ret (pe_tup (pa_cons (pv 2) (pa_cons (pv 3) (pa_cons pe_non pa_nil)))))) pss_nil)))))
        (pss_one (ps_ret (pe_tup (pa_cons (pv 2) (pa_cons (pv 3) (pa_cons (pe_cal C_ring_behind (hr.mono (by decide)) (pa_cons (pv 0) (pa_cons (pv 3) (pa_cons (pv 4) pa_nil)))) pa_nil)))))))))), ?_⟩
    have lm : (bg.map oiV).length = bg.length := List.length_map _
    refine ⟨_, rfl, g, _, rfl, .inl (SqL.of hg), fun A nA => ?_⟩
    have SA := sNew (o := .lst (bg.map oiV)) nA
    refine ⟨_, rfl, g, rfl, ⟨_, SqL.of (SA _ _ hg)⟩, fun B nB => lc_list (K := K) (a := g) (xs := bg.map oiV) (fun i H' => H' = upd (upd H A (.lst (bg.map oiV))) B (.lst (List.replicate i .non))) rfl (fun i H' _ z => by rw [z]; exact SqL.of (sNew nB _ _ (SA _ _ hg))) (fun j x H' hx e => ?_) (fun H' e => ?_)⟩
    · have hj := (List.getElem?_eq_some_iff.mp hx).1
      subst e
      refine ⟨rfl, _, upd_same, small1000 (by rw [List.length_replicate]; omega), ?_⟩
      rw [upd_upd, List.replicate_succ']
    have nAB : A ≠ B := ne_of_none (show upd H A (.lst (bg.map oiV)) A = some _ from upd_same) nB
    have nBH : H B = none := by
      rw [upd_ne (Ne.symm nAB)] at nB
      exact nB
    have h0A : H' A = some (.lst ((bs0 bg).ts.map oiV)) := by rw [e, upd_ne nAB]; exact upd_same
    have h0B : H' B = some (.lst ((bs0 bg).cm.map onV)) := by
      rw [e, upd_same]
      show _ = some (HO.lst ((bg.map fun _ => (none : Option Nat)).map onV))
      rw [List.map_map, lm]
      congr 2
      exact (List.eq_replicate_iff.mpr ⟨List.length_map _, fun b hb => by obtain ⟨_, _, rfl⟩ := List.mem_map.mp hb; rfl⟩).symm
    have S0 : Same H H' := by rw [e]; exact SA.trans (sNew nB)
    clear e
    have lts : (bs0 bg).ts.length = bg.length := rfl
    refine ⟨_, rfl, A, _, rfl, .inl (SqL.of h0A), _, _, rfl, rfl, _, rfl, ?_⟩
    rw [show (List.map oiV (bs0 bg).ts).length = bg.length from lm]
    refine ⟨by omega, by omega, for_range (fun i σ H' => Same H H' ∧ ∃ s : BS, H' A = some (.lst (s.ts.map oiV)) ∧ H' B = some (.lst (s.cm.map onV)) ∧ s.ts.length = bg.length ∧ s.cm.length = bg.length ∧ sett (nls ls) bg = run (nls ls) (bg.length + 1 - i) s ∧ ∃ v5 v6 v7 v8 v9 v10 v11 : Option V, σ = [some (.ref t), some (.ref g), some (.ref A), some (.ref B), some (onV s.lo), v5, v6, v7, v8, v9, v10, v11]) ⟨S0, bs0 bg, h0A, h0B, rfl, List.length_map _, rfl, none, none, none, none, none, none, none, rfl⟩ ?_ ?_⟩
    · rintro i σ H1 hi ⟨S1, s, hA, hB, lA, lB, es, v5, v6, v7, v8, v9, v10, v11, rfl⟩
      have hi : i < bg.length + 1 := by omega
      refine ⟨_, rfl, t, us, rfl, (hL.same S1).1, fun J wk => for_it wk (fun j σ H2 => Same H H2 ∧ ∃ s2 : BS, H2 A = some (.lst (s2.ts.map oiV)) ∧ H2 B = some (.lst (s2.cm.map onV)) ∧ s2.ts.length = bg.length ∧ s2.cm.length = bg.length ∧ rls j ((nls ls).drop j) s2 = rnd (nls ls) s ∧ ∃ v6 v7 v8 v9 v10 v11 : Option V, σ = [some (.ref t), some (.ref g), some (.ref A), some (.ref B), some (onV s2.lo), some (.int ((0 : Int) + (i : Nat))), v6, v7, v8, v9, v10, v11]) ⟨S1, { s with lo := none }, hA, hB, lA, lB, rfl, v6, v7, v8, v9, v10, v11, rfl⟩ (fun j σ H2 _ q => (seqEq q.1 hL.1).trans (seqEq S1 hL.1).symm) ?_ ?_⟩
      · rintro j xv σ H2 H3 hj ⟨S2, s2, hA2, hB2, lA2, lB2, es2, w6, w7, w8, w9, w10, w11, rfl⟩ ⟨Tt, x1, y1, rfl, hT, rfl, q1, q2⟩
        cases q1
        obtain ⟨l, hl, b, rfl, hb⟩ := Paired.at hL.2 q2
        obtain ⟨x, y, ex, ey, hx, hy, hn⟩ := lk_in ok pos hl
        have ST := sNew (o := .tup [.int (j : Nat), .ref b]) hT
        have S3 := S2.trans ST
        have hA3 := ST _ _ hA2
        have hB3 := ST _ _ hB2
        have hb3 := S3 _ _ hb
        rw [rls_at hn] at es2
        obtain ⟨a1, a2, a3⟩ := l
        have ex : a1 = (x : Int) := ex
        have ey : a2 = (y : Int) := ey
        subst ex ey
        refine ⟨Tt, _, rfl, SqT.of upd_same, rfl, _, _, rfl, _, _, rfl, b, _, rfl, SqT.of hb3, rfl, _, _, rfl, _, _, rfl, _, _, rfl, rfl, rfl, ?_⟩
        have l1 : (s2.ts.map oiV).length = bg.length := by rw [List.length_map]; exact lA2
        have l2 : (s2.cm.map onV).length = bg.length := by rw [List.length_map]; exact lB2
        cases hty : gO s2.ts y with
        | none =>
          have er : rl j ((x, y, a3) : NL) s2 = s2 := by
            unfold rl
            rw [hty]
          have es2 : rls (j + 1) ((nls ls).drop (j + 1)) (rl j ((x, y, a3) : NL) s2) = rnd (nls ls) s := es2
          rw [er] at es2
          exact ⟨_, rfl, _, rfl, A, _, _, _, rfl, rfl, SqL.of hA3, atI_nat (oi_none hty (by omega)), rfl, _, rfl, iteT ⟨S3, s2, hA3, hB3, lA2, lB2, es2, _, _, _, _, _, _, rfl⟩⟩
        | some tv =>
          have aty := oi_some hty
          refine ⟨_, rfl, _, rfl, A, _, _, _, rfl, rfl, SqL.of hA3, atI_nat aty, rfl, _, rfl, iteF ?_⟩
          refine ⟨_, rfl, _, rfl, A, _, _, _, rfl, rfl, SqL.of hA3, atI_nat aty, _, rfl, _, _, rfl, rfl, ?_⟩
          have put : rl j ((x, y, a3) : NL) s2 = low j (x, y, a3) tv s2 → ∀ {σ' : St} {H4 : Hp}, σ' = [some (.ref t), some (.ref g), some (.ref A), some (.ref B), some (.int (x : Nat)), some (.int ((0 : Int) + (i : Nat))), some (.int (j : Nat)), some (.int (x : Nat)), some (.int (y : Nat)), some (.int a3), some (.int (tv + a3)), w11] → H4 = upd (upd (upd H2 Tt (.tup [.int (j : Nat), .ref b])) A (.lst ((s2.ts.map oiV).set x (.int (tv + a3))))) B (.lst ((s2.cm.map onV).set x (.int (j : Nat)))) → Same H H4 ∧ ∃ s2 : BS, H4 A = some (.lst (s2.ts.map oiV)) ∧ H4 B = some (.lst (s2.cm.map onV)) ∧ s2.ts.length = bg.length ∧ s2.cm.length = bg.length ∧ rls (j + 1) ((nls ls).drop (j + 1)) s2 = rnd (nls ls) s ∧ ∃ v6 v7 v8 v9 v10 v11 : Option V, σ' = [some (.ref t), some (.ref g), some (.ref A), some (.ref B), some (onV s2.lo), some (.int ((0 : Int) + (i : Nat))), v6, v7, v8, v9, v10, v11] := fun er σ' H4 e1 e2 => by
            subst e1 e2
            refine ⟨same_upd (same_upd S3 nA) nBH, low j (x, y, a3) tv s2, ?_, ?_, ?_, ?_, ?_, _, _, _, _, _, _, rfl⟩
            · rw [upd_ne nAB, upd_same]
              show _ = some (HO.lst ((s2.ts.set x (some (tv + a3))).map oiV))
              rw [List.map_set]
              rfl
            · rw [upd_same]
              show _ = some (HO.lst ((s2.cm.set x (some j)).map onV))
              rw [List.map_set]
              rfl
            · show (s2.ts.set x _).length = _
              rw [List.length_set]
              exact lA2
            · show (s2.cm.set x _).length = _
              rw [List.length_set]
              exact lB2
            · rw [← er]
              exact es2
          have hBA : upd (upd H2 Tt (.tup [.int (j : Nat), .ref b])) A (.lst ((s2.ts.map oiV).set x (.int (tv + a3)))) B = some (.lst (s2.cm.map onV)) := by
            rw [upd_ne (Ne.symm nAB)]
            exact hB3
          cases htx : gO s2.ts x with
          | none =>
            have er : rl j ((x, y, a3) : NL) s2 = low j (x, y, a3) tv s2 := by
              unfold rl
              rw [hty, htx]
              rfl
            refine ⟨_, rfl, _, rfl, A, _, _, _, rfl, rfl, SqL.of hA3, atI_nat (oi_none htx (by omega)), rfl, _, rfl, iteT (iteT ?_)⟩
            exact ⟨_, rfl, _, rfl, _, rfl, A, _, x, x, rfl, rfl, hA3, (by unfold ixN; rw [if_pos (by omega), if_pos (by omega)]; rfl), _, rfl, _, rfl, _, rfl, B, _, x, x, rfl, rfl, hBA, (by unfold ixN; rw [if_pos (by omega), if_pos (by omega)]; rfl), _, rfl, put er rfl rfl⟩
          | some tx =>
            have atx := oi_some htx
            refine ⟨_, rfl, _, rfl, A, _, _, _, rfl, rfl, SqL.of hA3, atI_nat atx, rfl, _, rfl, iteF ⟨_, rfl, _, rfl, A, _, _, _, rfl, rfl, SqL.of hA3, atI_nat atx, _, rfl, _, _, rfl, rfl, _, rfl, ?_⟩⟩
            refine ite2 (fun gt => ?_) (fun gt => ?_)
            · have gt : tv + a3 < tx := of_decide_eq_true gt
              have er : rl j ((x, y, a3) : NL) s2 = low j (x, y, a3) tv s2 := by
                unfold rl
                rw [hty, htx]
                show (if tx > tv + a3 then _ else s2) = _
                rw [if_pos gt]
                rfl
              exact ⟨_, rfl, _, rfl, _, rfl, A, _, x, x, rfl, rfl, hA3, (by unfold ixN; rw [if_pos (by omega), if_pos (by omega)]; rfl), _, rfl, _, rfl, _, rfl, B, _, x, x, rfl, rfl, hBA, (by unfold ixN; rw [if_pos (by omega), if_pos (by omega)]; rfl), _, rfl, put er rfl rfl⟩
            · have gt : ¬ tv + a3 < tx := fun z => gt (decide_eq_true z)
              have er : rl j ((x, y, a3) : NL) s2 = s2 := by
                unfold rl
                rw [hty, htx]
                show (if tx > tv + a3 then _ else s2) = _
                rw [if_neg gt]
              have es2 : rls (j + 1) ((nls ls).drop (j + 1)) (rl j ((x, y, a3) : NL) s2) = rnd (nls ls) s := es2
              rw [er] at es2
              exact ⟨S3, s2, hA3, hB3, lA2, lB2, es2, _, _, _, _, _, _, rfl⟩
      · rintro σ H2 ⟨S2, s2, hA2, hB2, lA2, lB2, es2, w6, w7, w8, w9, w10, w11, rfl⟩
        have e2 : s2 = rnd (nls ls) s := by
          rw [← es2, List.drop_of_length_le (by rw [hL.2.length]; unfold nls; rw [List.length_map]; exact Nat.le_refl _)]
          rfl
        have un : run (nls ls) (bg.length + 1 - i) s = if (rnd (nls ls) s).lo = none then (rnd (nls ls) s, true) else run (nls ls) (bg.length + 1 - (i + 1)) (rnd (nls ls) s) := by
          rw [show bg.length + 1 - i = (bg.length + 1 - (i + 1)) + 1 by omega]
          rfl
        rw [← e2] at un
        cases hlo : s2.lo with
        | none =>
          rw [if_pos hlo] at un
          refine ⟨_, rfl, rfl, _, rfl, iteT ?_⟩
          refine ⟨_, rfl, _, rfl, by show 3 ≤ sizeLine; decide, fun R nR => ?_⟩
          have ST := sNew (o := .tup [.ref A, .ref B, .non]) nR
          refine k R A B .non _ (S2.trans ST) nA nBH ?_ ?_ upd_same (.inl ⟨?_, rfl⟩)
          · rw [es, un]; exact ST _ _ hA2
          · rw [es, un]; exact ST _ _ hB2
          · rw [es, un]
        | some v =>
          rw [if_neg (by rw [hlo]; exact fun z => nomatch z)] at un
          refine ⟨_, rfl, rfl, _, rfl, iteF ⟨S2, s2, hA2, hB2, lA2, lB2, es.trans un, _, _, _, _, _, _, _, by rw [hlo]⟩⟩
    · rintro σ H1 ⟨S1, s, hA, hB, lA, lB, es, v5, v6, v7, v8, v9, v10, v11, rfl⟩
      rw [show ((bg.length : Int) + 1).toNat = bg.length + 1 by omega, Nat.sub_self] at es
      have es : sett (nls ls) bg = (s, false) := es
      have h2 : (sett (nls ls) bg).2 = false := by rw [es]
      obtain ⟨v, r1, r2, r3, r4⟩ := sett_ring ok h2
      rw [es] at r1 r2 r3 r4
      have r1 : s.lo = some v := r1
      rw [r1]
      have lc : s.cm.length = bg.length := lB
      rw [← lc] at r3 r4
      refine ⟨_, rfl, _, rfl, _, rfl, _, rfl, _, rfl, t, B, us, ls, s.cm, v, rfl, hL.same S1, hB, by omega, pos, r2, r3, fun d C H2 d1 d2 ed S2 nC hC => ?_⟩
      refine ⟨by show 3 ≤ sizeLine; decide, fun R nR => ?_⟩
      have ST := sNew (o := .tup [.ref A, .ref B, .ref C]) nR
      have S3 := S2.trans ST
      have q1 := ring_path (ls := nls ls) (fun m => by rw [← itN_add]; exact r2 _) ed
      refine k R A B (.ref C) _ (S1.trans S3) nA nBH ?_ ?_ upd_same (.inr ⟨h2, C, _, _, rfl, ST _ _ hC, ?_, ?_, q1.1, ?_⟩)
      · rw [es]; exact S3 _ _ hA
      · rw [es]; exact S3 _ _ hB
      · intro z
        have := congrArg List.length z
        rw [List.length_reverse, pth_len] at this
        simp at this
        omega
      · rw [List.length_reverse, pth_len]
        omega
      · rw [q1.2]
        exact r4 d d1 ed
theorem cal_settle (T : Txt P w K mg cl) : Cal P w K mg base CX0 2 "settle" ["links", "begun"] (spSettle) := by
  obtain ⟨f, fd, F, m⟩ := T.d_settle
  exact ⟨f, fd, ok_settle F T, m, F.kp, F.binds fun _ _ _ _ _ _ us hl => match us, hl with | [_, _], _ => rfl⟩
end
end My
set_option Elab.async false
set_option linter.all false
set_option maxRecDepth 100000
set_option maxHeartbeats 1000000
namespace My
open PySem L2 Dw Wp
open C8 (pss_cut tCut)
set_option pp.maxSteps 600
open Bf
def kF (ts : List Int) : Nat → Int := fun v => ts[v]?.getD 0
theorem all_some {xs : List (Option Int)} (h : ∀ v, v < xs.length → (gO xs v).isSome = true) : ∃ ts : List Int, xs.map oiV = ts.map V.int ∧ ts.length = xs.length ∧ ∀ v, kF ts v = (gO xs v).getD 0 := by
  refine ⟨xs.map fun x => x.getD 0, ?_, List.length_map _, fun v => ?_⟩
  · rw [List.map_map]
    refine List.map_congr_left fun x hx => ?_
    obtain ⟨v, hv, rfl⟩ := List.mem_iff_getElem.mp hx
    have := h v hv
    rw [gO_at hv] at this
    cases e : xs[v] with
    | none => rw [e] at this; cases this
    | some i => rfl
  · unfold kF gO
    rw [List.getElem?_map]
    cases xs[v]? <;> rfl
theorem og_succ (i o : Nat) : og (i + 1) o = og i o ++ [if i = o then some 0 else none] := by
  unfold og
  rw [List.range_succ, List.map_append]
  rfl
theorem zr_succ (i : Nat) : zr (i + 1) = zr i ++ [some 0] := by
  unfold zr
  rw [List.range_succ, List.map_append]
  rfl
theorem LkOk.ix {c : Int} {n : Nat} {ls : List Lk} (h : ∀ l ∈ ls, LkOk c l) (e : c = (n : Int)) : IxOk n (nls ls) ∧ Pos ls := by
  refine ⟨fun l hl => ?_, fun l hl => ⟨(h l hl).1.1, (h l hl).2.1⟩⟩
  obtain ⟨l', h', rfl⟩ := List.mem_map.mp hl
  obtain ⟨⟨a, b⟩, c1, d⟩ := h l' h'
  exact ⟨by show l'.1.toNat < n; omega, by show l'.2.1.toNat < n; omega⟩
def spFrom : Sp := fun vs H Q _ => ∃ (t : Addr) (us : List V) (ls : List Lk) (n o : Nat), vs = [.int (n : Nat), .ref t, .int (o : Nat)] ∧ LsE H t us ls ∧ n ≤ 800 ∧ ls.length ≤ 800 ∧ IxOk n (nls ls) ∧ Pos ls ∧
  ∀ (R A B : Addr) (H' : Hp), Same H H' → H A = none → H B = none → H' A = some (.lst ((sett (nls ls) (og n o)).1.ts.map oiV)) → H' B = some (.lst ((sett (nls ls) (og n o)).1.cm.map onV)) → H' R = some (.tup [.ref A, .ref B]) → Q (.ref R) H'
/-- a ring below 0, told by indexes; times that keep all links -/
def RingP (ls : List Lk) (n : Nat) (is : List Nat) : Prop := is ≠ [] ∧ is.length ≤ n ∧ ∃ p, Leads (nls ls) is p p ∧ smI (nls ls) is < 0
def TmsP (ls : List Lk) (n : Nat) (ts : List Int) : Prop := ts.length = n ∧ Keeps (nls ls) (kF ts)
def spSolved (C CR CK : Addr) : Sp := fun vs H Q _ => ∃ (p t : Addr) (n : Nat) (us : List V) (ls : List Lk), vs = [.ref p] ∧ SyAt C H p (n : Nat) t us ls ∧ (∀ l ∈ ls, LkOk (n : Nat) l) ∧ n ≤ 800 ∧ ls.length ≤ 800 ∧
  ∀ (q a : Addr) (H' : Hp), Same H H' → H q = none → ((RgAt CR H' q "path" a ∧ ∃ is : List Nat, H' a = some (.tup (is.map fun (i : Nat) => V.int i)) ∧ RingP ls n is) ∨ (RgAt CK H' q "times" a ∧ ∃ ts : List Int, H' a = some (.tup (ts.map V.int)) ∧ TmsP ls n ts)) → Q (.ref q) H'
def spKept (C CN : Addr) : Sp := fun vs H Q E => ∃ (p t : Addr) (n : Nat) (us : List V) (ls : List Lk), vs = [.ref p] ∧ SyAt C H p (n : Nat) t us ls ∧ (∀ l ∈ ls, LkOk (n : Nat) l) ∧ n ≤ 800 ∧ ls.length ≤ 800 ∧
  (∀ (a : Addr) (is : List Nat), RingP ls n is → ∀ G e, Same H G → H e = none → G a = some (.tup (is.map fun (i : Nat) => V.int i)) → a ≠ e → E (.ref CN) (some e) (upd G e (.xd [("path", .ref a)]))) ∧
  (∀ (a : Addr) (ts : List Int) (H' : Hp), TmsP ls n ts → Same H H' → H' a = some (.tup (ts.map V.int)) → Q (.ref a) H')
def spBack : Sp := fun vs H Q _ => ∃ (t a : Addr) (us : List V) (ls : List Lk) (cm : List (Option Nat)) (o v k : Nat), vs = [.ref t, .ref a, .int (o : Nat), .int (v : Nat)] ∧ LsE H t us ls ∧ H a = some (.lst (cm.map onV)) ∧ Pos ls ∧ k ≤ 800 ∧ itN (nls ls) cm k v = o ∧ (∀ m, m < k → Has (nls ls) cm (itN (nls ls) cm m v) ∧ itN (nls ls) cm m v ≠ o) ∧
  ∀ (R : Addr) (H' : Hp), Same H H' → H' R = some (.tup ((pth (nls ls) cm k v).reverse.map fun (i : Nat) => V.int i)) → Q (.ref R) H'
section
variable {P : Program} {w : World} {K : PySem.W.Frag} {mg : Str → Option Value} {base : Heap} {cl : String → Addr}
theorem ok_settled_from {f : Addr} {fd : FuncData} (F : Fun K "settled_from" "settled_from" s_settled_from f fd) (T : Txt P w K mg cl) : FnOk P w K mg base CX0 3 f fd ["count", "links", "origin"] (spFrom) := by
  refine F.ok sc_settled_from (fun vs H Q E h => ?_) (fun cdv A outer s H vs Q E hr h => ?_)
  · obtain ⟨t, us, ls, n, o, rfl, _⟩ := h
    rfl
  · obtain ⟨t, us, ls, n, o, rfl, hL, ln, ll, ok, pos, k⟩ := h
    have C_settle : Cal P w K mg base CX0 2 "settle" _ spSettle := cal_settle T
    refine ⟨_, (pss_cons (ps_asg (pe_cal C_settle (hr.mono (by decide)) (pa_cons (pv 1) (pa_cons (pe_lc (own := [("place", 6)]) (g := gName 6) (tt := tYes) rfl sc_settled_from.nd (pi_range1 rfl T.n_range (pa_cons (pv 0) pa_nil)) (blkOk_by (own := [("place", 6)]) (N := ["count", "links", "origin", "times", "came", "_", "place"]) (sc := defScope s_settled_from) (by decide +kernel)) (fun _ _ _ _ _ => pg_name (i := 6) sc_settled_from.nd rfl (Or.inl rfl)) (fun _ _ _ _ _ => pts_nil) (fun _ _ _ _ _ => (pe_cut (pe_ifExp (pt_cmpR op_eq (pv 6) (pv 2) (nomark _)) pe_int pe_non)))) pa_nil))) (pg_tup rfl (pgs_cons (pg_name (i := 3) sc_settled_from.nd rfl (Or.inl rfl)) (pgs_cons (pg_name (i := 4) sc_settled_from.nd rfl (Or.inl rfl)) (pgs_cons (pg_name (i := 5) sc_settled_from.nd rfl (Or.inl rfl)) pgs_nil)))))
        (pss_one (ps_ret (pe_tup (pa_cons (pv 3) (pa_cons (pv 4) pa_nil)))))), ?_⟩
    refine ⟨_, rfl, _, rfl, (n : Int), rfl, by omega, by omega, fun D nD => lc_range (fun i H' => H' = upd H D (.lst ((og i o).map oiV))) rfl ?_ ?_⟩
    · rintro i H' hi e
      subst e
      refine ⟨rfl, fun v H' => H' = upd H D (.lst ((og i o).map oiV)) ∧ v = oiV (if i = o then some 0 else none), ?_, fun v H' ⟨e1, e2⟩ => ?_⟩
      · refine ⟨_, rfl, _, rfl, rfl, _, rfl, ?_⟩
        refine ite2 (fun g => ?_) (fun g => ?_)
        · have g : i = o := by have := V.int.inj (of_decide_eq_true g); omega
          exact ⟨rfl, by rw [if_pos g]; rfl⟩
        · have g : ¬ i = o := fun z => g (decide_eq_true (by rw [z, Int.zero_add]))
          exact ⟨rfl, by rw [if_neg g]; rfl⟩
      · subst e1 e2
        refine ⟨_, upd_same, small1000 (by rw [List.length_map, og_len]; omega), ?_⟩
        rw [upd_upd, og_succ, List.map_append]
        rfl
    · rintro H' e
      subst e
      refine ⟨t, D, us, ls, og n o, rfl, hL.same (sNew nD), upd_same, by rw [og_len]; exact ln, ll, by rw [og_len]; exact ok, pos, fun R A B v3 H2 S2 nA nB hA hB hR _ => ?_⟩
      refine ⟨R, _, rfl, SqT.of hR, rfl, _, _, rfl, _, _, rfl, _, _, rfl, rfl, ?_⟩
      refine ⟨_, rfl, _, rfl, by show 2 ≤ sizeLine; decide, fun q nq => ?_⟩
      have ST := sNew (o := .tup [.ref A, .ref B]) nq
      exact k q A B _ ((sNew nD).trans (S2.trans ST)) ((sNew nD).free nA) ((sNew nD).free nB) (ST _ _ hA) (ST _ _ hB) upd_same
theorem cal_settled_from (T : Txt P w K mg cl) : Cal P w K mg base CX0 3 "settled_from" ["count", "links", "origin"] (spFrom) := by
  obtain ⟨f, fd, F, m⟩ := T.d_settled_from
  exact ⟨f, fd, ok_settled_from F T, m, F.kp, F.binds fun _ _ _ _ _ _ us hl => match us, hl with | [_, _, _], _ => rfl⟩
theorem ok_path_back {f : Addr} {fd : FuncData} (F : Fun K "path_back" "path_back" s_path_back f fd) (T : Txt P w K mg cl) : FnOk P w K mg base CX0 1 f fd ["links", "came", "start", "end"] (spBack) := by
  refine F.ok sc_path_back (fun vs H Q E h => ?_) (fun cdv A outer s H vs Q E hr h => ?_)
  · obtain ⟨t, a, us, ls, cm, o, v, k, rfl, _⟩ := h
    rfl
  · obtain ⟨t, a, us, ls, cm, o, v, d, rfl, hL, ha, pos, dn, ed, has, k⟩ := h
    refine ⟨_, (pss_cons (ps_set (i := 4) sc_path_back.nd rfl (Or.inl rfl) (pe_lst pa_nil))
        (pss_cons (ps_set (i := 5) sc_path_back.nd rfl (Or.inl rfl) (pv 3))
        (pss_cons (ps_while PassesOwn.never (pt_cmpR op_ne (pv 5) (pv 2) (nomark _))
          (pss_cons (ps_expr (pe_app1 (by exact (pv 4)) (by exact (pa_cons (pe_ix ix_list (pv 1) (pv 5) (fun _ _ => rfl)) pa_nil))))
            (pss_one (ps_set (i := 5) sc_path_back.nd rfl (Or.inl rfl) (pe_ix ix_tup (pe_ix ix_either (pv 0) (pe_ix ix_list (pv 1) (pv 5) (fun _ _ => rfl)) (fun _ _ => rfl)) pe_int (fun _ _ => rfl))))))
        (pss_one (ps_ret (pe_callTy call_tuple_of (by rfl) T.n_tuple (by decide +kernel) (pa_cons (pe_revL (pv 4)) pa_nil))))))), ?_⟩
    refine ⟨by show 0 ≤ sizeLine; exact Nat.zero_le _, fun D nD => ?_⟩
    have S0 := sNew (o := .lst []) nD
    refine ⟨_, rfl, fun m σ H2 => ∃ q, q + m = d ∧ H2 = upd H D (.lst ((pth (nls ls) cm q v).map fun (i : Nat) => V.int i)) ∧ σ = [some (.ref t), some (.ref a), some (.int (o : Nat)), some (.int (v : Nat)), some (.ref D), some (.int (itN (nls ls) cm q v : Nat))], ⟨d, 0, by omega, rfl, rfl⟩, ?_⟩
    rintro m σ H2 ⟨q, eq, rfl, rfl⟩
    refine ⟨_, rfl, _, rfl, rfl, ?_⟩
    have sz : ((pth (nls ls) cm q v).map fun (i : Nat) => V.int i).length = q := by rw [List.length_map, pth_len]
    have S1 := sNew (o := .lst ((pth (nls ls) cm q v).map fun (i : Nat) => V.int i)) nD
    refine ⟨_, rfl, ite2 (fun g => ?_) (fun g => ?_)⟩
    · have g : ¬ itN (nls ls) cm q v = o := fun z => by
        rw [z] at g
        simp at g
      have qd : q ≠ d := fun z => g (by rw [z]; exact ed)
      obtain ⟨j2, b2, l2, g1, g2, g3, g4, g5⟩ := back_at hL pos (has q (by omega)).1
      refine ⟨fun σ' H'' => H'' = upd H D (.lst ((pth (nls ls) cm (q + 1) v).map fun (i : Nat) => V.int i)) ∧ σ' = [some (.ref t), some (.ref a), some (.int (o : Nat)), some (.int (v : Nat)), some (.ref D), some (.int (itN (nls ls) cm (q + 1) v : Nat))], fun σ' H'' ⟨e1, e2⟩ => ⟨m - 1, by omega, q + 1, by omega, e1, e2⟩, ?_⟩
      refine ⟨_, rfl, .inl ⟨rfl, _, SqL.of upd_same⟩, _, rfl, _, rfl, a, _, _, _, rfl, rfl, SqL.of (S1 _ _ ha), atI_nat g1, D, _, _, rfl, rfl, upd_same, small1000 (by rw [sz]; omega), ?_⟩
      rw [upd_upd]
      have S2 := sNew (o := .lst (((pth (nls ls) cm q v).map fun (i : Nat) => V.int i) ++ [.int (j2 : Nat)])) nD
      refine ⟨_, rfl, _, rfl, _, rfl, a, _, _, _, rfl, rfl, SqL.of (S2 _ _ ha), atI_nat g1, ixOr (hL.same S2).1 g2 ⟨b2, _, _, _, rfl, rfl, SqT.of (S2 _ _ g3), atI_nat (j := 1) rfl, ?_, ?_⟩⟩
      · rw [pth_snoc, g5, List.map_append]
        rfl
      · rw [itN_succ, ← g4]
        rfl
    · have g : itN (nls ls) cm q v = o := by
        by_cases z : itN (nls ls) cm q v = o
        · exact z
        · exfalso
          refine g ?_
          show (!decide (V.int _ = V.int _)) = true
          rw [decide_eq_false fun e => z (by have := V.int.inj e; omega)]
          rfl
      have qd : q = d := by
        by_cases z : q < d
        · exact absurd g (has q z).2
        · omega
      subst qd
      refine ⟨_, rfl, D, _, rfl, SqL.of upd_same, fun R nR => ⟨R, _, rfl, .inl ⟨SqL.of upd_same, fun t' nt => ?_⟩⟩⟩
      have SR := S1.trans (sNew (o := .lst ((pth (nls ls) cm q v).map fun (i : Nat) => V.int i).reverse) nR)
      refine k t' _ (SR.trans (sNew nt)) ?_
      rw [upd_same, List.map_reverse]
theorem cal_path_back (T : Txt P w K mg cl) : Cal P w K mg base CX0 1 "path_back" ["links", "came", "start", "end"] (spBack) := by
  obtain ⟨f, fd, F, m⟩ := T.d_path_back
  exact ⟨f, fd, ok_path_back F T, m, F.kp, F.binds fun _ _ _ _ _ _ us hl => match us, hl with | [_, _, _, _], _ => rfl⟩
end
end My
set_option Elab.async false
set_option linter.all false
set_option maxRecDepth 100000
set_option maxHeartbeats 1000000
namespace My
open PySem L2 Dw Wp
open C8 (pss_cut tCut)
set_option pp.maxSteps 600
open Bf
section
variable {P : Program} {w : World} {K : PySem.W.Frag} {mg : Str → Option Value} {base : Heap} {cl : String → Addr}
theorem ok_solved {f : Addr} {fd : FuncData} (F : Fun K "solved" "solved" s_solved f fd) (T : Txt P w K mg cl) : FnOk P w K mg base CX0 3 f fd ["system"] (spSolved (cl "System") (cl "Ring") (cl "Kept")) := by
  refine F.ok sc_solved (fun vs H Q E h => ?_) (fun cdv A outer s H vs Q E hr h => ?_)
  · obtain ⟨p, t, n, us, ls, rfl, _⟩ := h
    rfl
  · obtain ⟨p, t, n, us, ls, rfl, X, lok, ln, ll, k⟩ := h
    have C_settle : Cal P w K mg base CX0 2 "settle" _ spSettle := cal_settle T
    have I_Kept : CalC P w K mg base CX0 1 (cl "Kept") _ (spFld1 (cl "Kept") "times") := cal_Kept_init T
    have I_Ring : CalC P w K mg base CX0 1 (cl "Ring") _ (spFld1 (cl "Ring") "path") := cal_Ring_init T
    refine ⟨_, (pss_cons (ps_asg (pe_cal C_settle (hr.mono (by decide)) (pa_cons (pe_fld (pv 0) rfl) (pa_cons (pe_lc (own := [("place", 4)]) (g := gName 4) (tt := tYes) rfl sc_solved.nd (pi_range1 rfl T.n_range (pa_cons (pe_fld (pv 0) rfl) pa_nil)) (blkOk_by (own := [("place", 4)]) (N := ["system", "times", "_", "ring", "place"]) (sc := defScope s_solved) (by decide +kernel)) (fun _ _ _ _ _ => pg_name (i := 4) sc_solved.nd rfl (Or.inl rfl)) (fun _ _ _ _ _ => pts_nil) (fun _ _ _ _ _ => pe_int)) pa_nil))) (pg_tup rfl (pgs_cons (pg_name (i := 1) sc_solved.nd rfl (Or.inl rfl)) (pgs_cons (pg_name (i := 2) sc_solved.nd rfl (Or.inl rfl)) (pgs_cons (pg_name (i := 3) sc_solved.nd rfl (Or.inl rfl)) pgs_nil)))))
        (pss_cons (ps_if (pt_cmpR op_notN (pv 3) pe_non (nomark _))
          (pss_one (ps_ret (pe_mk I_Ring T.m_Ring (hr.mono (by decide))  (pa_cons (pv 3) pa_nil)))) pss_nil)
        (pss_one (ps_ret (pe_mk I_Kept T.m_Kept (hr.mono (by decide))  (pa_cons (pe_callTy call_tuple_of (by rfl) T.n_tuple (by decide +kernel) (pa_cons (pv 1) pa_nil)) pa_nil)))))), ?_⟩
    obtain ⟨dx, hself⟩ := X.self
    obtain ⟨ok, pos⟩ := LkOk.ix lok rfl
    refine ⟨_, rfl, p, _, _, _, _, rfl, hself, T.cl_System, T.na_System _ (by decide), rfl, _, rfl, p, _, _, _, _, rfl, hself, T.cl_System, T.na_System _ (by decide), rfl, (n : Int), rfl, by omega, by omega, fun D nD => lc_range (fun i H' => H' = upd H D (.lst ((zr i).map oiV))) rfl ?_ ?_⟩
    · rintro i H' hi e
      subst e
      refine ⟨rfl, _, upd_same, small1000 (by rw [List.length_map, zr_len]; omega), ?_⟩
      rw [upd_upd, zr_succ, List.map_append]
      rfl
    · rintro H' e
      subst e
      refine ⟨t, D, us, ls, zr n, rfl, ⟨.inr (sNew nD _ _ X.rows), (X.same (sNew nD)).each⟩, upd_same, by rw [zr_len]; exact ln, ll, by rw [zr_len]; exact ok, pos, fun R A B v3 H2 S2 nA nB hA hB hR hv => ?_⟩
      refine ⟨R, _, rfl, SqT.of hR, rfl, _, _, rfl, _, _, rfl, _, _, rfl, rfl, ?_⟩
      have S := (sNew nD).trans S2
      have ok' : IxOk (zr n).length (nls ls) := by rw [zr_len]; exact ok
      rcases hv with ⟨h2, rfl⟩ | ⟨h2, C, is, q, rfl, hC, h3, h4, h5, h6⟩
      · refine ⟨_, rfl, rfl, _, rfl, iteF ?_⟩
        obtain ⟨l1, _, _, _, so, _⟩ := sett_kept ok' h2
        have kp := sett_all ok' h2 fun v hv => zr_at (by rw [zr_len] at hv; exact hv)
        obtain ⟨ts, e1, e2, e3⟩ := all_some (xs := (sett (nls ls) (zr n)).1.ts) fun v hv => so v (zr_at (by rw [l1, zr_len] at hv; exact hv))
        rw [e1] at hA
        rw [l1, zr_len] at e2
        refine ⟨_, rfl, A, _, rfl, .inl ⟨SqL.of hA, fun a na => fun x d nx nd ne => ⟨x, d, _, rfl, upd_same, rfl, ?_⟩⟩⟩
        have Sa := sNew (o := .tup (ts.map V.int)) na
        have S3 := S.trans Sa
        refine k x a _ (same_upd (same_upd (same_upd S3 (S3.free nd)) (S3.free nx)) (S3.free nx)) (S3.free nx) (.inr ⟨⟨_, upd_same⟩, ts, ?_, e2, fun l hl => ?_⟩)
        · have hx : a ≠ x := ne_of_none (upd_same (H := H2) (a := a) (o := .tup (ts.map V.int))) nx
          have hd : a ≠ d := ne_of_none (upd_same (H := H2) (a := a) (o := .tup (ts.map V.int))) nd
          rw [upd_ne hx, upd_ne hx, upd_ne hd]
          exact upd_same
        · rw [e3, e3]
          exact kp l hl
      · refine ⟨_, rfl, rfl, _, rfl, iteT ?_⟩
        refine ⟨_, rfl, fun x d nx nd ne => ⟨x, d, _, rfl, upd_same, rfl, ?_⟩⟩
        refine k x C _ (same_upd (same_upd (same_upd S (S.free nd)) (S.free nx)) (S.free nx)) (S.free nx) (.inl ⟨⟨_, upd_same⟩, is, ?_, h3, by rw [zr_len] at h4; exact h4, q, h5, h6⟩)
        rw [upd_ne (ne_of_none hC nx), upd_ne (ne_of_none hC nx), upd_ne (ne_of_none hC nd)]
        exact hC
theorem cal_solved (T : Txt P w K mg cl) : Cal P w K mg base CX0 3 "solved" ["system"] (spSolved (cl "System") (cl "Ring") (cl "Kept")) := by
  obtain ⟨f, fd, F, m⟩ := T.d_solved
  exact ⟨f, fd, ok_solved F T, m, F.kp, F.binds fun _ _ _ _ _ _ us hl => match us, hl with | [_], _ => rfl⟩
theorem ok_kept_times {f : Addr} {fd : FuncData} (F : Fun K "kept_times" "kept_times" s_kept_times f fd) (T : Txt P w K mg cl) : FnOk P w K mg base (L2.CX P w) 4 f fd ["system"] (spKept (cl "System") (cl "NoTimes")) := by
  refine F.okX sc_kept_times (fun vs H Q E h => ?_) (fun cdv A outer s H vs Q E hr h => ?_)
  · obtain ⟨p, t, n, us, ls, rfl, _⟩ := h
    rfl
  · obtain ⟨p, t, n, us, ls, rfl, X, lok, ln, ll, kE, kQ⟩ := h
    have C_solved : Cal P w K mg base CX0 3 "solved" _ (spSolved (cl "System") (cl "Ring") (cl "Kept")) := cal_solved T
    refine ⟨_, (pss_cons (ps_set (i := 1) sc_kept_times.nd rfl (Or.inl rfl) (pe_cal C_solved (hr.mono (by decide)) (pa_cons (pv 0) pa_nil)))
        (pss_cons (ps_if (pt_val (pe_callB call_isi (by rfl) T.n_isinstance (by decide +kernel) (pa_cons (pv 1) (pa_cons (pe_cls T.m_Ring) pa_nil))))
          (pss_one (ps_raiseO rfl (ini_NoTimes (base := base) T) T.m_NoTimes (hr.mono (by decide)) (takes_of rfl rfl rfl rfl) (by exact (pa_cons (pe_fld (pv 1) rfl) pa_nil)))) pss_nil)
        (pss_one (ps_ret (pe_fld (pv 1) rfl))))), ?_⟩
    refine ⟨_, rfl, p, t, n, us, ls, rfl, X, lok, ln, ll, fun q a H1 S1 nq hv => ?_⟩
    rcases hv with ⟨⟨dq, hq⟩, is, ha, R⟩ | ⟨⟨dq, hq⟩, ts, ha, R⟩
    · refine ⟨_, rfl, _, _, _, _, _, rfl, .own (cl "Ring"), .base (.ins hq T.cl_Ring T.y_Ring T.z1 T.z2 T.z3_Ring), T.k_Ri_Ri, _, rfl, iteT ?_⟩
      refine ⟨_, rfl, q, _, _, _, _, rfl, hq, T.cl_Ring, T.na_Ring _ (by decide), rfl, raise1 (Same.refl H1) fun G e S ne => ?_⟩
      exact kE a is R G e (S1.trans S) (S1.free ne) (S _ _ ha) (ne_of_none ha ne)
    · refine ⟨_, rfl, _, _, _, _, _, rfl, .own (cl "Ring"), .base (.ins hq T.cl_Kept T.y_Kept T.z1 T.z2 T.z3_Kept), T.k_Ke_Ri, _, rfl, iteF ?_⟩
      exact ⟨_, rfl, q, _, _, _, _, rfl, hq, T.cl_Kept, T.na_Kept _ (by decide), rfl, kQ a ts H1 R S1 ha⟩
theorem cal_kept_times (T : Txt P w K mg cl) : Cal P w K mg base (L2.CX P w) 4 "kept_times" ["system"] (spKept (cl "System") (cl "NoTimes")) := by
  obtain ⟨f, fd, F, m⟩ := T.d_kept_times
  exact ⟨f, fd, ok_kept_times F T, m, F.kp, F.binds fun _ _ _ _ _ _ us hl => match us, hl with | [_], _ => rfl⟩
end
end My
set_option Elab.async false
set_option linter.all false
set_option maxRecDepth 100000
set_option maxHeartbeats 1000000
namespace My
open PySem L2 Dw Wp
open C8 (pss_cut tCut)
set_option pp.maxSteps 600
open Bf
theorem kF_at {bs : List Int} {v : Nat} (h : v < bs.length) : (bs.map V.int)[v]? = some (.int (kF bs v)) := by
  unfold kF
  rw [List.getElem?_map, List.getElem?_eq_getElem h]
  rfl
theorem rz_cons (ts : List (Option Int)) (base : Nat → Int) (l : NL) (ls : List NL) (r : Int) : rz ts base (l :: ls) r = rz ts base ls (match gO ts l.1, gO ts l.2.1 with
    | some t, none => max r (t - l.2.2 - base l.2.1)
    | _, _ => r) := rfl
def spCmpl : Sp := fun vs H Q _ => ∃ (t a b : Addr) (us : List V) (ls : List Lk) (ts : List (Option Int)) (bs : List Int), vs = [.ref t, .ref a, .ref b] ∧ LsE H t us ls ∧ H a = some (.lst (ts.map oiV)) ∧ IsAt H b bs ∧ bs.length = ts.length ∧ ts.length ≤ 800 ∧ IxOk ts.length (nls ls) ∧ Pos ls ∧
  ∀ (R : Addr) (cs : List Int) (H' : Hp), Same H H' → cs.length = ts.length → (∀ v, v < ts.length → kF cs v = cpl ts (kF bs) (rz ts (kF bs) (nls ls) 0) v) → H' R = some (.tup (cs.map V.int)) → Q (.ref R) H'
section
variable {P : Program} {w : World} {K : PySem.W.Frag} {mg : Str → Option Value} {base : Heap} {cl : String → Addr}
theorem ok_completed {f : Addr} {fd : FuncData} (F : Fun K "completed" "completed" s_completed f fd) (T : Txt P w K mg cl) : FnOk P w K mg base CX0 1 f fd ["links", "reached", "base"] (spCmpl) := by
  refine F.ok sc_completed (fun vs H Q E h => ?_) (fun cdv A outer s H vs Q E hr h => ?_)
  · obtain ⟨t, a, b, us, ls, ts, bs, rfl, _⟩ := h
    rfl
  · obtain ⟨t, a, b, us, ls, ts, bs, rfl, hL, ha, hb, lb, lt, ok, pos, k⟩ := h
    refine ⟨_, (pss_cons (ps_set (i := 3) sc_completed.nd rfl (Or.inr rfl) pe_int)
        (pss_cons (ps_for PassesOwn.never rfl (pi_seq (pv 0)) (pg_tup rfl (pgs_cons (pg_name (i := 4) sc_completed.nd rfl (Or.inl rfl)) (pgs_cons (pg_name (i := 5) sc_completed.nd rfl (Or.inl rfl)) (pgs_cons (pg_name (i := 6) sc_completed.nd rfl (Or.inl rfl)) pgs_nil))))
          (pss_one (ps_if (PW.pt (pw_and (pt_cmpR op_notN (pe_ix ix_list (pv 1) (pv 4) (fun _ _ => rfl)) pe_non (nomark _)) (pw_and1 (pt_cmpR op_isN (pe_ix ix_list (pv 1) (pv 5) (fun _ _ => rfl)) pe_non (nomark _)))))
              (pss_one (ps_set (i := 3) sc_completed.nd rfl (Or.inr rfl) (pe_callB (call_max2 rfl) (by rfl) T.n_max (by decide +kernel) (pa_cons (pv 3) (pa_cons (pe_op op_sub (pe_op op_sub (pe_ix ix_list (pv 1) (pv 4) (fun _ _ => rfl)) (pv 6)) (pe_ix ix_either (pv 2) (pv 5) (fun _ _ => rfl))) pa_nil))))) pss_nil)))
        (pss_one (ps_ret (pe_callTy call_tuple_of (by rfl) T.n_tuple (by decide +kernel) (pa_cons (pe_lc (own := [("place", 7), ("time", 8)]) (g := gTup K 2 (gCons (gName 7) (gCons (gName 8) gNil))) (tt := tYes) rfl sc_completed.nd (pi_enum (by rfl) T.n_enumerate (pa_cons (pv 1) pa_nil)) (blkOk_by (own := [("place", 7), ("time", 8)]) (N := ["links", "reached", "base", "raised", "one", "other", "amount", "place", "time"]) (sc := defScope s_completed) (by decide +kernel)) (fun _ _ _ _ _ => (pg_tup rfl (pgs_cons (pg_name (i := 7) sc_completed.nd rfl (Or.inl rfl)) (pgs_cons (pg_name (i := 8) sc_completed.nd rfl (Or.inl rfl)) pgs_nil)))) (fun _ _ _ _ _ => pts_nil) (fun _ _ _ _ _ => (pe_ifExp (pt_cmpR op_isN (pv 8) pe_non (nomark _)) (pe_op op_add (pe_ix (ix_eitherK (K := K) rfl) (pv 2) (pv 7) (fun _ _ => rfl)) (pv 3)) (pv 8)))) pa_nil)))))), ?_⟩
    refine ⟨_, rfl, t, us, rfl, hL.1, fun J wk => for_it wk (fun j σ H' => H' = H ∧ ∃ r : Int, rz ts (kF bs) ((nls ls).drop j) r = rz ts (kF bs) (nls ls) 0 ∧ ∃ v4 v5 v6 : Option V, σ = [some (.ref t), some (.ref a), some (.ref b), some (.int r), v4, v5, v6, none, none]) ⟨rfl, 0, rfl, none, none, none, rfl⟩ (fun j σ H' _ q => by rw [q.1]) ?_ ?_⟩
    · rintro j xv σ H' H3 hj ⟨rfl, r, er, v4, v5, v6, rfl⟩ ⟨rfl, hx⟩
      obtain ⟨l, hl, bb, rfl, hbb⟩ := Paired.at hL.2 hx
      obtain ⟨x, y, ex, ey, hx1, hy1, hn⟩ := lk_in ok pos hl
      obtain ⟨a1, a2, a3⟩ := l
      have ex : a1 = (x : Int) := ex
      have ey : a2 = (y : Int) := ey
      subst ex ey
      have hn : (nls ls)[j]? = some (x, y, a3) := hn
      rw [take_drop_at hn, rz_cons] at er
      refine ⟨bb, _, rfl, SqT.of hbb, rfl, _, _, rfl, _, _, rfl, _, _, rfl, rfl, ?_⟩
      cases htx : gO ts x with
      | none =>
        rw [show gO ts ((x, y, a3) : NL).1 = none from htx] at er
        exact ⟨_, rfl, _, rfl, a, _, _, _, rfl, rfl, SqL.of ha, atI_nat (oi_none htx hx1), rfl, _, rfl, iteF (iteF ⟨rfl, r, er, _, _, _, rfl⟩)⟩
      | some tx =>
        refine ⟨_, rfl, _, rfl, a, _, _, _, rfl, rfl, SqL.of ha, atI_nat (oi_some htx), rfl, _, rfl, iteT ?_⟩
        cases hty : gO ts y with
        | some ty =>
          rw [show gO ts ((x, y, a3) : NL).1 = some tx from htx, show gO ts ((x, y, a3) : NL).2.1 = some ty from hty] at er
          exact ⟨_, rfl, _, rfl, a, _, _, _, rfl, rfl, SqL.of ha, atI_nat (oi_some hty), rfl, _, rfl, iteF ⟨rfl, r, er, _, _, _, rfl⟩⟩
        | none =>
          rw [show gO ts ((x, y, a3) : NL).1 = some tx from htx, show gO ts ((x, y, a3) : NL).2.1 = none from hty] at er
          have hyb : y < bs.length := by omega
          refine ⟨_, rfl, _, rfl, a, _, _, _, rfl, rfl, SqL.of ha, atI_nat (oi_none hty hy1), rfl, _, rfl, iteT ?_⟩
          refine ⟨_, rfl, _, rfl, _, rfl, a, _, _, _, rfl, rfl, SqL.of ha, atI_nat (oi_some htx), _, rfl, _, _, rfl, rfl, _, rfl, _, rfl, ixOr hb (kF_at hyb) ⟨_, _, rfl, rfl, _, _, rfl, rfl, _, ?_, _, _, _, rfl⟩⟩
          rw [← er]
          show rz ts (kF bs) _ (if tx - a3 - kF bs y > r then tx - a3 - kF bs y else r) = rz ts (kF bs) _ (max r (tx - a3 - kF bs y))
          congr 1
          split <;> omega
    · rintro σ H' ⟨rfl, r, er, v4, v5, v6, rfl⟩
      have er : r = rz ts (kF bs) (nls ls) 0 := by
        rw [← er, List.drop_of_length_le (by rw [hL.2.length]; unfold nls; rw [List.length_map]; exact Nat.le_refl _)]
        rfl
      rw [← er] at k
      have lm : (ts.map oiV).length = ts.length := List.length_map _
      refine ⟨_, rfl, a, _, rfl, SqL.of ha, fun D nD => lc_it walk_enum (fun i H2 => H2 D = some (.lst ((List.range i).map fun v => V.int (cpl ts (kF bs) r v))) ∧ Same H' H2) ⟨upd_same, sNew nD⟩ (fun i H2 _ q => SqL.of (q.2 _ _ ha)) ?_ ?_⟩
      · rintro i xv H2 H3 hi ⟨hD, S2⟩ ⟨Tt, x1, y1, rfl, hT, rfl, q1, q2⟩
        cases q1
        have q2 : (ts.map oiV)[i]? = some y1 := q2
        have ST := sNew (o := .tup [.int (i : Nat), y1]) hT
        have S3 := S2.trans ST
        rw [lm] at hi
        refine ⟨Tt, _, rfl, SqT.of upd_same, rfl, _, _, rfl, _, _, rfl, rfl, rfl, ?_⟩
        have fin : ∃ acc, upd H2 Tt (.tup [.int (i : Nat), y1]) D = some (.lst acc) ∧ acc.length < sizeLine ∧ upd (upd H2 Tt (.tup [.int (i : Nat), y1])) D (.lst (acc ++ [.int (cpl ts (kF bs) r i)])) D = some (.lst ((List.range (i + 1)).map fun v => V.int (cpl ts (kF bs) r v))) ∧ Same H' (upd (upd H2 Tt (.tup [.int (i : Nat), y1])) D (.lst (acc ++ [.int (cpl ts (kF bs) r i)]))) := by
          refine ⟨_, ST _ _ hD, small1000 (by rw [List.length_map, List.length_range]; omega), ?_, same_upd S3 nD⟩
          rw [upd_same, List.range_succ, List.map_append]
          rfl
        cases hti : gO ts i with
        | none =>
          rw [oi_none hti hi] at q2
          cases q2
          rw [show cpl ts (kF bs) r i = kF bs i + r by unfold cpl; rw [hti]] at fin
          exact ⟨_, rfl, rfl, _, rfl, iteT ⟨_, rfl, _, rfl, ixOr (IsAt.same hb S3) (kF_at (by omega)) ⟨_, rfl, _, _, rfl, rfl, fin⟩⟩⟩
        | some ti =>
          rw [oi_some hti] at q2
          cases q2
          rw [show cpl ts (kF bs) r i = ti by unfold cpl; rw [hti]] at fin
          exact ⟨_, rfl, rfl, _, rfl, iteF ⟨_, rfl, fin⟩⟩
      · rintro H2 ⟨hD, S2⟩
        rw [lm] at hD
        refine ⟨D, _, rfl, .inl ⟨SqL.of hD, fun R nR => k R ((List.range ts.length).map fun v => cpl ts (kF bs) r v) _ (S2.trans (sNew nR)) (by rw [List.length_map, List.length_range]) (fun v hv => ?_) ?_⟩⟩
        · unfold kF
          rw [List.getElem?_map, List.getElem?_range hv]
          rfl
        · rw [upd_same, List.map_map]
          rfl
theorem cal_completed (T : Txt P w K mg cl) : Cal P w K mg base CX0 1 "completed" ["links", "reached", "base"] (spCmpl) := by
  obtain ⟨f, fd, F, m⟩ := T.d_completed
  exact ⟨f, fd, ok_completed F T, m, F.kp, F.binds fun _ _ _ _ _ _ us hl => match us, hl with | [_, _, _], _ => rfl⟩
end
end My
set_option Elab.async false
set_option linter.all false
set_option maxRecDepth 100000
set_option maxHeartbeats 1000000
namespace My
open PySem L2 Dw Wp
open C8 (pss_cut tCut)
set_option pp.maxSteps 600
open Bf
/-- the times reached from one place -/
abbrev rch (ls : List Lk) (n o : Nat) : List (Option Int) := (sett (nls ls) (og n o)).1.ts
def natT (is : List Nat) : HO := .tup (is.map fun (i : Nat) => V.int i)
def intT (ts : List Int) : HO := .tup (ts.map V.int)
def NoTm (CT : Addr) (ls : List Lk) (n : Nat) (H : Hp) (E : XK) : Prop := ∀ (a : Addr) (is : List Nat), RingP ls n is → ∀ G e, Same H G → H e = none → G a = some (natT is) → a ≠ e → E (.ref CT) (some e) (upd G e (.xd [("path", .ref a)]))
theorem made {H : Hp} {x d : Addr} {o1 o2 o3 : HO} (nx : H x = none) (nd : H d = none) : Same H (upd (upd (upd H d o1) x o2) x o3) := same_upd (same_upd (sNew nd) nx) nx
theorem isT_nat {n : Nat} {v : V} (h : isT (n : Nat) v = true) : ∃ a : Nat, v = .int (a : Nat) ∧ a < n := by
  cases v with
  | int i =>
    have h : (decide (0 ≤ i) && decide (i < (n : Nat))) = true := h
    simp only [Bool.and_eq_true, decide_eq_true_eq] at h
    exact ⟨i.toNat, by rw [Int.toNat_of_nonneg h.1], by omega⟩
  | _ => cases h
end My
set_option Elab.async false
set_option linter.all false
set_option maxRecDepth 100000
set_option maxHeartbeats 1000000
namespace My
open PySem L2 Dw Wp
open C8 (pss_cut tCut)
set_option pp.maxSteps 600
open Bf
theorem eqv_nilE (ds : List PyData) : PyData.eqv (sqD true ds) (sqD true []) = ds.isEmpty := by
  cases ds <;> simp [sqD, PyData.eqv, PyData.eqvAll]
theorem ts_at {ss : List Int} {z : Int} (h0 : 0 ≤ z) (h : z.toNat < ss.length) : atI (ss.map V.int) z = some (.int ss[z.toNat]) := by
  obtain ⟨n, rfl⟩ : ∃ n : Nat, z = (n : Int) := ⟨z.toNat, by omega⟩
  exact atI_nat (j := n) (by rw [List.getElem?_map, List.getElem?_eq_getElem (show n < ss.length from h)]; rfl)
def spLAre : Sp := fun vs H Q _ => ∃ (a : Addr) (ts : List Int) (c : Int), vs = [.ref a, .int c] ∧ H a = some (intT ts) ∧ ts.length ≤ 800 ∧ ∀ H', Same H H' → Q (.bl (decide ((ts.length : Int) = c))) H'
def spLKeep : Sp := fun vs H Q _ => ∃ (g a : Addr) (us : List V) (ls : List Lk) (ts : List Int), vs = [.ref g, .ref a] ∧ LlT H g us ls ∧ IsAt H a ts ∧ (∀ l ∈ ls, LkOk (ts.length : Nat) l) ∧ ls.length ≤ 800 ∧ ∀ H', Same H H' → Q (.bl (brk ls ts).isEmpty) H'
def spLds : Sp := fun vs H Q _ => ∃ (g pa : Addr) (us : List V) (ls : List Lk) (js : List Nat) (st en : Nat), vs = [.ref g, .ref pa, .int (st : Nat), .int (en : Nat)] ∧ LlT H g us ls ∧ H pa = some (natT js) ∧ Pos ls ∧ js.length ≤ 800 ∧ Leads (nls ls) js st en ∧ Q (.bl true) H
def spLSum : Sp := fun vs H Q _ => ∃ (g pa : Addr) (us : List V) (ls : List Lk) (js : List Nat), vs = [.ref g, .ref pa] ∧ LlT H g us ls ∧ H pa = some (natT js) ∧ js.length ≤ 800 ∧ (∀ i ∈ js, i < ls.length) ∧ ∀ H', Same H H' → Q (.int (sumO ls js)) H'
def spBars : Sp := fun vs H Q _ => ∃ (g pa : Addr) (us : List V) (ls : List Lk) (js : List Nat) (n : Nat), vs = [.ref g, .ref pa] ∧ LlT H g us ls ∧ H pa = some (natT js) ∧ Pos ls ∧ n ≤ 800 ∧ RingP ls n js ∧ ∀ H', Same H H' → Q (.bl true) H'
theorem ll_at {H : Hp} {t : Addr} {us : List V} {ls : List Lk} {i : Nat} (hL : LlT H t us ls) (h : i < ls.length) : ∃ b, us[i]? = some (.ref b) ∧ H b = some (.tup (lkV ls[i])) := by
  obtain ⟨v, hv, b, rfl, hb⟩ := Paired.at' (i := i) (y := ls[i]) hL.2 (List.getElem?_eq_getElem h)
  exact ⟨b, hv, hb⟩
theorem sumO_nl (ls : List Lk) (js : List Nat) : smI (nls ls) js = sumO ls js := by
  unfold smI sumO
  congr 1
  refine List.map_congr_left fun i _ => ?_
  unfold nls
  rw [List.getElem?_map]
  cases ls[i]? <;> rfl
theorem Leads.lt {ls : List Lk} : ∀ {js : List Nat} {a b : Nat}, Leads (nls ls) js a b → ∀ j ∈ js, j < ls.length
  | [], _, _, _, j, h => by cases h
  | i :: is, a, b, ⟨l, h1, _, h3⟩, j, h => by
    rcases List.mem_cons.mp h with rfl | h
    · obtain ⟨l', k1, _⟩ := nls_at h1
      exact (List.getElem?_eq_some_iff.mp k1).1
    · exact Leads.lt h3 j h
theorem okN (js : List Nat) : ∀ x ∈ js.map fun (i : Nat) => V.int i, okV x = true := fun x hx => by
  obtain ⟨i, _, rfl⟩ := List.mem_map.mp hx
  rfl
section
variable {P : Program} {w : World} {K : PySem.W.Frag} {mg : Str → Option Value} {base : Heap} {cl : String → Addr}
theorem ok_L_are_times {f : Addr} {fd : FuncData} (F : Fun K "_law_are_times" "_law_are_times" s_L_are_times f fd) (T : Txt P w K mg cl) : FnOk P w K mg base CX0 2 f fd ["_law_thing", "_law_count"] (spLAre) := by
  refine F.ok sc_L_are_times (fun vs H Q E h => ?_) (fun cdv A outer s H vs Q E hr h => ?_)
  · obtain ⟨a, ts, c, rfl, _⟩ := h
    rfl
  · obtain ⟨a, ts, c, rfl, ha, lt, k⟩ := h
    have C_is_whole : Cal P w K mg base CX0 1 "_law_is_whole" _ (spIsI K) := cal_is_whole T
    refine ⟨_, (pss_one (ps_ret (pe_and (pe_callB call_isi (by rfl) T.n_isinstance (by decide +kernel) (pa_cons (pv 0) (pa_cons (pe_ty "tuple" T.n_tuple) pa_nil))) (pe_and (pe_cmpR op_eq (pe_callB call_len_seq (by rfl) T.n_len PySem.boot_len (pa_cons (pv 0) pa_nil)) (pv 1) (nomark _)) (pe_one (pe_cmpR (op_eqD hr.units) (pe_lc (own := [("_law_x", 2)]) (g := gName 2)  rfl sc_L_are_times.nd (pi_seq (pv 0)) (blkOk_by (own := [("_law_x", 2)]) (N := ["_law_thing", "_law_count", "_law_x"]) (sc := defScope s_L_are_times) (by decide +kernel)) (fun _ _ _ _ _ => pg_name (i := 2) sc_L_are_times.nd rfl (Or.inl rfl)) (fun _ _ _ _ _ => pts_one (pt_not (pt_val (pe_cal C_is_whole (hr.mono (by decide)) (pa_cons (pv 2) pa_nil))))) (fun _ _ _ _ _ => (pv 2))) (pe_lst pa_nil) (nomark _))))))), ?_⟩
    refine ⟨_, rfl, _, _, _, _, _, rfl, .ty "tuple", .base (.tup ha), (show _ = some true from kit_ty (by decide +kernel)), _, rfl, iteT ⟨_, rfl, a, _, rfl, .inr (SqT.of ha), _, rfl, rfl, _, rfl, ?_⟩⟩
    have lm : (ts.map V.int).length = ts.length := List.length_map _
    rw [lm]
    have dc : (decide (V.int (ts.length : Nat) = V.int c)) = decide ((ts.length : Int) = c) := by
      by_cases z : (ts.length : Int) = c
      · rw [decide_eq_true z, decide_eq_true (congrArg V.int z)]
      · rw [decide_eq_false z, decide_eq_false fun e => z (V.int.inj e)]
    rw [dc]
    refine ite2 (fun g => ?_) (fun g => ?_)
    rotate_left
    · rw [Bool.eq_false_iff.mpr g] at k
      exact k H (Same.refl H)
    rw [g] at k
    refine ⟨_, rfl, a, ts.map V.int, rfl, .inr ha, fun J wk D nD => lc_it wk (fun i H' => H' = upd H D (.lst [])) rfl (fun i H' _ q => by rw [q]; exact upd_ne (ne_of_none ha nD)) ?_ ?_⟩
    · rintro j x H2 H3 hi rfl ⟨rfl, hx⟩
      rw [List.getElem?_map] at hx
      obtain ⟨i, hi2, rfl⟩ : ∃ i, ts[j]? = some i ∧ V.int i = x := by
        cases e : ts[j]? with
        | none => rw [e] at hx; cases hx
        | some i => rw [e] at hx; exact ⟨i, rfl, Option.some.inj hx⟩
      exact ⟨rfl, _, rfl, _, _, rfl, (.int i : Dm K _ (.int i) "int"), _, rfl, iteF rfl⟩
    · rintro H' rfl
      have S1 := sNew (o := .lst []) nD
      refine ⟨by show 0 ≤ sizeLine; exact Nat.zero_le _, fun qq nqq => ?_⟩
      have S2 := S1.trans (sNew (o := .lst []) nqq)
      refine ⟨_, _, dp_lst (SqL.of (sNew nqq _ _ upd_same)) .nil, dp_lst (SqL.of upd_same) .nil, row_shaped (xs := []) true (by simp), row_shaped (xs := []) true (by simp), ?_⟩
      rw [eqv_nilE]
      exact k _ S2
theorem cal_L_are_times (T : Txt P w K mg cl) : Cal P w K mg base CX0 2 "_law_are_times" ["_law_thing", "_law_count"] (spLAre) := by
  obtain ⟨f, fd, F, m⟩ := T.d_L_are_times
  exact ⟨f, fd, ok_L_are_times F T, m, F.kp, F.binds fun _ _ _ _ _ _ us hl => match us, hl with | [_, _], _ => rfl⟩
theorem ok_keep {f : Addr} {fd : FuncData} (F : Fun K "_law_keep" "_law_keep" s_keep f fd) (T : Txt P w K mg cl) : FnOk P w K mg base CX0 1 f fd ["_law_links_here", "_law_times_here"] (spLKeep) := by
  refine F.ok sc_keep (fun vs H Q E h => ?_) (fun cdv A outer s H vs Q E hr h => ?_)
  · obtain ⟨g, a, us, ls, ts, rfl, _⟩ := h
    rfl
  · obtain ⟨g, a, us, ls, ss, rfl, hL, ha, lok, ll, k⟩ := h
    refine ⟨_, (pss_one (ps_ret (pe_cmpR (op_eqD hr.units) (pe_lc (own := [("_law_x", 2)]) (g := gName 2)  rfl sc_keep.nd (pi_list (pv 0)) (blkOk_by (own := [("_law_x", 2)]) (N := ["_law_links_here", "_law_times_here", "_law_x"]) (sc := defScope s_keep) (by decide +kernel)) (fun _ _ _ _ _ => pg_name (i := 2) sc_keep.nd rfl (Or.inl rfl)) (fun _ _ _ _ _ => pts_one (pt_cmpR op_gt (pe_op op_sub (pe_ix (ix_eitherK (K := K) rfl) (pv 1) (pe_ix (ix_tupK (K := K) rfl) (pv 2) pe_int (fun _ _ => rfl)) (fun _ _ => rfl)) (pe_ix (ix_eitherK (K := K) rfl) (pv 1) (pe_ix (ix_tupK (K := K) rfl) (pv 2) pe_int (fun _ _ => rfl)) (fun _ _ => rfl))) (pe_ix (ix_tupK (K := K) rfl) (pv 2) pe_int (fun _ _ => rfl)) (nomark _))) (fun _ _ _ _ _ => (pv 2))) (pe_lst pa_nil) (nomark _)))), ?_⟩
    have lu := hL.2.length
    refine ⟨_, rfl, g, rfl, ⟨_, SqL.of hL.1⟩, fun D nD => lc_list (K := K) (a := g) (xs := us) (fun i H' => ∃ (ws : List V) (ks : List Lk), H' = upd H D (.lst ws) ∧ Paired (LkT H) ws ks ∧ ks.isEmpty = (brkTo ls ss i).isEmpty ∧ ws.length ≤ i) ⟨[], [], rfl, .nil, rfl, Nat.le_refl _⟩ (fun i H' _ q => by obtain ⟨ws, ks, q, _⟩ := q; rw [q]; exact SqL.of (by rw [upd_ne (ne_of_none hL.1 nD)]; exact hL.1)) ?_ ?_⟩
    · rintro i x H' hx ⟨ws, ks, rfl, pw, eb, lw⟩
      obtain ⟨l, hl, e, rfl, he0⟩ := Paired.at hL.2 hx
      have SD := sNew (o := .lst ws) nD
      have he := SD _ _ he0
      have hs := IsAt.same ha SD
      obtain ⟨⟨a1, a2⟩, a3, a4⟩ := lok l (List.mem_of_getElem? hl)
      have hi := (List.getElem?_eq_some_iff.mp hl).1
      have j1 : l.1.toNat < ss.length := by omega
      have j2 : l.2.1.toNat < ss.length := by omega
      have kb : keepB ss l = decide (ss[l.1.toNat] - ss[l.2.1.toNat] ≤ l.2.2) := by
        unfold keepB
        rw [List.getElem?_eq_getElem j1, List.getElem?_eq_getElem j2]
        rfl
      have bs := brkTo_succ (ls := ls) (ts := ss) hl
      refine ⟨rfl, _, rfl, _, rfl, e, _, _, _, rfl, rfl, SqT.of he, atI_nat (j := 0) rfl, ixOrA hs (ts_at a1 j1) ⟨_, rfl, _, rfl, e, _, _, _, rfl, rfl, SqT.of he, atI_nat (j := 1) rfl, ixOrA hs (ts_at a3 j2) ⟨_, _, rfl, rfl, _, rfl, e, _, _, _, rfl, rfl, SqT.of he, atI_nat (j := 2) rfl, _, _, rfl, rfl, _, rfl, ?_⟩⟩⟩
      by_cases g : ss[l.1.toNat] - ss[l.2.1.toNat] ≤ l.2.2
      · rw [decide_eq_false (show ¬ l.2.2 < ss[l.1.toNat] - ss[l.2.1.toNat] by omega)]
        rw [decide_eq_true g] at kb
        exact iteF ⟨ws, ks, rfl, pw, by rw [bs, if_pos kb, List.append_nil]; exact eb, by omega⟩
      · rw [decide_eq_true (show l.2.2 < ss[l.1.toNat] - ss[l.2.1.toNat] by omega)]
        rw [decide_eq_false g] at kb
        refine iteT ⟨_, rfl, ws, upd_same, small1000 (by omega), ws ++ [.ref e], ks ++ [l], by rw [upd_upd], Paired.appendP pw (.cons ⟨e, rfl, he0⟩ .nil), ?_, by rw [List.length_append, List.length_singleton]; omega⟩
        rw [bs, if_neg (by rw [kb]; exact Bool.false_ne_true)]
        generalize brkTo ls ss i = zz
        cases ks <;> cases zz <;> rfl
    rintro H' ⟨ws, ks, rfl, pw, eb, lw⟩
    rw [hL.2.length] at eb
    have S1 := sNew (o := .lst ws) nD
    refine ⟨by show 0 ≤ sizeLine; exact Nat.zero_le _, fun qq nqq => ?_⟩
    have S2 := S1.trans (sNew (o := .lst []) nqq)
    refine ⟨_, _, dp_lst (SqL.of (sNew nqq _ _ upd_same)) (lks_dp (Paired.impP (fun _ _ h => h.same S2) pw)), dp_lst (SqL.of upd_same) .nil, fls_shaped true (lks_fl ks), row_shaped (xs := []) true (by simp), ?_⟩
    rw [eqv_nilE, show (ks.map lkD).isEmpty = (brk ls ss).isEmpty from (show (ks.map lkD).isEmpty = ks.isEmpty by cases ks <;> rfl).trans eb]
    exact k _ S2
theorem cal_keep (T : Txt P w K mg cl) : Cal P w K mg base CX0 1 "_law_keep" ["_law_links_here", "_law_times_here"] (spLKeep) := by
  obtain ⟨f, fd, F, m⟩ := T.d_keep
  exact ⟨f, fd, ok_keep F T, m, F.kp, F.binds fun _ _ _ _ _ _ us hl => match us, hl with | [_, _], _ => rfl⟩
theorem ok_leads {f : Addr} {fd : FuncData} (F : Fun K "_law_leads" "_law_leads" s_leads f fd) (T : Txt P w K mg cl) : FnOk P w K mg base CX0 2 f fd ["_law_links_here", "_law_path", "_law_start", "_law_end"] (spLds) := by
  refine F.ok sc_leads (fun vs H Q E h => ?_) (fun cdv A outer s H vs Q E hr h => ?_)
  · obtain ⟨g, pa, us, ls, js, st, en, rfl, _⟩ := h
    rfl
  · obtain ⟨g, pa, us, ls, js, st, en, rfl, hL, hp, pos, lj, ld, k⟩ := h
    have C_is_whole : Cal P w K mg base CX0 1 "_law_is_whole" _ (spIsI K) := cal_is_whole T
    refine ⟨_, (pss_cons (ps_if (pt_not (pt_val (pe_callB call_isi (by rfl) T.n_isinstance (by decide +kernel) (pa_cons (pv 1) (pa_cons (pe_ty "tuple" T.n_tuple) pa_nil)))))
          (pss_one (ps_ret pe_bl)) pss_nil)
        (pss_cons (ps_set (i := 4) sc_leads.nd rfl (Or.inl rfl) (pv 2))
        (pss_cons (ps_for PassesOwn.never rfl (pi_tup (pv 1)) (pg_name (i := 5) sc_leads.nd rfl (Or.inl rfl))
          (pss_cons (ps_if (PW.pt (pw_or (pt_not (pt_val (pe_cal C_is_whole (hr.mono (by decide)) (pa_cons (pv 5) pa_nil)))) (pw_or (pt_not (pt_chain op_le op_lt pe_int (pv 5) (pe_callB call_len_seq (by rfl) T.n_len PySem.boot_len (pa_cons (pv 0) pa_nil)))) (pw_or1 (pt_cmpR op_ne (pe_ix ix_tup (pe_ix ix_list (pv 0) (pv 5) (fun _ _ => rfl)) pe_int (fun _ _ => rfl)) (pv 4) (nomark _))))))
              (pss_one (ps_ret pe_bl)) pss_nil)
            (pss_one (ps_set (i := 4) sc_leads.nd rfl (Or.inl rfl) (pe_ix ix_tup (pe_ix ix_list (pv 0) (pv 5) (fun _ _ => rfl)) pe_int (fun _ _ => rfl))))))
        (pss_one (ps_ret (pe_cmpR op_eq (pv 4) (pv 3) (nomark _))))))), ?_⟩
    refine ⟨_, rfl, _, _, _, _, _, rfl, .ty "tuple", .base (.tup hp), (show _ = some true from kit_ty (by decide +kernel)), _, rfl, iteF ?_⟩
    refine ⟨_, rfl, _, rfl, pa, rfl, ⟨_, SqT.of hp⟩, for_tup (K := K) (a := pa) (xs := js.map fun (i : Nat) => V.int i) (fun i σ H' => H' = H ∧ ∃ (p : Nat) (v5 : Option V), Leads (nls ls) (js.drop i) p en ∧ σ = [some (.ref g), some (.ref pa), some (.int (st : Nat)), some (.int (en : Nat)), some (.int (p : Nat)), v5]) ⟨rfl, st, none, ld, rfl⟩ (fun j σ H' _ q => by rw [q.1]; exact SqT.of hp) ?_ ?_⟩
    · rintro i x σ H' hx ⟨rfl, p, v5, hl, rfl⟩
      rw [List.getElem?_map] at hx
      obtain ⟨j, hj, rfl⟩ : ∃ j : Nat, js[i]? = some j ∧ V.int (j : Nat) = x := by
        cases e : js[i]? with
        | none => rw [e] at hx; cases hx
        | some j => rw [e] at hx; exact ⟨j, rfl, Option.some.inj hx⟩
      rw [take_drop_at hj] at hl
      obtain ⟨l, h1, h2, h3⟩ := hl
      obtain ⟨l', k1, rfl⟩ := nls_at h1
      obtain ⟨li, rfl⟩ := List.getElem?_eq_some_iff.mp k1
      obtain ⟨b, hb, hc⟩ := ll_at hL li
      obtain ⟨p1, p2⟩ := pos _ (List.getElem_mem li)
      have lu := hL.2.length
      have e2 : ls[j].2.1 = (p : Int) := by
        have h2 : ls[j].2.1.toNat = p := h2
        omega
      refine ⟨_, rfl, _, _, rfl, (.int _ : Dm K _ (.int (j : Nat)) "int"), _, rfl, iteF ?_⟩
      refine ⟨_, rfl, _, _, rfl, rfl, _, rfl, ?_⟩
      rw [decide_eq_true (Int.natCast_nonneg j)]
      refine iteT ⟨_, rfl, g, us, rfl, .inl (SqL.of hL.1), _, _, rfl, rfl, _, rfl, ?_⟩
      rw [decide_eq_true (show (j : Int) < (us.length : Nat) by omega)]
      refine iteF ⟨_, rfl, _, rfl, g, _, _, _, rfl, rfl, SqL.of hL.1, atI_nat hb, b, _, _, _, rfl, rfl, SqT.of hc, atI_nat (j := 1) rfl, _, rfl, rfl, _, rfl, ?_⟩
      rw [e2, decide_eq_true rfl]
      refine iteF ⟨_, rfl, _, rfl, g, _, _, _, rfl, rfl, SqL.of hL.1, atI_nat hb, b, _, _, _, rfl, rfl, SqT.of hc, atI_nat (j := 0) rfl, rfl, (nl ls[j]).1, some (.int (j : Nat)), h3, ?_⟩
      rw [show ls[j].1 = (((nl ls[j]).1 : Nat) : Int) from (Int.toNat_of_nonneg p1).symm]
      rfl
    · rintro σ H' ⟨rfl, p, v5, hl, rfl⟩
      rw [List.drop_of_length_le (by rw [List.length_map]; exact Nat.le_refl _)] at hl
      cases hl
      refine ⟨_, rfl, _, rfl, rfl, ?_⟩
      rw [decide_eq_true rfl]
      exact k
theorem cal_leads (T : Txt P w K mg cl) : Cal P w K mg base CX0 2 "_law_leads" ["_law_links_here", "_law_path", "_law_start", "_law_end"] (spLds) := by
  obtain ⟨f, fd, F, m⟩ := T.d_leads
  exact ⟨f, fd, ok_leads F T, m, F.kp, F.binds fun _ _ _ _ _ _ us hl => match us, hl with | [_, _, _, _], _ => rfl⟩
theorem ok_sum {f : Addr} {fd : FuncData} (F : Fun K "_law_sum" "_law_sum" s_sum f fd) (T : Txt P w K mg cl) : FnOk P w K mg base CX0 1 f fd ["_law_links_here", "_law_path"] (spLSum) := by
  refine F.ok sc_sum (fun vs H Q E h => ?_) (fun cdv A outer s H vs Q E hr h => ?_)
  · obtain ⟨g, pa, us, ls, js, rfl, _⟩ := h
    rfl
  · obtain ⟨t, a, us, ls, is, rfl, hL, ha, le, hix, k⟩ := h
    refine ⟨_, (pss_one (ps_ret (pe_callB (cr_sum rfl) (by rfl) T.n_sum (by decide +kernel) (pa_cons (pe_lc (own := [("_law_x", 2)]) (g := gName 2) (tt := tYes) rfl sc_sum.nd (pi_tup (pv 1)) (blkOk_by (own := [("_law_x", 2)]) (N := ["_law_links_here", "_law_path", "_law_x"]) (sc := defScope s_sum) (by decide +kernel)) (fun _ _ _ _ _ => pg_name (i := 2) sc_sum.nd rfl (Or.inl rfl)) (fun _ _ _ _ _ => pts_nil) (fun _ _ _ _ _ => (pe_ix (ix_tupK (K := K) rfl) (pe_ix (ix_listK (K := K) rfl) (pv 0) (pv 2) (fun _ _ => rfl)) pe_int (fun _ _ => rfl)))) pa_nil)))), ?_⟩
    let g : Nat → Int := fun i => (ls[i]?.map fun l => l.2.2).getD 0
    refine ⟨_, rfl, a, rfl, ⟨_, SqT.of ha⟩, fun D nD => lc_tup (K := K) (a := a) (xs := is.map fun (i : Nat) => V.int i) (fun j H' => H' = upd H D (.lst (((is.take j).map g).map V.int))) rfl (fun i H'' _ q => by rw [q]; exact SqT.of (sNew nD _ _ ha)) ?_ ?_⟩
    · rintro j x H2 hx rfl
      rw [List.getElem?_map] at hx
      obtain ⟨i, hi2, rfl⟩ : ∃ i, is[j]? = some i ∧ V.int (i : Nat) = x := by
        cases e : is[j]? with
        | none => rw [e] at hx; cases hx
        | some i => rw [e] at hx; exact ⟨i, rfl, Option.some.inj hx⟩
      have hl := hix i (List.mem_of_getElem? hi2)
      have hL := hL.same (sNew (o := .lst (((is.take j).map g).map V.int)) nD)
      obtain ⟨b, hv, hb⟩ := ll_at hL hl
      refine ⟨rfl, _, rfl, _, rfl, t, _, _, _, rfl, rfl, SqL.of hL.1, atI_nat hv, b, _, _, _, rfl, rfl, SqT.of hb, atI_nat (j := 2) rfl, ?_⟩
      refine ⟨_, upd_same, small1000 (by rw [List.length_map, List.length_map, List.length_take]; omega), ?_⟩
      rw [upd_upd, take_snoc hi2, List.map_append, List.map_append]
      show _ = upd H D (.lst (_ ++ [V.int (g i)]))
      rw [show g i = ls[i].2.2 by show (ls[i]?.map fun l => l.2.2).getD 0 = _; rw [List.getElem?_eq_getElem hl]; rfl]
    · intro H' q
      rw [List.length_map, List.take_length] at q
      subst q
      exact ⟨D, is.map g, rfl, SqL.of upd_same, k _ (sNew nD)⟩
theorem cal_sum (T : Txt P w K mg cl) : Cal P w K mg base CX0 1 "_law_sum" ["_law_links_here", "_law_path"] (spLSum) := by
  obtain ⟨f, fd, F, m⟩ := T.d_sum
  exact ⟨f, fd, ok_sum F T, m, F.kp, F.binds fun _ _ _ _ _ _ us hl => match us, hl with | [_, _], _ => rfl⟩
theorem ok_bars {f : Addr} {fd : FuncData} (F : Fun K "_law_bars" "_law_bars" s_bars f fd) (T : Txt P w K mg cl) : FnOk P w K mg base CX0 3 f fd ["_law_links_here", "_law_path"] (spBars) := by
  refine F.ok sc_bars (fun vs H Q E h => ?_) (fun cdv A outer s H vs Q E hr h => ?_)
  · obtain ⟨g, pa, us, ls, js, n, rfl, _⟩ := h
    rfl
  · obtain ⟨g, pa, us, ls, js, n, rfl, hL, hp, pos, n8, ⟨ne, ln, p, ld, sm⟩, k⟩ := h
    have C_is_whole : Cal P w K mg base CX0 1 "_law_is_whole" _ (spIsI K) := cal_is_whole T
    have C_leads : Cal P w K mg base CX0 2 "_law_leads" _ spLds := cal_leads T
    have C_sum : Cal P w K mg base CX0 1 "_law_sum" _ spLSum := cal_sum T
    refine ⟨_, (pss_cons (ps_if (PW.pt (pw_or (pt_not (pt_val (pe_callB call_isi (by rfl) T.n_isinstance (by decide +kernel) (pa_cons (pv 1) (pa_cons (pe_ty "tuple" T.n_tuple) pa_nil))))) (pw_or (pt_cmpR (op_eqD hr.units) (pv 1) (pe_tup pa_nil) (nomark _)) (pw_or (pt_not (pt_val (pe_cal C_is_whole (hr.mono (by decide)) (pa_cons (pe_ix ix_tup (pv 1) pe_int (fun _ _ => rfl)) pa_nil)))) (pw_or1 (pt_not (pt_chain op_le op_lt pe_int (pe_ix ix_tup (pv 1) pe_int (fun _ _ => rfl)) (pe_callB call_len_seq (by rfl) T.n_len PySem.boot_len (pa_cons (pv 0) pa_nil)))))))))
          (pss_one (ps_ret pe_bl)) pss_nil)
        (pss_cons (ps_set (i := 2) sc_bars.nd rfl (Or.inl rfl) (pe_ix ix_tup (pe_ix ix_list (pv 0) (pe_ix ix_tup (pv 1) pe_int (fun _ _ => rfl)) (fun _ _ => rfl)) pe_int (fun _ _ => rfl)))
        (pss_one (ps_ret (pe_and (pe_cal C_leads (hr.mono (by decide)) (pa_cons (pv 0) (pa_cons (pv 1) (pa_cons (pv 2) (pa_cons (pv 2) pa_nil))))) (pe_one (pe_cmpR op_lt (pe_cal C_sum (hr.mono (by decide)) (pa_cons (pv 0) (pa_cons (pv 1) pa_nil))) pe_int (nomark _)))))))), ?_⟩
    have allix := Leads.lt ld
    cases js with
    | nil => exact absurd rfl ne
    | cons j0 js =>
      obtain ⟨l, h1, h2, h3⟩ := id ld
      obtain ⟨l', k1, rfl⟩ := nls_at h1
      obtain ⟨li, rfl⟩ := List.getElem?_eq_some_iff.mp k1
      obtain ⟨b, hb, hc⟩ := ll_at hL li
      obtain ⟨p1, p2⟩ := pos _ (List.getElem_mem li)
      have lu := hL.2.length
      have e2 : ls[j0].2.1 = (p : Int) := by
        have h2 : ls[j0].2.1.toNat = p := h2
        omega
      refine ⟨_, rfl, _, _, _, _, _, rfl, .ty "tuple", .base (.tup hp), (show _ = some true from kit_ty (by decide +kernel)), _, rfl, iteF ?_⟩
      refine ⟨_, rfl, by show 0 ≤ sizeLine; exact Nat.zero_le _, fun q nq => ?_⟩
      have S1 := sNew (o := .tup []) nq
      have hp1 := S1 _ _ hp
      have hL1 := hL.same S1
      refine ⟨_, _, dp_tup (SqT.of hp1) (dpvs fun x hx => okV.flat (okN _ x hx)), dp_tup (SqT.of upd_same) .nil, row_shaped false (okN _), row_shaped (xs := []) false (by simp), _, rfl, ?_⟩
      rw [eqv_nilV]
      have at0 : atI ((j0 :: js).map fun (i : Nat) => V.int i) ((0 : Nat) : Int) = some (.int (j0 : Nat)) := atI_nat (j := 0) rfl
      refine iteF ⟨_, rfl, pa, _, _, _, rfl, rfl, SqT.of hp1, at0, _, _, rfl, (.int _ : Dm K _ (.int (j0 : Nat)) "int"), _, rfl, iteF ?_⟩
      refine ⟨_, rfl, pa, _, _, _, rfl, rfl, SqT.of hp1, at0, _, _, rfl, rfl, _, rfl, ?_⟩
      rw [decide_eq_true (Int.natCast_nonneg j0)]
      refine iteT ⟨_, rfl, g, us, rfl, .inl (SqL.of hL1.1), _, _, rfl, rfl, _, rfl, ?_⟩
      rw [decide_eq_true (show (j0 : Int) < (us.length : Nat) by omega)]
      refine iteF ?_
      refine ⟨_, rfl, _, rfl, pa, _, _, _, rfl, rfl, SqT.of hp1, at0, g, _, _, _, rfl, rfl, SqL.of hL1.1, atI_nat hb, b, _, _, _, rfl, rfl, SqT.of (S1 _ _ hc), atI_nat (j := 1) rfl, ?_⟩
      rw [e2]
      refine ⟨_, rfl, _, rfl, _, rfl, _, rfl, g, pa, us, ls, j0 :: js, p, p, rfl, hL1, hp1, pos, by omega, ld, _, rfl, iteT ?_⟩
      refine ⟨_, rfl, _, rfl, g, pa, us, ls, j0 :: js, rfl, hL1, hp1, by omega, allix, fun H2 S2 => ⟨_, _, rfl, rfl, ?_⟩⟩
      rw [← sumO_nl]
      have k := k H2 (S1.trans S2)
      show Q (.bl (decide (smI (nls ls) (j0 :: js) < 0))) H2
      rw [decide_eq_true sm]
      exact k
theorem cal_bars (T : Txt P w K mg cl) : Cal P w K mg base CX0 3 "_law_bars" ["_law_links_here", "_law_path"] (spBars) := by
  obtain ⟨f, fd, F, m⟩ := T.d_bars
  exact ⟨f, fd, ok_bars F T, m, F.kp, F.binds fun _ _ _ _ _ _ us hl => match us, hl with | [_, _], _ => rfl⟩
end
end My
set_option Elab.async false
set_option linter.all false
set_option maxRecDepth 100000
set_option maxHeartbeats 1000000
namespace My
open PySem L2 Dw Wp
open C8 (pss_cut tCut)
set_option pp.maxSteps 600
open Bf
def misF (ls : List Lk) (is : List Nat) (k : Nat) : Option Int := if jo ls is k = true then none else some ((1 : Int) + (k : Nat))
theorem mis_all (ls : List Lk) (is : List Nat) : ∀ n, ((List.range n).filterMap (misF ls is)).isEmpty = (List.range n).all (jo ls is) := fun n => by
  induction n with
  | zero => rfl
  | succ n ih =>
    rw [List.range_succ, List.filterMap_append, List.all_append, ← ih]
    cases h : jo ls is n with
    | true => simp [misF, h]
    | false => simp [misF, h]
theorem ixF_ok {n : Nat} {is : List Int} : ∀ x ∈ (is.map V.int).filterMap (ixF n), okV x = true := fun x hx => by
  obtain ⟨y, hy, e⟩ := List.mem_filterMap.mp hx
  obtain ⟨i, _, rfl⟩ := List.mem_map.mp hy
  have e : (if isIx n i = true then none else some (V.int i)) = some x := e
  split at e
  · cases e
  · cases e
    rfl
theorem eqv_nilI (is : List Int) : PyData.eqv (sqD true ((is.map V.int).map vD)) (sqD true []) = is.isEmpty := by
  rw [eqv_nilO]
  cases is <;> rfl
def spPDu : Sp := fun vs H Q _ => ∃ (a q : Addr) (us : List V) (ls : List Lk) (is : List Int) (st en : Int), vs = [.ref a, .ref q, .int st, .int en] ∧ LlT H a us ls ∧ ls.length ≤ 900 ∧ H q = some (.tup (is.map V.int)) ∧ is.length ≤ 900 ∧
  (is.all (isIx ls.length) = false → ∀ H', Same H H' → Q (.str "index") H') ∧
  (∀ js : List Nat, is = (js.map fun (i : Nat) => (i : Int)) → (∀ j ∈ js, j < ls.length) → ∀ H', Same H H' → Q (optV (pathN ls js st en)) H')
theorem okI (is : List Int) : ∀ x ∈ is.map V.int, okV x = true := fun x hx => by
  obtain ⟨i, _, rfl⟩ := List.mem_map.mp hx
  rfl
theorem dpI {K : PySem.W.Frag} {H : Hp} {q : Addr} {is : List Int} (h : H q = some (.lst (is.map V.int))) : Dp K H (.ref q) (sqD true ((is.map V.int).map vD)) := dp_lst (SqL.of h) (dpvs fun x hx => okV.flat (okI is x hx))
section
variable {P : Program} {w : World} {K : PySem.W.Frag} {mg : Str → Option Value} {base : Heap} {cl : String → Addr}
theorem ok_path_due {f : Addr} {fd : FuncData} (F : Fun K "_law_path_due" "_law_path_due" s_path_due f fd) (T : Txt P w K mg cl) : FnOk P w K mg base CX0 2 f fd ["_law_links_here", "_law_path", "_law_start", "_law_end"] spPDu := by
  refine F.ok sc_path_due (fun vs H Q E h => ?_) (fun cdv A outer s H vs Q E hr h => ?_)
  · obtain ⟨a, q, us, ls, is, st, en, rfl, _⟩ := h
    rfl
  · obtain ⟨a, q, us, ls, is, st, en, rfl, hL, ln, hq, le, kx, kg⟩ := h
    refine ⟨_, (pss_cons (ps_if (pt_cmpR (op_neD hr.units) (pe_lc (own := [("_law_x", 4)]) (g := gName 4)  rfl sc_path_due.nd (pi_tup (pv 1)) (blkOk_by (own := [("_law_x", 4)]) (N := ["_law_links_here", "_law_path", "_law_start", "_law_end", "_law_x", "_law_k"]) (sc := defScope s_path_due) (by decide +kernel)) (fun _ _ _ _ _ => pg_name (i := 4) sc_path_due.nd rfl (Or.inl rfl)) (fun _ _ _ _ _ => pts_one (pt_not (pt_chain op_le op_lt pe_int (pv 4) (pe_callB (call_len_seqK (K := K) rfl) (by rfl) T.n_len PySem.boot_len (pa_cons (pv 0) pa_nil))))) (fun _ _ _ _ _ => (pv 4))) (pe_lst pa_nil) (nomark _))
          (pss_one (ps_ret pe_str)) pss_nil)
        (pss_cons (ps_if (pt_cmpR (op_eqD hr.units) (pv 1) (pe_tup pa_nil) (nomark _))
          (pss_one (ps_ret (pe_ifExp (pt_cmpR op_eq (pv 2) (pv 3) (nomark _)) pe_non pe_str))) pss_nil)
        (pss_cons (ps_if (pt_cmpR op_ne (pe_ix ix_tup (pe_ix ix_list (pv 0) (pe_ix ix_tup (pv 1) pe_int (fun _ _ => rfl)) (fun _ _ => rfl)) pe_int (fun _ _ => rfl)) (pv 2) (nomark _))
          (pss_one (ps_ret pe_str)) pss_nil)
        (pss_cons (ps_if (pt_cmpR (op_neD hr.units) (pe_lc (own := [("_law_k", 5)]) (g := gName 5)  rfl sc_path_due.nd (pi_range2 rfl T.n_range (pa_cons pe_int (pa_cons (pe_callB call_len_seq (by rfl) T.n_len PySem.boot_len (pa_cons (pv 1) pa_nil)) pa_nil))) (blkOk_by (own := [("_law_k", 5)]) (N := ["_law_links_here", "_law_path", "_law_start", "_law_end", "_law_x", "_law_k"]) (sc := defScope s_path_due) (by decide +kernel)) (fun _ _ _ _ _ => pg_name (i := 5) sc_path_due.nd rfl (Or.inl rfl)) (fun _ _ _ _ _ => pts_one (pt_cmpR op_ne (pe_ix (ix_tupK (K := K) rfl) (pe_ix (ix_listK (K := K) rfl) (pv 0) (pe_ix (ix_tupK (K := K) rfl) (pv 1) (pv 5) (fun _ _ => rfl)) (fun _ _ => rfl)) pe_int (fun _ _ => rfl)) (pe_ix (ix_tupK (K := K) rfl) (pe_ix (ix_listK (K := K) rfl) (pv 0) (pe_ix (ix_tupK (K := K) rfl) (pv 1) (pe_op op_sub (pv 5) pe_int) (fun _ _ => rfl)) (fun _ _ => rfl)) pe_int (fun _ _ => rfl)) (nomark _))) (fun _ _ _ _ _ => (pv 5))) (pe_lst pa_nil) (nomark _))
          (pss_one (ps_ret pe_str)) pss_nil)
        (pss_one (ps_ret (pe_ifExp (pt_cmpR op_eq (pe_ix ix_tup (pe_ix ix_list (pv 0) (pe_ix ix_tup (pv 1) (pe_un un_neg pe_int) (fun _ _ => rfl)) (fun _ _ => rfl)) pe_int (fun _ _ => rfl)) (pv 3) (nomark _)) pe_non pe_str))))))), ?_⟩
    have lu := hL.2.length
    refine ⟨_, rfl, q, rfl, ⟨_, SqT.of hq⟩, fun D nD => lc_tup (K := K) (a := q) (xs := is.map V.int) (PvF H D (is.map V.int) (ixF ls.length)) rfl (fun i H' _ z => by rw [z]; exact SqT.of (by rw [upd_ne (ne_of_none hq nD)]; exact hq)) (fun j x H' hx hH => ?_) (fun H' z => ?_)⟩
    · subst hH
      rw [List.getElem?_map] at hx
      obtain ⟨i, hi2, rfl⟩ : ∃ i, is[j]? = some i ∧ V.int i = x := by
        cases e : is[j]? with
        | none => rw [e] at hx; cases hx
        | some i => rw [e] at hx; exact ⟨i, rfl, Option.some.inj hx⟩
      have hx2 : (is.map V.int)[j]? = some (.int i) := is_at hi2
      have hz : (is.map V.int).length < sizeLine := small1000 (by rw [List.length_map]; omega)
      have hL := hL.same (sNew (o := .lst (((is.map V.int).take j).filterMap (ixF ls.length))) nD)
      refine ⟨rfl, _, rfl, _, _, rfl, rfl, _, rfl, ?_⟩
      refine ite2 (fun h1 => ?_) (fun h1 => ?_)
      · refine ⟨_, rfl, a, us, rfl, .inl (SqL.of hL.1), _, _, rfl, rfl, _, rfl, ?_⟩
        rw [lu]
        cases h2 : decide (i < (ls.length : Int)) with
        | true => exact iteF (fm_skip hx2 (show (if isIx ls.length i = true then none else some (V.int i)) = none from if_pos (by unfold isIx; rw [h1, h2]; rfl)))
        | false => exact iteT ⟨_, rfl, fm_put hx2 (show (if isIx ls.length i = true then none else some (V.int i)) = some (V.int i) from if_neg (by unfold isIx; rw [h1, h2]; decide)) hz⟩
      · exact ⟨_, rfl, iteT ⟨_, rfl, fm_put hx2 (show (if isIx ls.length i = true then none else some (V.int i)) = some (V.int i) from if_neg (by unfold isIx; rw [Bool.eq_false_iff.mpr h1]; simp)) hz⟩⟩
    obtain rfl := fm_end z
    refine ⟨by show 0 ≤ sizeLine; exact Nat.zero_le _, fun qq nqq => ?_⟩
    have S1 := (sNew (o := .lst ((is.map V.int).filterMap (ixF ls.length))) nD).trans (sNew (o := .lst []) nqq)
    refine ⟨_, _, dp_lst (SqL.of (sNew nqq _ _ upd_same)) (dpvs fun x hx => okV.flat (ixF_ok x hx)), dp_lst (SqL.of upd_same) .nil, row_shaped true ixF_ok, row_shaped (xs := []) true (by simp), _, rfl, ?_⟩
    rw [eqv_nilO, ix_all]
    have hL := hL.same S1
    have hq := S1 _ _ hq
    generalize upd (upd H D (.lst ((is.map V.int).filterMap (ixF ls.length)))) qq (.lst []) = H1 at S1 hL hq
    cases hx : is.all (isIx ls.length) with
    | false => exact iteT (kx hx _ S1)
    | true =>
      obtain ⟨js, rfl, hj⟩ := ix_nat hx
      have k := kg js rfl hj
      rw [List.length_map] at le
      refine iteF ⟨_, rfl, by show 0 ≤ sizeLine; exact Nat.zero_le _, fun q2 nq2 => ?_⟩
      have S2 := sNew (o := .tup []) nq2
      refine ⟨_, _, dp_tup (SqT.of (S2 _ _ hq)) (dpvs fun x hx => okV.flat (okI _ x hx)), dp_tup (SqT.of upd_same) .nil, row_shaped false (okI _), row_shaped (xs := []) false (by simp), _, rfl, ?_⟩
      rw [eqv_nilV]
      have hL := hL.same S2
      have hq := S2 _ _ hq
      have S1 := S1.trans S2
      generalize upd H1 q2 (.tup []) = H2 at S1 hL hq
      cases js with
      | nil =>
        have k : ∀ H', Same H H' → Q (optV (if st = en then (none : Option Str) else some ("end" : Str))) H' := k
        refine iteT ⟨_, rfl, _, rfl, rfl, _, rfl, ?_⟩
        refine ite2 (fun g => ?_) (fun g => ?_)
        · have g : st = en := V.int.inj (of_decide_eq_true g)
          rw [if_pos g] at k
          exact k _ S1
        · rw [if_neg fun z => g (decide_eq_true (congrArg V.int z))] at k
          exact k _ S1
      | cons j0 js =>
        have un : pathN ls (j0 :: js) st en = (if e2 ls j0 = st then (if fits ls (j0 :: js) = true then (if e1 ls ((j0 :: js).getLast?.getD 0) = en then none else some ("end" : Str)) else some ("joint" : Str)) else some ("start" : Str)) := by
          unfold pathN
          rw [if_neg (by simp)]
          rfl
        rw [un] at k
        refine iteF ?_
        have l0 := hj j0 List.mem_cons_self
        obtain ⟨b0, hb0, hc0⟩ := ll_at hL l0
        refine ⟨_, rfl, _, rfl, q, _, _, _, rfl, rfl, SqT.of hq, atI_nat (j := 0) rfl, a, _, _, _, rfl, rfl, SqL.of hL.1, atI_nat hb0, b0, _, _, _, rfl, rfl, SqT.of hc0, atI_nat (j := 1) rfl, _, rfl, rfl, _, rfl, ?_⟩
        rw [e2_at l0]
        refine ite2 (fun g => ?_) (fun g => ?_)
        · have g : ¬ e2 ls j0 = st := fun z => by
            rw [z] at g
            simp at g
          rw [if_neg g] at k
          exact k _ S1
        have g : e2 ls j0 = st := by
          by_cases z : e2 ls j0 = st
          · exact z
          · exfalso
            refine g ?_
            rw [decide_eq_false fun q => z (V.int.inj q)]
            rfl
        rw [if_pos g] at k
        generalize eks : (j0 :: js) = ks at *
        have lm : ((ks.map fun (i : Nat) => (i : Int)).map V.int).length = ks.length := by rw [List.length_map, List.length_map]
        refine ⟨_, rfl, q, _, rfl, .inr (SqT.of hq), _, _, rfl, ⟨by decide, by decide, by rw [lm]; omega, by rw [lm]; omega⟩, fun D nD => ?_⟩
        refine lc_range (fun i H' => H' = upd H2 D (.lst (((List.range i).filterMap (misF ls ks)).map V.int))) rfl ?_ ?_
        · rintro i H' hi rfl
          rw [lm] at hi
          have i1 : i + 1 < ks.length := by omega
          have i0 : i < ks.length := by omega
          have l1 := hj _ (List.getElem_mem i1)
          have l0 := hj _ (List.getElem_mem i0)
          have SD := sNew (o := .lst (((List.range i).filterMap (misF ls ks)).map V.int)) nD
          have hLd := hL.same SD
          have hqd := SD _ _ hq
          obtain ⟨b1, hb1, hc1⟩ := ll_at hLd l1
          obtain ⟨b0, hb0, hc0⟩ := ll_at hLd l0
          have at1 : atI ((ks.map fun (i : Nat) => (i : Int)).map V.int) ((1 : Int) + (i : Nat)) = some (.int (ks[i + 1] : Nat)) := by
            rw [show (1 : Int) + (i : Nat) = ((i + 1 : Nat) : Int) by omega]
            exact atI_nat (is_atN (List.getElem?_eq_getElem i1))
          have at0 : atI ((ks.map fun (i : Nat) => (i : Int)).map V.int) ((1 : Int) + (i : Nat) - 1) = some (.int (ks[i] : Nat)) := by
            rw [show (1 : Int) + (i : Nat) - 1 = ((i : Nat) : Int) by omega]
            exact atI_nat (is_atN (List.getElem?_eq_getElem i0))
          have ej : jo ls ks i = decide (ls[ks[i + 1]].2.1 = ls[ks[i]].1) := by
            unfold jo
            rw [List.getElem?_eq_getElem i1, List.getElem?_eq_getElem i0]
            show decide (e2 ls ks[i + 1] = e1 ls ks[i]) = _
            rw [e1_at l0, e2_at l1]
          refine ⟨rfl, _, rfl, _, rfl, _, rfl, q, _, _, _, rfl, rfl, SqT.of hqd, at1, a, _, _, _, rfl, rfl, SqL.of hLd.1, atI_nat hb1, b1, _, _, _, rfl, rfl, SqT.of hc1, atI_nat (j := 1) rfl, _, rfl, _, rfl, _, rfl, _, _, rfl, rfl, q, _, _, _, rfl, rfl, SqT.of hqd, at0, a, _, _, _, rfl, rfl, SqL.of hLd.1, atI_nat hb0, b0, _, _, _, rfl, rfl, SqT.of hc0, atI_nat (j := 0) rfl, rfl, _, rfl, ?_⟩
          by_cases g : ls[ks[i + 1]].2.1 = ls[ks[i]].1
          · rw [decide_eq_true (congrArg V.int g)]
            refine iteF ?_
            rw [List.range_succ, List.filterMap_append, show [i].filterMap (misF ls ks) = [] by simp [misF, ej, g], List.append_nil]
          · rw [decide_eq_false fun z => g (V.int.inj z)]
            refine iteT ⟨_, rfl, _, upd_same, small1000 ?_, ?_⟩
            · rw [List.length_map]
              have := List.length_filterMap_le (misF ls ks) (List.range i)
              rw [List.length_range] at this
              omega
            · rw [upd_upd, List.range_succ, List.filterMap_append, show [i].filterMap (misF ls ks) = [(1 : Int) + (i : Nat)] by simp [misF, ej, g], List.map_append]
              rfl
        · rintro H' rfl
          rw [lm, show ((ks.length : Int) - 1).toNat = ks.length - 1 by omega]
          refine ⟨by show 0 ≤ sizeLine; exact Nat.zero_le _, fun qq nqq => ?_⟩
          have S3 := (sNew (o := .lst (((List.range (ks.length - 1)).filterMap (misF ls ks)).map V.int)) nD).trans (sNew (o := .lst []) nqq)
          refine ⟨_, _, dpI (sNew nqq _ _ upd_same), dp_lst (SqL.of upd_same) .nil, row_shaped true (okI _), row_shaped (xs := []) true (by simp), _, rfl, ?_⟩
          rw [eqv_nilI, mis_all, show (List.range (ks.length - 1)).all (jo ls ks) = fits ls ks from rfl]
          have S1 := S1.trans S3
          have hL := hL.same S3
          cases hf : fits ls ks with
          | false =>
            rw [if_neg (by rw [hf]; decide)] at k
            exact iteT (k _ S1)
          | true =>
            rw [if_pos hf] at k
            have hq := S3 _ _ hq
            obtain ⟨ys, z2, ez⟩ : ∃ ys z, ks = ys ++ [z] := by
              rcases List.eq_nil_or_concat ks with h | ⟨ys, z, h⟩
              · rw [h] at eks
                cases eks
              · exact ⟨ys, z, by rw [h, List.concat_eq_append]⟩
            generalize upd (upd H2 D _) qq _ = H4 at S1 hL hq
            rw [ez] at k hj hq
            have lz := hj z2 (by simp)
            obtain ⟨bz, hbz, hcz⟩ := ll_at hL lz
            rw [List.map_append, List.map_append] at hq
            refine iteF ⟨_, rfl, _, rfl, _, rfl, q, _, _, _, rfl, rfl, SqT.of hq, atI_last _ _, a, _, _, _, rfl, rfl, SqL.of hL.1, atI_nat hbz, bz, _, _, _, rfl, rfl, SqT.of hcz, atI_nat (j := 0) rfl, _, rfl, rfl, _, rfl, ?_⟩
            rw [List.getLast?_append] at k
            have k : ∀ H', Same H H' → Q (optV (if e1 ls z2 = en then (none : Option Str) else some ("end" : Str))) H' := k
            rw [e1_at lz]
            refine ite2 (fun g => ?_) (fun g => ?_)
            · rw [if_pos (V.int.inj (of_decide_eq_true g))] at k
              exact k _ S1
            · rw [if_neg fun q => g (decide_eq_true (congrArg V.int q))] at k
              exact k _ S1
theorem cal_path_due (T : Txt P w K mg cl) : Cal P w K mg base CX0 2 "_law_path_due" ["_law_links_here", "_law_path", "_law_start", "_law_end"] (spPDu) := by
  obtain ⟨f, fd, F, m⟩ := T.d_path_due
  exact ⟨f, fd, ok_path_due F T, m, F.kp, F.binds fun _ _ _ _ _ _ us hl => match us, hl with | [_, _, _, _], _ => rfl⟩
end
end My
set_option Elab.async false
set_option linter.all false
set_option maxRecDepth 100000
set_option maxHeartbeats 1000000
namespace My
open PySem L2 Dw Wp
open C8 (pss_cut tCut)
set_option pp.maxSteps 600
open Bf
def spBent : Sp := fun vs H Q _ => ∃ (b a : Addr) (is : List Int) (m : Nat), vs = [.ref b, .ref a, .int (m : Nat)] ∧ BgAt H b ∧ H a = some (intT is) ∧ is.length ≤ 300 ∧ m ≤ 1000 ∧ ∀ (r : Addr) (ks : List Int) (H' : Hp), H' r = some (intT ks) → ks.length ≤ 2 * is.length + 1 → BgAt H' b → But b H H' → Q (.ref r) H'
theorem cut_ints (is : List Int) (lo hi : Option Int) : ∃ ks : List Int, cutV (is.map V.int) lo hi = ks.map V.int ∧ ks.length ≤ is.length := by
  unfold cutV
  refine ⟨(is.drop _).take _, by rw [List.map_take, List.map_drop], ?_⟩
  rw [List.length_take, List.length_drop]
  omega
/-- a value that is a tuple of whole numbers -/
def TuI (H0 : Hp) (N : Nat) (v : V) (H' : Hp) : Prop := ∃ (r : Addr) (ks : List Int), v = .ref r ∧ H' r = some (intT ks) ∧ ks.length ≤ N ∧ Same H0 H'
theorem tu_ref {H0 G : Hp} {N : Nat} {a : Addr} {is : List Int} (h : G a = some (intT is)) (l : is.length ≤ N) (S : Same H0 G) : TuI H0 N (.ref a) G := ⟨a, is, rfl, h, l, S⟩
theorem tu_cut {H0 G : Hp} {N : Nat} {p : Addr} {is : List Int} {lo hi : Option Int} (S : Same H0 G) (np : G p = none) (l : is.length ≤ N) : TuI H0 N (.ref p) (upd G p (.tup (cutV (is.map V.int) lo hi))) := by
  obtain ⟨ks, e, le⟩ := cut_ints is lo hi
  exact ⟨p, ks, rfl, by rw [upd_same, e]; rfl, by omega, S.trans (sNew np)⟩
theorem tu_cat {H0 G : Hp} {N : Nat} {x y : Addr} {ks js : List Int} (hx : G x = some (intT ks)) (hy : G y = some (intT js)) (l : ks.length + js.length ≤ N) (S : Same H0 G) :
    (ks.map V.int = [] → TuI H0 N (.ref y) G) ∧ (ks.map V.int ≠ [] → js.map V.int = [] → TuI H0 N (.ref x) G) ∧ (ks.map V.int ≠ [] → js.map V.int ≠ [] → ∀ p, G p = none → TuI H0 N (.ref p) (upd G p (.tup (ks.map V.int ++ js.map V.int)))) := by
  refine ⟨fun _ => ⟨y, js, rfl, hy, by omega, S⟩, fun _ _ => ⟨x, ks, rfl, hx, by omega, S⟩, fun _ _ p np => ⟨p, ks ++ js, rfl, ?_, by rw [List.length_append]; exact l, S.trans (sNew np)⟩⟩
  rw [upd_same]
  unfold intT
  rw [List.map_append]
section
variable {P : Program} {w : World} {K : PySem.W.Frag} {mg : Str → Option Value} {base : Heap} {cl : String → Addr}
theorem ok_bent {f : Addr} {fd : FuncData} (F : Fun K "_law_bent" "_law_bent" s_bent f fd) (T : Txt P w K mg cl) : FnOk P w K mg base CX0 2 f fd ["_law_bag_here", "_law_row", "_law_most"] (spBent) := by
  refine F.ok sc_bent (fun vs H Q E h => ?_) (fun cdv A outer s H vs Q E hr h => ?_)
  · obtain ⟨b, a, is, m, rfl, _⟩ := h
    rfl
  · obtain ⟨b, a, is, m, rfl, B, ha, li, lm, k⟩ := h
    have C_take : Cal P w K mg base CX0 1 "_law_take" _ spTake := cal_take T
    refine ⟨_, (pss_cons (ps_par3 (i := 3) (j := 4) (l := 5) rfl sc_bent.nd rfl rfl rfl (by decide) (by decide) (by decide) rfl rfl rfl (pa_cons (pe_cal C_take (hr.mono (by decide)) (pa_cons (pv 0) (pa_cons pe_int pa_nil))) (pa_cons (pe_cal C_take (hr.mono (by decide)) (pa_cons (pv 0) (pa_cons (pe_op op_add (pe_callB call_len_seq (by rfl) T.n_len PySem.boot_len (pa_cons (pv 1) pa_nil)) pe_int) pa_nil))) (pa_cons (pe_op op_sub (pe_cal C_take (hr.mono (by decide)) (pa_cons (pv 0) (pa_cons (pe_op op_add (pv 2) pe_int) pa_nil))) pe_int) pa_nil))) (by rfl))
        (pss_cons (ps_if (pt_cmpR op_eq (pv 3) pe_int (nomark _))
          (pss_one (ps_ret (pe_cut (pe_op op_catA (pe_cut (pe_op op_catA (pe_cut (pe_slice sl_tupA (pv 1) po_none (po_some (pv 4)))) (pe_tup (pa_cons (pv 5) pa_nil)))) (pe_cut (pe_slice sl_tupA (pv 1) (po_some (pv 4)) po_none)))))) pss_nil)
        (pss_cons (ps_if (pt_cmpR op_eq (pv 3) pe_int (nomark _))
          (pss_one (ps_ret (pe_cut (pe_op op_catA (pe_cut (pe_slice sl_tupA (pv 1) po_none (po_some (pv 4)))) (pe_cut (pe_slice sl_tupA (pv 1) (po_some (pe_op op_add (pv 4) pe_int)) po_none)))))) pss_nil)
        (pss_cons (ps_if (pt_cmpR op_eq (pv 3) pe_int (nomark _))
          (pss_one (ps_ret (pe_cut (pe_op op_catA (pe_cut (pe_op op_catA (pe_cut (pe_slice sl_tupA (pv 1) po_none (po_some (pv 4)))) (pe_tup (pa_cons (pv 5) pa_nil)))) (pe_cut (pe_slice sl_tupA (pv 1) (po_some (pe_op op_add (pv 4) pe_int)) po_none)))))) pss_nil)
        (pss_one (ps_ret (pe_ifExp (pt_cmpR op_eq (pv 3) pe_int (nomark _)) (pe_revT (pv 1)) (pv 1)))))))), ?_⟩
    refine ⟨_, rfl, b, 8, rfl, B, by decide, by decide, fun i1 H1 i10 i11 B1 D1 => ?_⟩
    have ha1 := D1 _ _ ha (B.tup ha)
    refine ⟨_, rfl, _, rfl, a, _, rfl, .inr (SqT.of ha1), _, _, rfl, rfl, b, _, rfl, B1, by rw [List.length_map]; omega, by rw [List.length_map]; omega, fun i2 H2 i20 i21 B2 D2 => ?_⟩
    refine ⟨_, rfl, _, rfl, _, _, rfl, rfl, b, _, rfl, B2, by omega, by omega, fun i3 H3 i30 i31 B3 D3 => ?_⟩
    have D := D1.trans (D2.trans D3)
    have ha3 := D _ _ ha (B.tup ha)
    refine ⟨_, _, rfl, rfl, ?_⟩
    refine ⟨_, _, _, rfl, ?_⟩
    have fin : ∀ {r : Addr} {ks : List Int} {H9 : Hp}, H9 r = some (intT ks) → ks.length ≤ 2 * is.length + 1 → Same H3 H9 → Q (.ref r) H9 := fun hr lr S => k _ _ _ hr lr (B3.same S) (D.trans (But.of S))
    refine ⟨_, rfl, rfl, _, rfl, ite2 (fun g => ?_) (fun g => ?_)⟩
    · refine ⟨TuI H3 (2 * is.length + 1), ?_, fun v H9 ⟨r, ks, e, hr, lr, S9⟩ => (by subst e; exact fin hr lr S9)⟩
      refine ⟨TuI H3 (is.length + 1), ?_, fun v H4 ⟨r, ks, e, hr, lr, S4⟩ => ?_⟩
      · refine ⟨TuI H3 is.length, ?_, fun v H4 ⟨r, ks, e, hr, lr, S4⟩ => ?_⟩
        · exact ⟨_, rfl, _, rfl, _, rfl, a, is.map V.int, rfl, SqT.of ha3, fun _ => tu_ref ha3 (Nat.le_refl _) (Same.refl _), fun _ p np => tu_cut (Same.refl _) np (Nat.le_refl _)⟩
        · subst e
          refine ⟨_, rfl, by show 1 ≤ sizeLine; decide, fun q nq => ?_⟩
          have Sq := sNew (o := .tup [.int (i3 - 1)]) nq
          obtain ⟨c1, c2, c3⟩ := tu_cat (N := is.length + 1) (js := [i3 - 1]) (Sq _ _ hr) (show (upd H4 q (.tup [.int (i3 - 1)])) q = _ from upd_same) (by show ks.length + 1 ≤ _; omega) (S4.trans Sq)
          exact ⟨r, q, ks.map V.int, [.int (i3 - 1)], rfl, rfl, SqT.of (Sq _ _ hr), SqT.of upd_same, Nat.le_of_lt (small1000 (by rw [List.length_map]; show ks.length + 1 ≤ 1000; omega)), c1, c2, c3⟩
      · subst e
        refine ⟨TuI H4 is.length, ?_, fun v H5 ⟨r2, ks2, e2, hr2, lr2, S5⟩ => ?_⟩
        · exact ⟨_, rfl, _, rfl, _, rfl, a, is.map V.int, rfl, SqT.of (S4 _ _ ha3), fun _ => tu_ref (S4 _ _ ha3) (Nat.le_refl _) (Same.refl _), fun _ p np => tu_cut (Same.refl _) np (Nat.le_refl _)⟩
        · subst e2
          obtain ⟨c1, c2, c3⟩ := tu_cat (N := 2 * is.length + 1) (S5 _ _ hr) hr2 (by omega) (S4.trans S5)
          exact ⟨r, r2, ks.map V.int, ks2.map V.int, rfl, rfl, SqT.of (S5 _ _ hr), SqT.of hr2, Nat.le_of_lt (small1000 (by rw [List.length_map, List.length_map]; omega)), c1, c2, c3⟩
    refine ⟨_, rfl, rfl, _, rfl, ite2 (fun g => ?_) (fun g => ?_)⟩
    · refine ⟨TuI H3 (2 * is.length + 1), ?_, fun v H9 ⟨r, ks, e, hr, lr, S9⟩ => (by subst e; exact fin hr lr S9)⟩
      refine ⟨TuI H3 (is.length + 1), ?_, fun v H4 ⟨r, ks, e, hr, lr, S4⟩ => ?_⟩
      · exact ⟨_, rfl, _, rfl, _, rfl, a, is.map V.int, rfl, SqT.of ha3, fun _ => tu_ref ha3 (Nat.le_succ _) (Same.refl _), fun _ p np => tu_cut (Same.refl _) np (Nat.le_succ _)⟩
      · subst e
        refine ⟨TuI H4 is.length, ?_, fun v H5 ⟨r2, ks2, e2, hr2, lr2, S5⟩ => ?_⟩
        · exact ⟨_, rfl, _, rfl, _, _, rfl, rfl, _, rfl, a, is.map V.int, rfl, SqT.of (S4 _ _ ha3), fun _ => tu_ref (S4 _ _ ha3) (Nat.le_refl _) (Same.refl _), fun _ p np => tu_cut (Same.refl _) np (Nat.le_refl _)⟩
        · subst e2
          obtain ⟨c1, c2, c3⟩ := tu_cat (N := 2 * is.length + 1) (S5 _ _ hr) hr2 (by omega) (S4.trans S5)
          exact ⟨r, r2, ks.map V.int, ks2.map V.int, rfl, rfl, SqT.of (S5 _ _ hr), SqT.of hr2, Nat.le_of_lt (small1000 (by rw [List.length_map, List.length_map]; omega)), c1, c2, c3⟩
    refine ⟨_, rfl, rfl, _, rfl, ite2 (fun g => ?_) (fun g => ?_)⟩
    · refine ⟨TuI H3 (2 * is.length + 1), ?_, fun v H9 ⟨r, ks, e, hr, lr, S9⟩ => (by subst e; exact fin hr lr S9)⟩
      refine ⟨TuI H3 (is.length + 1), ?_, fun v H4 ⟨r, ks, e, hr, lr, S4⟩ => ?_⟩
      · refine ⟨TuI H3 is.length, ?_, fun v H4 ⟨r, ks, e, hr, lr, S4⟩ => ?_⟩
        · exact ⟨_, rfl, _, rfl, _, rfl, a, is.map V.int, rfl, SqT.of ha3, fun _ => tu_ref ha3 (Nat.le_refl _) (Same.refl _), fun _ p np => tu_cut (Same.refl _) np (Nat.le_refl _)⟩
        · subst e
          refine ⟨_, rfl, by show 1 ≤ sizeLine; decide, fun q nq => ?_⟩
          have Sq := sNew (o := .tup [.int (i3 - 1)]) nq
          obtain ⟨c1, c2, c3⟩ := tu_cat (N := is.length + 1) (js := [i3 - 1]) (Sq _ _ hr) (show (upd H4 q (.tup [.int (i3 - 1)])) q = _ from upd_same) (by show ks.length + 1 ≤ _; omega) (S4.trans Sq)
          exact ⟨r, q, ks.map V.int, [.int (i3 - 1)], rfl, rfl, SqT.of (Sq _ _ hr), SqT.of upd_same, Nat.le_of_lt (small1000 (by rw [List.length_map]; show ks.length + 1 ≤ 1000; omega)), c1, c2, c3⟩
      · subst e
        refine ⟨TuI H4 is.length, ?_, fun v H5 ⟨r2, ks2, e2, hr2, lr2, S5⟩ => ?_⟩
        · exact ⟨_, rfl, _, rfl, _, _, rfl, rfl, _, rfl, a, is.map V.int, rfl, SqT.of (S4 _ _ ha3), fun _ => tu_ref (S4 _ _ ha3) (Nat.le_refl _) (Same.refl _), fun _ p np => tu_cut (Same.refl _) np (Nat.le_refl _)⟩
        · subst e2
          obtain ⟨c1, c2, c3⟩ := tu_cat (N := 2 * is.length + 1) (S5 _ _ hr) hr2 (by omega) (S4.trans S5)
          exact ⟨r, r2, ks.map V.int, ks2.map V.int, rfl, rfl, SqT.of (S5 _ _ hr), SqT.of hr2, Nat.le_of_lt (small1000 (by rw [List.length_map, List.length_map]; omega)), c1, c2, c3⟩
    refine ⟨_, rfl, rfl, _, rfl, ite2 (fun g => ?_) (fun g => ?_)⟩
    · exact ⟨_, rfl, a, _, rfl, SqT.of ha3, fun r nr => fin (ks := is.reverse) (by rw [upd_same]; unfold intT; rw [List.map_reverse]) (by rw [List.length_reverse]; omega) (sNew nr)⟩
    · exact ⟨_, rfl, fin ha3 (by omega) (Same.refl _)⟩
theorem cal_bent (T : Txt P w K mg cl) : Cal P w K mg base CX0 2 "_law_bent" ["_law_bag_here", "_law_row", "_law_most"] (spBent) := by
  obtain ⟨f, fd, F, m⟩ := T.d_bent
  exact ⟨f, fd, ok_bent F T, m, F.kp, F.binds fun _ _ _ _ _ _ us hl => match us, hl with | [_, _, _], _ => rfl⟩
end
end My
set_option Elab.async false
set_option linter.all false
set_option maxRecDepth 100000
set_option maxHeartbeats 1000000
namespace My
open PySem L2 Dw Wp
open C8 (pss_cut tCut)
set_option pp.maxSteps 600
open Bf Fw
/-- a link that is shown, or times against it -/
structure ImpP (ls : List Lk) (n : Nat) (l : Lk) (is : List Nat) : Prop where
  yes : impB (nls ls) n (nl l) = true
  lead : Leads (nls ls) is l.2.1.toNat l.1.toNat
  sum : smI (nls ls) is ≤ l.2.2
  len : is.length ≤ n
structure UnP (ls : List Lk) (n : Nat) (l : Lk) (ts : List Int) : Prop where
  no : impB (nls ls) n (nl l) = false
  tms : TmsP ls n ts
  far : l.2.2 < kF ts l.1.toNat - kF ts l.2.1.toNat
def ShAt (CI CU : Addr) (ls : List Lk) (n : Nat) (l : Lk) (H : Hp) (x : Addr) : Prop :=
  (∃ pa is, RgAt CI H x "path" pa ∧ H pa = some (natT is) ∧ ImpP ls n l is) ∨ ∃ ta ts, RgAt CU H x "times" ta ∧ H ta = some (intT ts) ∧ UnP ls n l ts
theorem RgAt.same {C : Addr} {H H' : Hp} {p a : Addr} {f : Str} (h : RgAt C H p f a) (S : Same H H') : RgAt C H' p f a := h.imp fun _ q => S _ _ q
theorem ShAt.same {CI CU : Addr} {ls : List Lk} {n : Nat} {l : Lk} {H H' : Hp} {x : Addr} (h : ShAt CI CU ls n l H x) (S : Same H H') : ShAt CI CU ls n l H' x :=
  h.imp (fun ⟨pa, is, a, b, c⟩ => ⟨pa, is, a.same S, S _ _ b, c⟩) fun ⟨ta, ts, a, b, c⟩ => ⟨ta, ts, a.same S, S _ _ b, c⟩
def SqLk (H : Hp) (q : Addr) (l : Lk) : Prop := H q = some (.lst (lkV l)) ∨ H q = some (.tup (lkV l))
def spShown (CI CU : Addr) : Sp := fun vs H Q _ => ∃ (t q b : Addr) (n : Nat) (us : List V) (ls : List Lk) (l : Lk) (bs : List Int), vs = [.int (n : Nat), .ref t, .ref q, .ref b] ∧ LsE H t us ls ∧ SqLk H q l ∧ IsAt H b bs ∧ n ≤ 800 ∧ ls.length ≤ 800 ∧ (∀ l ∈ ls, LkOk (n : Nat) l) ∧ LkOk (n : Nat) l ∧ TmsP ls n bs ∧
  ∀ (x : Addr) (H' : Hp), Same H H' → H x = none → ShAt CI CU ls n l H' x → Q (.ref x) H'
def spChkL (K : PySem.W.Frag) (C CB : Addr) : Sp := fun vs H Q E => ∃ (p t : Addr) (c : Int) (us : List V) (ls : List Lk) (v : V) (r : Rd), vs = [.ref p, v] ∧ SyAt C H p c t us ls ∧ RdAt H v r ∧ RdOk r ∧ (linkW c r = none → ∀ H', Same H H' → Q .non H') ∧
  (∀ w, linkW c r = some w → ∀ G e, Same H G → H e = none → E (.ref CB) (some e) (upd G e (.xd [("what", .str w), ("index", .int 0)])))
section
variable {P : Program} {w : World} {K : PySem.W.Frag} {mg : Str → Option Value} {base : Heap} {cl : String → Addr}
theorem ok_Implied_init {f : Addr} {fd : FuncData} (F : Fun K "__init__" "Implied.__init__" s_Implied_init f fd) (T : Txt P w K mg cl) : FnOk P w K mg base CX0 1 f fd ["self", "path"] (spFlds (cl "Implied") ["path"]) := by
  refine F.ok sc_Implied_init (fun vs H Q E h => ?_) (fun cdv A outer s H vs Q E hr h => ?_)
  · obtain ⟨p, dx, us, rfl, hl, _⟩ := h
    rw [List.length_cons, hl]
    rfl
  · obtain ⟨p, dx, us, rfl, hl, hp, k⟩ := h
    match us, hl with
    | [v0], _ =>
      refine ⟨_, (pss_one (ps_fld (pv 0) (pv 1) rfl)), ?_⟩
      refine ⟨_, rfl, _, rfl, p, _, dx, _, rfl, hp, T.cl_Implied, T.na_Implied _ (by decide), (by show 0 < 1000; decide), ?_⟩
      exact k
theorem cal_Implied_init (T : Txt P w K mg cl) : CalC P w K mg base CX0 1 (cl "Implied") ["self", "path"] (spFlds (cl "Implied") ["path"]) := by
  obtain ⟨f, fd, F, m⟩ := T.i_Implied
  exact ⟨f, fd, ok_Implied_init F T, m, F.binds fun _ _ _ _ _ _ us hl => match us, hl with | [_, _], _ => rfl⟩
theorem ok_Unimplied_init {f : Addr} {fd : FuncData} (F : Fun K "__init__" "Unimplied.__init__" s_Unimplied_init f fd) (T : Txt P w K mg cl) : FnOk P w K mg base CX0 1 f fd ["self", "times"] (spFlds (cl "Unimplied") ["times"]) := by
  refine F.ok sc_Unimplied_init (fun vs H Q E h => ?_) (fun cdv A outer s H vs Q E hr h => ?_)
  · obtain ⟨p, dx, us, rfl, hl, _⟩ := h
    rw [List.length_cons, hl]
    rfl
  · obtain ⟨p, dx, us, rfl, hl, hp, k⟩ := h
    match us, hl with
    | [v0], _ =>
      refine ⟨_, (pss_one (ps_fld (pv 0) (pv 1) rfl)), ?_⟩
      refine ⟨_, rfl, _, rfl, p, _, dx, _, rfl, hp, T.cl_Unimplied, T.na_Unimplied _ (by decide), (by show 0 < 1000; decide), ?_⟩
      exact k
theorem cal_Unimplied_init (T : Txt P w K mg cl) : CalC P w K mg base CX0 1 (cl "Unimplied") ["self", "times"] (spFlds (cl "Unimplied") ["times"]) := by
  obtain ⟨f, fd, F, m⟩ := T.i_Unimplied
  exact ⟨f, fd, ok_Unimplied_init F T, m, F.binds fun _ _ _ _ _ _ us hl => match us, hl with | [_, _], _ => rfl⟩
theorem ok_Needed_init {f : Addr} {fd : FuncData} (F : Fun K "__init__" "Needed.__init__" s_Needed_init f fd) (T : Txt P w K mg cl) : FnOk P w K mg base CX0 1 f fd ["self", "kept", "dropped"] (spFlds (cl "Needed") ["kept", "dropped"]) := by
  refine F.ok sc_Needed_init (fun vs H Q E h => ?_) (fun cdv A outer s H vs Q E hr h => ?_)
  · obtain ⟨p, dx, us, rfl, hl, _⟩ := h
    rw [List.length_cons, hl]
    rfl
  · obtain ⟨p, dx, us, rfl, hl, hp, k⟩ := h
    match us, hl with
    | [v0, v1], _ =>
      refine ⟨_, (pss_cons (ps_fld (pv 0) (pv 1) rfl)
        (pss_one (ps_fld (pv 0) (pv 2) rfl))), ?_⟩
      refine ⟨_, rfl, _, rfl, p, _, dx, _, rfl, hp, T.cl_Needed, T.na_Needed _ (by decide), (by show 0 < 1000; decide), ?_⟩
      refine ⟨_, rfl, _, rfl, p, _, dx, _, rfl, upd_same, T.cl_Needed, T.na_Needed _ (by decide), (by show 1 < 1000; decide), ?_⟩
      rw [upd_upd]
      exact k
theorem cal_Needed_init (T : Txt P w K mg cl) : CalC P w K mg base CX0 1 (cl "Needed") ["self", "kept", "dropped"] (spFlds (cl "Needed") ["kept", "dropped"]) := by
  obtain ⟨f, fd, F, m⟩ := T.i_Needed
  exact ⟨f, fd, ok_Needed_init F T, m, F.binds fun _ _ _ _ _ _ us hl => match us, hl with | [_, _, _], _ => rfl⟩
theorem ok_KeptByAll_init {f : Addr} {fd : FuncData} (F : Fun K "__init__" "KeptByAll.__init__" s_KeptByAll_init f fd) (T : Txt P w K mg cl) : FnOk P w K mg base CX0 1 f fd ["self", "paths"] (spFlds (cl "KeptByAll") ["paths"]) := by
  refine F.ok sc_KeptByAll_init (fun vs H Q E h => ?_) (fun cdv A outer s H vs Q E hr h => ?_)
  · obtain ⟨p, dx, us, rfl, hl, _⟩ := h
    rw [List.length_cons, hl]
    rfl
  · obtain ⟨p, dx, us, rfl, hl, hp, k⟩ := h
    match us, hl with
    | [v0], _ =>
      refine ⟨_, (pss_one (ps_fld (pv 0) (pv 1) rfl)), ?_⟩
      refine ⟨_, rfl, _, rfl, p, _, dx, _, rfl, hp, T.cl_KeptByAll, T.na_KeptByAll _ (by decide), (by show 0 < 1000; decide), ?_⟩
      exact k
theorem cal_KeptByAll_init (T : Txt P w K mg cl) : CalC P w K mg base CX0 1 (cl "KeptByAll") ["self", "paths"] (spFlds (cl "KeptByAll") ["paths"]) := by
  obtain ⟨f, fd, F, m⟩ := T.i_KeptByAll
  exact ⟨f, fd, ok_KeptByAll_init F T, m, F.binds fun _ _ _ _ _ _ us hl => match us, hl with | [_, _], _ => rfl⟩
theorem ok_PartedAt_init {f : Addr} {fd : FuncData} (F : Fun K "__init__" "PartedAt.__init__" s_PartedAt_init f fd) (T : Txt P w K mg cl) : FnOk P w K mg base CX0 1 f fd ["self", "index", "times"] (spFlds (cl "PartedAt") ["index", "times"]) := by
  refine F.ok sc_PartedAt_init (fun vs H Q E h => ?_) (fun cdv A outer s H vs Q E hr h => ?_)
  · obtain ⟨p, dx, us, rfl, hl, _⟩ := h
    rw [List.length_cons, hl]
    rfl
  · obtain ⟨p, dx, us, rfl, hl, hp, k⟩ := h
    match us, hl with
    | [v0, v1], _ =>
      refine ⟨_, (pss_cons (ps_fld (pv 0) (pv 1) rfl)
        (pss_one (ps_fld (pv 0) (pv 2) rfl))), ?_⟩
      refine ⟨_, rfl, _, rfl, p, _, dx, _, rfl, hp, T.cl_PartedAt, T.na_PartedAt _ (by decide), (by show 0 < 1000; decide), ?_⟩
      refine ⟨_, rfl, _, rfl, p, _, dx, _, rfl, upd_same, T.cl_PartedAt, T.na_PartedAt _ (by decide), (by show 1 < 1000; decide), ?_⟩
      rw [upd_upd]
      exact k
theorem cal_PartedAt_init (T : Txt P w K mg cl) : CalC P w K mg base CX0 1 (cl "PartedAt") ["self", "index", "times"] (spFlds (cl "PartedAt") ["index", "times"]) := by
  obtain ⟨f, fd, F, m⟩ := T.i_PartedAt
  exact ⟨f, fd, ok_PartedAt_init F T, m, F.binds fun _ _ _ _ _ _ us hl => match us, hl with | [_, _, _], _ => rfl⟩
theorem ok_check_link {f : Addr} {fd : FuncData} (F : Fun K "check_link" "check_link" s_check_link f fd) (T : Txt P w K mg cl) : FnOk P w K mg base (L2.CX P w) 4 f fd ["system", "link"] (spChkL K (cl "System") (cl "BadSystem")) := by
  refine F.okX sc_check_link (fun vs H Q E h => ?_) (fun cdv A outer s H vs Q E hr h => ?_)
  · obtain ⟨p, t, c, us, ls, v, r, rfl, _⟩ := h
    rfl
  · obtain ⟨p, t, c, us, ls, v, r, rfl, X, hv, rok, k1, k2⟩ := h
    have C_link_fault : Cal P w K mg base CX0 3 "link_fault" _ (spLkF K) := cal_link_fault T
    refine ⟨_, (pss_cons (ps_set (i := 2) sc_check_link.nd rfl (Or.inl rfl) (pe_cal C_link_fault (hr.mono (by decide)) (pa_cons (pv 1) (pa_cons (pe_fld (pv 0) rfl) pa_nil))))
        (pss_one (ps_if (pt_cmpR op_notN (pv 2) pe_non (nomark _))
          (pss_one (ps_raiseO rfl (ini_BadSystem (base := base) T) T.m_BadSystem (hr.mono (by decide)) (takes_of rfl rfl rfl rfl) (by exact (pa_cons pe_int (pa_cons (pv 2) pa_nil))))) pss_nil))), ?_⟩
    obtain ⟨dx, hself⟩ := X.self
    refine ⟨_, rfl, _, rfl, p, _, _, _, _, rfl, hself, T.cl_System, T.na_System _ (by decide), rfl, v, r, c, rfl, hv, rok, fun H1 S1 => ?_⟩
    cases hw : linkW c r with
    | none => exact ⟨_, rfl, rfl, _, rfl, iteF (k1 hw _ S1)⟩
    | some w =>
      refine ⟨_, rfl, rfl, _, rfl, iteT ⟨_, rfl, ?_⟩⟩
      exact raise2 (Same.refl H1) fun G e S ne => k2 w hw G e (S1.trans S) (S1.free ne)
theorem cal_check_link (T : Txt P w K mg cl) : Cal P w K mg base (L2.CX P w) 4 "check_link" ["system", "link"] (spChkL K (cl "System") (cl "BadSystem")) := by
  obtain ⟨f, fd, F, m⟩ := T.d_check_link
  exact ⟨f, fd, ok_check_link F T, m, F.kp, F.binds fun _ _ _ _ _ _ us hl => match us, hl with | [_, _], _ => rfl⟩
end
end My
set_option Elab.async false
set_option linter.all false
set_option maxRecDepth 100000
set_option maxHeartbeats 1000000
namespace My
open PySem L2 Dw Wp
open C8 (pss_cut tCut)
set_option pp.maxSteps 600
open Bf Fw
theorem pn {ls : List Lk} {n : Nat} (h : ∀ l ∈ ls, LkOk (n : Nat) l) : IxOk n (nls ls) ∧ My.Pos ls := LkOk.ix h rfl
section
variable {P : Program} {w : World} {K : PySem.W.Frag} {mg : Str → Option Value} {base : Heap} {cl : String → Addr}
theorem ok_shown {f : Addr} {fd : FuncData} (F : Fun K "shown" "shown" s_shown f fd) (T : Txt P w K mg cl) : FnOk P w K mg base CX0 4 f fd ["count", "links", "link", "base"] (spShown (cl "Implied") (cl "Unimplied")) := by
  refine F.ok sc_shown (fun vs H Q E h => ?_) (fun cdv A outer s H vs Q E hr h => ?_)
  · obtain ⟨t, q, b, n, us, ls, l, bs, rfl, _⟩ := h
    rfl
  · obtain ⟨t, q, b, n, us, ls, l, bs, rfl, hL, hq, hb, ln, ll, lok, lo, Tm, k⟩ := h
    have C_settled_from : Cal P w K mg base CX0 3 "settled_from" _ spFrom := cal_settled_from T
    have C_path_back : Cal P w K mg base CX0 1 "path_back" _ spBack := cal_path_back T
    have C_completed : Cal P w K mg base CX0 1 "completed" _ spCmpl := cal_completed T
    have I_Implied : CalC P w K mg base CX0 1 (cl "Implied") _ (spFlds (cl "Implied") ["path"]) := cal_Implied_init T
    have I_Unimplied : CalC P w K mg base CX0 1 (cl "Unimplied") _ (spFlds (cl "Unimplied") ["times"]) := cal_Unimplied_init T
    refine ⟨_, (pss_cons (ps_asg (pv 2) (pg_or (pg_tup rfl (pgs_cons (pg_name (i := 4) sc_shown.nd rfl (Or.inl rfl)) (pgs_cons (pg_name (i := 5) sc_shown.nd rfl (Or.inl rfl)) (pgs_cons (pg_name (i := 6) sc_shown.nd rfl (Or.inl rfl)) pgs_nil)))) (pg_lst rfl (pgs_cons (pg_name (i := 4) sc_shown.nd rfl (Or.inl rfl)) (pgs_cons (pg_name (i := 5) sc_shown.nd rfl (Or.inl rfl)) (pgs_cons (pg_name (i := 6) sc_shown.nd rfl (Or.inl rfl)) pgs_nil))))))
        (pss_cons (ps_asg (pe_cal C_settled_from (hr.mono (by decide)) (pa_cons (pv 0) (pa_cons (pv 1) (pa_cons (pv 5) pa_nil)))) (pg_tup rfl (pgs_cons (pg_name (i := 7) sc_shown.nd rfl (Or.inr rfl)) (pgs_cons (pg_name (i := 8) sc_shown.nd rfl (Or.inl rfl)) pgs_nil))))
        (pss_cons (ps_if (pt_cmpR op_notN (pe_ix ix_list (pv 7) (pv 4) (fun _ _ => rfl)) pe_non (nomark _))
          (pss_cons (ps_if (pt_cmpR op_le (pe_ix ix_list (pv 7) (pv 4) (fun _ _ => rfl)) (pv 6) (nomark _))
              (pss_one (ps_ret (pe_mk I_Implied T.m_Implied (hr.mono (by decide))  (pa_cons (pe_cal C_path_back (hr.mono (by decide)) (pa_cons (pv 1) (pa_cons (pv 8) (pa_cons (pv 5) (pa_cons (pv 4) pa_nil))))) pa_nil)))) pss_nil)
            (pss_one (ps_ret (pe_mk I_Unimplied T.m_Unimplied (hr.mono (by decide))  (pa_cons (pe_cal C_completed (hr.mono (by decide)) (pa_cons (pv 1) (pa_cons (pv 7) (pa_cons (pv 3) pa_nil)))) pa_nil))))) pss_nil)
        (pss_cons (ps_set (i := 9) sc_shown.nd rfl (Or.inr rfl) (pe_callB (call_max2 rfl) (by rfl) T.n_max (by decide +kernel) (pa_cons pe_int (pa_cons (pe_op op_add (pe_op op_sub (pe_op op_add (pv 6) pe_int) (pe_ix ix_either (pv 3) (pv 4) (fun _ _ => rfl))) (pe_ix ix_either (pv 3) (pv 5) (fun _ _ => rfl))) pa_nil))))
        (pss_one (ps_ret (pe_mk I_Unimplied T.m_Unimplied (hr.mono (by decide))  (pa_cons (pe_callTy call_tuple_of (by rfl) T.n_tuple (by decide +kernel) (pa_cons (pe_lc (own := [("place", 10)]) (g := gName 10) (tt := tYes) rfl sc_shown.nd (pi_range1 rfl T.n_range (pa_cons (pv 0) pa_nil)) (blkOk_by (own := [("place", 10)]) (N := ["count", "links", "link", "base", "one", "other", "amount", "reached", "came", "raised", "place"]) (sc := defScope s_shown) (by decide +kernel)) (fun _ _ _ _ _ => pg_name (i := 10) sc_shown.nd rfl (Or.inl rfl)) (fun _ _ _ _ _ => pts_nil) (fun _ _ _ _ _ => (pe_ifExp (pt_cmpR op_isN (pe_ix (ix_listK (K := K) rfl) (pv 7) (pv 10) (fun _ _ => rfl)) pe_non (nomark _)) (pe_op op_add (pe_ix (ix_eitherK (K := K) rfl) (pv 3) (pv 10) (fun _ _ => rfl)) (pv 9)) (pe_ix (ix_eitherK (K := K) rfl) (pv 3) (pv 10) (fun _ _ => rfl))))) pa_nil)) pa_nil)))))))), ?_⟩
    obtain ⟨ok, pos⟩ := pn lok
    obtain ⟨l1, l2, am⟩ := l
    obtain ⟨⟨a0, a1⟩, b0, b1⟩ := lo
    obtain ⟨a, rfl⟩ : ∃ a : Nat, l1 = (a : Int) := ⟨l1.toNat, (Int.toNat_of_nonneg a0).symm⟩
    obtain ⟨b', rfl⟩ : ∃ a : Nat, l2 = (a : Int) := ⟨l2.toNat, (Int.toNat_of_nonneg b0).symm⟩
    have an : a < n := by have : (a : Int) < n := a1; omega
    have bn : b' < n := by have : (b' : Int) < n := b1; omega
    have ok' : IxOk (og n b').length (nls ls) := by rw [og_len]; exact ok
    have h2 := sett_keeps ok' Tm.2
    obtain ⟨l1, l2, _, sat, _, _⟩ := sett_kept ok' h2
    rw [og_len] at l1 l2
    obtain ⟨_, z0, chain⟩ := og_chain ok bn h2
    have lm : (List.map oiV (sett (nls ls) (og n b')).1.ts).length = n := by rw [List.length_map]; exact l1
    have enl : nl ((a : Int), (b' : Int), am) = (a, b', am) := rfl
    refine ⟨_, rfl, ?_⟩
    refine gOr hq rfl ?_
    refine ⟨_, _, rfl, _, _, rfl, _, _, rfl, rfl, ?_⟩
    refine ⟨_, rfl, _, rfl, _, rfl, t, us, ls, n, b', rfl, hL, ln, ll, ok, pos, fun R A B H2 S2 nA nB hA hB hR => ?_⟩
    refine ⟨R, _, rfl, SqT.of hR, rfl, _, _, rfl, _, _, rfl, rfl, ?_⟩
    have hbL := hL.same S2
    cases hta : gO (sett (nls ls) (og n b')).1.ts a with
    | none =>
      refine ⟨_, rfl, _, rfl, A, _, _, _, rfl, rfl, SqL.of hA, atI_nat (oi_none hta (by omega)), rfl, _, rfl, iteF ?_⟩
      have hb2 := IsAt.same hb S2
      have la : a < bs.length := by rw [Tm.1]; exact an
      have lb : b' < bs.length := by rw [Tm.1]; exact bn
      refine ⟨_, rfl, _, _, rfl, rfl, _, rfl, _, rfl, ixOr hb2 (kF_at la) ⟨_, _, rfl, rfl, _, rfl, _, rfl, ixOr hb2 (kF_at lb) ⟨_, _, rfl, rfl, _, _, rfl, ?_⟩⟩⟩
      generalize er : (if am + 1 - kF bs a + kF bs b' > 0 then am + 1 - kF bs a + kF bs b' else 0) = r
      have r0 : 0 ≤ r := by rw [← er]; split <;> omega
      have r1 : am + 1 - kF bs a + kF bs b' ≤ r := by rw [← er]; split <;> omega
      refine ⟨_, rfl, (n : Int), rfl, by omega, by omega, fun D nD => lc_range (fun i H3 => H3 = upd H2 D (.lst ((List.range i).map fun v => V.int (if gO (rch ls n b') v = none then kF bs v + r else kF bs v)))) rfl ?_ ?_⟩
      · rintro i H3 hi rfl
        have hi : i < n := by omega
        have S3 := sNew (o := .lst ((List.range i).map fun v => V.int (if gO (rch ls n b') v = none then kF bs v + r else kF bs v))) nD
        have hb3 := IsAt.same hb2 S3
        have lbi : i < bs.length := by rw [Tm.1]; exact hi
        have fin : ∀ z : Int, z = (if gO (rch ls n b') i = none then kF bs i + r else kF bs i) → ∃ acc, upd H2 D (.lst ((List.range i).map fun v => V.int (if gO (rch ls n b') v = none then kF bs v + r else kF bs v))) D = some (.lst acc) ∧ acc.length < sizeLine ∧ upd (upd H2 D (.lst ((List.range i).map fun v => V.int (if gO (rch ls n b') v = none then kF bs v + r else kF bs v)))) D (.lst (acc ++ [.int z])) = upd H2 D (.lst ((List.range (i + 1)).map fun v => V.int (if gO (rch ls n b') v = none then kF bs v + r else kF bs v))) := fun z ez => by
          refine ⟨_, upd_same, small1000 (by rw [List.length_map, List.length_range]; omega), ?_⟩
          rw [upd_upd, List.range_succ, List.map_append, ez]
          rfl
        rw [show (0 : Int) + (i : Nat) = ((i : Nat) : Int) by omega]
        cases hti : gO (rch ls n b') i with
        | none =>
          rw [hti] at fin
          refine ⟨rfl, _, rfl, _, rfl, A, _, _, _, rfl, rfl, SqL.of (S3 _ _ hA), atI_nat (oi_none hti (by rw [l1]; exact hi)), rfl, _, rfl, iteT ⟨_, rfl, _, rfl, ixOr hb3 (kF_at lbi) ⟨_, rfl, _, _, rfl, rfl, fin _ (if_pos rfl).symm⟩⟩⟩
        | some ti =>
          rw [hti] at fin
          refine ⟨rfl, _, rfl, _, rfl, A, _, _, _, rfl, rfl, SqL.of (S3 _ _ hA), atI_nat (oi_some hti), rfl, _, rfl, iteF ⟨_, rfl, _, rfl, ixOr hb3 (kF_at lbi) (fin _ (if_neg (fun z => nomatch z)).symm)⟩⟩
      · rintro H3 rfl
        rw [show ((n : Int)).toNat = n by omega]
        refine ⟨D, _, rfl, .inl ⟨SqL.of upd_same, fun ca nca => ?_⟩⟩
        have S := S2.trans ((sNew nD).trans (sNew (o := .tup ((List.range n).map fun v => V.int (if gO (rch ls n b') v = none then kF bs v + r else kF bs v))) nca))
        refine fun x d nx nd ne => ⟨x, d, [.ref ca], rfl, rfl, upd_same, rfl, ?_⟩
        have M := made (o1 := .own x) (o2 := .ins (cl "Unimplied") d []) (o3 := .ins (cl "Unimplied") d [("times", .ref ca)]) nx nd
        have kv : ∀ v, v < n → kF ((List.range n).map fun v => if gO (rch ls n b') v = none then kF bs v + r else kF bs v) v = if gO (rch ls n b') v = none then kF bs v + r else kF bs v := fun v hv => by
          show ((List.map _ (List.range n))[v]?).getD 0 = _
          rw [List.getElem?_map, List.getElem?_range hv]
          rfl
        refine k x _ (S.trans M) (S.free nx) (.inr ⟨ca, (List.range n).map fun v => if gO (rch ls n b') v = none then kF bs v + r else kF bs v, ⟨d, upd_same⟩, M _ _ ?_, ⟨?_, ⟨by rw [List.length_map, List.length_range], fun l hl => ?_⟩, ?_⟩⟩)
        · rw [upd_same]
          unfold intT
          rw [List.map_map]
          rfl
        · rw [enl]
          unfold impB
          rw [show gO (sett (nls ls) (og n ((a, b', am) : NL).2.1)).1.ts ((a, b', am) : NL).1 = none from hta]
        · rw [kv _ (ok l hl).1, kv _ (ok l hl).2]
          exact up_keeps Tm.2 sat r0 l hl
        · show am < kF _ a - kF _ b'
          rw [kv _ an, kv _ bn, if_pos hta, if_neg (by rw [show gO (rch ls n b') b' = some 0 from z0]; exact fun z => nomatch z)]
          omega
    | some ta =>
      refine ⟨_, rfl, _, rfl, A, _, _, _, rfl, rfl, SqL.of hA, atI_nat (oi_some hta), rfl, _, rfl, iteT ?_⟩
      obtain ⟨kk, kn, e1, e2, e3⟩ := chain a ta hta
      refine ⟨_, rfl, _, rfl, A, _, _, _, rfl, rfl, SqL.of hA, atI_nat (oi_some hta), _, rfl, _, _, rfl, rfl, _, rfl, ?_⟩
      have imp : impB (nls ls) n (a, b', am) = decide (ta ≤ am) := by
        unfold impB
        rw [show gO (sett (nls ls) (og n ((a, b', am) : NL).2.1)).1.ts ((a, b', am) : NL).1 = some ta from hta]
      refine ite2 (fun g => ?_) (fun g => ?_)
      · refine ⟨_, rfl, _, rfl, _, rfl, _, rfl, t, B, us, ls, _, b', a, kk, rfl, hbL, hB, pos, by omega, e1, e2, fun pa H3 S3 hpa => ?_⟩
        refine fun x d nx nd ne => ⟨x, d, [.ref pa], rfl, rfl, upd_same, rfl, ?_⟩
        have M := made (o1 := .own x) (o2 := .ins (cl "Implied") d []) (o3 := .ins (cl "Implied") d [("path", .ref pa)]) nx nd
        have S := S2.trans S3
        obtain ⟨g1, g2⟩ := pth_leads kk a fun m hm => (e2 m hm).1
        rw [e1] at g1
        refine k x _ (S.trans M) (S.free nx) (.inl ⟨pa, _, ⟨d, upd_same⟩, M _ _ hpa, ⟨by rw [enl, imp]; exact g, g1, ?_, ?_⟩⟩)
        · have g := of_decide_eq_true g
          rw [g2, e3]
          exact g
        · rw [List.length_reverse, pth_len]
          exact kn
      · refine ⟨_, rfl, _, rfl, _, rfl, t, A, b, us, ls, _, bs, rfl, hbL, hA, IsAt.same hb S2, by rw [l1]; exact Tm.1, by rw [l1]; exact ln, by rw [l1]; exact ok, pos, fun ca cs H3 S3 lcs hcs hca => ?_⟩
        refine fun x d nx nd ne => ⟨x, d, [.ref ca], rfl, rfl, upd_same, rfl, ?_⟩
        have M := made (o1 := .own x) (o2 := .ins (cl "Unimplied") d []) (o3 := .ins (cl "Unimplied") d [("times", .ref ca)]) nx nd
        have S := S2.trans S3
        rw [l1] at lcs hcs
        have kp := cpl_keeps (ls := nls ls) (ts := rch ls n b') Tm.2 sat
        refine k x _ (S.trans M) (S.free nx) (.inr ⟨ca, cs, ⟨d, upd_same⟩, M _ _ hca, ⟨by rw [enl, imp]; exact Bool.eq_false_iff.mpr g, ⟨lcs, fun l hl => ?_⟩, ?_⟩⟩)
        · rw [hcs _ (ok l hl).1, hcs _ (ok l hl).2]
          exact kp l hl
        · show am < kF cs a - kF cs b'
          rw [hcs _ an, hcs _ bn]
          unfold cpl
          rw [hta, z0]
          have g : ¬ ta ≤ am := fun z => g (decide_eq_true z)
          show am < ta - 0
          omega
theorem cal_shown (T : Txt P w K mg cl) : Cal P w K mg base CX0 4 "shown" ["count", "links", "link", "base"] (spShown (cl "Implied") (cl "Unimplied")) := by
  obtain ⟨f, fd, F, m⟩ := T.d_shown
  exact ⟨f, fd, ok_shown F T, m, F.kp, F.binds fun _ _ _ _ _ _ us hl => match us, hl with | [_, _, _, _], _ => rfl⟩
end
end My
set_option Elab.async false
set_option linter.all false
set_option maxRecDepth 100000
set_option maxHeartbeats 1000000
namespace My
open PySem L2 Dw Wp
open C8 (pss_cut tCut)
set_option pp.maxSteps 600
open Bf Fw
def tmW (ls : List Lk) (n : Nat) (ts : List Int) : Option Str := if ts.length = n then (if (brk ls ts).isEmpty = true then none else some "link") else some "count"
def orW (w v : Option Str) : Option Str := match w with
  | some x => some x
  | none => v
theorem natI (js : List Nat) : (js.map fun (i : Nat) => (i : Int)).map Int.toNat = js := by
  rw [List.map_map]
  exact (List.map_congr_left fun x _ => Int.toNat_natCast x).trans (List.map_id js)
/-- times_fault, told by one word -/
theorem tf_two {H : Hp} {Q : VK} {n : Nat} {ls : List Lk} {ts : List Int} (k : ∀ H', Same H H' → Q (optV (tmW ls n ts)) H') : (¬ (ts.length : Int) = (n : Nat) → ∀ H', Same H H' → Q (.str "count") H') ∧ ((ts.length : Int) = (n : Nat) → ∀ H', Same H H' → Q (if (brk ls ts).isEmpty = true then .non else .str "link") H') := by
  refine ⟨fun h H' S => ?_, fun h H' S => ?_⟩
  · have k := k H' S
    unfold tmW at k
    rw [if_neg (by omega)] at k
    exact k
  · have k := k H' S
    unfold tmW at k
    rw [if_pos (by omega)] at k
    split
    · rename_i g
      rw [if_pos g] at k
      exact k
    · rename_i g
      rw [if_neg g] at k
      exact k
def wIm (ls : List Lk) (l : Lk) (is : List Int) : Option Str :=
  if is.all (isIx ls.length) = false then some "index" else orW (pathN ls (is.map Int.toNat) l.2.1 l.1) (if sumO ls (is.map Int.toNat) ≤ l.2.2 then none else some "sum")
def wUn (ls : List Lk) (n : Nat) (l : Lk) (ts : List Int) : Option Str := orW (tmW ls n ts) (if keepB ts l = true then some "kept" else none)
/-- an answer handed in, and its word -/
def AnIn (CI CU : Addr) (ls : List Lk) (n : Nat) (l : Lk) (H : Hp) (x : Addr) (w : Option Str) : Prop :=
  (∃ pa is, RgAt CI H x "path" pa ∧ H pa = some (intT is) ∧ is.length ≤ 800 ∧ w = wIm ls l is) ∨ ∃ ta ts, RgAt CU H x "times" ta ∧ H ta = some (intT ts) ∧ ts.length ≤ 800 ∧ w = wUn ls n l ts
def BadL (CB : Addr) (H : Hp) (E : XK) (w : Option Str) : Prop := ∀ x, w = some x → ∀ G e, Same H G → H e = none → E (.ref CB) (some e) (upd G e (.xd [("what", .str x), ("index", .int 0)]))
def spImpl (K : PySem.W.Frag) (C CB CT CI CU : Addr) : Sp := fun vs H Q E => ∃ (p t : Addr) (n : Nat) (us : List V) (ls : List Lk) (v : V) (r : Rd), vs = [.ref p, v] ∧ SyAt C H p (n : Nat) t us ls ∧ (∀ l ∈ ls, LkOk (n : Nat) l) ∧ n ≤ 800 ∧ ls.length ≤ 800 ∧ RdAt H v r ∧ RdOk r ∧ BadL CB H E (linkW (n : Nat) r) ∧
  ∀ l, r = lkR l → LkOk (n : Nat) l → NoTm CT ls n H E ∧ ∀ x H', Same H H' → H x = none → (∃ φ, Keeps (nls ls) φ) → ShAt CI CU ls n l H' x → Q (.ref x) H'
def spImF (K : PySem.W.Frag) (C CB CI CU : Addr) : Sp := fun vs H Q E => ∃ (p t x : Addr) (n : Nat) (us : List V) (ls : List Lk) (v : V) (r : Rd), vs = [.ref p, v, .ref x] ∧ SyAt C H p (n : Nat) t us ls ∧ (∀ l ∈ ls, LkOk (n : Nat) l) ∧ n ≤ 800 ∧ ls.length ≤ 800 ∧ RdAt H v r ∧ RdOk r ∧ BadL CB H E (linkW (n : Nat) r) ∧
  ∀ l, r = lkR l → LkOk (n : Nat) l → ∃ b w, v = .ref b ∧ H b = some (.tup (lkV l)) ∧ AnIn CI CU ls n l H x w ∧ ∀ H', Same H H' → Q (optV w) H'
section
variable {P : Program} {w : World} {K : PySem.W.Frag} {mg : Str → Option Value} {base : Heap} {cl : String → Addr}
theorem ok_implied {f : Addr} {fd : FuncData} (F : Fun K "implied" "implied" s_implied f fd) (T : Txt P w K mg cl) : FnOk P w K mg base (L2.CX P w) 5 f fd ["system", "link"] (spImpl K (cl "System") (cl "BadSystem") (cl "NoTimes") (cl "Implied") (cl "Unimplied")) := by
  refine F.okX sc_implied (fun vs H Q E h => ?_) (fun cdv A outer s H vs Q E hr h => ?_)
  · obtain ⟨p, t, n, us, ls, v, r, rfl, _⟩ := h
    rfl
  · obtain ⟨p, t, n, us, ls, v, r, rfl, X, lok, ln, ll, hv, rok, kb, kg⟩ := h
    have C_check_link : Cal P w K mg base (L2.CX P w) 4 "check_link" _ (spChkL K (cl "System") (cl "BadSystem")) := cal_check_link T
    have C_kept_times : Cal P w K mg base (L2.CX P w) 4 "kept_times" _ (spKept (cl "System") (cl "NoTimes")) := cal_kept_times T
    have C_shown : Cal P w K mg base CX0 4 "shown" _ (spShown (cl "Implied") (cl "Unimplied")) := cal_shown T
    refine ⟨_, (pss_cons (ps_expr (pe_calS C_check_link (hr.mono (by decide)) (fun σ => passAt (takes_of rfl rfl rfl rfl) σ) (pa_cons (pv 0) (pa_cons (pv 1) pa_nil))))
        (pss_cons (ps_set (i := 2) sc_implied.nd rfl (Or.inl rfl) (pe_calS C_kept_times (hr.mono (by decide)) (fun σ => passAt (takes_of rfl rfl rfl rfl) σ) (pa_cons (pv 0) pa_nil)))
        (pss_one (ps_ret (pe_cal C_shown (hr.mono (by decide)) (pa_cons (pe_fld (pv 0) rfl) (pa_cons (pe_fld (pv 0) rfl) (pa_cons (pv 1) (pa_cons (pv 2) pa_nil))))))))), ?_⟩
    obtain ⟨dx, hself⟩ := X.self
    refine ⟨_, rfl, _, rfl, p, t, n, us, ls, v, r, rfl, X, hv, rok, fun hw H1 S1 => ?_, kb⟩
    obtain ⟨l, rfl, lo1, lo2⟩ := linkW_good hw
    obtain ⟨kE, kQ⟩ := kg l rfl ⟨lo1, lo2⟩
    have X1 := X.same S1
    obtain ⟨b, rfl, hb⟩ := RdAt.same hv S1
    refine ⟨_, rfl, p, t, n, us, ls, rfl, X1, lok, ln, ll, fun a is R G e S ne ha nae => kE a is R G e (S1.trans S) (S1.free ne) ha nae, fun bt bs H2 Tm S2 hbt => ?_⟩
    have hself2 := S2 _ _ (S1 _ _ hself)
    have X2 := X1.same S2
    refine ⟨_, rfl, p, _, _, _, _, rfl, hself2, T.cl_System, T.na_System _ (by decide), rfl, _, rfl, p, _, _, _, _, rfl, hself2, T.cl_System, T.na_System _ (by decide), rfl, _, rfl, _, rfl, t, b, bt, n, us, ls, l, bs, rfl, ⟨.inr X2.rows, X2.each⟩, hb.imp (S2 _ _) (S2 _ _), .inr hbt, ln, ll, lok, ⟨lo1, lo2⟩, Tm, fun x H3 S3 nx hx => ?_⟩
    exact kQ x H3 (S1.trans (S2.trans S3)) ((S1.trans S2).free nx) ⟨_, Tm.2⟩ hx
theorem cal_implied (T : Txt P w K mg cl) : Cal P w K mg base (L2.CX P w) 5 "implied" ["system", "link"] (spImpl K (cl "System") (cl "BadSystem") (cl "NoTimes") (cl "Implied") (cl "Unimplied")) := by
  obtain ⟨f, fd, F, m⟩ := T.d_implied
  exact ⟨f, fd, ok_implied F T, m, F.kp, F.binds fun _ _ _ _ _ _ us hl => match us, hl with | [_, _], _ => rfl⟩
theorem ok_implied_fault {f : Addr} {fd : FuncData} (F : Fun K "implied_fault" "implied_fault" s_implied_fault f fd) (T : Txt P w K mg cl) : FnOk P w K mg base (L2.CX P w) 5 f fd ["system", "link", "answer"] (spImF K (cl "System") (cl "BadSystem") (cl "Implied") (cl "Unimplied")) := by
  refine F.okX sc_implied_fault (fun vs H Q E h => ?_) (fun cdv A outer s H vs Q E hr h => ?_)
  · obtain ⟨p, t, x, n, us, ls, v, r, rfl, _⟩ := h
    rfl
  · obtain ⟨p, t, x, n, us, ls, v, r, rfl, X, lok, ln, ll, hv, rok, kb, kg⟩ := h
    have C_check_link : Cal P w K mg base (L2.CX P w) 4 "check_link" _ (spChkL K (cl "System") (cl "BadSystem")) := cal_check_link T
    have C_times_fault : Cal P w K mg base CX0 4 "times_fault" _ (spTF K (cl "System")) := cal_times_fault T
    have C_path_fault : Cal P w K mg base CX0 3 "path_fault" _ (spPF (cl "System")) := cal_path_fault T
    have C_sum_of : Cal P w K mg base CX0 1 "sum_of" _ spSum := cal_sum_of T
    have C_keeps_link : Cal P w K mg base CX0 1 "keeps_link" _ spKeep := cal_keeps_link T
    refine ⟨_, (pss_cons (ps_expr (pe_calS C_check_link (hr.mono (by decide)) (fun σ => passAt (takes_of rfl rfl rfl rfl) σ) (pa_cons (pv 0) (pa_cons (pv 1) pa_nil))))
        (pss_cons (ps_asg (pv 1) (pg_or (pg_tup rfl (pgs_cons (pg_name (i := 3) sc_implied_fault.nd rfl (Or.inl rfl)) (pgs_cons (pg_name (i := 4) sc_implied_fault.nd rfl (Or.inl rfl)) (pgs_cons (pg_name (i := 5) sc_implied_fault.nd rfl (Or.inl rfl)) pgs_nil)))) (pg_lst rfl (pgs_cons (pg_name (i := 3) sc_implied_fault.nd rfl (Or.inl rfl)) (pgs_cons (pg_name (i := 4) sc_implied_fault.nd rfl (Or.inl rfl)) (pgs_cons (pg_name (i := 5) sc_implied_fault.nd rfl (Or.inl rfl)) pgs_nil))))))
        (pss_cons (ps_if (pt_val (pe_callB call_isi (by rfl) T.n_isinstance (by decide +kernel) (pa_cons (pv 2) (pa_cons (pe_cls T.m_Implied) pa_nil))))
          (pss_cons (ps_set (i := 6) sc_implied_fault.nd rfl (Or.inl rfl) (pe_cal C_path_fault (hr.mono (by decide)) (pa_cons (pv 0) (pa_cons (pe_fld (pv 2) rfl) (pa_cons (pv 4) (pa_cons (pv 3) pa_nil))))))
            (pss_cons (ps_if (pt_cmpR op_notN (pv 6) pe_non (nomark _))
              (pss_one (ps_ret (pv 6))) pss_nil)
            (pss_one (ps_ret (pe_ifExp (pt_cmpR op_le (pe_cal C_sum_of (hr.mono (by decide)) (pa_cons (pe_fld (pv 0) rfl) (pa_cons (pe_fld (pv 2) rfl) pa_nil))) (pv 5) (nomark _)) pe_non pe_str))))) pss_nil)
        (pss_cons (ps_set (i := 6) sc_implied_fault.nd rfl (Or.inl rfl) (pe_cal C_times_fault (hr.mono (by decide)) (pa_cons (pv 0) (pa_cons (pe_fld (pv 2) rfl) pa_nil))))
        (pss_cons (ps_if (pt_cmpR op_notN (pv 6) pe_non (nomark _))
          (pss_one (ps_ret (pv 6))) pss_nil)
        (pss_one (ps_ret (pe_ifExp (pt_val (pe_cal C_keeps_link (hr.mono (by decide)) (pa_cons (pe_fld (pv 2) rfl) (pa_cons (pv 1) pa_nil)))) pe_str pe_non)))))))), ?_⟩
    obtain ⟨dx, hself⟩ := X.self
    refine ⟨_, rfl, _, rfl, p, t, n, us, ls, v, r, rfl, X, hv, rok, fun hw H1 S1 => ?_, kb⟩
    obtain ⟨l, rfl, lo1, lo2⟩ := linkW_good hw
    obtain ⟨b, w, rfl, hb, an, k⟩ := kg l rfl ⟨lo1, lo2⟩
    have X1 := X.same S1
    have hself1 := S1 _ _ hself
    have hb1 := S1 _ _ hb
    obtain ⟨a1, a2, am⟩ := l
    refine ⟨_, rfl, gOr (.inr hb1) rfl ⟨_, _, rfl, _, _, rfl, _, _, rfl, rfl, ?_⟩⟩
    rcases an with ⟨pa, is, ⟨dq, hq⟩, hpa, li, rfl⟩ | ⟨ta, ts, ⟨dq, hq⟩, hta, lt, rfl⟩
    · have hq1 := S1 _ _ hq
      have hpa1 := S1 _ _ hpa
      refine ⟨_, rfl, _, _, _, _, _, rfl, .own (cl "Implied"), .base (.ins hq1 T.cl_Implied T.y_Implied T.z1 T.z2 T.z3_Implied), T.k_Im_Im, _, rfl, iteT ?_⟩
      refine ⟨_, rfl, _, rfl, x, _, _, _, _, rfl, hq1, T.cl_Implied, T.na_Implied _ (by decide), rfl, _, rfl, _, rfl, p, t, pa, n, us, ls, is, a2, a1, rfl, X1, by omega, .inr hpa1, by omega, fun hx H2 S2 => ?_, fun js ej hj H2 S2 => ?_⟩
      · have k := k H2 (S1.trans S2)
        unfold wIm at k
        rw [if_pos hx] at k
        exact ⟨_, rfl, rfl, _, rfl, iteT ⟨_, rfl, k⟩⟩
      · have hx : is.all (isIx ls.length) = true := by
          rw [ej]
          refine List.all_eq_true.mpr fun x hx => ?_
          obtain ⟨j, h, rfl⟩ := List.mem_map.mp hx
          have := hj j h
          unfold isIx
          rw [decide_eq_true (Int.natCast_nonneg j), decide_eq_true (show (j : Int) < (ls.length : Int) by omega)]
          rfl
        unfold wIm at k
        rw [if_neg (by rw [hx]; decide)] at k
        rw [ej, natI] at k
        cases hw : pathN ls js a2 a1 with
        | some x =>
          have k := k H2 (S1.trans S2)
          rw [show pathN ls js ((a1, a2, am) : Lk).2.1 ((a1, a2, am) : Lk).1 = some x from hw] at k
          exact ⟨_, rfl, rfl, _, rfl, iteT ⟨_, rfl, k⟩⟩
        | none =>
          rw [show pathN ls js ((a1, a2, am) : Lk).2.1 ((a1, a2, am) : Lk).1 = none from hw] at k
          have k : ∀ H', Same H H' → Q (optV (if sumO ls js ≤ am then (none : Option Str) else some ("sum" : Str))) H' := k
          refine ⟨_, rfl, rfl, _, rfl, iteF ?_⟩
          have X2 := X1.same S2
          have hself2 := S2 _ _ hself1
          have hq2 := S2 _ _ hq1
          rw [ej] at hpa1
          refine ⟨_, rfl, p, _, _, _, _, rfl, hself2, T.cl_System, T.na_System _ (by decide), rfl, _, rfl, x, _, _, _, _, rfl, hq2, T.cl_Implied, T.na_Implied _ (by decide), rfl, t, pa, us, ls, js, rfl, ⟨X2.rows, X2.each⟩, .inr (S2 _ _ hpa1), by rw [ej, List.length_map] at li; omega, hj, fun H3 S3 => ?_⟩
          have k := k H3 (S1.trans (S2.trans S3))
          refine ⟨_, rfl, _, _, rfl, rfl, _, rfl, ?_⟩
          refine ite2 (fun g => ?_) (fun g => ?_)
          · rw [if_pos (of_decide_eq_true g)] at k
            exact k
          · rw [if_neg fun z => g (decide_eq_true z)] at k
            exact k
    · have hq1 := S1 _ _ hq
      have hta1 := S1 _ _ hta
      refine ⟨_, rfl, _, _, _, _, _, rfl, .own (cl "Implied"), .base (.ins hq1 T.cl_Unimplied T.y_Unimplied T.z1 T.z2 T.z3_Unimplied), T.k_Un_Im, _, rfl, iteF ?_⟩
      refine ⟨_, rfl, _, rfl, x, _, _, _, _, rfl, hq1, T.cl_Unimplied, T.na_Unimplied _ (by decide), rfl, p, t, ta, n, us, ls, ts, rfl, X1, lok, by omega, hta1, by omega, fun h H2 S2 => ?_, fun h H2 S2 => ?_⟩
      · have hw2 : tmW ls n ts = some ("count" : Str) := by
          unfold tmW
          rw [if_neg (by omega)]
        have k := k H2 (S1.trans S2)
        unfold wUn at k
        rw [hw2] at k
        exact ⟨_, rfl, rfl, _, rfl, iteT ⟨_, rfl, k⟩⟩
      · have lts : ts.length = n := by omega
        have S := S1.trans S2
        have tm : tmW ls n ts = if (brk ls ts).isEmpty = true then (none : Option Str) else some ("link" : Str) := by
          unfold tmW
          rw [if_pos lts]
        have k := k H2 S
        unfold wUn at k
        cases hbr : (brk ls ts).isEmpty with
        | false =>
          rw [hbr] at tm
          rw [tm] at k
          exact ⟨_, rfl, rfl, _, rfl, iteT ⟨_, rfl, k⟩⟩
        | true =>
          rw [hbr] at tm
          rw [tm] at k
          refine ⟨_, rfl, rfl, _, rfl, iteF ?_⟩
          obtain ⟨a, rfl⟩ : ∃ a : Nat, a1 = (a : Int) := ⟨a1.toNat, (Int.toNat_of_nonneg lo1.1).symm⟩
          obtain ⟨b', rfl⟩ : ∃ a : Nat, a2 = (a : Int) := ⟨a2.toNat, (Int.toNat_of_nonneg lo2.1).symm⟩
          have la : a < ts.length := by have : (a : Int) < n := lo1.2; omega
          have lb : b' < ts.length := by have : (b' : Int) < n := lo2.2; omega
          have kb : keepB ts ((a : Int), (b' : Int), am) = decide (ts[a] - ts[b'] ≤ am) := by
            unfold keepB
            show decide ((ts[a]?.getD 0) - (ts[b']?.getD 0) ≤ am) = _
            rw [List.getElem?_eq_getElem la, List.getElem?_eq_getElem lb]
            rfl
          rw [kb] at k
          refine ⟨_, rfl, x, _, _, _, _, rfl, S2 _ _ hq1, T.cl_Unimplied, T.na_Unimplied _ (by decide), rfl, _, rfl, ta, b, ts, a, b', ts[a], ts[b'], am, rfl, .inr (S2 _ _ hta1), S2 _ _ hb1, List.getElem?_eq_getElem la, List.getElem?_eq_getElem lb, _, rfl, ?_⟩
          have k : Q (optV (if decide (ts[a] - ts[b'] ≤ am) = true then some ("kept" : Str) else none)) H2 := k
          refine ite2 (fun g => ?_) (fun g => ?_)
          · rw [if_pos g] at k
            exact k
          · rw [if_neg g] at k
            exact k
theorem cal_implied_fault (T : Txt P w K mg cl) : Cal P w K mg base (L2.CX P w) 5 "implied_fault" ["system", "link", "answer"] (spImF K (cl "System") (cl "BadSystem") (cl "Implied") (cl "Unimplied")) := by
  obtain ⟨f, fd, F, m⟩ := T.d_implied_fault
  exact ⟨f, fd, ok_implied_fault F T, m, F.kp, F.binds fun _ _ _ _ _ _ us hl => match us, hl with | [_, _, _], _ => rfl⟩
end
end My
set_option Elab.async false
set_option linter.all false
set_option maxRecDepth 100000
set_option maxHeartbeats 1000000
namespace My
open PySem L2 Dw Wp
open C8 (pss_cut tCut)
set_option pp.maxSteps 600
open Bf Fw
theorem nls_pick (ls : List Lk) (is : List Nat) : nls (pick ls is) = pick (nls ls) is := pick_map nl ls is
theorem nls_len (ls : List Lk) : (nls ls).length = ls.length := List.length_map _
theorem at_nls {ls : List Lk} {i : Nat} {l : Lk} (h : ls[i]? = some l) : at_ (nls ls) i = nl l := by
  unfold at_ nls
  rw [List.getElem?_map, h]
  rfl
theorem pick_paired {α β : Type} {F : α → β → Prop} {us : List α} {ls : List β} (h : Paired F us ls) : ∀ is : List Nat, Paired F (pick us is) (pick ls is)
  | [] => .nil
  | i :: is => by
    have ih := pick_paired h is
    unfold pick at *
    rw [List.filterMap_cons, List.filterMap_cons]
    cases e : us[i]? with
    | none =>
      have e2 : ls[i]? = none := by
        rw [List.getElem?_eq_none_iff] at e ⊢
        rw [← h.length]
        exact e
      rw [e2]
      exact ih
    | some u =>
      obtain ⟨l, hl, f⟩ := Paired.at h e
      rw [hl]
      exact .cons f ih
theorem castNodup {g : List Nat} (h : g.Nodup) : (g.map fun (i : Nat) => (i : Int)).Nodup := List.pairwise_map.mpr (List.Pairwise.imp (fun h z => h (by omega)) h)
theorem eraseN {g : List Nat} (h : g.Nodup) (i : Nat) : (g.map fun (i : Nat) => (i : Int)).erase (i : Int) = (g.filter (Fw.ne i)).map fun (i : Nat) => (i : Int) := by
  rw [(castNodup h).erase_eq_filter, List.filter_map]
  congr 1
  refine List.filter_congr fun j _ => ?_
  show (!((j : Int) == (i : Int))) = !decide (j = i)
  congr 1
  by_cases z : j = i
  · subst z
    simp
  · rw [decide_eq_false z, beq_eq_false_iff_ne.mpr (by omega)]
theorem castV (g : List Nat) : (g.map fun (i : Nat) => (i : Int)).map V.int = g.map fun (i : Nat) => V.int i := by rw [List.map_map]; rfl
theorem rgV_nat (n : Nat) : rgV 0 (n : Nat) = (List.range n).map fun (i : Nat) => V.int i := by
  unfold rgV
  rw [show ((n : Int) - 0).toNat = n by omega]
  exact List.map_congr_left fun i _ => by rw [Int.zero_add]
theorem pick_take {α : Type} {us : List α} {g : List Nat} {i j x : Nat} (h : g[j]? = some x) (xl : x < us.length) : pick us ((g.take (j + 1)).filter (Fw.ne i)) = pick us ((g.take j).filter (Fw.ne i)) ++ (if x = i then [] else [us[x]]) := by
  rw [take_snoc h, List.filter_append]
  unfold pick
  rw [List.filterMap_append]
  congr 1
  by_cases z : x = i
  · rw [if_pos z]
    simp [Fw.ne, z]
  · rw [if_neg z]
    simp [Fw.ne, z, List.getElem?_eq_getElem xl]
theorem LkOk.pick {n : Nat} {ls : List Lk} {is : List Nat} (h : ∀ l ∈ ls, LkOk (n : Nat) l) : ∀ l ∈ Fw.pick ls is, LkOk (n : Nat) l := fun l hl => h l (pick_mem hl)
theorem TmsP.pick {ls : List Lk} {n : Nat} {ts : List Int} {is : List Nat} (h : TmsP ls n ts) : TmsP (Fw.pick ls is) n ts := ⟨h.1, by rw [nls_pick]; exact keeps_pick is h.2⟩
theorem filter_len {p : Nat → Bool} {g : List Nat} {m : Nat} (h : g.length ≤ m) : (g.filter p).length ≤ m := Nat.le_trans (List.length_filter_le _ _) h
def spNI : Sp := fun vs H Q _ => ∃ (t b : Addr) (n : Nat) (us : List V) (ls : List Lk) (bs : List Int), vs = [.int (n : Nat), .ref t, .ref b] ∧ LsT H t us ls ∧ IsAt H b bs ∧ n ≤ 800 ∧ ls.length ≤ 300 ∧ (∀ l ∈ ls, LkOk (n : Nat) l) ∧ TmsP ls n bs ∧
  ∀ (D : Addr) (H' : Hp), Same H H' → H D = none → H' D = some (.lst ((grd (nls ls) n ls.length).map fun (i : Nat) => V.int i)) → Q (.ref D) H'
section
variable {P : Program} {w : World} {K : PySem.W.Frag} {mg : Str → Option Value} {base : Heap} {cl : String → Addr}
theorem ok_needed_indexes {f : Addr} {fd : FuncData} (F : Fun K "needed_indexes" "needed_indexes" s_needed_indexes f fd) (T : Txt P w K mg cl) : FnOk P w K mg base CX0 5 f fd ["count", "links", "base"] (spNI) := by
  refine F.ok sc_needed_indexes (fun vs H Q E h => ?_) (fun cdv A outer s H vs Q E hr h => ?_)
  · obtain ⟨t, b, n, us, ls, bs, rfl, _⟩ := h
    rfl
  · obtain ⟨t, b, n, us, ls, bs, rfl, hL, hb, ln, ll, lok, Tm, k⟩ := h
    have C_shown : Cal P w K mg base CX0 4 "shown" _ (spShown (cl "Implied") (cl "Unimplied")) := cal_shown T
    refine ⟨_, (pss_cons (ps_set (i := 3) sc_needed_indexes.nd rfl (Or.inl rfl) (by exact (pe_listRg rfl (by rfl) T.n_list (by exact (prg_1 (by rfl) T.n_range (by exact (pe_callB call_len_seq (by rfl) T.n_len PySem.boot_len (pa_cons (pv 1) pa_nil))))))))
        (pss_cons (ps_for PassesOwn.never rfl (pi_range1 rfl T.n_range (pa_cons (pe_callB call_len_seq (by rfl) T.n_len PySem.boot_len (pa_cons (pv 1) pa_nil)) pa_nil)) (pg_name (i := 4) sc_needed_indexes.nd rfl (Or.inr rfl))
          (pss_cons (ps_setLc (i := 5) (own := [("at", 6)]) (g := gName 6)  rfl sc_needed_indexes.nd rfl rfl (sw_true rfl rfl rfl (by decide +kernel)) (pi_list (pv 3)) (blkOk_by (own := [("at", 6)]) (N := ["count", "links", "base", "left", "index", "others", "at"]) (sc := defScope s_needed_indexes) (by decide +kernel)) (fun _ _ _ _ _ => pg_name (i := 6) sc_needed_indexes.nd rfl (Or.inl rfl)) (fun _ _ _ _ _ => pts_one (pt_cmpR op_ne (pv 6) (pv 4) (nomark _))) (fun _ _ _ _ _ => (pe_ix (ix_tupK (K := K) rfl) (pv 1) (pv 6) (fun _ _ => rfl))))
            (pss_one (ps_if (pt_val (pe_callB call_isi (by rfl) T.n_isinstance (by decide +kernel) (pa_cons (pe_cal C_shown (hr.mono (by decide)) (pa_cons (pv 0) (pa_cons (pv 5) (pa_cons (pe_ix ix_tup (pv 1) (pv 4) (fun _ _ => rfl)) (pa_cons (pv 2) pa_nil))))) (pa_cons (pe_cls T.m_Implied) pa_nil))))
              (pss_one (ps_expr (pe_remX rfl takes0 (pv 3) (pv 4)))) pss_nil))))
        (pss_one (ps_ret (pv 3))))), ?_⟩
    have lu := hL.2.length
    have gl : ∀ i, (grd (nls ls) n i).length ≤ 300 := fun i => Nat.le_trans (grd_len i) (by rw [nls_len]; exact ll)
    refine ⟨_, rfl, t, us, rfl, .inr (SqT.of hL.1), _, rfl, RgOk.of_le (by omega) (by omega) (by omega) (by omega), fun D nD => ?_⟩
    have e0 : rgV 0 (us.length : Nat) = (grd (nls ls) n 0).map fun (i : Nat) => V.int i := by
      rw [rgV_nat, lu]
      show _ = (List.range (nls ls).length).map _
      rw [nls_len]
    rw [e0]
    refine ⟨_, rfl, t, us, rfl, .inr (SqT.of (sNew nD _ _ hL.1)), (us.length : Nat), rfl, by omega, by omega, for_range (fun i σ H1 => ∃ (v4 v5 v6 : Option V), σ = [some (.int (n : Nat)), some (.ref t), some (.ref b), some (.ref D), v4, v5, v6] ∧ Same H H1 ∧ H1 D = some (.lst ((grd (nls ls) n i).map fun (i : Nat) => V.int i))) ⟨none, none, none, rfl, sNew nD, upd_same⟩ ?_ ?_⟩
    · rintro i σ H1 hi ⟨v4, v5, v6, rfl, S1, hD⟩
      have il : i < ls.length := by omega
      rw [show (0 : Int) + (i : Nat) = ((i : Nat) : Int) by omega]
      generalize eg : grd (nls ls) n i = g at hD
      have gn : g.Nodup := by rw [← eg]; exact grd_nodup i
      have glt : ∀ j ∈ g, j < ls.length := fun j hj => by
        rw [← eg] at hj
        have := grd_lt hj
        rw [nls_len] at this
        exact this
      have gle : g.length ≤ 300 := by rw [← eg]; exact gl i
      have olt : ∀ j ∈ g.filter (Fw.ne i), j < ls.length := fun j hj => glt j (ne_mem.mp hj).1
      refine ⟨_, rfl, D, rfl, ⟨_, SqL.of hD⟩, fun O nO => lc_list (K := K) (a := D) (xs := g.map fun (i : Nat) => V.int i) (fun j H2 => H2 = upd H1 O (.lst (pick us ((g.take j).filter (Fw.ne i))))) rfl (fun j H2 _ z => by rw [z]; exact SqL.of (sNew nO _ _ hD)) (fun j x H2 hx e => ?_) (fun H2 e => ?_)⟩
      · subst e
        rw [List.getElem?_map] at hx
        obtain ⟨y, hy, rfl⟩ : ∃ y, g[j]? = some y ∧ V.int (y : Nat) = x := by
          cases e : g[j]? with
          | none => rw [e] at hx; cases hx
          | some y => rw [e] at hx; exact ⟨y, rfl, Option.some.inj hx⟩
        have yl := glt y (List.mem_of_getElem? hy)
        have yu : y < us.length := by omega
        have pt := pick_take (us := us) (i := i) hy yu
        have sz : (pick us ((g.take j).filter (Fw.ne i))).length ≤ 300 := by
          rw [pick_len (fun q hq => by have := glt q (List.mem_of_mem_take (ne_mem.mp hq).1); omega)]
          refine filter_len (Nat.le_trans ?_ gle)
          rw [List.length_take]
          omega
        refine ⟨rfl, _, rfl, _, rfl, rfl, _, rfl, ite2 (fun z => ?_) (fun z => ?_)⟩
        · have z : ¬ y = i := fun w => by
            rw [w] at z
            simp at z
          rw [if_neg z] at pt
          refine ⟨_, rfl, _, rfl, t, _, _, _, rfl, rfl, SqT.of (sNew nO _ _ (S1 _ _ hL.1)), atI_nat (List.getElem?_eq_getElem yu), _, upd_same, small1000 (by omega), ?_⟩
          rw [upd_upd, pt]
        · have z : y = i := by
            by_cases q : y = i
            · exact q
            · exfalso
              refine z ?_
              show (!decide (V.int _ = V.int _)) = true
              rw [decide_eq_false fun e => q (by have := V.int.inj e; omega)]
              rfl
          rw [if_pos z, List.append_nil] at pt
          show upd H1 O _ = upd H1 O _
          rw [pt]
      · subst e
        have nOD : D ≠ O := ne_of_none hD nO
        rw [List.length_map, List.take_length]
        have S2 := S1.trans (sNew (o := .lst (pick us (g.filter (Fw.ne i)))) nO)
        have iu : i < us.length := by omega
        obtain ⟨bb, hbb, hcc⟩ := lk_at (hL.same S2) il
        have lol := lok _ (List.getElem_mem il)
        refine ⟨_, rfl, _, rfl, _, rfl, _, rfl, t, _, _, _, rfl, rfl, SqT.of (S2 _ _ hL.1), atI_nat hbb, _, rfl, O, bb, b, n, _, _, ls[i], bs, rfl, ⟨.inl upd_same, pick_paired (hL.same S2).2 _⟩, .inr hcc, IsAt.same hb S2, ln, by rw [pick_len olt]; exact filter_len (by omega), LkOk.pick lok, lol, TmsP.pick Tm, fun x H3 S3 nx hx => ?_⟩
        have S4 := S2.trans S3
        have hD4 := (sNew nO).trans S3 _ _ hD
        have un : grd (nls ls) n (i + 1) = if impB (nls (pick ls (g.filter (Fw.ne i)))) n (nl ls[i]) = true then g.filter (Fw.ne i) else g := by
          rw [nls_pick, ← at_nls (List.getElem?_eq_getElem il), ← eg]
          rfl
        rcases hx with ⟨pa, is, ⟨dq, hq⟩, _, I⟩ | ⟨ta, ts, ⟨dq, hq⟩, _, U⟩
        · refine ⟨_, _, _, _, _, rfl, .own (cl "Implied"), .base (.ins hq T.cl_Implied T.y_Implied T.z1 T.z2 T.z3_Implied), T.k_Im_Im, _, rfl, iteT ?_⟩
          rw [if_pos I.yes] at un
          refine ⟨_, rfl, .inl ⟨rfl, _, SqL.of hD4⟩, _, rfl, D, g.map fun (i : Nat) => (i : Int), i, rfl, rfl, by rw [castV]; exact hD4, fun _ => ⟨_, _, _, rfl, same_upd S4 nD, ?_⟩, fun z => absurd (List.mem_map.mpr ⟨i, by rw [← eg]; exact grd_ahead i i (Nat.le_refl i) (by rw [nls_len]; exact il), rfl⟩) z⟩
          rw [upd_same, eraseN gn, castV, un]
        · refine ⟨_, _, _, _, _, rfl, .own (cl "Implied"), .base (.ins hq T.cl_Unimplied T.y_Unimplied T.z1 T.z2 T.z3_Unimplied), T.k_Un_Im, _, rfl, iteF ?_⟩
          rw [if_neg (by rw [U.no]; decide)] at un
          exact ⟨_, _, _, rfl, S4, by rw [un]; exact hD4⟩
    · rintro σ H1 ⟨v4, v5, v6, rfl, S1, hD⟩
      refine ⟨_, rfl, k D H1 S1 nD ?_⟩
      rw [hD, show ((us.length : Nat) : Int).toNat = ls.length by omega]
theorem cal_needed_indexes (T : Txt P w K mg cl) : Cal P w K mg base CX0 5 "needed_indexes" ["count", "links", "base"] (spNI) := by
  obtain ⟨f, fd, F, m⟩ := T.d_needed_indexes
  exact ⟨f, fd, ok_needed_indexes F T, m, F.kp, F.binds fun _ _ _ _ _ _ us hl => match us, hl with | [_, _, _], _ => rfl⟩
end
end My
set_option Elab.async false
set_option linter.all false
set_option maxRecDepth 100000
set_option maxHeartbeats 1000000
namespace My
open PySem L2 Dw Wp
open C8 (pss_cut tCut)
set_option pp.maxSteps 600
open Bf Fw
theorem grd_filt (ls : List NL) (n : Nat) : ∀ i, ∃ p : Nat → Bool, grd ls n i = (List.range ls.length).filter p
  | 0 => ⟨fun _ => true, (List.filter_eq_self.mpr fun _ _ => rfl).symm⟩
  | i + 1 => by
    obtain ⟨p, e⟩ := grd_filt ls n i
    show ∃ p : Nat → Bool, (if impB (pick ls ((grd ls n i).filter (Fw.ne i))) n (at_ ls i) = true then (grd ls n i).filter (Fw.ne i) else grd ls n i) = _
    split
    · exact ⟨fun x => p x && Fw.ne i x, by rw [e, List.filter_filter]; exact List.filter_congr fun x _ => Bool.and_comm _ _⟩
    · exact ⟨p, e⟩
theorem grd_self (ls : List NL) (n i : Nat) : (List.range ls.length).filter (fun j => decide (j ∈ grd ls n i)) = grd ls n i := by
  obtain ⟨p, e⟩ := grd_filt ls n i
  rw [e]
  refine List.filter_congr fun x hx => ?_
  cases h : p x with
  | true => exact decide_eq_true (List.mem_filter.mpr ⟨hx, h⟩)
  | false => exact decide_eq_false fun z => by rw [(List.mem_filter.mp z).2] at h; cases h
/-- the places that stay -/
abbrev gst (ls : List Lk) (n : Nat) : List Nat := grd (nls ls) n ls.length
def inG (g : List Nat) (j : Nat) : Bool := decide (j ∈ g)
def outG (g : List Nat) (j : Nat) : Bool := !decide (j ∈ g)
def KpAt (ls : List Lk) (n : Nat) (H : Hp) (v : V) (i : Nat) : Prop := ∃ b ta ts l, v = .ref b ∧ H b = some (.tup [.int (i : Nat), .ref ta]) ∧ H ta = some (intT ts) ∧ ls[i]? = some l ∧ UnP (pick ls ((gst ls n).filter (Fw.ne i))) n l ts
def DrAt (ls : List Lk) (n : Nat) (H : Hp) (v : V) (i : Nat) : Prop := ∃ b pa js l, v = .ref b ∧ H b = some (.tup [.int (i : Nat), .ref pa]) ∧ H pa = some (natT js) ∧ ls[i]? = some l ∧ Leads (nls ls) js l.2.1.toNat l.1.toNat ∧ smI (nls ls) js ≤ l.2.2 ∧ js.length ≤ n ∧ ∀ j ∈ js, j ∈ gst ls n
theorem KpAt.same {ls : List Lk} {n : Nat} {H H' : Hp} {v : V} {i : Nat} (h : KpAt ls n H v i) (S : Same H H') : KpAt ls n H' v i := let ⟨b, ta, ts, l, e, h1, h2, h3⟩ := h; ⟨b, ta, ts, l, e, S _ _ h1, S _ _ h2, h3⟩
theorem DrAt.same {ls : List Lk} {n : Nat} {H H' : Hp} {v : V} {i : Nat} (h : DrAt ls n H v i) (S : Same H H') : DrAt ls n H' v i := let ⟨b, ta, ts, l, e, h1, h2, h3⟩ := h; ⟨b, ta, ts, l, e, S _ _ h1, S _ _ h2, h3⟩
theorem tup_updL {H : Hp} {a A : Addr} {xs ys : List V} {o : HO} (h : H a = some (.tup xs)) (e : H A = some (.lst ys)) : upd H A o a = some (.tup xs) := by
  rw [upd_ne (ne_of h e (fun z => nomatch z))]
  exact h
theorem KpAt.updL {ls : List Lk} {n : Nat} {H : Hp} {v : V} {i : Nat} {A : Addr} {ys : List V} {o : HO} (h : KpAt ls n H v i) (e : H A = some (.lst ys)) : KpAt ls n (upd H A o) v i := let ⟨b, ta, ts, l, e0, h1, h2, h3⟩ := h; ⟨b, ta, ts, l, e0, tup_updL h1 e, tup_updL h2 e, h3⟩
theorem DrAt.updL {ls : List Lk} {n : Nat} {H : Hp} {v : V} {i : Nat} {A : Addr} {ys : List V} {o : HO} (h : DrAt ls n H v i) (e : H A = some (.lst ys)) : DrAt ls n (upd H A o) v i := let ⟨b, ta, ts, l, e0, h1, h2, h3⟩ := h; ⟨b, ta, ts, l, e0, tup_updL h1 e, tup_updL h2 e, h3⟩
def NeAt (CN : Addr) (ls : List Lk) (n : Nat) (H : Hp) (x : Addr) : Prop := ∃ A B ku du, (∃ dx, H x = some (.ins CN dx [("kept", .ref A), ("dropped", .ref B)])) ∧ H A = some (.tup ku) ∧ H B = some (.tup du) ∧ Paired (KpAt ls n H) ku (gst ls n) ∧ Paired (DrAt ls n H) du ((List.range ls.length).filter (outG (gst ls n)))
def spNeed (C CT CN : Addr) : Sp := fun vs H Q E => ∃ (p t : Addr) (n : Nat) (us : List V) (ls : List Lk), vs = [.ref p] ∧ SyAt C H p (n : Nat) t us ls ∧ (∀ l ∈ ls, LkOk (n : Nat) l) ∧ n ≤ 800 ∧ ls.length ≤ 300 ∧ NoTm CT ls n H E ∧ ∀ x H', Same H H' → H x = none → (∃ φ, Keeps (nls ls) φ) → NeAt CN ls n H' x → Q (.ref x) H'
theorem filt_snoc (p : Nat → Bool) (i : Nat) : (List.range (i + 1)).filter p = (List.range i).filter p ++ (if p i = true then [i] else []) := by
  rw [List.range_succ, List.filter_append]
  congr 1
  cases h : p i <;> simp [h]
theorem ne_take {g : List Nat} {i j x : Nat} (h : g[j]? = some x) : (g.take (j + 1)).filter (Fw.ne i) = (g.take j).filter (Fw.ne i) ++ (if x = i then [] else [x]) := by
  rw [take_snoc h, List.filter_append]
  congr 1
  by_cases z : x = i
  · rw [if_pos z]; simp [Fw.ne, z]
  · rw [if_neg z]; simp [Fw.ne, z]
theorem pick_snoc {α : Type} {us : List α} {os : List Nat} {j x : Nat} (h : os[j]? = some x) (xl : x < us.length) : pick us (os.take (j + 1)) = pick us (os.take j) ++ [us[x]] := by
  rw [take_snoc h]
  unfold pick
  rw [List.filterMap_append]
  congr 1
  simp [List.getElem?_eq_getElem xl]
theorem nat_at {g : List Nat} {j : Nat} {x : V} (h : (g.map fun (i : Nat) => V.int i)[j]? = some x) : ∃ y, g[j]? = some y ∧ V.int (y : Nat) = x := by
  rw [List.getElem?_map] at h
  cases e : g[j]? with
  | none => rw [e] at h; cases h
  | some y => rw [e] at h; exact ⟨y, rfl, Option.some.inj h⟩
section
variable {P : Program} {w : World} {K : PySem.W.Frag} {mg : Str → Option Value} {base : Heap} {cl : String → Addr}
theorem ok_needed {f : Addr} {fd : FuncData} (F : Fun K "needed" "needed" s_needed f fd) (T : Txt P w K mg cl) : FnOk P w K mg base (L2.CX P w) 6 f fd ["system"] (spNeed (cl "System") (cl "NoTimes") (cl "Needed")) := by
  refine F.okX sc_needed (fun vs H Q E h => ?_) (fun cdv A outer s H vs Q E hr h => ?_)
  · obtain ⟨p, t, n, us, ls, rfl, _⟩ := h
    rfl
  · obtain ⟨p, t, n, us, ls, rfl, X, lok, ln, ll, kE, kQ⟩ := h
    have C_kept_times : Cal P w K mg base (L2.CX P w) 4 "kept_times" _ (spKept (cl "System") (cl "NoTimes")) := cal_kept_times T
    have C_needed_indexes : Cal P w K mg base CX0 5 "needed_indexes" _ spNI := cal_needed_indexes T
    have C_shown : Cal P w K mg base CX0 4 "shown" _ (spShown (cl "Implied") (cl "Unimplied")) := cal_shown T
    have I_Needed : CalC P w K mg base CX0 1 (cl "Needed") _ (spFlds (cl "Needed") ["kept", "dropped"]) := cal_Needed_init T
    refine ⟨_, (pss_cons (ps_set (i := 1) sc_needed.nd rfl (Or.inl rfl) (pe_calS C_kept_times (hr.mono (by decide)) (fun σ => passAt (takes_of rfl rfl rfl rfl) σ) (pa_cons (pv 0) pa_nil)))
        (pss_cons (ps_set (i := 2) sc_needed.nd rfl (Or.inr rfl) (pe_fld (pv 0) rfl))
        (pss_cons (ps_set (i := 3) sc_needed.nd rfl (Or.inl rfl) (pe_cal C_needed_indexes (hr.mono (by decide)) (pa_cons (pe_fld (pv 0) rfl) (pa_cons (pv 2) (pa_cons (pv 1) pa_nil)))))
        (pss_cons (ps_par (i := 4) (j := 5) rfl sc_needed.nd rfl rfl (by decide) rfl rfl (pa_cons (pe_lst pa_nil) (pa_cons (pe_lst pa_nil) pa_nil)) (by rfl))
        (pss_cons (ps_for (passes_of rfl) rfl (pi_enu2 (by rfl) T.n_enumerate (pa_cons (pv 2) pa_nil)) (pg_tup rfl (pgs_cons (pg_name (i := 6) sc_needed.nd rfl (Or.inr rfl)) (pgs_cons (pg_name (i := 7) sc_needed.nd rfl (Or.inl rfl)) pgs_nil)))
          (pss_cons (ps_set (i := 8) sc_needed.nd rfl (Or.inr rfl) (pe_lc (own := [("at", 10)]) (g := gName 10)  rfl sc_needed.nd (pi_list (pv 3)) (blkOk_by (own := [("at", 10)]) (N := ["system", "base", "links", "left", "stay", "fall", "index", "link", "others", "answer", "at", "place"]) (sc := defScope s_needed) (by decide +kernel)) (fun _ _ _ _ _ => pg_name (i := 10) sc_needed.nd rfl (Or.inl rfl)) (fun _ _ _ _ _ => pts_one (pt_cmpR op_ne (pv 10) (pv 6) (nomark _))) (fun _ _ _ _ _ => (pv 10))))
            (pss_cons (ps_set (i := 9) sc_needed.nd rfl (Or.inl rfl) (pe_cal C_shown (hr.mono (by decide)) (pa_cons (pe_fld (pv 0) rfl) (pa_cons (pe_lc (own := [("at", 10)]) (g := gName 10) (tt := tYes) rfl sc_needed.nd (pi_list (pv 8)) (blkOk_by (own := [("at", 10)]) (N := ["system", "base", "links", "left", "stay", "fall", "index", "link", "others", "answer", "at", "place"]) (sc := defScope s_needed) (by decide +kernel)) (fun _ _ _ _ _ => pg_name (i := 10) sc_needed.nd rfl (Or.inl rfl)) (fun _ _ _ _ _ => pts_nil) (fun _ _ _ _ _ => (pe_ix (ix_tupK (K := K) rfl) (pv 2) (pv 10) (fun _ _ => rfl)))) (pa_cons (pv 7) (pa_cons (pv 1) pa_nil))))))
            (pss_one (ps_if (pt_val (pe_callB call_isi (by rfl) T.n_isinstance (by decide +kernel) (pa_cons (pv 9) (pa_cons (pe_cls T.m_Implied) pa_nil))))
              (pss_one (ps_expr (pe_app1 (by exact (pv 5)) (by exact (pa_cons (pe_tup (pa_cons (pv 6) (pa_cons (pe_callTy call_tuple_of (by rfl) T.n_tuple (by decide +kernel) (pa_cons (pe_lc (own := [("place", 11)]) (g := gName 11) (tt := tYes) rfl sc_needed.nd (pi_tup (pe_fld (pv 9) rfl)) (blkOk_by (own := [("place", 11)]) (N := ["system", "base", "links", "left", "stay", "fall", "index", "link", "others", "answer", "at", "place"]) (sc := defScope s_needed) (by decide +kernel)) (fun _ _ _ _ _ => pg_name (i := 11) sc_needed.nd rfl (Or.inl rfl)) (fun _ _ _ _ _ => pts_nil) (fun _ _ _ _ _ => (pe_ix (ix_listK (K := K) rfl) (pv 8) (pv 11) (fun _ _ => rfl)))) pa_nil)) pa_nil))) pa_nil))))) (pss_one (ps_expr (pe_app1 (by exact (pv 4)) (by exact (pa_cons (pe_tup (pa_cons (pv 6) (pa_cons (pe_fld (pv 9) rfl) pa_nil))) pa_nil))))))))))
        (pss_one (ps_ret (pe_mk I_Needed T.m_Needed (hr.mono (by decide))  (pa_cons (pe_callTy call_tuple_of (by rfl) T.n_tuple (by decide +kernel) (pa_cons (pv 4) pa_nil)) (pa_cons (pe_callTy call_tuple_of (by rfl) T.n_tuple (by decide +kernel) (pa_cons (pv 5) pa_nil)) pa_nil)))))))))), ?_⟩
    obtain ⟨dx, hself⟩ := X.self
    obtain ⟨ok, pos⟩ := pn lok
    refine ⟨_, rfl, p, t, n, us, ls, rfl, X, lok, by omega, by omega, kE, fun bt bs H1 Tm S1 hbt => ?_⟩
    have hself1 := S1 _ _ hself
    have X1 := X.same S1
    refine ⟨_, rfl, p, _, _, _, _, rfl, hself1, T.cl_System, T.na_System _ (by decide), rfl, ?_⟩
    refine ⟨_, rfl, p, _, _, _, _, rfl, hself1, T.cl_System, T.na_System _ (by decide), rfl, _, rfl, _, rfl, t, bt, n, us, ls, bs, rfl, ⟨X1.rows, X1.each⟩, .inr hbt, ln, ll, lok, Tm, fun D H2 S2 nD hD => ?_⟩
    refine ⟨by show 0 ≤ sizeLine; exact Nat.zero_le _, fun A nA => ⟨by show 0 ≤ sizeLine; exact Nat.zero_le _, fun B nB => ?_⟩⟩
    have X2 := X1.same S2
    have S3 := S2.trans ((sNew (o := .lst []) nA).trans (sNew (o := .lst []) nB))
    have nA1 := S2.free nA
    have nB1 := (S2.trans (sNew (o := .lst []) nA)).free nB
    have nAB : A ≠ B := ne_of_none (show upd H2 A (.lst []) A = some _ from upd_same) nB
    have nDA : D ≠ A := ne_of_none hD nA
    have nDB : D ≠ B := ne_of_none (sNew (o := .lst []) nA _ _ hD) nB
    have ext : ∃ φ, Keeps (nls ls) φ := ⟨_, Tm.2⟩
    have gle : (gst ls n).length ≤ 300 := Nat.le_trans (grd_len _) (by rw [nls_len]; exact ll)
    have glt : ∀ j ∈ gst ls n, j < ls.length := fun j hj => by
      have := grd_lt hj
      rw [nls_len] at this
      exact this
    have hX3 := X1.same S3
    refine ⟨_, _, rfl, ?_⟩
    refine ⟨_, rfl, t, us, rfl, .inr hX3.rows, fun J wk => for_it wk (fun i σ H3 => Same H1 H3 ∧ H3 D = some (.lst ((gst ls n).map fun (i : Nat) => V.int i)) ∧ ∃ (ku du : List V) (v6 v7 v8 v9 : Option V), σ = [some (.ref p), some (.ref bt), some (.ref t), some (.ref D), some (.ref A), some (.ref B), v6, v7, v8, v9, none, none] ∧ H3 A = some (.lst ku) ∧ H3 B = some (.lst du) ∧ Paired (KpAt ls n H3) ku ((List.range i).filter (inG (gst ls n))) ∧ Paired (DrAt ls n H3) du ((List.range i).filter (outG (gst ls n)))) ⟨S3, ?_, [], [], _, _, _, _, rfl, ?_, upd_same, .nil, .nil⟩ (fun j σ H3 _ q => (q.1 _ _ X1.rows).trans (hX3.rows).symm) ?_ ?_⟩
    · rw [upd_ne nDB, upd_ne nDA]
      exact hD
    · rw [upd_ne nAB]
      exact upd_same
    · rintro i xv σ H3 H4 hi ⟨S3, hD3, ku, du, v6, v7, v8, v9, rfl, hA, hB, pk, pd⟩ ⟨Tt, x1, y1, rfl, hT, rfl, q1, q2⟩
      cases q1
      obtain ⟨l, hl, b, rfl, hb⟩ := Paired.at X1.each q2
      have il := (List.getElem?_eq_some_iff.mp hl).1
      have ST := sNew (o := .tup [.int (i : Nat), .ref b]) hT
      refine ⟨Tt, _, rfl, SqT.of upd_same, rfl, _, _, rfl, _, _, rfl, rfl, ?_⟩
      have S4 := S3.trans ST
      have hD4 := ST _ _ hD3
      have hA4 := ST _ _ hA
      have hB4 := ST _ _ hB
      have pk := Paired.impP (fun _ _ h => KpAt.same h ST) pk
      have pd := Paired.impP (fun _ _ h => DrAt.same h ST) pd
      generalize upd H3 Tt (.tup [.int (i : Nat), .ref b]) = H4 at S4 hD4 hA4 hB4 pk pd
      clear hA hB hD3 ST
      have lk : ku.length ≤ 300 := by
        rw [pk.length]
        exact Nat.le_trans (List.length_filter_le _ _) (by rw [List.length_range]; omega)
      have ld : du.length ≤ 300 := by
        rw [pd.length]
        exact Nat.le_trans (List.length_filter_le _ _) (by rw [List.length_range]; omega)
      have lu := X1.each.length
      refine ⟨_, rfl, D, rfl, ⟨_, SqL.of hD4⟩, fun O nO => lc_list (K := K) (a := D) (xs := (gst ls n).map fun (i : Nat) => V.int i) (fun j H5 => H5 = upd H4 O (.lst ((((gst ls n).take j).filter (Fw.ne i)).map fun (i : Nat) => V.int i))) rfl (fun j H5 _ z => by rw [z]; exact SqL.of (sNew nO _ _ hD4)) (fun j x H5 hx e => ?_) (fun H5 e => ?_)⟩
      · subst e
        obtain ⟨y, hy, rfl⟩ := nat_at hx
        have pt := ne_take (i := i) hy
        refine ⟨rfl, _, rfl, _, rfl, rfl, _, rfl, ite2 (fun z => ?_) (fun z => ?_)⟩
        · have z : ¬ y = i := fun w => by
            rw [w] at z
            simp at z
          rw [if_neg z] at pt
          refine ⟨_, rfl, _, upd_same, small1000 ?_, ?_⟩
          · rw [List.length_map]
            have := filter_len (p := Fw.ne i) (g := (gst ls n).take j) (m := 300) (by rw [List.length_take]; omega)
            omega
          · rw [upd_upd, pt, List.map_append]
            rfl
        · have z : y = i := by
            by_cases q : y = i
            · exact q
            · exfalso
              refine z ?_
              show (!decide (V.int _ = V.int _)) = true
              rw [decide_eq_false fun e => q (by have := V.int.inj e; omega)]
              rfl
          rw [if_pos z, List.append_nil] at pt
          show upd H4 O _ = upd H4 O _
          rw [pt]
      rw [List.length_map, List.take_length] at e
      generalize eos : (gst ls n).filter (Fw.ne i) = os at e
      have olt : ∀ j ∈ os, j < ls.length := fun j hj => glt j (by rw [← eos] at hj; exact (ne_mem.mp hj).1)
      have ole : os.length ≤ 300 := by rw [← eos]; exact filter_len gle
      subst e
      have SO := sNew (o := .lst (os.map fun (i : Nat) => V.int i)) nO
      have S5 := S4.trans SO
      have hO : upd H4 O (.lst (os.map fun (i : Nat) => V.int i)) O = some (.lst (os.map fun (i : Nat) => V.int i)) := upd_same
      have hD5 := SO _ _ hD4
      have hA5 := SO _ _ hA4
      have hB5 := SO _ _ hB4
      have pk := Paired.impP (fun _ _ h => KpAt.same h SO) pk
      have pd := Paired.impP (fun _ _ h => DrAt.same h SO) pd
      generalize upd H4 O (.lst (os.map fun (i : Nat) => V.int i)) = H5 at S5 hO hD5 hA5 hB5 pk pd
      have hself5 := S5 _ _ hself1
      have ht5 := S5 _ _ X1.rows
      refine ⟨_, rfl, p, _, _, _, _, rfl, hself5, T.cl_System, T.na_System _ (by decide), rfl, _, rfl, O, rfl, ⟨_, SqL.of hO⟩, fun O2 nO2 => lc_list (K := K) (a := O) (xs := os.map fun (i : Nat) => V.int i) (fun j H6 => H6 = upd H5 O2 (.lst (pick us (os.take j)))) rfl (fun j H6 _ z => by rw [z]; exact SqL.of (sNew nO2 _ _ hO)) (fun j x H6 hx e => ?_) (fun H6 e => ?_)⟩
      · subst e
        obtain ⟨y, hy, rfl⟩ := nat_at hx
        have yl := olt y (List.mem_of_getElem? hy)
        have yu : y < us.length := by omega
        refine ⟨rfl, _, rfl, _, rfl, t, _, _, _, rfl, rfl, SqT.of (sNew nO2 _ _ ht5), atI_nat (List.getElem?_eq_getElem yu), _, upd_same, small1000 ?_, ?_⟩
        · rw [pick_len fun q hq => by have := olt q (List.mem_of_mem_take hq); omega, List.length_take]
          omega
        · rw [upd_upd, pick_snoc hy yu]
      rw [List.length_map, List.take_length] at e
      subst e
      have S2' := sNew (o := .lst (pick us os)) nO2
      have S6 := S5.trans S2'
      refine ⟨_, rfl, _, rfl, O2, b, bt, n, pick us os, pick ls os, l, bs, rfl, ⟨.inl upd_same, pick_paired (X1.same S6).each os⟩, .inr (S6 _ _ hb), .inr (S6 _ _ hbt), by omega, by rw [pick_len olt]; omega, LkOk.pick lok, lok l (List.mem_of_getElem? hl), TmsP.pick Tm, fun x H7 S7 nx hx => ?_⟩
      have S57 := S2'.trans S7
      have S17 := S6.trans S7
      have hO7 := S57 _ _ hO
      have hD7 := S57 _ _ hD5
      have hA7 := S57 _ _ hA5
      have hB7 := S57 _ _ hB5
      have pk := Paired.impP (fun _ _ h => KpAt.same h S57) pk
      have pd := Paired.impP (fun _ _ h => DrAt.same h S57) pd
      have fk := filt_snoc (inG (gst ls n)) i
      have fd' := filt_snoc (outG (gst ls n)) i
      have imp : impB (pick (nls ls) ((gst ls n).filter (Fw.ne i))) n (at_ (nls ls) i) = impB (nls (pick ls os)) n (nl l) := by rw [eos, nls_pick, at_nls hl]
      have ln' : i < (nls ls).length := by rw [nls_len]; exact il
      rcases hx with ⟨pa, is, ⟨dq, hq⟩, hpa, I⟩ | ⟨ta, ts, ⟨dq, hq⟩, hta, U⟩
      · refine ⟨_, rfl, _, _, _, _, _, rfl, .own (cl "Implied"), .base (.ins hq T.cl_Implied T.y_Implied T.z1 T.z2 T.z3_Implied), T.k_Im_Im, _, rfl, iteT ?_⟩
        have nin : i ∉ gst ls n := fun z => by
          have h := grd_in ok Tm.2 (i := i) (by rw [nls_len]; exact z)
          rw [nls_len, imp, I.yes] at h
          cases h
        have e1 : inG (gst ls n) i = false := decide_eq_false nin
        have e2 : outG (gst ls n) i = true := by unfold outG; rw [decide_eq_false nin]; rfl
        rw [if_neg (by rw [e1]; decide), List.append_nil] at fk
        rw [if_pos e2] at fd'
        have il2 := I.lead
        rw [nls_pick] at il2
        obtain ⟨g1, g2, g3⟩ := pick_leads (fun j hj => by rw [nls_len]; exact olt j hj) il2
        refine ⟨_, rfl, .inl ⟨rfl, _, SqL.of hB7⟩, _, rfl, _, rfl, x, _, _, _, _, rfl, hq, T.cl_Implied, T.na_Implied _ (by decide), rfl, pa, rfl, ⟨_, SqT.of hpa⟩, fun O3 nO3 => lc_tup (K := K) (a := pa) (xs := is.map fun (i : Nat) => V.int i) (fun j H8 => H8 = upd H7 O3 (.lst (((is.take j).map fun k => os[k]?.getD 0).map fun (i : Nat) => V.int i))) rfl (fun j H8 _ z => by rw [z]; exact SqT.of (sNew nO3 _ _ hpa)) (fun j x H8 hx e => ?_) (fun H8 e => ?_)⟩
        · subst e
          obtain ⟨y, hy, rfl⟩ := nat_at hx
          have yl := g3 y (List.mem_of_getElem? hy)
          have jl := (List.getElem?_eq_some_iff.mp hy).1
          have := I.len
          refine ⟨rfl, _, rfl, _, rfl, O, _, _, _, rfl, rfl, SqL.of (sNew nO3 _ _ hO7), atI_nat (j := y) (v := .int ((os[y]?.getD 0 : Nat) : Int)) ?_, _, upd_same, small1000 ?_, ?_⟩
          · rw [List.getElem?_map, List.getElem?_eq_getElem yl]
            rfl
          · rw [List.length_map, List.length_map, List.length_take]
            omega
          · rw [upd_upd, take_snoc hy, List.map_append, List.map_append]
            rfl
        rw [List.length_map, List.take_length] at e
        subst e
        refine ⟨O3, _, rfl, .inl ⟨SqL.of upd_same, fun pa' npa' => ⟨by show 2 ≤ sizeLine; decide, fun q nq => ?_⟩⟩⟩
        have SA := (sNew (o := .lst ((is.map fun k => os[k]?.getD 0).map fun (i : Nat) => V.int i)) nO3).trans (sNew (o := natT (is.map fun k => os[k]?.getD 0)) npa')
        have SB := sNew (o := .tup [.int (i : Nat), .ref pa']) nq
        have S8 := SA.trans SB
        have hB8 := S8 _ _ hB7
        have hpa8 := SB _ _ (upd_same (H := upd H7 O3 (.lst ((is.map fun k => os[k]?.getD 0).map fun (i : Nat) => V.int i))) (a := pa') (o := natT (is.map fun k => os[k]?.getD 0)))
        have nBt : ∀ {a : Addr} {o : HO}, H1 a = some o → a ≠ B := fun e => ne_of_none (S2.trans (sNew (o := .lst []) nA) _ _ e) nB
        refine ⟨B, _, _, rfl, rfl, hB8, small1000 (by omega), same_upd (S17.trans S8) nB1, ?_, ku, du ++ [.ref q], _, _, _, _, rfl, ?_, upd_same, ?_, ?_⟩
        · rw [upd_ne nDB]
          exact S8 _ _ hD7
        · rw [upd_ne nAB]
          exact S8 _ _ hA7
        · rw [fk]
          exact Paired.impP (fun _ _ h => KpAt.updL (KpAt.same h S8) hB8) pk
        · rw [fd']
          refine Paired.appendP (Paired.impP (fun _ _ h => DrAt.updL (DrAt.same h S8) hB8) pd) (.cons ⟨q, pa', is.map fun k => os[k]?.getD 0, l, rfl, tup_updL upd_same hB8, tup_updL hpa8 hB8, hl, g1, ?_, ?_, ?_⟩ .nil)
          · rw [g2, ← nls_pick]
            exact I.sum
          · rw [List.length_map]
            exact I.len
          · intro j hj
            obtain ⟨k, hk, rfl⟩ := List.mem_map.mp hj
            have kl := g3 k hk
            rw [List.getElem?_eq_getElem kl]
            have h : os[k] ∈ os := List.getElem_mem kl
            show os[k] ∈ gst ls n
            generalize os[k] = z at h ⊢
            rw [← eos] at h
            exact (ne_mem.mp h).1
      · refine ⟨_, rfl, _, _, _, _, _, rfl, .own (cl "Implied"), .base (.ins hq T.cl_Unimplied T.y_Unimplied T.z1 T.z2 T.z3_Unimplied), T.k_Un_Im, _, rfl, iteF ?_⟩
        have yin : i ∈ gst ls n := Decidable.byContradiction fun z => by
          have h := grd_out ok Tm.2 (i := i) ln' (by rw [nls_len]; exact z)
          rw [nls_len, imp, U.no] at h
          cases h
        have e1 : inG (gst ls n) i = true := decide_eq_true yin
        have e2 : outG (gst ls n) i = false := by unfold outG; rw [decide_eq_true yin]; rfl
        rw [if_pos e1] at fk
        rw [if_neg (by rw [e2]; decide), List.append_nil] at fd'
        refine ⟨_, rfl, .inl ⟨rfl, _, SqL.of hA7⟩, _, rfl, _, rfl, x, _, _, _, _, rfl, hq, T.cl_Unimplied, T.na_Unimplied _ (by decide), rfl, by show 2 ≤ sizeLine; decide, fun q nq => ?_⟩
        have S8 := sNew (o := .tup [.int (i : Nat), .ref ta]) nq
        have hA8 := S8 _ _ hA7
        refine ⟨A, _, _, rfl, rfl, hA8, small1000 (by omega), same_upd (S17.trans S8) nA1, ?_, ku ++ [.ref q], du, _, _, _, _, rfl, upd_same, ?_, ?_, ?_⟩
        · rw [upd_ne nDA]
          exact S8 _ _ hD7
        · rw [upd_ne (Ne.symm nAB)]
          exact S8 _ _ hB7
        · rw [fk]
          exact Paired.appendP (Paired.impP (fun _ _ h => KpAt.updL (KpAt.same h S8) hA8) pk) (.cons ⟨q, ta, ts, l, rfl, tup_updL upd_same hA8, tup_updL (S8 _ _ hta) hA8, hl, by rw [eos]; exact U⟩ .nil)
        · rw [fd']
          exact Paired.impP (fun _ _ h => DrAt.updL (DrAt.same h S8) hA8) pd
    · rintro σ H3 ⟨S3, hD3, ku, du, v6, v7, v8, v9, rfl, hA, hB, pk, pd⟩
      rw [X1.each.length] at pk pd
      have eg : (List.range ls.length).filter (inG (gst ls n)) = gst ls n := by
        have := grd_self (nls ls) n ls.length
        rw [nls_len] at this
        exact this
      rw [eg] at pk
      refine ⟨_, rfl, A, _, rfl, .inl ⟨SqL.of hA, fun qa nqa => ?_⟩⟩
      have Sa := sNew (o := .tup ku) nqa
      refine ⟨_, rfl, B, _, rfl, .inl ⟨SqL.of (Sa _ _ hB), fun qb nqb => ?_⟩⟩
      have Sb := sNew (o := .tup du) nqb
      refine fun x d nx nd ne => ⟨x, d, [.ref qa, .ref qb], rfl, rfl, upd_same, rfl, ?_⟩
      have M := made (o1 := .own x) (o2 := .ins (cl "Needed") d []) (o3 := .ins (cl "Needed") d [("kept", .ref qa), ("dropped", .ref qb)]) nx nd
      have S := Sa.trans (Sb.trans M)
      refine kQ x _ (S1.trans (S3.trans S)) ((S1.trans (S3.trans (Sa.trans Sb))).free nx) ext ⟨qa, qb, ku, du, ⟨d, upd_same⟩, M _ _ (Sb _ _ upd_same), M _ _ upd_same, Paired.impP (fun _ _ h => KpAt.same h S) pk, Paired.impP (fun _ _ h => DrAt.same h S) pd⟩
theorem cal_needed (T : Txt P w K mg cl) : Cal P w K mg base (L2.CX P w) 6 "needed" ["system"] (spNeed (cl "System") (cl "NoTimes") (cl "Needed")) := by
  obtain ⟨f, fd, F, m⟩ := T.d_needed
  exact ⟨f, fd, ok_needed F T, m, F.kp, F.binds fun _ _ _ _ _ _ us hl => match us, hl with | [_], _ => rfl⟩
end
end My
set_option Elab.async false
set_option linter.all false
set_option maxRecDepth 100000
set_option maxHeartbeats 1000000
namespace My
open PySem L2 Dw Wp
open C8 (pss_cut tCut)
set_option pp.maxSteps 600
open Bf Fw
def PaAt (ls : List Lk) (n : Nat) (H : Hp) (v : V) (l : Lk) : Prop := ∃ pa is, v = .ref pa ∧ H pa = some (natT is) ∧ ImpP ls n l is
theorem PaAt.same {ls : List Lk} {n : Nat} {H H' : Hp} {v : V} {l : Lk} (h : PaAt ls n H v l) (S : Same H H') : PaAt ls n H' v l := let ⟨pa, is, e, h1, h2⟩ := h; ⟨pa, is, e, S _ _ h1, h2⟩
theorem PaAt.updL {ls : List Lk} {n : Nat} {H : Hp} {v : V} {l : Lk} {A : Addr} {ys : List V} {o : HO} (h : PaAt ls n H v l) (e : H A = some (.lst ys)) : PaAt ls n (upd H A o) v l := let ⟨pa, is, e0, h1, h2⟩ := h; ⟨pa, is, e0, tup_updL h1 e, h2⟩
def CmAt (CK CP : Addr) (ls1 ls2 : List Lk) (n : Nat) (H : Hp) (x : Addr) : Prop :=
  (∃ A pu, RgAt CK H x "paths" A ∧ H A = some (.tup pu) ∧ Paired (PaAt ls2 n H) pu ls1) ∨
  (∃ (i : Nat) (ta : Addr) (ts : List Int) (l : Lk), (∃ dx, H x = some (.ins CP dx [("index", .int (i : Nat)), ("times", .ref ta)])) ∧ H ta = some (intT ts) ∧ ls1[i]? = some l ∧ UnP ls2 n l ts ∧ ∀ j, j < i → ∀ l', ls1[j]? = some l' → impB (nls ls2) n (nl l') = true)
def spCmp (C CO CT CK CP : Addr) : Sp := fun vs H Q E => ∃ (p q t1 t2 : Addr) (m n : Nat) (us1 us2 : List V) (ls1 ls2 : List Lk), vs = [.ref p, .ref q] ∧ SyAt C H p (m : Nat) t1 us1 ls1 ∧ SyAt C H q (n : Nat) t2 us2 ls2 ∧ (∀ l ∈ ls1, LkOk (m : Nat) l) ∧ (∀ l ∈ ls2, LkOk (n : Nat) l) ∧ n ≤ 800 ∧ ls1.length ≤ 300 ∧ ls2.length ≤ 300 ∧
  (m ≠ n → ∀ G, Same H G → E (.ref CO) none G) ∧ (m = n → NoTm CT ls2 n H E) ∧ (m = n → ∀ x H', Same H H' → H x = none → (∃ φ, Keeps (nls ls2) φ) → CmAt CK CP ls1 ls2 n H' x → Q (.ref x) H')
section
variable {P : Program} {w : World} {K : PySem.W.Frag} {mg : Str → Option Value} {base : Heap} {cl : String → Addr}
theorem oki0_OtherCount {f : Addr} {fd : FuncData} (F : Fun K "__init__" "OtherCount.__init__" s_OtherCount_init f fd) (T : Txt P w K mg cl) : FnOk P w K mg base CX0 1 f fd ["self"] (spIni0 (cl "OtherCount")) := by
  refine F.ok sc_OtherCount_init (fun vs H Q E h => ?_) (fun cdv A outer s H vs Q E hr h => ?_)
  · obtain ⟨a, rfl, _⟩ := h
    rfl
  · obtain ⟨a, rfl, ha, k⟩ := h
    refine ⟨_, (pss_one (ps_expr (pe_deinit T.cr T.vi T.m_DeedError (pa_cons (pv 0) (pa_cons pe_str pa_nil))))), ?_⟩
    exact ⟨_, rfl, a, cl "OtherCount", [.str _], rfl, by decide, T.o_OtherCount, ha, k⟩
theorem ini0_OtherCount (T : Txt P w K mg cl) : CalO P w K mg base 1 (cl "OtherCount") ["self"] (spIni0 (cl "OtherCount")) := by
  obtain ⟨f, fd, F, h1, h2⟩ := T.i_OtherCount
  exact ⟨T.o_OtherCount, f, fd, oki0_OtherCount F T, h1, h2, F.binds fun _ _ _ _ _ _ us hl => match us, hl with | [_], _ => rfl⟩
theorem ok_compare_systems {f : Addr} {fd : FuncData} (F : Fun K "compare_systems" "compare_systems" s_compare_systems f fd) (T : Txt P w K mg cl) : FnOk P w K mg base (L2.CX P w) 5 f fd ["one", "other"] (spCmp (cl "System") (cl "OtherCount") (cl "NoTimes") (cl "KeptByAll") (cl "PartedAt")) := by
  refine F.okX sc_compare_systems (fun vs H Q E h => ?_) (fun cdv A outer s H vs Q E hr h => ?_)
  · obtain ⟨p, q, t1, t2, m, n, us1, us2, ls1, ls2, rfl, _⟩ := h
    rfl
  · obtain ⟨p, q, t1, t2, m, n, us1, us2, ls1, ls2, rfl, X, Y, lok1, lok2, ln, ll1, ll2, kO, kE, kQ⟩ := h
    have C_settle : Cal P w K mg base CX0 2 "settle" _ spSettle := cal_settle T
    have C_shown : Cal P w K mg base CX0 4 "shown" _ (spShown (cl "Implied") (cl "Unimplied")) := cal_shown T
    have I_KeptByAll : CalC P w K mg base CX0 1 (cl "KeptByAll") _ (spFlds (cl "KeptByAll") ["paths"]) := cal_KeptByAll_init T
    have I_PartedAt : CalC P w K mg base CX0 1 (cl "PartedAt") _ (spFlds (cl "PartedAt") ["index", "times"]) := cal_PartedAt_init T
    refine ⟨_, (pss_cons (ps_if (pt_cmpR op_ne (pe_fld (pv 0) rfl) (pe_fld (pv 1) rfl) (nomark _))
          (pss_one (ps_raiseO0 rfl rfl (ini0_OtherCount (base := base) T) T.m_OtherCount (hr.mono (by decide)) (takes_of rfl rfl rfl rfl))) pss_nil)
        (pss_cons (ps_asg (pe_cal C_settle (hr.mono (by decide)) (pa_cons (pe_fld (pv 1) rfl) (pa_cons (pe_lc (own := [("place", 9)]) (g := gName 9) (tt := tYes) rfl sc_compare_systems.nd (pi_range1 rfl T.n_range (pa_cons (pe_fld (pv 1) rfl) pa_nil)) (blkOk_by (own := [("place", 9)]) (N := ["one", "other", "times", "_", "ring", "paths", "index", "link", "answer", "place"]) (sc := defScope s_compare_systems) (by decide +kernel)) (fun _ _ _ _ _ => pg_name (i := 9) sc_compare_systems.nd rfl (Or.inl rfl)) (fun _ _ _ _ _ => pts_nil) (fun _ _ _ _ _ => pe_int)) pa_nil))) (pg_tup rfl (pgs_cons (pg_name (i := 2) sc_compare_systems.nd rfl (Or.inl rfl)) (pgs_cons (pg_name (i := 3) sc_compare_systems.nd rfl (Or.inl rfl)) (pgs_cons (pg_name (i := 4) sc_compare_systems.nd rfl (Or.inl rfl)) pgs_nil)))))
        (pss_cons (ps_if (pt_cmpR op_notN (pv 4) pe_non (nomark _))
          (pss_one (ps_raiseO rfl (ini_NoTimes (base := base) T) T.m_NoTimes (hr.mono (by decide)) (takes_of rfl rfl rfl rfl) (by exact (pa_cons (pv 4) pa_nil)))) pss_nil)
        (pss_cons (ps_set (i := 5) sc_compare_systems.nd rfl (Or.inl rfl) (pe_lst pa_nil))
        (pss_cons (ps_for (passes_of rfl) rfl (pi_enu2 (by rfl) T.n_enumerate (pa_cons (pe_fld (pv 0) rfl) pa_nil)) (pg_tup rfl (pgs_cons (pg_name (i := 6) sc_compare_systems.nd rfl (Or.inl rfl)) (pgs_cons (pg_name (i := 7) sc_compare_systems.nd rfl (Or.inl rfl)) pgs_nil)))
          (pss_cons (ps_set (i := 8) sc_compare_systems.nd rfl (Or.inl rfl) (pe_cal C_shown (hr.mono (by decide)) (pa_cons (pe_fld (pv 1) rfl) (pa_cons (pe_fld (pv 1) rfl) (pa_cons (pv 7) (pa_cons (pv 2) pa_nil))))))
            (pss_cons (ps_if (pt_not (pt_val (pe_callB call_isi (by rfl) T.n_isinstance (by decide +kernel) (pa_cons (pv 8) (pa_cons (pe_cls T.m_Implied) pa_nil)))))
              (pss_one (ps_ret (pe_mk I_PartedAt T.m_PartedAt (hr.mono (by decide))  (pa_cons (pv 6) (pa_cons (pe_fld (pv 8) rfl) pa_nil))))) pss_nil)
            (pss_one (ps_expr (pe_app1 (by exact (pv 5)) (by exact (pa_cons (pe_fld (pv 8) rfl) pa_nil))))))))
        (pss_one (ps_ret (pe_mk I_KeptByAll T.m_KeptByAll (hr.mono (by decide))  (pa_cons (pe_callTy call_tuple_of (by rfl) T.n_tuple (by decide +kernel) (pa_cons (pv 5) pa_nil)) pa_nil))))))))), ?_⟩
    obtain ⟨dx, hself⟩ := X.self
    obtain ⟨dy, hoth⟩ := Y.self
    obtain ⟨ok, pos⟩ := pn lok2
    refine ⟨_, rfl, p, _, _, _, _, rfl, hself, T.cl_System, T.na_System _ (by decide), rfl, _, rfl, q, _, _, _, _, rfl, hoth, T.cl_System, T.na_System _ (by decide), rfl, rfl, _, rfl, ?_⟩
    by_cases emn : m = n
    rotate_left
    · rw [decide_eq_false fun e => emn (by have := V.int.inj e; omega)]
      exact iteT (raise0 (H0 := H) (Same.refl H) rfl (raises_own T.o_OtherCount.exC T.o_OtherCount.tyC) (kO emn))
    have kE := kE emn
    have kQ := kQ emn
    subst emn
    rw [decide_eq_true rfl]
    refine iteF ?_
    refine ⟨_, rfl, q, _, _, _, _, rfl, hoth, T.cl_System, T.na_System _ (by decide), rfl, _, rfl, q, _, _, _, _, rfl, hoth, T.cl_System, T.na_System _ (by decide), rfl, (m : Int), rfl, by omega, by omega, fun D nD => lc_range (fun i H' => H' = upd H D (.lst ((zr i).map oiV))) rfl ?_ ?_⟩
    · rintro i H' hi e
      subst e
      refine ⟨rfl, _, upd_same, small1000 (by rw [List.length_map, zr_len]; omega), ?_⟩
      rw [upd_upd, zr_succ, List.map_append]
      rfl
    · rintro H' e
      subst e
      refine ⟨t2, D, us2, ls2, zr m, rfl, ⟨.inr (sNew nD _ _ Y.rows), (Y.same (sNew nD)).each⟩, upd_same, by rw [zr_len]; exact ln, by omega, by rw [zr_len]; exact ok, pos, fun R A B v3 H2 S2 nA nB hA hB hR hv => ?_⟩
      refine ⟨R, _, rfl, SqT.of hR, rfl, _, _, rfl, _, _, rfl, _, _, rfl, rfl, ?_⟩
      have S := (sNew nD).trans S2
      have ok' : IxOk (zr m).length (nls ls2) := by rw [zr_len]; exact ok
      rcases hv with ⟨h2, rfl⟩ | ⟨h2, C, is, z, rfl, hC, h3, h4, h5, h6⟩
      · refine ⟨_, rfl, rfl, _, rfl, iteF ?_⟩
        obtain ⟨l1, _, _, _, so, _⟩ := sett_kept ok' h2
        have kp := sett_all ok' h2 fun v hv => zr_at (by rw [zr_len] at hv; exact hv)
        obtain ⟨ts, e1, e2, e3⟩ := all_some (xs := (sett (nls ls2) (zr m)).1.ts) fun v hv => so v (zr_at (by rw [l1, zr_len] at hv; exact hv))
        rw [e1] at hA
        rw [l1, zr_len] at e2
        have Tm : TmsP ls2 m ts := ⟨e2, fun l hl => by rw [e3, e3]; exact kp l hl⟩
        refine ⟨by show 0 ≤ sizeLine; exact Nat.zero_le _, fun Pp nP => ?_⟩
        have SP := sNew (o := .lst []) nP
        have S3 := S.trans SP
        have X3 := X.same S3
        have nPH := S.free nP
        refine ⟨_, rfl, p, _, _, _, _, rfl, S3 _ _ hself, T.cl_System, T.na_System _ (by decide), rfl, t1, us1, rfl, .inr X3.rows, fun J wk => for_it wk (fun i σ H3 => Same H H3 ∧ H3 A = some (.lst (ts.map V.int)) ∧ ∃ (pu : List V) (v6 v7 v8 : Option V), σ = [some (.ref p), some (.ref q), some (.ref A), some (.ref B), some .non, some (.ref Pp), v6, v7, v8, none] ∧ H3 Pp = some (.lst pu) ∧ Paired (PaAt ls2 m H3) pu (ls1.take i)) ⟨S3, SP _ _ hA, [], _, _, _, rfl, upd_same, .nil⟩ (fun j σ H3 _ q => (q.1 _ _ X.rows).trans (X3.rows).symm) ?_ ?_⟩
        · rintro i xv σ H3 H4 hi ⟨S3, hA3, pu, v6, v7, v8, rfl, hP, pk⟩ ⟨Tt, x1, y1, rfl, hT, rfl, q1, q2⟩
          cases q1
          obtain ⟨l, hl, b, rfl, hb⟩ := Paired.at X.each q2
          have il := (List.getElem?_eq_some_iff.mp hl).1
          have ST := sNew (o := .tup [.int (i : Nat), .ref b]) hT
          refine ⟨Tt, _, rfl, SqT.of upd_same, rfl, _, _, rfl, _, _, rfl, rfl, ?_⟩
          have S4 := S3.trans ST
          have hA4 := ST _ _ hA3
          have hP4 := ST _ _ hP
          have pk := Paired.impP (fun _ _ h => PaAt.same h ST) pk
          generalize upd H3 Tt (.tup [.int (i : Nat), .ref b]) = H4 at S4 hA4 hP4 pk
          have Y4 := Y.same S4
          have ho4 := S4 _ _ hoth
          have lpu : pu.length = i := by rw [pk.length, List.length_take]; omega
          refine ⟨_, rfl, q, _, _, _, _, rfl, ho4, T.cl_System, T.na_System _ (by decide), rfl, _, rfl, q, _, _, _, _, rfl, ho4, T.cl_System, T.na_System _ (by decide), rfl, _, rfl, _, rfl, t2, b, A, m, us2, ls2, l, ts, rfl, ⟨.inr Y4.rows, Y4.each⟩, .inr (S4 _ _ hb), .inl hA4, ln, by omega, lok2, lok1 l (List.mem_of_getElem? hl), Tm, fun x H5 S5 nx hx => ?_⟩
          have S15 := S4.trans S5
          have hA5 := S5 _ _ hA4
          have hP5 := S5 _ _ hP4
          have pk := Paired.impP (fun _ _ h => PaAt.same h S5) pk
          rcases hx with ⟨pa, is, ⟨dq, hq⟩, hpa, I⟩ | ⟨ta, ss, ⟨dq, hq⟩, hta, U⟩
          · refine ⟨_, rfl, _, _, _, _, _, rfl, .own (cl "Implied"), .base (.ins hq T.cl_Implied T.y_Implied T.z1 T.z2 T.z3_Implied), T.k_Im_Im, _, rfl, iteF ?_⟩
            refine ⟨_, rfl, .inl ⟨rfl, _, SqL.of hP5⟩, _, rfl, x, _, _, _, _, rfl, hq, T.cl_Implied, T.na_Implied _ (by decide), rfl, Pp, _, _, rfl, rfl, hP5, small1000 (by omega), same_upd S15 nPH, ?_, pu ++ [.ref pa], _, _, _, rfl, upd_same, ?_⟩
            · rw [upd_ne (ne_of_none hA nP)]
              exact hA5
            · rw [take_snoc hl]
              exact Paired.appendP (Paired.impP (fun _ _ h => PaAt.updL h hP5) pk) (.cons ⟨pa, is, rfl, tup_updL hpa hP5, I⟩ .nil)
          · refine ⟨_, rfl, _, _, _, _, _, rfl, .own (cl "Implied"), .base (.ins hq T.cl_Unimplied T.y_Unimplied T.z1 T.z2 T.z3_Unimplied), T.k_Un_Im, _, rfl, iteT ?_⟩
            refine ⟨_, rfl, _, rfl, x, _, _, _, _, rfl, hq, T.cl_Unimplied, T.na_Unimplied _ (by decide), rfl, ?_⟩
            refine fun z d nz nd ne => ⟨z, d, [.int (i : Nat), .ref ta], rfl, rfl, upd_same, rfl, ?_⟩
            have M := made (o1 := .own z) (o2 := .ins (cl "PartedAt") d []) (o3 := .ins (cl "PartedAt") d [("index", .int (i : Nat)), ("times", .ref ta)]) nz nd
            refine kQ z _ (S15.trans M) (S15.free nz) ⟨_, Tm.2⟩ (.inr ⟨i, ta, ss, l, ⟨d, upd_same⟩, M _ _ hta, hl, U, fun j hj l' e => ?_⟩)
            have e2 : (ls1.take i)[j]? = some l' := by rw [List.getElem?_take_of_lt hj]; exact e
            obtain ⟨v, hv, _, is, _, _, I⟩ := Paired.at' pk e2
            exact I.yes
        · rintro σ H3 ⟨S3, hA3, pu, v6, v7, v8, rfl, hP, pk⟩
          rw [X.each.length, List.take_length] at pk
          refine ⟨_, rfl, Pp, _, rfl, .inl ⟨SqL.of hP, fun qa nqa => ?_⟩⟩
          have Sa := sNew (o := .tup pu) nqa
          refine fun x d nx nd ne => ⟨x, d, [.ref qa], rfl, rfl, upd_same, rfl, ?_⟩
          have M := made (o1 := .own x) (o2 := .ins (cl "KeptByAll") d []) (o3 := .ins (cl "KeptByAll") d [("paths", .ref qa)]) nx nd
          have S := S3.trans Sa
          exact kQ x _ (S.trans M) (S.free nx) ⟨_, Tm.2⟩ (.inl ⟨qa, pu, ⟨d, upd_same⟩, M _ _ upd_same, Paired.impP (fun _ _ h => PaAt.same h (Sa.trans M)) pk⟩)
      · refine ⟨_, rfl, rfl, _, rfl, iteT ⟨_, rfl, raise1 (Same.refl H2) fun G e Sg ne => ?_⟩⟩
        exact kE C is ⟨h3, by rw [zr_len] at h4; exact h4, z, h5, h6⟩ G e (S.trans Sg) (S.free ne) (Sg _ _ hC) (ne_of_none hC ne)
theorem cal_compare_systems (T : Txt P w K mg cl) : Cal P w K mg base (L2.CX P w) 5 "compare_systems" ["one", "other"] (spCmp (cl "System") (cl "OtherCount") (cl "NoTimes") (cl "KeptByAll") (cl "PartedAt")) := by
  obtain ⟨f, fd, F, m⟩ := T.d_compare_systems
  exact ⟨f, fd, ok_compare_systems F T, m, F.kp, F.binds fun _ _ _ _ _ _ us hl => match us, hl with | [_, _], _ => rfl⟩
end
end My
set_option Elab.async false
set_option linter.all false
set_option maxRecDepth 100000
set_option maxHeartbeats 1000000
namespace My
open PySem L2 Dw Wp
open C8 (pss_cut tCut)
set_option pp.maxSteps 600
open Bf Fw
/-- the law's table in the memory -/
structure TbAt (H : Hp) (n : Nat) (t : Addr) (rs : List Addr) (d : Tb) : Prop where
  hT : H t = some (.lst (rs.map V.ref))
  len : rs.length = n
  nd : rs.Nodup
  nT : t ∉ rs
  row : ∀ (i : Nat) (r : Addr), rs[i]? = some r → H r = some (.lst ((List.range n).map fun x => oiV (d i x)))
theorem TbAt.same {H H' : Hp} {n : Nat} {t : Addr} {rs : List Addr} {d : Tb} (h : TbAt H n t rs d) (S : Same H H') : TbAt H' n t rs d := ⟨S _ _ h.hT, h.len, h.nd, h.nT, fun i r e => S _ _ (h.row i r e)⟩
theorem TbAt.cong {H : Hp} {n : Nat} {t : Addr} {rs : List Addr} {d d' : Tb} (h : TbAt H n t rs d) (e : ∀ i x, i < n → x < n → d' i x = d i x) : TbAt H n t rs d' := ⟨h.hT, h.len, h.nd, h.nT, fun i r q => by
  have il := (List.getElem?_eq_some_iff.mp q).1
  rw [h.row i r q]
  congr 2
  exact List.map_congr_left fun x hx => by rw [e i x (by rw [← h.len]; exact il) (List.mem_range.mp hx)]⟩
theorem TbAt.put {H : Hp} {n : Nat} {t : Addr} {rs : List Addr} {d d' : Tb} (h : TbAt H n t rs d) {i : Nat} {r : Addr} (q : rs[i]? = some r) (e : ∀ a x, a ≠ i → d' a x = d a x) {o : HO} (eo : o = .lst ((List.range n).map fun x => oiV (d' i x))) : TbAt (upd H r o) n t rs d' := by
  have hr := List.mem_of_getElem? q
  have ntr : t ≠ r := fun z => h.nT (z ▸ hr)
  refine ⟨by rw [upd_ne ntr]; exact h.hT, h.len, h.nd, h.nT, fun a s q2 => ?_⟩
  by_cases z : a = i
  · subst z
    rw [q] at q2
    cases q2
    rw [upd_same, eo]
  · have ne : s ≠ r := fun w => by
      subst w
      obtain ⟨l1, e1⟩ := List.getElem?_eq_some_iff.mp q
      obtain ⟨l2, e2⟩ := List.getElem?_eq_some_iff.mp q2
      exact z ((List.getElem_inj h.nd).mp (e2.trans e1.symm))
    rw [upd_ne ne, h.row a s q2]
    congr 2
    exact List.map_congr_left fun x _ => by rw [e a x z]
theorem TbAt.at_ {H : Hp} {n : Nat} {t : Addr} {rs : List Addr} {d : Tb} (h : TbAt H n t rs d) {i : Nat} (hi : i < n) : ∃ r, rs[i]? = some r ∧ (rs.map V.ref)[i]? = some (.ref r) ∧ H r = some (.lst ((List.range n).map fun x => oiV (d i x))) := by
  have il : i < rs.length := by rw [h.len]; exact hi
  exact ⟨rs[i], List.getElem?_eq_getElem il, by rw [List.getElem?_map, List.getElem?_eq_getElem il]; rfl, h.row i _ (List.getElem?_eq_getElem il)⟩
theorem rng_at {n x : Nat} (f : Nat → V) (h : x < n) : ((List.range n).map f)[x]? = some (f x) := by
  rw [List.getElem?_map, List.getElem?_range h]
  rfl
theorem rng_set {n x : Nat} {f g : Nat → V} {v : V} (e : ∀ y, y ≠ x → g y = f y) (ev : g x = v) (h : x < n) : ((List.range n).map f).set x v = (List.range n).map g := by
  refine List.ext_getElem? fun y => ?_
  rw [List.getElem?_set, List.length_map, List.length_range]
  by_cases z : x = y
  · subst z
    rw [if_pos rfl, if_pos h, rng_at g h, ev]
  · rw [if_neg z, List.getElem?_map, List.getElem?_map]
    cases q : (List.range n)[y]? with
    | none => rfl
    | some w =>
      have : w = y := by
        obtain ⟨l, e⟩ := List.getElem?_eq_some_iff.mp q
        rw [List.getElem_range] at e
        exact e.symm
      subst this
      show some (f w) = some (g w)
      rw [e w (Ne.symm z)]
/-- rows below i turned, row i up to x -/
def mix (d : Tb) (k i x : Nat) : Tb := fun a b => if a < i ∨ (a = i ∧ b < x) then turn d k a b else d a b
def spSpans : Sp := fun vs H Q _ => ∃ (g : Addr) (us : List V) (ls : List Lk) (n : Nat), vs = [.int (n : Nat), .ref g] ∧ LlT H g us ls ∧ (∀ l ∈ ls, LkOk (n : Nat) l) ∧ 1 ≤ n ∧ n ≤ 12 ∧ ls.length ≤ 300 ∧ (∃ φ, Keeps (nls ls) φ) ∧
  ∀ (t : Addr) (rs : List Addr) (H' : Hp), Same H H' → TbAt H' n t rs (fun i x => gO (rch ls n x) i) → Q (.ref t) H'
section
variable {P : Program} {w : World} {K : PySem.W.Frag} {mg : Str → Option Value} {base : Heap} {cl : String → Addr}
theorem ok_spans {f : Addr} {fd : FuncData} (F : Fun K "_law_spans" "_law_spans" s_spans f fd) (T : Txt P w K mg cl) : FnOk P w K mg base CX0 1 f fd ["_law_count", "_law_links_here"] (spSpans) := by
  refine F.ok sc_spans (fun vs H Q E h => ?_) (fun cdv A outer s H vs Q E hr h => ?_)
  · obtain ⟨g, us, ls, n, rfl, _⟩ := h
    rfl
  · obtain ⟨g, us, ls, n, rfl, hL, lok, n1, n12, ll, ⟨φ, kφ⟩, k⟩ := h
    refine ⟨_, (pss_cons (ps_setLc (i := 2) (own := [("_law_x", 10)]) (g := gName 10) (tt := tYes) rfl sc_spans.nd rfl rfl (sw_true rfl rfl rfl (by decide +kernel)) (pi_range1 rfl T.n_range (pa_cons (pv 0) pa_nil)) (blkOk_by (own := [("_law_x", 10)]) (N := ["_law_count", "_law_links_here", "_law_table", "_law_one", "_law_other_here", "_law_amount_here", "_law_row", "_law_turn", "_law_step", "_law_via", "_law_x", "_law_y"]) (sc := defScope s_spans) (by decide +kernel)) (fun _ _ _ _ _ => pg_name (i := 10) sc_spans.nd rfl (Or.inr rfl)) (fun _ _ _ _ _ => pts_nil) (fun _ _ _ _ _ => (pe_lc (own := [("_law_y", 11)]) (g := gName 11) (tt := tYes) rfl sc_spans.nd (by exact (pi_range1 rfl T.n_range (pa_cons (pv 0) pa_nil))) (by exact blkOk_by (by rfl)) (fun _ _ _ _ _ => pg_name (i := 11) (by exact sc_spans.nd) rfl (Or.inl rfl)) (fun _ _ _ _ _ => pts_nil) (fun _ _ _ _ _ => (pe_cut (pe_ifExp (pt_cmpR op_eq (pv 10) (pv 11) (nomark _)) pe_int pe_non))))))
        (pss_cons (ps_for PassesOwn.never rfl (pi_list (pv 1)) (pg_tup rfl (pgs_cons (pg_name (i := 3) sc_spans.nd rfl (Or.inl rfl)) (pgs_cons (pg_name (i := 4) sc_spans.nd rfl (Or.inl rfl)) (pgs_cons (pg_name (i := 5) sc_spans.nd rfl (Or.inl rfl)) pgs_nil))))
          (pss_cons (ps_set (i := 6) sc_spans.nd rfl (Or.inl rfl) (pe_ix ix_list (pv 2) (pv 3) (fun _ _ => rfl)))
            (pss_one (ps_if (PW.pt (pw_or (pt_cmpR op_isN (pe_ix ix_list (pv 6) (pv 4) (fun _ _ => rfl)) pe_non (nomark _)) (pw_or1 (pt_cmpR op_gt (pe_ix ix_list (pv 6) (pv 4) (fun _ _ => rfl)) (pv 5) (nomark _)))))
              (pss_one (ps_asg (pv 5) (pg_sub (pv 6) (pv 4) set_list))) pss_nil))))
        (pss_cons (ps_for PassesOwn.never rfl (pi_range1 rfl T.n_range (pa_cons (pe_op op_mul (pv 0) (pv 0)) pa_nil)) (pg_name (i := 7) sc_spans.nd rfl (Or.inl rfl))
          (pss_cons (ps_par3 (i := 6) (j := 8) (l := 9) rfl sc_spans.nd rfl rfl rfl (by decide) (by decide) (by decide) rfl rfl rfl (pa_cons (pe_ix ix_list (pv 2) (pe_op op_mod (pv 7) (pv 0)) (fun _ _ => rfl)) (pa_cons (pe_ix ix_list (pv 2) (pe_op op_fdiv (pv 7) (pv 0)) (fun _ _ => rfl)) (pa_cons (pe_op op_fdiv (pv 7) (pv 0)) pa_nil))) (by rfl))
            (pss_one (ps_for PassesOwn.never rfl (pi_range1 rfl T.n_range (pa_cons (pv 0) pa_nil)) (pg_name (i := 10) sc_spans.nd rfl (Or.inl rfl))
              (pss_one (ps_if (PW.pt (pw_and (pt_cmpR op_notN (pe_ix ix_list (pv 6) (pv 9) (fun _ _ => rfl)) pe_non (nomark _)) (pw_and1 (pt_cmpR op_notN (pe_ix ix_list (pv 8) (pv 10) (fun _ _ => rfl)) pe_non (nomark _)))))
                  (pss_one (ps_if (PW.pt (pw_or (pt_cmpR op_isN (pe_ix ix_list (pv 6) (pv 10) (fun _ _ => rfl)) pe_non (nomark _)) (pw_or1 (pt_cmpR op_gt (pe_ix ix_list (pv 6) (pv 10) (fun _ _ => rfl)) (pe_op op_add (pe_ix ix_list (pv 6) (pv 9) (fun _ _ => rfl)) (pe_ix ix_list (pv 8) (pv 10) (fun _ _ => rfl))) (nomark _)))))
                      (pss_one (ps_asg (pe_op op_add (pe_ix ix_list (pv 6) (pv 9) (fun _ _ => rfl)) (pe_ix ix_list (pv 8) (pv 10) (fun _ _ => rfl))) (pg_sub (pv 6) (pv 10) set_list))) pss_nil)) pss_nil))))))
        (pss_one (ps_ret (pv 2)))))), ?_⟩
    have row0 : ∀ (i j : Nat) (H1 : Hp) (R : Addr), upd H1 R (.lst ((List.range j).map fun x => oiV (eye i x))) R = some (.lst ((List.range j).map fun x => oiV (eye i x))) := fun i j H1 R => upd_same
    refine ⟨_, rfl, (n : Int), rfl, by omega, by omega, fun D nD => lc_range (fun i H1 => Same H H1 ∧ ∃ rs : List Addr, H1 D = some (.lst (rs.map V.ref)) ∧ rs.length = i ∧ rs.Nodup ∧ D ∉ rs ∧ (∀ r ∈ rs, H r = none) ∧ ∀ (a : Nat) (r : Addr), rs[a]? = some r → H1 r = some (.lst ((List.range n).map fun x => oiV (eye a x)))) ⟨sNew nD, [], upd_same, rfl, .nil, (fun z => by cases z), (fun r z => by cases z), fun a r z => by cases z⟩ ?_ ?_⟩
    · rintro i H1 hi ⟨S1, rs, hD, lr, nr, nDr, fr, hr⟩
      have hi : i < n := by omega
      refine ⟨rfl, _, rfl, (n : Int), rfl, by omega, by omega, fun R nR => lc_range (fun j H2 => H2 = upd H1 R (.lst ((List.range j).map fun x => oiV (eye i x)))) rfl ?_ ?_⟩
      · rintro j H2 hj rfl
        refine ⟨rfl, fun v H3 => H3 = upd H1 R (.lst ((List.range j).map fun x => oiV (eye i x))) ∧ v = oiV (eye i j), ?_, fun v H3 ⟨e1, e2⟩ => ?_⟩
        · refine ⟨_, rfl, _, rfl, rfl, _, rfl, ?_⟩
          refine ite2 (fun g => ?_) (fun g => ?_)
          · have g : i = j := by have := V.int.inj (of_decide_eq_true g); omega
            exact ⟨rfl, by unfold eye; rw [if_pos g]; rfl⟩
          · have g : ¬ i = j := fun z => g (decide_eq_true (by rw [z]))
            exact ⟨rfl, by unfold eye; rw [if_neg g]; rfl⟩
        · subst e1 e2
          refine ⟨_, upd_same, small1000 (by rw [List.length_map, List.length_range]; omega), ?_⟩
          rw [upd_upd, List.range_succ, List.map_append]
          rfl
      · rintro H2 rfl
        rw [show ((n : Int)).toNat = n by omega]
        have SR := sNew (o := .lst ((List.range n).map fun x => oiV (eye i x))) nR
        have nRD : D ≠ R := ne_of_none hD nR
        refine ⟨_, SR _ _ hD, small1000 (by rw [List.length_map]; omega), same_upd (S1.trans SR) nD, rs ++ [R], ?_, by rw [List.length_append, lr]; rfl, ?_, ?_, ?_, ?_⟩
        · rw [upd_same, List.map_append]
          rfl
        · refine List.nodup_append.mpr ⟨nr, by simp, fun a ha b hb => ?_⟩
          rw [List.mem_singleton.mp hb]
          rintro rfl
          obtain ⟨q, hq⟩ := List.mem_iff_getElem?.mp ha
          rw [hr q _ hq] at nR
          cases nR
        · intro z
          rcases List.mem_append.mp z with z | z
          · exact nDr z
          · exact nRD (List.mem_singleton.mp z)
        · intro r z
          rcases List.mem_append.mp z with z | z
          · exact fr r z
          · rw [List.mem_singleton.mp z]
            exact S1.free nR
        · intro a r q
          have nrD : r ≠ D := fun w => by
            have := List.mem_of_getElem? q
            rw [w] at this
            rcases List.mem_append.mp this with z | z
            · exact nDr z
            · exact nRD (List.mem_singleton.mp z)
          rw [upd_ne nrD]
          by_cases la : a < rs.length
          · rw [List.getElem?_append_left la] at q
            exact SR _ _ (hr a r q)
          · rw [List.getElem?_append_right (by omega)] at q
            have e0 : a - rs.length = 0 := by
              have := (List.getElem?_eq_some_iff.mp q).1
              simp at this
              omega
            rw [e0] at q
            cases q
            rw [show a = i by omega]
            exact upd_same
    · rintro H1 ⟨S1, rs, hD, lr, nr, nDr, fr, hr⟩
      rw [show ((n : Int)).toNat = n by omega] at lr
      have tb : TbAt H1 n D rs eye := ⟨hD, lr, nr, nDr, hr⟩
      clear hD lr nr hr
      refine ⟨_, rfl, g, rfl, ⟨_, SqL.of (S1 _ _ hL.1)⟩, for_list (K := K) (a := g) (xs := us) (fun j σ H2 => Same H H2 ∧ TbAt H2 n D rs (((nls ls).take j).foldl put eye) ∧ ∃ (v3 v4 v5 v6 : Option V), σ = [some (.int (n : Nat)), some (.ref g), some (.ref D), v3, v4, v5, v6, none, none, none, none, none]) ⟨S1, tb, _, _, _, _, rfl⟩ (fun j σ H2 _ q => SqL.of (q.1 _ _ hL.1)) ?_ ?_⟩
      · rintro j xv σ H2 hx ⟨S2, tb, v3, v4, v5, v6, rfl⟩
        obtain ⟨l, hl, b, rfl, hb⟩ := Paired.at hL.2 hx
        obtain ⟨ok, pos⟩ := pn lok
        obtain ⟨x, y, ex, ey, hx1, hy1, hn⟩ := lk_in ok pos hl
        obtain ⟨a1, a2, a3⟩ := l
        have ex : a1 = (x : Int) := ex
        have ey : a2 = (y : Int) := ey
        subst ex ey
        have hn : (nls ls)[j]? = some (x, y, a3) := hn
        have hb2 := S2 _ _ hb
        rw [take_snoc hn, List.foldl_append]
        generalize ed : ((nls ls).take j).foldl put eye = d at tb
        obtain ⟨r, er, hr, hrow⟩ := tb.at_ hx1
        have at1 := rng_at (fun z => oiV (d x z)) hy1
        refine ⟨b, _, rfl, SqT.of hb2, rfl, _, _, rfl, _, _, rfl, _, _, rfl, rfl, ?_⟩
        refine ⟨_, rfl, _, rfl, D, _, _, _, rfl, rfl, SqL.of tb.hT, atI_nat hr, ?_⟩
        have lrow : ∀ f : Nat → V, ((List.range n).map f).length = n := fun f => by rw [List.length_map, List.length_range]
        have nr := fr r (List.mem_of_getElem? er)
        have putd : ∀ p q, put d ((x, y, a3) : NL) p q = if p = x ∧ q = y then mi (d p q) (some a3) else d p q := fun p q => rfl
        have asg : put d ((x, y, a3) : NL) x y = some a3 → TbAt (upd H2 r (.lst (((List.range n).map fun z => oiV (d x z)).set y (.int a3)))) n D rs (put d (x, y, a3)) := fun e => by
          refine tb.put er (fun p q np => by rw [putd, if_neg fun w => np w.1]) ?_
          congr 1
          refine rng_set (fun q nq => ?_) ?_ hy1
          · show oiV (put d (x, y, a3) x q) = oiV (d x q)
            rw [putd, if_neg fun w => nq w.2]
          · show oiV (put d (x, y, a3) x y) = _
            rw [e]
            rfl
        have pxy : put d ((x, y, a3) : NL) x y = mi (d x y) (some a3) := by rw [putd, if_pos ⟨rfl, rfl⟩]
        have at1 : ((List.range n).map fun z => oiV (d x z))[y]? = some (oiV (d x y)) := at1
        cases hd : d x y with
        | none =>
          rw [hd] at at1 pxy
          refine ⟨_, rfl, _, rfl, r, _, _, _, rfl, rfl, SqL.of hrow, atI_nat at1, rfl, _, rfl, iteT (iteT ?_)⟩
          refine ⟨_, rfl, _, rfl, _, rfl, r, _, y, y, rfl, rfl, hrow, (by unfold ixN; rw [lrow, if_pos (by omega), if_pos (by omega)]; rfl), same_upd S2 nr, asg (by rw [pxy]; rfl), _, _, _, _, rfl⟩
        | some t0 =>
          rw [hd] at at1 pxy
          refine ⟨_, rfl, _, rfl, r, _, _, _, rfl, rfl, SqL.of hrow, atI_nat at1, rfl, _, rfl, iteF ⟨_, rfl, _, rfl, r, _, _, _, rfl, rfl, SqL.of hrow, atI_nat at1, _, rfl, _, _, rfl, rfl, _, rfl, ?_⟩⟩
          have pxy : put d ((x, y, a3) : NL) x y = some (if a3 < t0 then a3 else t0) := pxy
          refine ite2 (fun gt => ?_) (fun gt => ?_)
          · have gt : a3 < t0 := of_decide_eq_true gt
            refine ⟨_, rfl, _, rfl, _, rfl, r, _, y, y, rfl, rfl, hrow, (by unfold ixN; rw [lrow, if_pos (by omega), if_pos (by omega)]; rfl), same_upd S2 nr, asg (by rw [pxy, if_pos gt]), _, _, _, _, rfl⟩
          · have ng : ¬ a3 < t0 := fun z => gt (decide_eq_true z)
            refine ⟨S2, tb.cong fun p q hp hq => ?_, _, _, _, _, rfl⟩
            show put d (x, y, a3) p q = d p q
            by_cases w : p = x ∧ q = y
            · obtain ⟨rfl, rfl⟩ := w
              rw [pxy, if_neg ng, hd]
            · rw [putd, if_neg w]
      · rintro σ H2 ⟨S2, tb, v3, v4, v5, v6, rfl⟩
        rw [hL.2.length, ← nls_len, List.take_length] at tb
        have A0 : At (nls ls) n ((nls ls).foldl put eye) 0 := first_start kφ
        generalize (nls ls).foldl put eye = d0 at tb A0
        have lrow : ∀ f : Nat → V, ((List.range n).map f).length = n := fun f => by rw [List.length_map, List.length_range]
        have nn : n * n ≤ 144 := Nat.mul_le_mul n12 n12
        have nni : (n : Int) * (n : Int) = ((n * n : Nat) : Int) := (Int.natCast_mul n n).symm
        have cdiv : ∀ {z : Int}, CDiv z (n : Int) := fun {z} => by unfold CDiv; omega
        have cmul : CMul (n : Int) (n : Int) := by unfold CMul; omega
        refine ⟨_, rfl, _, rfl, _, _, rfl, rfl, cmul, (n : Int) * (n : Int), rfl, by rw [nni]; omega, by rw [nni]; omega, for_range (fun i σ H3 => Same H H3 ∧ TbAt H3 n D rs (mix (turns d0 (i / n)) (i / n) (i % n) 0) ∧ ∃ (v3 v4 v5 v6 v7 v8 v9 v10 : Option V), σ = [some (.int (n : Nat)), some (.ref g), some (.ref D), v3, v4, v5, v6, v7, v8, v9, v10, none]) ⟨S2, ?_, _, _, _, _, _, _, _, _, rfl⟩ ?_ ?_⟩
        · refine tb.cong fun p q hp hq => ?_
          rw [Nat.zero_div, Nat.zero_mod]
          show (if p < 0 ∨ (p = 0 ∧ q < 0) then _ else turns d0 0 p q) = d0 p q
          rw [if_neg (by omega)]
          rfl
        · rintro τ σ H3 hτ ⟨S3, tb, v3, v4, v5, v6, v7, v8, v9, v10, rfl⟩
          have hτ : τ < n * n := by omega
          have hk : τ / n < n := Nat.div_lt_of_lt_mul hτ
          have hi : τ % n < n := Nat.mod_lt _ (by omega)
          have Ak := A0.turns kφ (τ / n) (by omega)
          generalize ek : τ / n = k at tb hk Ak
          generalize ei : τ % n = i at tb hi
          generalize edd : turns d0 k = d at tb Ak
          obtain ⟨r, er, hr, hrow⟩ := tb.at_ hi
          obtain ⟨s2, es, hs, hstep⟩ := tb.at_ hk
          have z0 : (0 : Int) + (τ : Nat) = ((τ : Nat) : Int) := by omega
          have em : (0 : Int) + (τ : Nat) = ((τ : Nat) : Int) → ((τ : Nat) : Int) % (n : Int) = ((i : Nat) : Int) := fun _ => by rw [← ei]; exact (Int.natCast_emod τ n).symm
          have ed : ((τ : Nat) : Int) / (n : Int) = ((k : Nat) : Int) := by rw [← ek]; exact (Int.natCast_ediv τ n).symm
          rw [z0]
          have n0 : (0 : Int) < (n : Int) := by omega
          have em := em z0
          refine ⟨_, rfl, _, rfl, _, rfl, _, _, rfl, rfl, n0, D, _, _, _, rfl, rfl, SqL.of tb.hT, by rw [em]; exact atI_nat hr, _, rfl, _, rfl, _, rfl, _, _, rfl, rfl, cdiv, D, _, _, _, rfl, rfl, SqL.of tb.hT, by rw [ed]; exact atI_nat hs, _, rfl, _, rfl, _, _, rfl, rfl, cdiv, ?_⟩
          refine ⟨_, _, _, rfl, ?_⟩
          refine ⟨_, rfl, (n : Int), rfl, by omega, by omega, for_range (fun x σ H4 => Same H H4 ∧ TbAt H4 n D rs (mix d k i x) ∧ ∃ (v3 v4 v5 v10 : Option V), σ = [some (.int (n : Nat)), some (.ref g), some (.ref D), v3, v4, v5, some (.ref r), some (.int (τ : Nat)), some (.ref s2), some (.int (((τ : Nat) : Int) / (n : Int))), v10, none]) ⟨S3, tb, _, _, _, _, rfl⟩ ?_ ?_⟩
          · rintro x σ H4 hx ⟨S4, tb4, v3, v4, v5, v10, rfl⟩
            have hx : x < n := by omega
            rw [show (0 : Int) + (x : Nat) = ((x : Nat) : Int) by omega]
            have kk := Ak.diag k hk
            have rv : mix d k i x i k = d i k := by
              unfold mix
              split
              · exact turn_col kk i
              · rfl
            have sv : mix d k i x k x = d k x := by
              unfold mix
              split
              · exact turn_row kk x
              · rfl
            have xv : mix d k i x i x = d i x := if_neg (by omega)
            have hrow := tb4.row i r er
            have hstep := tb4.row k s2 es
            have a1 : ((List.range n).map fun z => oiV (mix d k i x i z))[k]? = some (oiV (d i k)) := by rw [rng_at _ hk, rv]
            have A1 : atI ((List.range n).map fun z => oiV (mix d k i x i z)) (((τ : Nat) : Int) / (n : Int)) = some (oiV (d i k)) := by rw [ed]; exact atI_nat a1
            have a2 : ((List.range n).map fun z => oiV (mix d k i x k z))[x]? = some (oiV (d k x)) := by rw [rng_at _ hx, sv]
            have a3 : ((List.range n).map fun z => oiV (mix d k i x i z))[x]? = some (oiV (d i x)) := by rw [rng_at _ hx, xv]
            have nr := fr r (List.mem_of_getElem? er)
            have same : turn d k i x = d i x → ∀ {σ' : St}, (∃ (v3 v4 v5 v10 : Option V), σ' = [some (.int (n : Nat)), some (.ref g), some (.ref D), v3, v4, v5, some (.ref r), some (.int (τ : Nat)), some (.ref s2), some (.int (((τ : Nat) : Int) / (n : Int))), v10, none]) → Same H H4 ∧ TbAt H4 n D rs (mix d k i (x + 1)) ∧ ∃ (v3 v4 v5 v10 : Option V), σ' = [some (.int (n : Nat)), some (.ref g), some (.ref D), v3, v4, v5, some (.ref r), some (.int (τ : Nat)), some (.ref s2), some (.int (((τ : Nat) : Int) / (n : Int))), v10, none] := fun e σ' hσ => by
              refine ⟨S4, tb4.cong fun p q hp hq => ?_, hσ⟩
              unfold mix
              by_cases z : p = i ∧ q = x
              · obtain ⟨rfl, rfl⟩ := z
                rw [if_pos (by omega), if_neg (by omega), e]
              · by_cases z2 : p < i ∨ (p = i ∧ q < x)
                · rw [if_pos z2, if_pos (by omega)]
                · rw [if_neg z2, if_neg (by omega)]
            have done : ∀ v : Int, turn d k i x = some v → ∀ {σ' : St}, (∃ (v3 v4 v5 v10 : Option V), σ' = [some (.int (n : Nat)), some (.ref g), some (.ref D), v3, v4, v5, some (.ref r), some (.int (τ : Nat)), some (.ref s2), some (.int (((τ : Nat) : Int) / (n : Int))), v10, none]) → Same H (upd H4 r (.lst (((List.range n).map fun z => oiV (mix d k i x i z)).set x (.int v)))) ∧ TbAt (upd H4 r (.lst (((List.range n).map fun z => oiV (mix d k i x i z)).set x (.int v)))) n D rs (mix d k i (x + 1)) ∧ ∃ (v3 v4 v5 v10 : Option V), σ' = [some (.int (n : Nat)), some (.ref g), some (.ref D), v3, v4, v5, some (.ref r), some (.int (τ : Nat)), some (.ref s2), some (.int (((τ : Nat) : Int) / (n : Int))), v10, none] := fun v e σ' hσ => by
              refine ⟨same_upd S4 nr, tb4.put er (fun p q np => ?_) ?_, hσ⟩
              · unfold mix
                by_cases z2 : p < i
                · rw [if_pos (.inl z2), if_pos (.inl z2)]
                · rw [if_neg (by omega), if_neg (by omega)]
              · congr 1
                refine rng_set (fun q nq => ?_) ?_ hx
                · unfold mix
                  by_cases z2 : i < i ∨ (i = i ∧ q < x)
                  · rw [if_pos z2, if_pos (by omega)]
                  · rw [if_neg z2, if_neg (by omega)]
                · unfold mix
                  rw [if_pos (by omega), e]
                  rfl
            have un : turn d k i x = mi (d i x) (ad (d i k) (d k x)) := rfl
            cases h1 : d i k with
            | none =>
              rw [h1] at A1 un
              refine ⟨_, rfl, _, rfl, r, _, _, _, rfl, rfl, SqL.of hrow, A1, rfl, _, rfl, iteF (iteF (same ?_ ⟨_, _, _, _, rfl⟩))⟩
              rw [un]
              cases d i x <;> rfl
            | some va =>
              rw [h1] at A1 un
              refine ⟨_, rfl, _, rfl, r, _, _, _, rfl, rfl, SqL.of hrow, A1, rfl, _, rfl, iteT ?_⟩
              cases h2 : d k x with
              | none =>
                rw [h2] at a2 un
                refine ⟨_, rfl, _, rfl, s2, _, _, _, rfl, rfl, SqL.of hstep, atI_nat a2, rfl, _, rfl, iteF (same ?_ ⟨_, _, _, _, rfl⟩)⟩
                rw [un]
                cases d i x <;> rfl
              | some vb =>
                rw [h2] at a2 un
                refine ⟨_, rfl, _, rfl, s2, _, _, _, rfl, rfl, SqL.of hstep, atI_nat a2, rfl, _, rfl, iteT ?_⟩
                cases h3 : d i x with
                | none =>
                  rw [h3] at a3 un
                  refine ⟨_, rfl, _, rfl, r, _, _, _, rfl, rfl, SqL.of hrow, atI_nat a3, rfl, _, rfl, iteT (iteT ?_)⟩
                  exact ⟨_, rfl, _, rfl, r, _, _, _, rfl, rfl, SqL.of hrow, A1, _, rfl, _, rfl, s2, _, _, _, rfl, rfl, SqL.of hstep, atI_nat a2, _, _, rfl, rfl, _, rfl, _, rfl, r, _, x, x, rfl, rfl, hrow, (by unfold ixN; rw [lrow, if_pos (by omega), if_pos (by omega)]; rfl), done (va + vb) (by rw [un]; rfl) ⟨_, _, _, _, rfl⟩⟩
                | some vx =>
                  rw [h3] at a3 un
                  have un : turn d k i x = some (if va + vb < vx then va + vb else vx) := un
                  refine ⟨_, rfl, _, rfl, r, _, _, _, rfl, rfl, SqL.of hrow, atI_nat a3, rfl, _, rfl, iteF ⟨_, rfl, _, rfl, r, _, _, _, rfl, rfl, SqL.of hrow, atI_nat a3, _, rfl, _, rfl, r, _, _, _, rfl, rfl, SqL.of hrow, A1, _, rfl, _, rfl, s2, _, _, _, rfl, rfl, SqL.of hstep, atI_nat a2, _, _, rfl, rfl, _, _, rfl, rfl, _, rfl, ?_⟩⟩
                  refine ite2 (fun gt => ?_) (fun gt => ?_)
                  · have gt : va + vb < vx := of_decide_eq_true gt
                    exact ⟨_, rfl, _, rfl, r, _, _, _, rfl, rfl, SqL.of hrow, A1, _, rfl, _, rfl, s2, _, _, _, rfl, rfl, SqL.of hstep, atI_nat a2, _, _, rfl, rfl, _, rfl, _, rfl, r, _, x, x, rfl, rfl, hrow, (by unfold ixN; rw [lrow, if_pos (by omega), if_pos (by omega)]; rfl), done (va + vb) (by rw [un, if_pos gt]) ⟨_, _, _, _, rfl⟩⟩
                  · have ng : ¬ va + vb < vx := fun z => gt (decide_eq_true z)
                    exact same (by rw [un, if_neg ng, h3]) ⟨_, _, _, _, rfl⟩
          · rintro σ H4 ⟨S4, tb4, v3, v4, v5, v10, rfl⟩
            rw [show ((n : Int)).toNat = n by omega] at tb4
            refine ⟨S4, tb4.cong fun p q hp hq => ?_, _, _, _, _, _, _, _, _, rfl⟩
            have eτ : n * k + i = τ := by rw [← ek, ← ei]; exact Nat.div_add_mod τ n
            have e1 : τ + 1 = (i + 1) + n * k := by omega
            by_cases c : i + 1 < n
            · have f1 : (τ + 1) / n = k := by rw [e1, Nat.add_mul_div_left _ _ (by omega), Nat.div_eq_of_lt c, Nat.zero_add]
              have f2 : (τ + 1) % n = i + 1 := by rw [e1, Nat.add_mul_mod_self_left, Nat.mod_eq_of_lt c]
              rw [f1, f2, edd]
              unfold mix
              by_cases z : p < i ∨ (p = i ∧ q < n)
              · rw [if_pos z, if_pos (by omega)]
              · rw [if_neg z, if_neg (by omega)]
            · have c : i + 1 = n := by omega
              have f1 : (τ + 1) / n = k + 1 := by rw [e1, c, Nat.add_mul_div_left _ _ (by omega), Nat.div_self (by omega), Nat.add_comm]
              have f2 : (τ + 1) % n = 0 := by rw [e1, c, Nat.add_mul_mod_self_left, Nat.mod_self]
              rw [f1, f2]
              unfold mix
              rw [if_neg (by omega), if_pos (by omega), ← edd]
              rfl
        · rintro σ H3 ⟨S3, tb, v3, v4, v5, v6, v7, v8, v9, v10, rfl⟩
          rw [nni, Int.toNat_natCast, Nat.mul_div_cancel _ (by omega), Nat.mul_mod_left] at tb
          refine ⟨_, rfl, k D rs H3 S3 (tb.cong fun p q hp hq => ?_)⟩
          show _ = (if p < 0 ∨ (p = 0 ∧ q < 0) then _ else turns d0 n p q)
          rw [if_neg (by omega)]
          exact (turns_is (pn lok).1 kφ A0 hq hp).symm
theorem cal_spans (T : Txt P w K mg cl) : Cal P w K mg base CX0 1 "_law_spans" ["_law_count", "_law_links_here"] (spSpans) := by
  obtain ⟨f, fd, F, m⟩ := T.d_spans
  exact ⟨f, fd, ok_spans F T, m, F.kp, F.binds fun _ _ _ _ _ _ us hl => match us, hl with | [_, _], _ => rfl⟩
end
end My
set_option Elab.async false
set_option linter.all false
set_option maxRecDepth 100000
set_option maxHeartbeats 1000000
namespace My
open PySem L2 Dw Wp
open C8 (pss_cut tCut)
set_option pp.maxSteps 600
open Bf Fw
theorem brk_nil {ls : List Lk} {ts : List Int} : (brk ls ts).isEmpty = true ↔ Keeps (nls ls) (kF ts) := by
  unfold brk brkTo
  rw [List.isEmpty_iff, List.filter_eq_nil_iff]
  constructor
  · intro h l hl
    obtain ⟨l', hm, rfl⟩ := List.mem_map.mp hl
    obtain ⟨i, hi, e⟩ := List.mem_iff_getElem.mp hm
    have h := h i (List.mem_range.mpr hi)
    rw [List.getElem?_eq_getElem hi, e] at h
    have h : ¬ (!keepB ts l') = true := h
    have h : keepB ts l' = true := by simpa using h
    exact of_decide_eq_true h
  · intro h i hi
    have hi := List.mem_range.mp hi
    rw [List.getElem?_eq_getElem hi]
    show ¬ (!keepB ts ls[i]) = true
    have := h (nl ls[i]) (List.mem_map.mpr ⟨_, List.getElem_mem hi, rfl⟩)
    have : keepB ts ls[i] = true := decide_eq_true this
    rw [this]
    decide
theorem imp_v (ls : List Lk) (n : Nat) (l : Lk) : impB (nls ls) n (nl l) = (match gO (rch ls n l.2.1.toNat) l.1.toNat with
  | some t => decide (t ≤ l.2.2)
  | none => false) := rfl
def spImplies : Sp := fun vs H Q _ => ∃ (g q : Addr) (us : List V) (ls : List Lk) (n : Nat) (l : Lk), vs = [.int (n : Nat), .ref g, .ref q] ∧ LlT H g us ls ∧ (∀ l ∈ ls, LkOk (n : Nat) l) ∧ 1 ≤ n ∧ n ≤ 12 ∧ ls.length ≤ 300 ∧ (∃ φ, Keeps (nls ls) φ) ∧ H q = some (.tup (lkV l)) ∧ LkOk (n : Nat) l ∧
  ∀ H', Same H H' → Q (.bl (impB (nls ls) n (nl l))) H'
def spNear : Sp := fun vs H Q _ => ∃ (b g : Addr) (us : List V) (ls : List Lk) (n : Nat), vs = [.ref b, .int (n : Nat), .ref g] ∧ BgAt H b ∧ LlT H g us ls ∧ g ≠ b ∧ (∀ l ∈ ls, LkOk (n : Nat) l) ∧ 1 ≤ n ∧ n ≤ 12 ∧ ls.length ≤ 300 ∧ (∃ φ, Keeps (nls ls) φ) ∧
  ∀ q l H', H' q = some (.tup (lkV l)) → LkOk (n : Nat) l → BgAt H' b → But b H H' → Q (.ref q) H'
def spShows : Sp := fun vs H Q _ => ∃ (g pa q : Addr) (us : List V) (ls : List Lk) (js : List Nat) (n : Nat) (l : Lk), vs = [.ref g, .ref pa, .ref q] ∧ LlT H g us ls ∧ H pa = some (natT js) ∧ My.Pos ls ∧ js.length ≤ 800 ∧ H q = some (.tup (lkV l)) ∧ LkOk (n : Nat) l ∧ Leads (nls ls) js l.2.1.toNat l.1.toNat ∧ smI (nls ls) js ≤ l.2.2 ∧ ∀ H', Same H H' → Q (.bl true) H'
def spParts : Sp := fun vs H Q _ => ∃ (g ta q : Addr) (us : List V) (ls : List Lk) (ts : List Int) (n : Nat) (l : Lk), vs = [.int (n : Nat), .ref g, .ref ta, .ref q] ∧ LlT H g us ls ∧ (∀ l ∈ ls, LkOk (n : Nat) l) ∧ n ≤ 800 ∧ ls.length ≤ 800 ∧ H ta = some (intT ts) ∧ H q = some (.tup (lkV l)) ∧ LkOk (n : Nat) l ∧ TmsP ls n ts ∧ l.2.2 < kF ts l.1.toNat - kF ts l.2.1.toNat ∧ ∀ H', Same H H' → Q (.bl true) H'
def spLImpl (CI CU : Addr) : Sp := fun vs H Q _ => ∃ (g x q : Addr) (us : List V) (ls : List Lk) (n : Nat) (l : Lk), vs = [.int (n : Nat), .ref g, .ref q, .ref x] ∧ LlT H g us ls ∧ (∀ l ∈ ls, LkOk (n : Nat) l) ∧ n ≤ 800 ∧ ls.length ≤ 800 ∧ H q = some (.tup (lkV l)) ∧ LkOk (n : Nat) l ∧ ShAt CI CU ls n l H x ∧ ∀ H', Same H H' → Q (.bl true) H'
theorem nat_of {z : Int} {n : Nat} (h : 0 ≤ z ∧ z < (n : Nat)) : ∃ a : Nat, z = (a : Int) ∧ a < n := ⟨z.toNat, (Int.toNat_of_nonneg h.1).symm, by omega⟩
section
variable {P : Program} {w : World} {K : PySem.W.Frag} {mg : Str → Option Value} {base : Heap} {cl : String → Addr}
theorem ok_implies {f : Addr} {fd : FuncData} (F : Fun K "_law_implies" "_law_implies" s_implies f fd) (T : Txt P w K mg cl) : FnOk P w K mg base CX0 2 f fd ["_law_count", "_law_links_here", "_law_link"] (spImplies) := by
  refine F.ok sc_implies (fun vs H Q E h => ?_) (fun cdv A outer s H vs Q E hr h => ?_)
  · obtain ⟨g, q, us, ls, n, l, rfl, _⟩ := h
    rfl
  · obtain ⟨g, q, us, ls, n, l, rfl, hL, lok, n1, n12, ll, ex, hq, lo, k⟩ := h
    have C_spans : Cal P w K mg base CX0 1 "_law_spans" _ spSpans := cal_spans T
    refine ⟨_, (pss_cons (ps_set (i := 3) sc_implies.nd rfl (Or.inl rfl) (pe_cal C_spans (hr.mono (by decide)) (pa_cons (pv 0) (pa_cons (pv 1) pa_nil))))
        (pss_cons (ps_set (i := 4) sc_implies.nd rfl (Or.inl rfl) (pe_ix ix_list (pv 3) (pe_ix ix_tup (pv 2) pe_int (fun _ _ => rfl)) (fun _ _ => rfl)))
        (pss_one (ps_ret (pe_and (pe_cmpR op_notN (pe_ix ix_list (pv 4) (pe_ix ix_tup (pv 2) pe_int (fun _ _ => rfl)) (fun _ _ => rfl)) pe_non (nomark _)) (pe_one (pe_cmpR op_le (pe_ix ix_list (pv 4) (pe_ix ix_tup (pv 2) pe_int (fun _ _ => rfl)) (fun _ _ => rfl)) (pe_ix ix_tup (pv 2) pe_int (fun _ _ => rfl)) (nomark _)))))))), ?_⟩
    obtain ⟨l1, l2, am⟩ := l
    obtain ⟨a, ea, an⟩ := nat_of lo.1
    obtain ⟨b', eb, bn⟩ := nat_of lo.2
    have ea : l1 = (a : Int) := ea
    have eb : l2 = (b' : Int) := eb
    subst ea eb
    refine ⟨_, rfl, _, rfl, g, us, ls, n, rfl, hL, lok, n1, n12, ll, ex, fun t rs H1 S1 tb => ?_⟩
    obtain ⟨r, er, hr, hrow⟩ := tb.at_ an
    have hq1 := S1 _ _ hq
    have k := k H1 S1
    rw [imp_v] at k
    have a1 : ((List.range n).map fun x => oiV (gO (rch ls n x) a))[b']? = some (oiV (gO (rch ls n b') a)) := rng_at _ bn
    refine ⟨_, rfl, _, rfl, q, _, _, _, rfl, rfl, SqT.of hq1, atI_nat (j := 0) rfl, t, _, _, _, rfl, rfl, SqL.of tb.hT, atI_nat hr, ?_⟩
    refine ⟨_, rfl, _, rfl, q, _, _, _, rfl, rfl, SqT.of hq1, atI_nat (j := 1) rfl, r, _, _, _, rfl, rfl, SqL.of hrow, atI_nat a1, ?_⟩
    have k : Q (.bl (match gO (rch ls n b') a with | some t => decide (t ≤ am) | none => false)) H1 := k
    cases hg : gO (rch ls n b') a with
    | none =>
      rw [hg] at k
      exact ⟨rfl, _, rfl, iteF k⟩
    | some t0 =>
      rw [hg] at k a1
      exact ⟨rfl, _, rfl, iteT ⟨_, rfl, _, rfl, q, _, _, _, rfl, rfl, SqT.of hq1, atI_nat (j := 1) rfl, r, _, _, _, rfl, rfl, SqL.of hrow, atI_nat a1, _, rfl, q, _, _, _, rfl, rfl, SqT.of hq1, atI_nat (j := 2) rfl, _, _, rfl, rfl, k⟩⟩
theorem cal_implies (T : Txt P w K mg cl) : Cal P w K mg base CX0 2 "_law_implies" ["_law_count", "_law_links_here", "_law_link"] (spImplies) := by
  obtain ⟨f, fd, F, m⟩ := T.d_implies
  exact ⟨f, fd, ok_implies F T, m, F.kp, F.binds fun _ _ _ _ _ _ us hl => match us, hl with | [_, _, _], _ => rfl⟩
theorem ok_near {f : Addr} {fd : FuncData} (F : Fun K "_law_near" "_law_near" s_near f fd) (T : Txt P w K mg cl) : FnOk P w K mg base CX0 4 f fd ["_law_bag_here", "_law_count", "_law_links_here"] (spNear) := by
  refine F.ok sc_near (fun vs H Q E h => ?_) (fun cdv A outer s H vs Q E hr h => ?_)
  · obtain ⟨b, g, us, ls, n, rfl, _⟩ := h
    rfl
  · obtain ⟨b, g, us, ls, n, rfl, B, hL, ngb, lok, n1, n12, ll, ex, k⟩ := h
    have C_spans : Cal P w K mg base CX0 1 "_law_spans" _ spSpans := cal_spans T
    have C_take : Cal P w K mg base CX0 1 "_law_take" _ spTake := cal_take T
    have C_amount : Cal P w K mg base CX0 3 "_law_amount" _ spAmt := cal_amount T
    refine ⟨_, (pss_cons (ps_set (i := 3) sc_near.nd rfl (Or.inl rfl) (pe_tup (pa_cons (pe_cal C_take (hr.mono (by decide)) (pa_cons (pv 0) (pa_cons (pv 1) pa_nil))) (pa_cons (pe_cal C_take (hr.mono (by decide)) (pa_cons (pv 0) (pa_cons (pv 1) pa_nil))) (pa_cons (pe_cal C_amount (hr.mono (by decide)) (pa_cons (pv 0) pa_nil)) pa_nil)))))
        (pss_cons (ps_if (pt_cmpR op_eq (pe_cal C_take (hr.mono (by decide)) (pa_cons (pv 0) (pa_cons pe_int pa_nil))) pe_int (nomark _))
          (pss_one (ps_ret (pv 3))) pss_nil)
        (pss_cons (ps_set (i := 4) sc_near.nd rfl (Or.inl rfl) (pe_cal C_spans (hr.mono (by decide)) (pa_cons (pv 1) (pa_cons (pv 2) pa_nil))))
        (pss_cons (ps_set (i := 5) sc_near.nd rfl (Or.inl rfl) (pe_ix ix_list (pv 4) (pe_ix ix_tup (pv 3) pe_int (fun _ _ => rfl)) (fun _ _ => rfl)))
        (pss_cons (ps_if (pt_cmpR op_isN (pe_ix ix_list (pv 5) (pe_ix ix_tup (pv 3) pe_int (fun _ _ => rfl)) (fun _ _ => rfl)) pe_non (nomark _))
          (pss_one (ps_ret (pv 3))) pss_nil)
        (pss_one (ps_ret (pe_tup (pa_cons (pe_ix ix_tup (pv 3) pe_int (fun _ _ => rfl)) (pa_cons (pe_ix ix_tup (pv 3) pe_int (fun _ _ => rfl)) (pa_cons (pe_op op_sub (pe_op op_add (pe_ix ix_list (pv 5) (pe_ix ix_tup (pv 3) pe_int (fun _ _ => rfl)) (fun _ _ => rfl)) (pe_cal C_take (hr.mono (by decide)) (pa_cons (pv 0) (pa_cons pe_int pa_nil)))) pe_int) pa_nil))))))))))), ?_⟩
    refine ⟨_, rfl, _, rfl, b, (n : Nat), rfl, B, by omega, by omega, fun i1 H1 i10 i11 B1 D1 => ⟨_, rfl, _, rfl, b, (n : Nat), rfl, B1, by omega, by omega, fun i2 H2 i20 i21 B2 D2 => ⟨_, rfl, b, rfl, B2, fun am H3 B3 D3 => ⟨by show 3 ≤ sizeLine; decide, fun q nq => ?_⟩⟩⟩⟩
    have D3 := D1.trans (D2.trans D3)
    have Sq := sNew (o := .tup [.int i1, .int i2, .int am]) nq
    have B4 := B3.same Sq
    have D4 := D3.trans (But.of Sq)
    obtain ⟨a, rfl, an⟩ := nat_of ⟨i10, i11⟩
    obtain ⟨b', rfl, bn⟩ := nat_of ⟨i20, i21⟩
    have lo : LkOk (n : Nat) ((a : Int), (b' : Int), am) := ⟨⟨i10, i11⟩, i20, i21⟩
    have hq : upd H3 q (.tup [.int (a : Nat), .int (b' : Nat), .int am]) q = some (.tup (lkV ((a : Int), (b' : Int), am))) := upd_same
    generalize upd H3 q (.tup [.int (a : Nat), .int (b' : Nat), .int am]) = H4 at hq B4 D4
    refine ⟨_, rfl, b, _, rfl, B4, by decide, by decide, fun j H5 _ _ B5 D5 => ⟨rfl, _, rfl, ite2 (fun _ => ?_) (fun _ => ?_)⟩⟩
    · exact ⟨_, rfl, k q _ _ (D5 _ _ hq (B4.tup hq)) lo B5 (D4.trans D5)⟩
    have hq5 := D5 _ _ hq (B4.tup hq)
    have D5 := D4.trans D5
    have hL5 := hL.but ngb B D5
    refine ⟨_, rfl, _, rfl, g, us, ls, n, rfl, hL5, lok, n1, n12, ll, ex, fun t rs H6 S6 tb => ?_⟩
    obtain ⟨r, er, hr, hrow⟩ := tb.at_ an
    have hq6 := S6 _ _ hq5
    have B6 := B5.same S6
    have D6 := D5.trans (But.of S6)
    have a1 : ((List.range n).map fun x => oiV (gO (rch ls n x) a))[b']? = some (oiV (gO (rch ls n b') a)) := rng_at _ bn
    refine ⟨_, rfl, _, rfl, q, _, _, _, rfl, rfl, SqT.of hq6, atI_nat (j := 0) rfl, t, _, _, _, rfl, rfl, SqL.of tb.hT, atI_nat hr, ?_⟩
    refine ⟨_, rfl, _, rfl, q, _, _, _, rfl, rfl, SqT.of hq6, atI_nat (j := 1) rfl, r, _, _, _, rfl, rfl, SqL.of hrow, atI_nat a1, rfl, ?_⟩
    cases hg : gO (rch ls n b') a with
    | none => exact ⟨_, rfl, iteT ⟨_, rfl, k q _ _ hq6 lo B6 D6⟩⟩
    | some t0 =>
      rw [hg] at a1
      refine ⟨_, rfl, iteF ?_⟩
      refine ⟨_, rfl, q, _, _, _, rfl, rfl, SqT.of hq6, atI_nat (j := 0) rfl, _, rfl, q, _, _, _, rfl, rfl, SqT.of hq6, atI_nat (j := 1) rfl, _, rfl, _, rfl, q, _, _, _, rfl, rfl, SqT.of hq6, atI_nat (j := 1) rfl, r, _, _, _, rfl, rfl, SqL.of hrow, atI_nat a1, ?_⟩
      refine ⟨_, rfl, b, _, rfl, B6, by decide, by decide, fun j7 H7 _ _ B7 D7 => ⟨_, _, rfl, rfl, _, _, rfl, rfl, by show 3 ≤ sizeLine; decide, fun q2 nq2 => ?_⟩⟩
      have S7 := sNew (o := .tup [.int (a : Nat), .int (b' : Nat), .int (t0 + j7 - 1)]) nq2
      exact k q2 ((a : Int), (b' : Int), t0 + j7 - 1) _ upd_same ⟨⟨i10, i11⟩, i20, i21⟩ (B7.same S7) (D6.trans (D7.trans (But.of S7)))
theorem cal_near (T : Txt P w K mg cl) : Cal P w K mg base CX0 4 "_law_near" ["_law_bag_here", "_law_count", "_law_links_here"] (spNear) := by
  obtain ⟨f, fd, F, m⟩ := T.d_near
  exact ⟨f, fd, ok_near F T, m, F.kp, F.binds fun _ _ _ _ _ _ us hl => match us, hl with | [_, _, _], _ => rfl⟩
theorem ok_shows {f : Addr} {fd : FuncData} (F : Fun K "_law_shows" "_law_shows" s_shows f fd) (T : Txt P w K mg cl) : FnOk P w K mg base CX0 3 f fd ["_law_links_here", "_law_path", "_law_link"] (spShows) := by
  refine F.ok sc_shows (fun vs H Q E h => ?_) (fun cdv A outer s H vs Q E hr h => ?_)
  · obtain ⟨g, pa, q, us, ls, js, n, l, rfl, _⟩ := h
    rfl
  · obtain ⟨g, pa, q, us, ls, js, n, l, rfl, hL, hp, pos, lj, hq, lo, ld, sm, k⟩ := h
    have C_leads : Cal P w K mg base CX0 2 "_law_leads" _ spLds := cal_leads T
    have C_sum : Cal P w K mg base CX0 1 "_law_sum" _ spLSum := cal_sum T
    refine ⟨_, (pss_one (ps_ret (pe_and (pe_cal C_leads (hr.mono (by decide)) (pa_cons (pv 0) (pa_cons (pv 1) (pa_cons (pe_ix ix_tup (pv 2) pe_int (fun _ _ => rfl)) (pa_cons (pe_ix ix_tup (pv 2) pe_int (fun _ _ => rfl)) pa_nil))))) (pe_one (pe_cmpR op_le (pe_cal C_sum (hr.mono (by decide)) (pa_cons (pv 0) (pa_cons (pv 1) pa_nil))) (pe_ix ix_tup (pv 2) pe_int (fun _ _ => rfl)) (nomark _)))))), ?_⟩
    obtain ⟨l1, l2, am⟩ := l
    obtain ⟨a, ea, an⟩ := nat_of lo.1
    obtain ⟨b', eb, bn⟩ := nat_of lo.2
    have ea : l1 = (a : Int) := ea
    have eb : l2 = (b' : Int) := eb
    subst ea eb
    refine ⟨_, rfl, _, rfl, _, rfl, q, _, _, _, rfl, rfl, SqT.of hq, atI_nat (j := 1) rfl, _, rfl, q, _, _, _, rfl, rfl, SqT.of hq, atI_nat (j := 0) rfl, g, pa, us, ls, js, b', a, rfl, hL, hp, pos, lj, ld, _, rfl, iteT ?_⟩
    refine ⟨_, rfl, _, rfl, g, pa, us, ls, js, rfl, hL, hp, lj, Leads.lt ld, fun H1 S1 => ⟨_, rfl, q, _, _, _, rfl, rfl, SqT.of (S1 _ _ hq), atI_nat (j := 2) rfl, _, _, rfl, rfl, ?_⟩⟩
    rw [← sumO_nl]
    have k := k H1 S1
    show Q (.bl (decide (smI (nls ls) js ≤ am))) H1
    rw [decide_eq_true (show smI (nls ls) js ≤ am from sm)]
    exact k
theorem cal_shows (T : Txt P w K mg cl) : Cal P w K mg base CX0 3 "_law_shows" ["_law_links_here", "_law_path", "_law_link"] (spShows) := by
  obtain ⟨f, fd, F, m⟩ := T.d_shows
  exact ⟨f, fd, ok_shows F T, m, F.kp, F.binds fun _ _ _ _ _ _ us hl => match us, hl with | [_, _, _], _ => rfl⟩
theorem ok_parts {f : Addr} {fd : FuncData} (F : Fun K "_law_parts" "_law_parts" s_parts f fd) (T : Txt P w K mg cl) : FnOk P w K mg base CX0 3 f fd ["_law_count", "_law_links_here", "_law_times_here", "_law_link"] (spParts) := by
  refine F.ok sc_parts (fun vs H Q E h => ?_) (fun cdv A outer s H vs Q E hr h => ?_)
  · obtain ⟨g, ta, q, us, ls, ts, n, l, rfl, _⟩ := h
    rfl
  · obtain ⟨g, ta, q, us, ls, ts, n, l, rfl, hL, lok, ln, ll, hta, hq, lo, Tm, far, k⟩ := h
    have C_L_are_times : Cal P w K mg base CX0 2 "_law_are_times" _ spLAre := cal_L_are_times T
    have C_keep : Cal P w K mg base CX0 1 "_law_keep" _ spLKeep := cal_keep T
    refine ⟨_, (pss_cons (ps_if (PW.pt (pw_or (pt_not (pt_val (pe_cal C_L_are_times (hr.mono (by decide)) (pa_cons (pv 2) (pa_cons (pv 0) pa_nil))))) (pw_or1 (pt_not (pt_val (pe_cal C_keep (hr.mono (by decide)) (pa_cons (pv 1) (pa_cons (pv 2) pa_nil))))))))
          (pss_one (ps_ret pe_bl)) pss_nil)
        (pss_one (ps_ret (pe_cmpR op_gt (pe_op op_sub (pe_ix ix_tup (pv 2) (pe_ix ix_tup (pv 3) pe_int (fun _ _ => rfl)) (fun _ _ => rfl)) (pe_ix ix_tup (pv 2) (pe_ix ix_tup (pv 3) pe_int (fun _ _ => rfl)) (fun _ _ => rfl))) (pe_ix ix_tup (pv 3) pe_int (fun _ _ => rfl)) (nomark _))))), ?_⟩
    obtain ⟨l1, l2, am⟩ := l
    obtain ⟨a, ea, an⟩ := nat_of lo.1
    obtain ⟨b', eb, bn⟩ := nat_of lo.2
    have ea : l1 = (a : Int) := ea
    have eb : l2 = (b' : Int) := eb
    subst ea eb
    refine ⟨_, rfl, _, rfl, ta, ts, (n : Nat), rfl, hta, by rw [Tm.1]; exact ln, fun H1 S1 => ?_⟩
    rw [decide_eq_true (show (ts.length : Int) = (n : Nat) by rw [Tm.1])]
    refine ⟨_, rfl, iteF ?_⟩
    refine ⟨_, rfl, _, rfl, g, ta, us, ls, ts, rfl, hL.same S1, .inr (S1 _ _ hta), by rw [Tm.1]; exact lok, ll, fun H2 S2 => ?_⟩
    rw [brk_nil.mpr Tm.2]
    refine ⟨_, rfl, iteF ?_⟩
    have S := S1.trans S2
    have hq2 := S _ _ hq
    have ht2 := S _ _ hta
    refine ⟨_, rfl, _, rfl, q, _, _, _, rfl, rfl, SqT.of hq2, atI_nat (j := 0) rfl, ta, _, _, _, rfl, rfl, SqT.of ht2, atI_nat (kF_at (by rw [Tm.1]; exact an)), _, rfl, _, rfl, q, _, _, _, rfl, rfl, SqT.of hq2, atI_nat (j := 1) rfl, ta, _, _, _, rfl, rfl, SqT.of ht2, atI_nat (kF_at (by rw [Tm.1]; exact bn)), _, _, rfl, rfl, _, rfl, q, _, _, _, rfl, rfl, SqT.of hq2, atI_nat (j := 2) rfl, _, _, rfl, rfl, ?_⟩
    have k := k H2 S
    show Q (.bl (decide (am < kF ts a - kF ts b'))) H2
    rw [decide_eq_true (show am < kF ts a - kF ts b' from far)]
    exact k
theorem cal_parts (T : Txt P w K mg cl) : Cal P w K mg base CX0 3 "_law_parts" ["_law_count", "_law_links_here", "_law_times_here", "_law_link"] (spParts) := by
  obtain ⟨f, fd, F, m⟩ := T.d_parts
  exact ⟨f, fd, ok_parts F T, m, F.kp, F.binds fun _ _ _ _ _ _ us hl => match us, hl with | [_, _, _, _], _ => rfl⟩
theorem ok_L_implied {f : Addr} {fd : FuncData} (F : Fun K "_law_implied" "_law_implied" s_L_implied f fd) (T : Txt P w K mg cl) : FnOk P w K mg base CX0 4 f fd ["_law_count", "_law_links_here", "_law_link", "_law_answer"] (spLImpl (cl "Implied") (cl "Unimplied")) := by
  refine F.ok sc_L_implied (fun vs H Q E h => ?_) (fun cdv A outer s H vs Q E hr h => ?_)
  · obtain ⟨g, x, q, us, ls, n, l, rfl, _⟩ := h
    rfl
  · obtain ⟨g, x, q, us, ls, n, l, rfl, hL, lok, ln, ll, hq, lo, hx, k⟩ := h
    have C_shows : Cal P w K mg base CX0 3 "_law_shows" _ spShows := cal_shows T
    have C_parts : Cal P w K mg base CX0 3 "_law_parts" _ spParts := cal_parts T
    refine ⟨_, (pss_cons (ps_if (pt_val (pe_callB call_isi (by rfl) T.n_isinstance (by decide +kernel) (pa_cons (pv 3) (pa_cons (pe_cls T.m_Implied) pa_nil))))
          (pss_one (ps_ret (pe_cal C_shows (hr.mono (by decide)) (pa_cons (pv 1) (pa_cons (pe_fld (pv 3) rfl) (pa_cons (pv 2) pa_nil)))))) pss_nil)
        (pss_one (ps_ret (pe_and (pe_callB call_isi (by rfl) T.n_isinstance (by decide +kernel) (pa_cons (pv 3) (pa_cons (pe_cls T.m_Unimplied) pa_nil))) (pe_one (pe_cal C_parts (hr.mono (by decide)) (pa_cons (pv 0) (pa_cons (pv 1) (pa_cons (pe_fld (pv 3) rfl) (pa_cons (pv 2) pa_nil)))))))))), ?_⟩
    rcases hx with ⟨pa, is, ⟨dq, hx⟩, hpa, I⟩ | ⟨ta, ts, ⟨dq, hx⟩, hta, U⟩
    · refine ⟨_, rfl, _, _, _, _, _, rfl, .own (cl "Implied"), .base (.ins hx T.cl_Implied T.y_Implied T.z1 T.z2 T.z3_Implied), T.k_Im_Im, _, rfl, iteT ?_⟩
      exact ⟨_, rfl, _, rfl, x, _, _, _, _, rfl, hx, T.cl_Implied, T.na_Implied _ (by decide), rfl, _, rfl, g, pa, q, us, ls, is, n, l, rfl, hL, hpa, (pn lok).2, by have := I.len; omega, hq, lo, I.lead, I.sum, k⟩
    · refine ⟨_, rfl, _, _, _, _, _, rfl, .own (cl "Implied"), .base (.ins hx T.cl_Unimplied T.y_Unimplied T.z1 T.z2 T.z3_Unimplied), T.k_Un_Im, _, rfl, iteF ?_⟩
      refine ⟨_, rfl, _, _, _, _, _, rfl, .own (cl "Unimplied"), .base (.ins hx T.cl_Unimplied T.y_Unimplied T.z1 T.z2 T.z3_Unimplied), T.k_Un_Un, _, rfl, iteT ?_⟩
      exact ⟨_, rfl, _, rfl, _, rfl, x, _, _, _, _, rfl, hx, T.cl_Unimplied, T.na_Unimplied _ (by decide), rfl, _, rfl, g, ta, q, us, ls, ts, n, l, rfl, hL, lok, ln, ll, hta, hq, lo, U.tms, U.far, k⟩
theorem cal_L_implied (T : Txt P w K mg cl) : Cal P w K mg base CX0 4 "_law_implied" ["_law_count", "_law_links_here", "_law_link", "_law_answer"] (spLImpl (cl "Implied") (cl "Unimplied")) := by
  obtain ⟨f, fd, F, m⟩ := T.d_L_implied
  exact ⟨f, fd, ok_L_implied F T, m, F.kp, F.binds fun _ _ _ _ _ _ us hl => match us, hl with | [_, _, _, _], _ => rfl⟩
end
end My
set_option Elab.async false
set_option linter.all false
set_option maxRecDepth 100000
set_option maxHeartbeats 1000000
namespace My
open PySem L2 Dw Wp
open C8 (pss_cut tCut)
set_option pp.maxSteps 600
open Bf Fw
theorem SyAt.butB {C : Addr} {H H' : Hp} {p t b : Addr} {c : Int} {us : List V} {ls : List Lk} (h : SyAt C H p c t us ls) (B : BgAt H b) (D : But b H H') : SyAt C H' p c t us ls := by
  obtain ⟨⟨dx, h1⟩, h2, h3⟩ := h
  exact ⟨⟨dx, D _ _ h1 (B.ins h1)⟩, D _ _ h2 (B.tup h2), Paired.impP (fun _ _ q => q.but B D) h3⟩
theorem linkW_lk {c : Int} {l : Lk} (h : LkOk c l) : linkW c (lkR l) = none := by
  show (if (lkV l).length = 3 then linkV c (lkV l) else some "link") = none
  rw [if_pos (show (lkV l).length = 3 from rfl)]
  unfold linkV
  rw [if_neg (by show ¬ true = false; decide), if_pos]
  obtain ⟨⟨h1, h2⟩, h3, h4⟩ := h
  show ((decide ((0 : Int) ≤ l.1) && decide (l.1 < c)) && (decide (0 ≤ l.2.1) && decide (l.2.1 < c))) = true
  simp only [Bool.and_eq_true, decide_eq_true_eq]
  omega
theorem lkR_inj' : ∀ {ls ls' : List Lk}, ls.map lkR = ls'.map lkR → ls = ls'
  | [], [], _ => rfl
  | [], _ :: _, h => by cases h
  | _ :: _, [], h => by cases h
  | (a, b, c) :: ls, (a', b', c') :: ls', h => by
    rw [List.map_cons, List.map_cons] at h
    injection h with h1 h2
    have h1 : Rd.sq [.int a, .int b, .int c] = .sq [.int a', .int b', .int c'] := h1
    injection h1 with h1
    injection h1 with x1 h1
    injection h1 with x2 h1
    injection h1 with x3 _
    rw [V.int.inj x1, V.int.inj x2, V.int.inj x3, lkR_inj' h2]
theorem badL {CB : Addr} {H : Hp} {E : XK} {n : Nat} {l : Lk} (lo : LkOk (n : Nat) l) : BadL CB H E (linkW (n : Nat) (lkR l)) := fun x hx => by
  rw [linkW_lk lo] at hx
  cases hx
theorem AnIn.same {CI CU : Addr} {ls : List Lk} {n : Nat} {l : Lk} {H H' : Hp} {x : Addr} {w : Option Str} (h : AnIn CI CU ls n l H x w) (S : Same H H') : AnIn CI CU ls n l H' x w :=
  h.imp (fun ⟨pa, is, a, b, c⟩ => ⟨pa, is, a.same S, S _ _ b, c⟩) fun ⟨ta, ts, a, b, c⟩ => ⟨ta, ts, a.same S, S _ _ b, c⟩
def spDue (CI CU : Addr) : Sp := fun vs H Q _ => ∃ (g x q : Addr) (us : List V) (ls : List Lk) (n : Nat) (l : Lk) (w : Option Str), vs = [.int (n : Nat), .ref g, .ref q, .ref x] ∧ LlT H g us ls ∧ (∀ l ∈ ls, LkOk (n : Nat) l) ∧ n ≤ 800 ∧ ls.length ≤ 800 ∧ H q = some (.tup (lkV l)) ∧ LkOk (n : Nat) l ∧ AnIn CI CU ls n l H x w ∧ ∀ H', Same H H' → Q (optV w) H'
theorem brk_one (l : Lk) (ts : List Int) : (brk [l] ts).isEmpty = keepB ts l := by
  unfold brk brkTo
  show (([0] : List Nat).filter _).isEmpty = _
  cases h : keepB ts l <;> simp [List.filter_cons, h]
theorem natT_int (is : List Nat) : natT is = intT (is.map fun (i : Nat) => (i : Int)) := by
  unfold natT intT
  rw [castV]
theorem anI {CI CU : Addr} {ls : List Lk} {n : Nat} {l : Lk} {H : Hp} {y d r : Addr} {ks : List Int} (ny : H y = none) (nd : H d = none) (hr : H r = some (intT ks)) (lr : ks.length ≤ 800) : AnIn CI CU ls n l (upd (upd (upd H d (.own y)) y (.ins CI d [])) y (.ins CI d [("path", .ref r)])) y (wIm ls l ks) :=
  .inl ⟨r, ks, ⟨d, upd_same⟩, made ny nd _ _ hr, lr, rfl⟩
theorem anU {CI CU : Addr} {ls : List Lk} {n : Nat} {l : Lk} {H : Hp} {y d r : Addr} {ks : List Int} (ny : H y = none) (nd : H d = none) (hr : H r = some (intT ks)) (lr : ks.length ≤ 800) : AnIn CI CU ls n l (upd (upd (upd H d (.own y)) y (.ins CU d [])) y (.ins CU d [("times", .ref r)])) y (wUn ls n l ks) :=
  .inr ⟨r, ks, ⟨d, upd_same⟩, made ny nd _ _ hr, lr, rfl⟩
def spJud (C CI CU : Addr) : Sp := fun vs H Q _ => ∃ (b p t g q x : Addr) (us ws : List V) (ls : List Lk) (n : Nat) (l : Lk), vs = [.ref b, .ref p, .int (n : Nat), .ref g, .ref q, .ref x] ∧ BgAt H b ∧ SyAt C H p (n : Nat) t ws ls ∧ LlT H g us ls ∧ g ≠ b ∧ (∀ l ∈ ls, LkOk (n : Nat) l) ∧ 1 ≤ n ∧ n ≤ 12 ∧ ls.length ≤ 100 ∧ H q = some (.tup (lkV l)) ∧ LkOk (n : Nat) l ∧ ShAt CI CU ls n l H x ∧ ∀ H', BgAt H' b → But b H H' → Q (.bl true) H'
section
variable {P : Program} {w : World} {K : PySem.W.Frag} {mg : Str → Option Value} {base : Heap} {cl : String → Addr}
theorem ok_due {f : Addr} {fd : FuncData} (F : Fun K "_law_due" "_law_due" s_due f fd) (T : Txt P w K mg cl) : FnOk P w K mg base CX0 3 f fd ["_law_count", "_law_links_here", "_law_link", "_law_answer"] (spDue (cl "Implied") (cl "Unimplied")) := by
  refine F.ok sc_due (fun vs H Q E h => ?_) (fun cdv A outer s H vs Q E hr h => ?_)
  · obtain ⟨g, x, q, us, ls, n, l, wd, rfl, _⟩ := h
    rfl
  · obtain ⟨g, x, q, us, ls, n, l, wd, rfl, hL, lok, ln, ll, hq, lo, an, k⟩ := h
    have C_path_due : Cal P w K mg base CX0 2 "_law_path_due" _ spPDu := cal_path_due T
    have C_keep : Cal P w K mg base CX0 1 "_law_keep" _ spLKeep := cal_keep T
    have C_sum : Cal P w K mg base CX0 1 "_law_sum" _ spLSum := cal_sum T
    refine ⟨_, (pss_cons (ps_if (pt_val (pe_callB call_isi (by rfl) T.n_isinstance (by decide +kernel) (pa_cons (pv 3) (pa_cons (pe_cls T.m_Implied) pa_nil))))
          (pss_cons (ps_set (i := 4) sc_due.nd rfl (Or.inl rfl) (pe_cal C_path_due (hr.mono (by decide)) (pa_cons (pv 1) (pa_cons (pe_fld (pv 3) rfl) (pa_cons (pe_ix ix_tup (pv 2) pe_int (fun _ _ => rfl)) (pa_cons (pe_ix ix_tup (pv 2) pe_int (fun _ _ => rfl)) pa_nil))))))
            (pss_cut (ps_if (PW.pt (pw_and (pt_cmpR op_isN (pv 4) pe_non (nomark _)) (pw_and1 (pt_cmpR op_gt (pe_cal C_sum (hr.mono (by decide)) (pa_cons (pv 1) (pa_cons (pe_fld (pv 3) rfl) pa_nil))) (pe_ix ix_tup (pv 2) pe_int (fun _ _ => rfl)) (nomark _)))))
              (pss_one (ps_set (i := 4) sc_due.nd rfl (Or.inl rfl) pe_str)) pss_nil)
            (pss_one (ps_ret (pv 4))))) pss_nil)
        (pss_cons (ps_if (pt_cmpR op_ne (pe_callB call_len_seq (by rfl) T.n_len PySem.boot_len (pa_cons (pe_fld (pv 3) rfl) pa_nil)) (pv 0) (nomark _))
          (pss_one (ps_ret pe_str)) pss_nil)
        (pss_cons (ps_if (pt_not (pt_val (pe_cal C_keep (hr.mono (by decide)) (pa_cons (pv 1) (pa_cons (pe_fld (pv 3) rfl) pa_nil)))))
          (pss_one (ps_ret pe_str)) pss_nil)
        (pss_one (ps_ret (pe_ifExp (pt_val (pe_cal C_keep (hr.mono (by decide)) (pa_cons (pe_lst (pa_cons (pv 2) pa_nil)) (pa_cons (pe_fld (pv 3) rfl) pa_nil)))) pe_str pe_non)))))), ?_⟩
    rcases an with ⟨pa, is, ⟨dq, hx⟩, hpa, li, rfl⟩ | ⟨ta, ts, ⟨dq, hx⟩, hta, lt, rfl⟩
    · refine ⟨_, rfl, _, _, _, _, _, rfl, .own (cl "Implied"), .base (.ins hx T.cl_Implied T.y_Implied T.z1 T.z2 T.z3_Implied), T.k_Im_Im, _, rfl, iteT ?_⟩
      obtain ⟨l1, l2, am⟩ := l
      refine ⟨_, rfl, _, rfl, x, _, _, _, _, rfl, hx, T.cl_Implied, T.na_Implied _ (by decide), rfl, _, rfl, q, _, _, _, rfl, rfl, SqT.of hq, atI_nat (j := 1) rfl, _, rfl, q, _, _, _, rfl, rfl, SqT.of hq, atI_nat (j := 0) rfl, g, pa, us, ls, is, l2, l1, rfl, hL, by omega, hpa, by omega, fun hix H1 S1 => ?_, fun js ej hj H1 S1 => ?_⟩
      · have k := k H1 S1
        unfold wIm at k
        rw [if_pos hix] at k
        refine ⟨fun σ' H2 => ∃ wd : Option Str, σ' = [some (.int (n : Nat)), some (.ref g), some (.ref q), some (.ref x), some (optV wd)] ∧ Q (optV wd) H2, ?_, fun σ' H2 ⟨wd, e, k⟩ => by subst e; exact ⟨_, rfl, k⟩⟩
        exact ⟨_, rfl, rfl, _, rfl, iteF (iteF ⟨some "index", rfl, k⟩)⟩
      · have hix : is.all (isIx ls.length) = true := by
          rw [ej]
          refine List.all_eq_true.mpr fun x hx => ?_
          obtain ⟨j, h, rfl⟩ := List.mem_map.mp hx
          have := hj j h
          unfold isIx
          rw [decide_eq_true (Int.natCast_nonneg j), decide_eq_true (show (j : Int) < (ls.length : Int) by omega)]
          rfl
        unfold wIm at k
        rw [if_neg (by rw [hix]; decide)] at k
        rw [ej, natI] at k
        cases hw : pathN ls js l2 l1 with
        | some x' =>
          have k := k H1 S1
          rw [show pathN ls js ((l1, l2, am) : Lk).2.1 ((l1, l2, am) : Lk).1 = some x' from hw] at k
          refine ⟨fun σ' H2 => ∃ wd : Option Str, σ' = [some (.int (n : Nat)), some (.ref g), some (.ref q), some (.ref x), some (optV wd)] ∧ Q (optV wd) H2, ?_, fun σ' H2 ⟨wd, e, k⟩ => by subst e; exact ⟨_, rfl, k⟩⟩
          exact ⟨_, rfl, rfl, _, rfl, iteF (iteF ⟨some x', rfl, k⟩)⟩
        | none =>
          rw [show pathN ls js ((l1, l2, am) : Lk).2.1 ((l1, l2, am) : Lk).1 = none from hw] at k
          have k : ∀ H', Same H H' → Q (optV (if sumO ls js ≤ am then (none : Option Str) else some ("sum" : Str))) H' := k
          refine ⟨fun σ' H2 => ∃ wd : Option Str, σ' = [some (.int (n : Nat)), some (.ref g), some (.ref q), some (.ref x), some (optV wd)] ∧ Q (optV wd) H2, ?_, fun σ' H2 ⟨wd, e, k⟩ => by subst e; exact ⟨_, rfl, k⟩⟩
          have hx1 := S1 _ _ hx
          rw [ej] at hpa
          refine ⟨_, rfl, rfl, _, rfl, iteT ?_⟩
          refine ⟨_, rfl, _, rfl, x, _, _, _, _, rfl, hx1, T.cl_Implied, T.na_Implied _ (by decide), rfl, g, pa, us, ls, js, rfl, hL.same S1, by rw [S1 _ _ hpa]; unfold intT natT; rw [castV], by rw [ej, List.length_map] at li; exact li, hj, fun H2 S2 => ?_⟩
          have k := k H2 (S1.trans S2)
          refine ⟨_, rfl, q, _, _, _, rfl, rfl, SqT.of (S2 _ _ (S1 _ _ hq)), atI_nat (j := 2) rfl, _, _, rfl, rfl, _, rfl, ?_⟩
          refine ite2 (fun z => ?_) (fun z => ?_)
          · have z : am < sumO ls js := of_decide_eq_true z
            rw [if_neg (by omega)] at k
            exact ⟨some "sum", rfl, k⟩
          · have z : ¬ am < sumO ls js := fun y => z (decide_eq_true y)
            rw [if_pos (by omega)] at k
            exact ⟨none, rfl, k⟩
    · refine ⟨_, rfl, _, _, _, _, _, rfl, .own (cl "Implied"), .base (.ins hx T.cl_Unimplied T.y_Unimplied T.z1 T.z2 T.z3_Unimplied), T.k_Un_Im, _, rfl, iteF ?_⟩
      refine ⟨_, rfl, x, _, _, _, _, rfl, hx, T.cl_Unimplied, T.na_Unimplied _ (by decide), rfl, ta, _, rfl, .inr (SqT.of hta), _, rfl, rfl, _, rfl, ?_⟩
      rw [List.length_map]
      by_cases gl : ts.length = n
      rotate_left
      · rw [decide_eq_false fun e => gl (by have := V.int.inj e; omega)]
        have hw2 : tmW ls n ts = some ("count" : Str) := by
          unfold tmW
          rw [if_neg gl]
        have k := k H (Same.refl H)
        unfold wUn at k
        rw [hw2] at k
        exact iteT k
      rw [decide_eq_true (by rw [gl])]
      refine iteF ?_
      refine ⟨_, rfl, _, rfl, x, _, _, _, _, rfl, hx, T.cl_Unimplied, T.na_Unimplied _ (by decide), rfl, g, ta, us, ls, ts, rfl, hL, .inr hta, by rw [gl]; exact lok, ll, fun H1 S1 => ?_⟩
      have tm : tmW ls n ts = if (brk ls ts).isEmpty = true then (none : Option Str) else some ("link" : Str) := by
        unfold tmW
        rw [if_pos gl]
      cases hbr : (brk ls ts).isEmpty with
      | false =>
        rw [hbr] at tm
        have k := k H1 S1
        unfold wUn at k
        rw [tm] at k
        exact ⟨_, rfl, iteT k⟩
      | true =>
        rw [hbr] at tm
        refine ⟨_, rfl, iteF ?_⟩
        refine ⟨_, rfl, by show 1 ≤ sizeLine; decide, fun z nz => ?_⟩
        have Sz := sNew (o := .lst [.ref q]) nz
        have S := S1.trans Sz
        refine ⟨_, rfl, x, _, _, _, _, rfl, S _ _ hx, T.cl_Unimplied, T.na_Unimplied _ (by decide), rfl, z, ta, [.ref q], [l], ts, rfl, ⟨upd_same, .cons ⟨q, rfl, S _ _ hq⟩ .nil⟩, .inr (S _ _ hta), fun l' hl' => by rw [gl, List.mem_singleton.mp hl']; exact lo, by show 1 ≤ 800; decide, fun H2 S2 => ?_⟩
        have k := k H2 (S.trans S2)
        unfold wUn at k
        rw [tm] at k
        have k : Q (optV (if keepB ts l = true then some ("kept" : Str) else none)) H2 := k
        rw [brk_one]
        refine ⟨_, rfl, ?_⟩
        cases hkb : keepB ts l with
        | true => rw [hkb] at k; exact iteT k
        | false => rw [hkb] at k; exact iteF k
theorem cal_due (T : Txt P w K mg cl) : Cal P w K mg base CX0 3 "_law_due" ["_law_count", "_law_links_here", "_law_link", "_law_answer"] (spDue (cl "Implied") (cl "Unimplied")) := by
  obtain ⟨f, fd, F, m⟩ := T.d_due
  exact ⟨f, fd, ok_due F T, m, F.kp, F.binds fun _ _ _ _ _ _ us hl => match us, hl with | [_, _, _, _], _ => rfl⟩
theorem ok_judged {f : Addr} {fd : FuncData} (F : Fun K "_law_judged" "_law_judged" s_judged f fd) (T : Txt P w K mg cl) : FnOk P w K mg base CX0 6 f fd ["_law_bag_here", "_law_system", "_law_count", "_law_links_here", "_law_link", "_law_told"] (spJud (cl "System") (cl "Implied") (cl "Unimplied")) := by
  refine F.ok sc_judged (fun vs H Q E h => ?_) (fun cdv A outer s H vs Q E hr h => ?_)
  · obtain ⟨b, p, t, g, q, x, us, ws, ls, n, l, rfl, _⟩ := h
    rfl
  · obtain ⟨b, p, t, g, q, x, us, ws, ls, n, l, rfl, B, X, hL, ngb, lok, n1, n12, ll, hq, lo, hx, k⟩ := h
    have C_take : Cal P w K mg base CX0 1 "_law_take" _ spTake := cal_take T
    have C_times : Cal P w K mg base CX0 4 "_law_times" _ spTimes := cal_times T
    have C_bent : Cal P w K mg base CX0 2 "_law_bent" _ spBent := cal_bent T
    have C_implied_fault : Cal P w K mg base (L2.CX P w) 5 "implied_fault" _ (spImF K (cl "System") (cl "BadSystem") (cl "Implied") (cl "Unimplied")) := cal_implied_fault T
    have C_due : Cal P w K mg base CX0 3 "_law_due" _ (spDue (cl "Implied") (cl "Unimplied")) := cal_due T
    have I_Implied : CalC P w K mg base CX0 1 (cl "Implied") _ (spFlds (cl "Implied") ["path"]) := cal_Implied_init T
    have I_Unimplied : CalC P w K mg base CX0 1 (cl "Unimplied") _ (spFlds (cl "Unimplied") ["times"]) := cal_Unimplied_init T
    refine ⟨_, (pss_cons (ps_set (i := 6) sc_judged.nd rfl (Or.inl rfl) (pe_cal C_take (hr.mono (by decide)) (pa_cons (pv 0) (pa_cons pe_int pa_nil))))
        (pss_cut (ps_if (pt_val (pe_callB call_isi (by rfl) T.n_isinstance (by decide +kernel) (pa_cons (pv 5) (pa_cons (pe_cls T.m_Implied) pa_nil))))
          (pss_cons (ps_set (i := 7) sc_judged.nd rfl (Or.inl rfl) (pe_mk I_Implied T.m_Implied (hr.mono (by decide))  (pa_cons (pe_cal C_bent (hr.mono (by decide)) (pa_cons (pv 0) (pa_cons (pe_fld (pv 5) rfl) (pa_cons (pe_callB call_len_seq (by rfl) T.n_len PySem.boot_len (pa_cons (pv 3) pa_nil)) pa_nil)))) pa_nil)))
            (pss_one (ps_if (pt_cmpR op_eq (pv 6) pe_int (nomark _))
              (pss_one (ps_set (i := 7) sc_judged.nd rfl (Or.inl rfl) (pe_mk I_Unimplied T.m_Unimplied (hr.mono (by decide))  (pa_cons (pe_callTy call_tuple_of (by rfl) T.n_tuple (by decide +kernel) (pa_cons (pe_cal C_times (hr.mono (by decide)) (pa_cons (pv 0) (pa_cons (pv 2) pa_nil))) pa_nil)) pa_nil)))) pss_nil))) (pss_cons (ps_set (i := 7) sc_judged.nd rfl (Or.inl rfl) (pe_mk I_Unimplied T.m_Unimplied (hr.mono (by decide))  (pa_cons (pe_cal C_bent (hr.mono (by decide)) (pa_cons (pv 0) (pa_cons (pe_fld (pv 5) rfl) (pa_cons pe_int pa_nil)))) pa_nil)))
            (pss_one (ps_if (pt_cmpR op_eq (pv 6) pe_int (nomark _))
              (pss_one (ps_set (i := 7) sc_judged.nd rfl (Or.inl rfl) (pe_mk I_Implied T.m_Implied (hr.mono (by decide))  (pa_cons (pe_cal C_bent (hr.mono (by decide)) (pa_cons (pv 0) (pa_cons (by exact (pe_tupRg rfl (by rfl) T.n_tuple (by exact (prg_1 (by rfl) T.n_range (by exact (pe_callB (call_min2 rfl) (by rfl) T.n_min (by decide +kernel) (pa_cons (pe_callB call_len_seq (by rfl) T.n_len PySem.boot_len (pa_cons (pv 3) pa_nil)) (pa_cons pe_int pa_nil)))))))) (pa_cons (pe_callB call_len_seq (by rfl) T.n_len PySem.boot_len (pa_cons (pv 3) pa_nil)) pa_nil)))) pa_nil)))) (pss_one (ps_if (pt_cmpR op_eq (pv 6) pe_int (nomark _))
                  (pss_one (ps_set (i := 7) sc_judged.nd rfl (Or.inl rfl) (pe_mk I_Unimplied T.m_Unimplied (hr.mono (by decide))  (pa_cons (pe_callTy call_tuple_of (by rfl) T.n_tuple (by decide +kernel) (pa_cons (pe_lc (own := [("_law_x", 8)]) (g := gName 8) (tt := tYes) rfl sc_judged.nd (pi_tup (pe_fld (pv 5) rfl)) (blkOk_by (own := [("_law_x", 8)]) (N := ["_law_bag_here", "_law_system", "_law_count", "_law_links_here", "_law_link", "_law_told", "_law_kind", "_law_answer", "_law_x"]) (sc := defScope s_judged) (by decide +kernel)) (fun _ _ _ _ _ => pg_name (i := 8) sc_judged.nd rfl (Or.inl rfl)) (fun _ _ _ _ _ => pts_nil) (fun _ _ _ _ _ => (pe_op op_sub (pe_op op_add (pv 8) (pe_cal C_take (hr.mono (by decide)) (pa_cons (pv 0) (pa_cons pe_int pa_nil)))) pe_int))) pa_nil)) pa_nil)))) pss_nil))))))
        (pss_one (ps_ret (pe_cmpR op_eq (pe_cal C_implied_fault (hr.mono (by decide)) (pa_cons (pv 1) (pa_cons (pv 4) (pa_cons (pv 7) pa_nil)))) (pe_cal C_due (hr.mono (by decide)) (pa_cons (pv 2) (pa_cons (pv 3) (pa_cons (pv 4) (pa_cons (pv 7) pa_nil))))) (nomark _)))))), ?_⟩
    refine ⟨_, rfl, b, _, rfl, B, by decide, by decide, fun kd H1 kd0 kd1 B1 D1 => ?_⟩
    refine ⟨fun σ' H2 => ∃ (y : Addr) (wd : Option Str) (v9 : Option V), σ' = [some (.ref b), some (.ref p), some (.int (n : Nat)), some (.ref g), some (.ref q), some (.ref x), some (.int kd), some (.ref y), v9] ∧ AnIn (cl "Implied") (cl "Unimplied") ls n l H2 y wd ∧ BgAt H2 b ∧ But b H H2, ?_, ?_⟩
    · have hL1 := hL.but ngb B D1
      have lu := hL.2.length
      have hx1 : ShAt (cl "Implied") (cl "Unimplied") ls n l H1 x := by
        rcases hx with ⟨pa, is, ⟨dq, hq⟩, hpa, I⟩ | ⟨ta, ts, ⟨dq, hq⟩, hta, U⟩
        · exact .inl ⟨pa, is, ⟨dq, D1 _ _ hq (B.ins hq)⟩, D1 _ _ hpa (B.tup hpa), I⟩
        · exact .inr ⟨ta, ts, ⟨dq, D1 _ _ hq (B.ins hq)⟩, D1 _ _ hta (B.tup hta), U⟩
      rcases hx1 with ⟨pa, is, ⟨dq, hq⟩, hpa, I⟩ | ⟨ta, ts, ⟨dq, hq⟩, hta, U⟩
      · refine ⟨_, rfl, _, _, _, _, _, rfl, .own (cl "Implied"), .base (.ins hq T.cl_Implied T.y_Implied T.z1 T.z2 T.z3_Implied), T.k_Im_Im, _, rfl, iteT ?_⟩
        rw [natT_int] at hpa
        have li := I.len
        refine ⟨_, rfl, _, rfl, x, _, _, _, _, rfl, hq, T.cl_Implied, T.na_Implied _ (by decide), rfl, _, rfl, g, us, rfl, .inl (SqL.of hL1.1), b, pa, _, us.length, rfl, B1, hpa, by rw [List.length_map]; omega, by omega, fun r ks H2 hr lr B2 D2 => fun y d ny nd ne => ⟨y, d, [.ref r], rfl, rfl, upd_same, rfl, ?_⟩⟩
        rw [List.length_map] at lr
        have an := anI (CI := cl "Implied") (CU := cl "Unimplied") (ls := ls) (n := n) (l := l) ny nd hr (by omega)
        have M := made (o1 := .own y) (o2 := .ins (cl "Implied") d []) (o3 := .ins (cl "Implied") d [("path", .ref r)]) ny nd
        have B3 := B2.same M
        have D3 := D1.trans (D2.trans (But.of M))
        refine ⟨_, rfl, rfl, _, rfl, ite2 (fun _ => ?_) (fun _ => ?_)⟩
        · refine ⟨_, rfl, _, rfl, b, (n : Nat), rfl, B3, by omega, by omega, fun a ts H3 na ha lt B4 D4 => ⟨a, _, rfl, .inl ⟨SqL.of ha, fun ta nta => fun y2 d2 ny2 nd2 ne2 => ⟨y2, d2, [.ref ta], rfl, rfl, upd_same, rfl, ?_⟩⟩⟩⟩
          have Sa := sNew (o := intT ts) nta
          have an2 := anU (CI := cl "Implied") (CU := cl "Unimplied") (ls := ls) (n := n) (l := l) ny2 nd2 (show upd H3 ta (intT ts) ta = _ from upd_same) (by omega)
          have M2 := made (o1 := .own y2) (o2 := .ins (cl "Unimplied") d2 []) (o3 := .ins (cl "Unimplied") d2 [("times", .ref ta)]) ny2 nd2
          exact ⟨y2, _, _, rfl, an2, B4.same (Sa.trans M2), D3.trans (D4.trans (But.of (Sa.trans M2)))⟩
        · exact ⟨y, _, _, rfl, an, B3, D3⟩
      · refine ⟨_, rfl, _, _, _, _, _, rfl, .own (cl "Implied"), .base (.ins hq T.cl_Unimplied T.y_Unimplied T.z1 T.z2 T.z3_Unimplied), T.k_Un_Im, _, rfl, iteF ?_⟩
        have lt0 : ts.length = n := U.tms.1
        refine ⟨_, rfl, _, rfl, x, _, _, _, _, rfl, hq, T.cl_Unimplied, T.na_Unimplied _ (by decide), rfl, b, ta, _, 20, rfl, B1, hta, by omega, by omega, fun r ks H2 hr lr B2 D2 => fun y d ny nd ne => ⟨y, d, [.ref r], rfl, rfl, upd_same, rfl, ?_⟩⟩
        have an := anU (CI := cl "Implied") (CU := cl "Unimplied") (ls := ls) (n := n) (l := l) ny nd hr (by omega)
        have M := made (o1 := .own y) (o2 := .ins (cl "Unimplied") d []) (o3 := .ins (cl "Unimplied") d [("times", .ref r)]) ny nd
        have B3 := B2.same M
        have D23 := D2.trans (But.of M)
        have D3 := D1.trans D23
        have hq3 := D23 _ _ hq (B1.ins hq)
        have hta3 := D23 _ _ hta (B1.tup hta)
        have hL3 := hL1.but ngb B1 D23
        refine ⟨_, rfl, rfl, _, rfl, ite2 (fun _ => ?_) (fun _ => ?_)⟩
        · refine ⟨_, rfl, _, rfl, g, us, rfl, .inl (SqL.of hL3.1), _, _, rfl, _, rfl, ?_⟩
          have mr : (if (3 : Int) < (us.length : Nat) then (3 : Int) else (us.length : Nat)) = ((min us.length 3 : Nat) : Int) := by split <;> omega
          rw [mr]
          refine ⟨RgOk.of_le (by omega) (by omega) (by omega) (by omega), fun tr ntr => ?_⟩
          rw [rgV_nat]
          have St := sNew (o := .tup ((List.range (min us.length 3)).map fun (i : Nat) => V.int i)) ntr
          have B4 := B3.same St
          have hL4 := hL3.same St
          refine ⟨_, rfl, g, us, rfl, .inl (SqL.of hL4.1), b, tr, (List.range (min us.length 3)).map fun (i : Nat) => (i : Int), us.length, rfl, B4, by rw [upd_same]; unfold intT; rw [castV], by rw [List.length_map, List.length_range]; omega, by omega, fun r2 ks2 H5 hr2 lr2 B5 D5 => fun y2 d2 ny2 nd2 ne2 => ⟨y2, d2, [.ref r2], rfl, rfl, upd_same, rfl, ?_⟩⟩
          rw [List.length_map, List.length_range] at lr2
          have an2 := anI (CI := cl "Implied") (CU := cl "Unimplied") (ls := ls) (n := n) (l := l) ny2 nd2 hr2 (by omega)
          have M2 := made (o1 := .own y2) (o2 := .ins (cl "Implied") d2 []) (o3 := .ins (cl "Implied") d2 [("path", .ref r2)]) ny2 nd2
          exact ⟨y2, _, _, rfl, an2, B5.same M2, D3.trans ((But.of St).trans (D5.trans (But.of M2)))⟩
        · refine ⟨_, rfl, rfl, _, rfl, ite2 (fun _ => ?_) (fun _ => ?_)⟩
          · refine ⟨_, rfl, x, _, _, _, _, rfl, hq3, T.cl_Unimplied, T.na_Unimplied _ (by decide), rfl, ta, rfl, ⟨_, SqT.of hta3⟩, fun D nD => lc_tup (K := K) (a := ta) (xs := ts.map V.int) (fun j H4 => ∃ acc : List Int, H4 D = some (.lst (acc.map V.int)) ∧ acc.length = j ∧ BgAt H4 b ∧ But b (upd (upd (upd H2 d (.own y)) y (.ins (cl "Unimplied") d [])) y (.ins (cl "Unimplied") d [("times", .ref r)])) H4) ⟨[], upd_same, rfl, B3.same (sNew nD), But.of (sNew nD)⟩ (fun j H4 _ ⟨acc, h1, h2, B4, D4⟩ => SqT.of (D4 _ _ hta3 (B3.tup hta3))) (fun j v H4 hv ⟨acc, h1, h2, B4, D4⟩ => ?_) (fun H4 ⟨acc, h1, h2, B4, D4⟩ => ?_)⟩
            · obtain ⟨i, hi, rfl⟩ : ∃ i, ts[j]? = some i ∧ V.int i = v := by
                rw [List.getElem?_map] at hv
                cases e : ts[j]? with
                | none => rw [e] at hv; cases hv
                | some i => rw [e] at hv; exact ⟨i, rfl, Option.some.inj hv⟩
              have jl := (List.getElem?_eq_some_iff.mp hi).1
              have nDb := B3.ne nD
              refine ⟨rfl, _, rfl, _, rfl, b, _, rfl, B4, by decide, by decide, fun jj H5 _ _ B5 D5 => ⟨_, _, rfl, rfl, _, _, rfl, rfl, ?_⟩⟩
              refine ⟨_, D5 _ _ h1 nDb, small1000 (by rw [List.length_map]; omega), acc ++ [i + jj - 1], ?_, by rw [List.length_append, h2]; rfl, B5.upd nDb, but_upd (D4.trans D5) nD⟩
              rw [List.map_append]
              exact upd_same
            · rw [List.length_map] at h2
              refine ⟨D, _, rfl, .inl ⟨SqL.of h1, fun ta2 nta => fun y2 d2 ny2 nd2 ne2 => ⟨y2, d2, [.ref ta2], rfl, rfl, upd_same, rfl, ?_⟩⟩⟩
              have Sa := sNew (o := intT acc) nta
              have an2 := anU (CI := cl "Implied") (CU := cl "Unimplied") (ls := ls) (n := n) (l := l) ny2 nd2 (show upd H4 ta2 (intT acc) ta2 = _ from upd_same) (by omega)
              have M2 := made (o1 := .own y2) (o2 := .ins (cl "Unimplied") d2 []) (o3 := .ins (cl "Unimplied") d2 [("times", .ref ta2)]) ny2 nd2
              exact ⟨y2, _, _, rfl, an2, B4.same (Sa.trans M2), D3.trans (D4.trans (But.of (Sa.trans M2)))⟩
          · exact ⟨y, _, _, rfl, an, B3, D3⟩
    · rintro σ' H2 ⟨y, wd, v9, rfl, an, B2, D2⟩
      have hL2 := hL.but ngb B D2
      have hq2 := D2 _ _ hq (B.tup hq)
      have X2 := X.butB B D2
      refine ⟨_, rfl, _, rfl, _, rfl, p, t, y, n, ws, ls, .ref q, lkR l, rfl, X2, lok, by omega, by omega, ⟨q, rfl, .inr hq2⟩, lkR_ok l, badL lo, fun l' el lo' => ?_⟩
      have e1 := lkR_inj' (ls := [l]) (ls' := [l']) (congrArg (fun z => [z]) el)
      cases e1
      refine ⟨q, wd, rfl, hq2, an, fun H3 S3 => ⟨_, rfl, _, rfl, _, rfl, _, rfl, g, y, q, us, ls, n, l, wd, rfl, hL2.same S3, lok, by omega, by omega, S3 _ _ hq2, lo, an.same S3, fun H4 S4 => ?_⟩⟩
      have k := k H4 (B2.same (S3.trans S4)) (D2.trans (But.of (S3.trans S4)))
      exact ⟨by cases wd <;> rfl, by rw [decide_eq_true rfl]; exact k⟩
theorem cal_judged (T : Txt P w K mg cl) : Cal P w K mg base CX0 6 "_law_judged" ["_law_bag_here", "_law_system", "_law_count", "_law_links_here", "_law_link", "_law_told"] (spJud (cl "System") (cl "Implied") (cl "Unimplied")) := by
  obtain ⟨f, fd, F, m⟩ := T.d_judged
  exact ⟨f, fd, ok_judged F T, m, F.kp, F.binds fun _ _ _ _ _ _ us hl => match us, hl with | [_, _, _, _, _, _], _ => rfl⟩
end
end My
set_option Elab.async false
set_option linter.all false
set_option maxRecDepth 100000
set_option maxHeartbeats 1000000
namespace My
open PySem L2 Dw Wp
open C8 (pss_cut tCut)
set_option pp.maxSteps 600
open Bf Fw
/-- each is an entry: a link that is none, and its word -/
def Gd (c : Int) (H H' : Hp) (xs : List V) : Prop := ∀ x ∈ xs, ∃ e lv r wd, x = .ref e ∧ H' e = some (.tup [lv, .str wd]) ∧ RdAt H' lv r ∧ RdOk r ∧ linkW c r = some wd ∧ (wd = "link" ∨ wd = "instant") ∧ ∀ q, lv = .ref q → H q = none
theorem Gd.nil {c : Int} {H H' : Hp} : Gd c H H' [] := fun x h => by cases h
theorem Gd.same {c : Int} {H H1 H2 : Hp} {xs : List V} (W : Gd c H H1 xs) (S : Same H1 H2) : Gd c H H2 xs := fun x h => let ⟨e, lv, r, wd, h0, h1, h2, h3⟩ := W x h; ⟨e, lv, r, wd, h0, S _ _ h1, h2.same S, h3⟩
theorem Gd.snoc {c : Int} {H H' : Hp} {xs : List V} {e : Addr} {lv : V} {wd : Str} {r : Rd} (W : Gd c H H' xs) (h1 : H' e = some (.tup [lv, .str wd])) (h2 : RdAt H' lv r) (h3 : RdOk r) (h4 : linkW c r = some wd) (h5 : wd = "link" ∨ wd = "instant") (h6 : ∀ q, lv = .ref q → H q = none) : Gd c H H' (xs ++ [.ref e]) := fun x hx => by
  rcases List.mem_append.mp hx with hx | hx
  · exact W x hx
  · rw [show x = .ref e by simpa using hx]
    exact ⟨e, lv, r, wd, rfl, h1, h2, h3, h4, h5, h6⟩
theorem RdAt.but {H H' : Hp} {b : Addr} {v : V} {r : Rd} (h : RdAt H v r) (n : ∀ q, v = .ref q → q ≠ b) (D : But b H H') : RdAt H' v r := by
  cases r with
  | pl x => exact h
  | sq xs =>
    obtain ⟨q, e, hq⟩ := h
    exact ⟨q, e, hq.imp (fun z => D _ _ z (n q e)) fun z => D _ _ z (n q e)⟩
theorem isT_bad {c : Int} {a b z : Int} (h : ¬ ((0 ≤ a ∧ a < c) ∧ 0 ≤ b ∧ b < c)) : linkV c [.int a, .int b, .int z] = some ("instant" : Str) := by
  unfold linkV
  rw [if_neg (by show ¬ true = false; decide), if_neg]
  show ¬ ((decide ((0 : Int) ≤ a) && decide (a < c)) && (decide (0 ≤ b) && decide (b < c))) = true
  simp only [Bool.and_eq_true, decide_eq_true_eq]
  exact h
def spBadL (C : Addr) : Sp := fun vs H Q _ => ∃ (b p t : Addr) (n : Nat) (us : List V) (ls : List Lk), vs = [.ref b, .ref p, .int (n : Nat)] ∧ BgAt H b ∧ SyAt C H p (n : Nat) t us ls ∧ (∀ l ∈ ls, LkOk (n : Nat) l) ∧ 1 ≤ n ∧ n ≤ 12 ∧ ls.length ≤ 300 ∧ ∀ H', BgAt H' b → But b H H' → Q (.bl true) H'
theorem prs_dp {K : PySem.W.Frag} {H : Hp} {w : Str} : ∀ {us : List V}, (∀ u ∈ us, ∃ e, u = .ref e ∧ H e = some (.tup [.int 0, .str w])) → DpAll K H us (us.map fun _ => sqD false ([.int 0, .str w].map vD))
  | [], _ => .nil
  | u :: us, h => by
    obtain ⟨e, rfl, he⟩ := h u List.mem_cons_self
    exact .cons (dp_tup (SqT.of he) (dpvs (xs := [.int 0, .str w]) fun x hx => (by rcases (show x = .int 0 ∨ x = .str w by simpa using hx) with rfl | rfl <;> rfl))) (prs_dp fun v hv => h v (List.mem_cons_of_mem _ hv))
theorem pr_ok {w : Str} (h : PyData.strOk w = true) : ∀ x ∈ ([.int 0, .str w] : List V), okV x = true := fun x hx => by
  rcases (show x = .int 0 ∨ x = .str w by simpa using hx) with rfl | rfl
  · rfl
  · exact h
theorem lwg (n : Nat) (o2 am z : Int) (hz : 0 ≤ z) : linkW (n : Nat) (.sq [.int ((n : Int) + z), .int o2, .int am]) = some ("instant" : Str) := isT_bad (by omega)
theorem pw20 : (0 : Int) ≤ 10 ^ (20 : Int).toNat := by decide
theorem lw1 (n : Nat) (o1 o2 am : Int) : linkW (n : Nat) (.sq [.int o1, .int o2]) = some ("link" : Str) := rfl
theorem rk1 (n : Nat) (o1 o2 am : Int) : RdOk (.sq [.int o1, .int o2]) := ⟨by show 2 ≤ 6; decide, fun x hx => (by simp only [List.mem_cons, List.not_mem_nil, or_false] at hx; rcases hx with rfl | rfl <;> first | trivial | exact ⟨by decide, by decide +kernel⟩)⟩
theorem lw2 (n : Nat) (o1 o2 am : Int) : linkW (n : Nat) (.pl (.non)) = some ("link" : Str) := rfl
theorem rk2 (n : Nat) (o1 o2 am : Int) : RdOk (.pl (.non)) := (show Sr (.non) from trivial)
theorem lw3 (n : Nat) (o1 o2 am : Int) : linkW (n : Nat) (.pl (.str "abc")) = some ("link" : Str) := rfl
theorem rk3 (n : Nat) (o1 o2 am : Int) : RdOk (.pl (.str "abc")) := (show Sr (.str "abc") from ⟨by decide, by decide +kernel⟩)
theorem lw4 (n : Nat) (o1 o2 am : Int) : linkW (n : Nat) (.sq [.int o1, .int o2, .non]) = some ("link" : Str) := rfl
theorem rk4 (n : Nat) (o1 o2 am : Int) : RdOk (.sq [.int o1, .int o2, .non]) := ⟨by show 3 ≤ 6; decide, fun x hx => (by simp only [List.mem_cons, List.not_mem_nil, or_false] at hx; rcases hx with rfl | rfl | rfl <;> first | trivial | exact ⟨by decide, by decide +kernel⟩)⟩
theorem lw5 (n : Nat) (o1 o2 am : Int) : linkW (n : Nat) (.sq [.bl true, .int o2, .int 1]) = some ("link" : Str) := rfl
theorem rk5 (n : Nat) (o1 o2 am : Int) : RdOk (.sq [.bl true, .int o2, .int 1]) := ⟨by show 3 ≤ 6; decide, fun x hx => (by simp only [List.mem_cons, List.not_mem_nil, or_false] at hx; rcases hx with rfl | rfl | rfl <;> first | trivial | exact ⟨by decide, by decide +kernel⟩)⟩
theorem lw6 (n : Nat) (o1 o2 am : Int) : linkW (n : Nat) (.sq [.int o1, .int o2, .int am, .int 1]) = some ("link" : Str) := rfl
theorem rk6 (n : Nat) (o1 o2 am : Int) : RdOk (.sq [.int o1, .int o2, .int am, .int 1]) := ⟨by show 4 ≤ 6; decide, fun x hx => (by simp only [List.mem_cons, List.not_mem_nil, or_false] at hx; rcases hx with rfl | rfl | rfl | rfl <;> first | trivial | exact ⟨by decide, by decide +kernel⟩)⟩
theorem lw7 (n : Nat) (o1 o2 am : Int) : linkW (n : Nat) (.sq [.int (n : Nat), .int (-1), .str "1"]) = some ("link" : Str) := rfl
theorem rk7 (n : Nat) (o1 o2 am : Int) : RdOk (.sq [.int (n : Nat), .int (-1), .str "1"]) := ⟨by show 3 ≤ 6; decide, fun x hx => (by simp only [List.mem_cons, List.not_mem_nil, or_false] at hx; rcases hx with rfl | rfl | rfl <;> first | trivial | exact ⟨by decide, by decide +kernel⟩)⟩
theorem lw8 (n : Nat) (o1 o2 am : Int) (h : True) : linkW (n : Nat) (.sq [.int (n : Nat), .int o2, .int am]) = some ("instant" : Str) := (isT_bad (by omega))
theorem rk8 (n : Nat) (o1 o2 am : Int) : RdOk (.sq [.int (n : Nat), .int o2, .int am]) := ⟨by show 3 ≤ 6; decide, fun x hx => (by simp only [List.mem_cons, List.not_mem_nil, or_false] at hx; rcases hx with rfl | rfl | rfl <;> first | trivial | exact ⟨by decide, by decide +kernel⟩)⟩
theorem lw9 (n : Nat) (o1 o2 am : Int) : linkW (n : Nat) (.sq [.int o1, .int (-1), .int am]) = some ("instant" : Str) := (isT_bad (by omega))
theorem rk9 (n : Nat) (o1 o2 am : Int) : RdOk (.sq [.int o1, .int (-1), .int am]) := ⟨by show 3 ≤ 6; decide, fun x hx => (by simp only [List.mem_cons, List.not_mem_nil, or_false] at hx; rcases hx with rfl | rfl | rfl <;> first | trivial | exact ⟨by decide, by decide +kernel⟩)⟩
theorem lw10 (n : Nat) (o1 o2 am : Int) : linkW (n : Nat) (.sq [.int ((n : Int) + 10 ^ (20 : Int).toNat), .int o2, .int am]) = some ("instant" : Str) := lwg n o2 am _ pw20
theorem rk10 (n : Nat) (o1 o2 am : Int) : RdOk (.sq [.int ((n : Int) + 10 ^ (20 : Int).toNat), .int o2, .int am]) := ⟨by show 3 ≤ 6; decide, fun x hx => (by simp only [List.mem_cons, List.not_mem_nil, or_false] at hx; rcases hx with rfl | rfl | rfl <;> first | trivial | exact ⟨by decide, by decide +kernel⟩)⟩
theorem lw11 (n : Nat) (o1 o2 am : Int) : linkW (n : Nat) (.sq [.int o1, .int o2, .bl false]) = some ("link" : Str) := rfl
theorem rk11 (n : Nat) (o1 o2 am : Int) : RdOk (.sq [.int o1, .int o2, .bl false]) := ⟨by show 3 ≤ 6; decide, fun x hx => (by simp only [List.mem_cons, List.not_mem_nil, or_false] at hx; rcases hx with rfl | rfl | rfl <;> first | trivial | exact ⟨by decide, by decide +kernel⟩)⟩
section
variable {P : Program} {w : World} {K : PySem.W.Frag} {mg : Str → Option Value} {base : Heap} {cl : String → Addr}
theorem ok_bad_link {f : Addr} {fd : FuncData} (F : Fun K "_law_bad_link" "_law_bad_link" s_bad_link f fd) (T : Txt P w K mg cl) : FnOk P w K mg base CX0 6 f fd ["_law_bag_here", "_law_system", "_law_count"] (spBadL (cl "System")) := by
  refine F.ok sc_bad_link (fun vs H Q E h => ?_) (fun cdv A outer s H vs Q E hr h => ?_)
  · obtain ⟨b, p, t, n, us, ls, rfl, _⟩ := h
    rfl
  · obtain ⟨b, p, t, n, us, ls, rfl, B, X, lok, n1, n12, ll, k⟩ := h
    have C_take : Cal P w K mg base CX0 1 "_law_take" _ spTake := cal_take T
    have C_amount : Cal P w K mg base CX0 3 "_law_amount" _ spAmt := cal_amount T
    have C_of : Cal P w K mg base CX0 2 "_law_of" _ spOf := cal_of T
    have C_implied : Cal P w K mg base (L2.CX P w) 5 "implied" _ (spImpl K (cl "System") (cl "BadSystem") (cl "NoTimes") (cl "Implied") (cl "Unimplied")) := cal_implied T
    have C_implied_fault : Cal P w K mg base (L2.CX P w) 5 "implied_fault" _ (spImF K (cl "System") (cl "BadSystem") (cl "Implied") (cl "Unimplied")) := cal_implied_fault T
    have I_Implied : CalC P w K mg base CX0 1 (cl "Implied") _ (spFlds (cl "Implied") ["path"]) := cal_Implied_init T
    refine ⟨_, (pss_cons (ps_par3 (i := 3) (j := 4) (l := 5) rfl sc_bad_link.nd rfl rfl rfl (by decide) (by decide) (by decide) rfl rfl rfl (pa_cons (pe_cal C_take (hr.mono (by decide)) (pa_cons (pv 0) (pa_cons (pv 2) pa_nil))) (pa_cons (pe_cal C_take (hr.mono (by decide)) (pa_cons (pv 0) (pa_cons (pv 2) pa_nil))) (pa_cons (pe_cal C_amount (hr.mono (by decide)) (pa_cons (pv 0) pa_nil)) pa_nil))) (by rfl))
        (pss_cons (ps_set (i := 6) sc_bad_link.nd rfl (Or.inl rfl) (pe_lst (pa_cons (pe_tup (pa_cons (pe_tup (pa_cons (pv 3) (pa_cons (pv 4) pa_nil))) (pa_cons pe_str pa_nil))) (pa_cons (pe_tup (pa_cons pe_non (pa_cons pe_str pa_nil))) (pa_cons (pe_tup (pa_cons pe_str (pa_cons pe_str pa_nil))) (pa_cons (pe_tup (pa_cons (pe_tup (pa_cons (pv 3) (pa_cons (pv 4) (pa_cons pe_non pa_nil)))) (pa_cons pe_str pa_nil))) (pa_cons (pe_tup (pa_cons (pe_tup (pa_cons pe_bl (pa_cons (pv 4) (pa_cons pe_int pa_nil)))) (pa_cons pe_str pa_nil))) (pa_cons (pe_tup (pa_cons (pe_lst (pa_cons (pv 3) (pa_cons (pv 4) (pa_cons (pv 5) (pa_cons pe_int pa_nil))))) (pa_cons pe_str pa_nil))) (pa_cons (pe_tup (pa_cons (pe_tup (pa_cons (pv 2) (pa_cons (pe_un un_neg pe_int) (pa_cons pe_str pa_nil)))) (pa_cons pe_str pa_nil))) (pa_cons (pe_tup (pa_cons (pe_tup (pa_cons (pv 2) (pa_cons (pv 4) (pa_cons (pv 5) pa_nil)))) (pa_cons pe_str pa_nil))) (pa_cons (pe_tup (pa_cons (pe_tup (pa_cons (pv 3) (pa_cons (pe_un un_neg pe_int) (pa_cons (pv 5) pa_nil)))) (pa_cons pe_str pa_nil))) (pa_cons (pe_tup (pa_cons (pe_lst (pa_cons (pe_op op_add (pv 2) (pe_op op_pow pe_int pe_int)) (pa_cons (pv 4) (pa_cons (pv 5) pa_nil)))) (pa_cons pe_str pa_nil))) (pa_cons (pe_tup (pa_cons (pe_tup (pa_cons (pv 3) (pa_cons (pv 4) (pa_cons pe_bl pa_nil)))) (pa_cons pe_str pa_nil))) pa_nil)))))))))))))
        (pss_cons (ps_asg (pe_cal C_of (hr.mono (by decide)) (pa_cons (pv 0) (pa_cons (pv 6) pa_nil))) (pg_tup rfl (pgs_cons (pg_name (i := 7) sc_bad_link.nd rfl (Or.inl rfl)) (pgs_cons (pg_name (i := 8) sc_bad_link.nd rfl (Or.inl rfl)) pgs_nil))))
        (pss_cons (ps_set (i := 9) sc_bad_link.nd rfl (Or.inl rfl) (pe_lst pa_nil))
        (pss_cons (ps_for PassesOwn.never rfl (pi_range1 rfl T.n_range (pa_cons pe_int pa_nil)) (pg_name (i := 10) sc_bad_link.nd rfl (Or.inl rfl))
          (pss_oneW (ps_try_as (i := 11) (Wout := fun _ _ _ _ => False) rfl rfl sc_bad_link.nd rfl rfl ⟨rfl, by decide, Or.inl T.m_BadSystem⟩ takes0
                (fun W pn xe tk po => (pss_one (ps_if (pt_cmpR op_eq (pv 10) pe_int (nomark _))
                    (pss_one (ps_expr (pe_calS C_implied (hr.mono (by decide)) (fun σ => passAt tk σ) (pa_cons (pv 1) (pa_cons (pv 7) pa_nil))))) (pss_one (ps_expr (pe_calS C_implied_fault (hr.mono (by decide)) (fun σ => passAt tk σ) (pa_cons (pv 1) (pa_cons (pv 7) (pa_cons (pe_mk I_Implied T.m_Implied (hr.mono (by decide))  (pa_cons (pe_tup pa_nil) pa_nil)) pa_nil)))))))))
                (fun a oe cls d pn hz hf => (pss_one (ps_expr (pe_app1K (K := K) rfl (by exact (pv 9)) (by exact (pa_cons (pe_tup (pa_cons (pe_xf (T.x_BadSystem).xf T.xf_BadSystem_index hz hf (pv 11)) (pa_cons (pe_xf (T.x_BadSystem).xf T.xf_BadSystem_what hz hf (pv 11)) pa_nil))) pa_nil)))))))))
        (pss_one (ps_ret (pe_cmpR (op_eqD hr.units) (pv 9) (pe_lst (pa_cons (pe_tup (pa_cons pe_int (pa_cons (pv 8) pa_nil))) (pa_cons (pe_tup (pa_cons pe_int (pa_cons (pv 8) pa_nil))) pa_nil))) (nomark _))))))))), ?_⟩
    refine ⟨_, rfl, _, rfl, b, (n : Nat), rfl, B, by omega, by omega, fun o1 H1 o10 o11 B1 D1 => ⟨_, rfl, _, rfl, b, (n : Nat), rfl, B1, by omega, by omega, fun o2 H2 o20 o21 B2 D2 => ⟨_, rfl, b, rfl, B2, fun am H0 B3 D3 => ?_⟩⟩⟩
    have D3 := D1.trans (D2.trans D3)
    refine ⟨_, _, _, rfl, ?_⟩
    have W : Gd (n : Nat) H0 H0 [] := Gd.nil
    have S : Same H0 H0 := Same.refl H0
    refine ⟨_, rfl, _, rfl, by show 2 ≤ sizeLine; decide, fun p1 n1 => ?_⟩
    have S9 := sNew (o := (.tup [.int o1, .int o2])) n1
    have hp1 : upd H0 p1 (.tup [.int o1, .int o2]) p1 = some (.tup [.int o1, .int o2]) := upd_same
    have fp1 := S.free n1
    have W := W.same S9
    have S := S.trans S9
    clear S9
    generalize upd H0 p1 (.tup [.int o1, .int o2]) = G1 at W S hp1
    refine ⟨by show 2 ≤ sizeLine; decide, fun e1 m1 => ?_⟩
    have S9 := sNew (o := (.tup [.ref p1, .str "link"])) m1
    have he1 : upd G1 e1 (.tup [.ref p1, .str "link"]) e1 = some (.tup [.ref p1, .str "link"]) := upd_same
    have W := (W.same S9).snoc he1 (r := .sq [.int o1, .int o2]) ⟨p1, rfl, .inr (S9 _ _ hp1)⟩ (rk1 n o1 o2 am) (lw1 n o1 o2 am) (.inl rfl) (fun q z => by cases z; exact fp1)
    have S := S.trans S9
    clear S9 he1 hp1
    generalize upd G1 e1 (.tup [.ref p1, .str "link"]) = K1 at W S
    refine ⟨by show 2 ≤ sizeLine; decide, fun e2 m2 => ?_⟩
    have S9 := sNew (o := (.tup [.non, .str "link"])) m2
    have he2 : upd K1 e2 (.tup [.non, .str "link"]) e2 = some (.tup [.non, .str "link"]) := upd_same
    have W := (W.same S9).snoc he2 (r := .pl (.non)) rfl (rk2 n o1 o2 am) (lw2 n o1 o2 am) (.inl rfl) (fun q z => by cases z)
    have S := S.trans S9
    clear S9 he2
    generalize upd K1 e2 (.tup [.non, .str "link"]) = K2 at W S
    refine ⟨by show 2 ≤ sizeLine; decide, fun e3 m3 => ?_⟩
    have S9 := sNew (o := (.tup [.str "abc", .str "link"])) m3
    have he3 : upd K2 e3 (.tup [.str "abc", .str "link"]) e3 = some (.tup [.str "abc", .str "link"]) := upd_same
    have W := (W.same S9).snoc he3 (r := .pl (.str "abc")) rfl (rk3 n o1 o2 am) (lw3 n o1 o2 am) (.inl rfl) (fun q z => by cases z)
    have S := S.trans S9
    clear S9 he3
    generalize upd K2 e3 (.tup [.str "abc", .str "link"]) = K3 at W S
    refine ⟨_, rfl, _, rfl, by show 3 ≤ sizeLine; decide, fun p4 n4 => ?_⟩
    have S9 := sNew (o := (.tup [.int o1, .int o2, .non])) n4
    have hp4 : upd K3 p4 (.tup [.int o1, .int o2, .non]) p4 = some (.tup [.int o1, .int o2, .non]) := upd_same
    have fp4 := S.free n4
    have W := W.same S9
    have S := S.trans S9
    clear S9
    generalize upd K3 p4 (.tup [.int o1, .int o2, .non]) = G4 at W S hp4
    refine ⟨by show 2 ≤ sizeLine; decide, fun e4 m4 => ?_⟩
    have S9 := sNew (o := (.tup [.ref p4, .str "link"])) m4
    have he4 : upd G4 e4 (.tup [.ref p4, .str "link"]) e4 = some (.tup [.ref p4, .str "link"]) := upd_same
    have W := (W.same S9).snoc he4 (r := .sq [.int o1, .int o2, .non]) ⟨p4, rfl, .inr (S9 _ _ hp4)⟩ (rk4 n o1 o2 am) (lw4 n o1 o2 am) (.inl rfl) (fun q z => by cases z; exact fp4)
    have S := S.trans S9
    clear S9 he4 hp4
    generalize upd G4 e4 (.tup [.ref p4, .str "link"]) = K4 at W S
    refine ⟨_, rfl, by show 3 ≤ sizeLine; decide, fun p5 n5 => ?_⟩
    have S9 := sNew (o := (.tup [.bl true, .int o2, .int 1])) n5
    have hp5 : upd K4 p5 (.tup [.bl true, .int o2, .int 1]) p5 = some (.tup [.bl true, .int o2, .int 1]) := upd_same
    have fp5 := S.free n5
    have W := W.same S9
    have S := S.trans S9
    clear S9
    generalize upd K4 p5 (.tup [.bl true, .int o2, .int 1]) = G5 at W S hp5
    refine ⟨by show 2 ≤ sizeLine; decide, fun e5 m5 => ?_⟩
    have S9 := sNew (o := (.tup [.ref p5, .str "link"])) m5
    have he5 : upd G5 e5 (.tup [.ref p5, .str "link"]) e5 = some (.tup [.ref p5, .str "link"]) := upd_same
    have W := (W.same S9).snoc he5 (r := .sq [.bl true, .int o2, .int 1]) ⟨p5, rfl, .inr (S9 _ _ hp5)⟩ (rk5 n o1 o2 am) (lw5 n o1 o2 am) (.inl rfl) (fun q z => by cases z; exact fp5)
    have S := S.trans S9
    clear S9 he5 hp5
    generalize upd G5 e5 (.tup [.ref p5, .str "link"]) = K5 at W S
    refine ⟨_, rfl, _, rfl, _, rfl, by show 4 ≤ sizeLine; decide, fun p6 n6 => ?_⟩
    have S9 := sNew (o := (.lst [.int o1, .int o2, .int am, .int 1])) n6
    have hp6 : upd K5 p6 (.lst [.int o1, .int o2, .int am, .int 1]) p6 = some (.lst [.int o1, .int o2, .int am, .int 1]) := upd_same
    have fp6 := S.free n6
    have W := W.same S9
    have S := S.trans S9
    clear S9
    generalize upd K5 p6 (.lst [.int o1, .int o2, .int am, .int 1]) = G6 at W S hp6
    refine ⟨by show 2 ≤ sizeLine; decide, fun e6 m6 => ?_⟩
    have S9 := sNew (o := (.tup [.ref p6, .str "link"])) m6
    have he6 : upd G6 e6 (.tup [.ref p6, .str "link"]) e6 = some (.tup [.ref p6, .str "link"]) := upd_same
    have W := (W.same S9).snoc he6 (r := .sq [.int o1, .int o2, .int am, .int 1]) ⟨p6, rfl, .inl (S9 _ _ hp6)⟩ (rk6 n o1 o2 am) (lw6 n o1 o2 am) (.inl rfl) (fun q z => by cases z; exact fp6)
    have S := S.trans S9
    clear S9 he6 hp6
    generalize upd G6 e6 (.tup [.ref p6, .str "link"]) = K6 at W S
    refine ⟨_, rfl, _, rfl, by show 3 ≤ sizeLine; decide, fun p7 n7 => ?_⟩
    have S9 := sNew (o := (.tup [.int (n : Nat), .int (-1), .str "1"])) n7
    have hp7 : upd K6 p7 (.tup [.int (n : Nat), .int (-1), .str "1"]) p7 = some (.tup [.int (n : Nat), .int (-1), .str "1"]) := upd_same
    have fp7 := S.free n7
    have W := W.same S9
    have S := S.trans S9
    clear S9
    generalize upd K6 p7 (.tup [.int (n : Nat), .int (-1), .str "1"]) = G7 at W S hp7
    refine ⟨by show 2 ≤ sizeLine; decide, fun e7 m7 => ?_⟩
    have S9 := sNew (o := (.tup [.ref p7, .str "link"])) m7
    have he7 : upd G7 e7 (.tup [.ref p7, .str "link"]) e7 = some (.tup [.ref p7, .str "link"]) := upd_same
    have W := (W.same S9).snoc he7 (r := .sq [.int (n : Nat), .int (-1), .str "1"]) ⟨p7, rfl, .inr (S9 _ _ hp7)⟩ (rk7 n o1 o2 am) (lw7 n o1 o2 am) (.inl rfl) (fun q z => by cases z; exact fp7)
    have S := S.trans S9
    clear S9 he7 hp7
    generalize upd G7 e7 (.tup [.ref p7, .str "link"]) = K7 at W S
    refine ⟨_, rfl, _, rfl, _, rfl, by show 3 ≤ sizeLine; decide, fun p8 n8 => ?_⟩
    have S9 := sNew (o := (.tup [.int (n : Nat), .int o2, .int am])) n8
    have hp8 : upd K7 p8 (.tup [.int (n : Nat), .int o2, .int am]) p8 = some (.tup [.int (n : Nat), .int o2, .int am]) := upd_same
    have fp8 := S.free n8
    have W := W.same S9
    have S := S.trans S9
    clear S9
    generalize upd K7 p8 (.tup [.int (n : Nat), .int o2, .int am]) = G8 at W S hp8
    refine ⟨by show 2 ≤ sizeLine; decide, fun e8 m8 => ?_⟩
    have S9 := sNew (o := (.tup [.ref p8, .str "instant"])) m8
    have he8 : upd G8 e8 (.tup [.ref p8, .str "instant"]) e8 = some (.tup [.ref p8, .str "instant"]) := upd_same
    have W := (W.same S9).snoc he8 (r := .sq [.int (n : Nat), .int o2, .int am]) ⟨p8, rfl, .inr (S9 _ _ hp8)⟩ (rk8 n o1 o2 am) (lw8 n o1 o2 am trivial) (.inr rfl) (fun q z => by cases z; exact fp8)
    have S := S.trans S9
    clear S9 he8 hp8
    generalize upd G8 e8 (.tup [.ref p8, .str "instant"]) = K8 at W S
    refine ⟨_, rfl, _, rfl, _, rfl, by show 3 ≤ sizeLine; decide, fun p9 n9 => ?_⟩
    have S9 := sNew (o := (.tup [.int o1, .int (-1), .int am])) n9
    have hp9 : upd K8 p9 (.tup [.int o1, .int (-1), .int am]) p9 = some (.tup [.int o1, .int (-1), .int am]) := upd_same
    have fp9 := S.free n9
    have W := W.same S9
    have S := S.trans S9
    clear S9
    generalize upd K8 p9 (.tup [.int o1, .int (-1), .int am]) = G9 at W S hp9
    refine ⟨by show 2 ≤ sizeLine; decide, fun e9 m9 => ?_⟩
    have S9 := sNew (o := (.tup [.ref p9, .str "instant"])) m9
    have he9 : upd G9 e9 (.tup [.ref p9, .str "instant"]) e9 = some (.tup [.ref p9, .str "instant"]) := upd_same
    have W := (W.same S9).snoc he9 (r := .sq [.int o1, .int (-1), .int am]) ⟨p9, rfl, .inr (S9 _ _ hp9)⟩ (rk9 n o1 o2 am) (lw9 n o1 o2 am) (.inr rfl) (fun q z => by cases z; exact fp9)
    have S := S.trans S9
    clear S9 he9 hp9
    generalize upd G9 e9 (.tup [.ref p9, .str "instant"]) = K9 at W S
    refine ⟨_, rfl, _, _, rfl, rfl, ⟨by decide, by decide, by decide⟩, _, _, rfl, rfl, _, rfl, _, rfl, by show 3 ≤ sizeLine; decide, fun p10 n10 => ?_⟩
    have S9 := sNew (o := (.lst [.int ((n : Int) + 10 ^ (20 : Int).toNat), .int o2, .int am])) n10
    have hp10 : upd K9 p10 (.lst [.int ((n : Int) + 10 ^ (20 : Int).toNat), .int o2, .int am]) p10 = some (.lst [.int ((n : Int) + 10 ^ (20 : Int).toNat), .int o2, .int am]) := upd_same
    have fp10 := S.free n10
    have W := W.same S9
    have S := S.trans S9
    clear S9
    generalize upd K9 p10 (.lst [.int ((n : Int) + 10 ^ (20 : Int).toNat), .int o2, .int am]) = G10 at W S hp10
    refine ⟨by show 2 ≤ sizeLine; decide, fun e10 m10 => ?_⟩
    have S9 := sNew (o := (.tup [.ref p10, .str "instant"])) m10
    have he10 : upd G10 e10 (.tup [.ref p10, .str "instant"]) e10 = some (.tup [.ref p10, .str "instant"]) := upd_same
    have W := (W.same S9).snoc he10 (r := .sq [.int ((n : Int) + 10 ^ (20 : Int).toNat), .int o2, .int am]) ⟨p10, rfl, .inl (S9 _ _ hp10)⟩ (rk10 n o1 o2 am) (lw10 n o1 o2 am) (.inr rfl) (fun q z => by cases z; exact fp10)
    have S := S.trans S9
    clear S9 he10 hp10
    generalize upd G10 e10 (.tup [.ref p10, .str "instant"]) = K10 at W S
    refine ⟨_, rfl, _, rfl, by show 3 ≤ sizeLine; decide, fun p11 n11 => ?_⟩
    have S9 := sNew (o := (.tup [.int o1, .int o2, .bl false])) n11
    have hp11 : upd K10 p11 (.tup [.int o1, .int o2, .bl false]) p11 = some (.tup [.int o1, .int o2, .bl false]) := upd_same
    have fp11 := S.free n11
    have W := W.same S9
    have S := S.trans S9
    clear S9
    generalize upd K10 p11 (.tup [.int o1, .int o2, .bl false]) = G11 at W S hp11
    refine ⟨by show 2 ≤ sizeLine; decide, fun e11 m11 => ?_⟩
    have S9 := sNew (o := (.tup [.ref p11, .str "link"])) m11
    have he11 : upd G11 e11 (.tup [.ref p11, .str "link"]) e11 = some (.tup [.ref p11, .str "link"]) := upd_same
    have W := (W.same S9).snoc he11 (r := .sq [.int o1, .int o2, .bl false]) ⟨p11, rfl, .inr (S9 _ _ hp11)⟩ (rk11 n o1 o2 am) (lw11 n o1 o2 am) (.inl rfl) (fun q z => by cases z; exact fp11)
    have S := S.trans S9
    clear S9 he11 hp11
    generalize upd G11 e11 (.tup [.ref p11, .str "link"]) = K11 at W S
    refine ⟨by show 11 ≤ sizeLine; decide, fun pt npt => ?_⟩
    have S2 := sNew (o := .lst [.ref e1, .ref e2, .ref e3, .ref e4, .ref e5, .ref e6, .ref e7, .ref e8, .ref e9, .ref e10, .ref e11]) npt
    have X0 := X.butB B D3
    have Bt := (B3.same S).same S2
    refine ⟨_, rfl, _, rfl, b, pt, _, rfl, Bt, upd_same, (B3.same S).ne npt, by show 1 ≤ 11; decide, by show 11 ≤ 900; decide, fun j x H3 hx B4 D4 => ?_⟩
    obtain ⟨e, lv, r, wd, rfl, he, hr, rok, hw, hwd, fr⟩ := W x (List.mem_of_getElem? hx)
    have De : But b H0 H3 := (But.of (S.trans S2)).trans D4
    have he3 := D4 _ _ (S2 _ _ he) (Bt.tup (S2 _ _ he))
    have hr3 : RdAt H3 lv r := (hr.same S2).but (fun q z => fun w => by
      have h := fr q z
      rw [w] at h
      obtain ⟨_, _, h1, _⟩ := B3
      rw [h1] at h
      cases h) D4
    have X3 := X0.butB B3 De
    have D5 := D3.trans De
    clear X0 Bt W S S2 De he hr hx
    refine ⟨e, _, rfl, SqT.of he3, rfl, _, _, rfl, _, _, rfl, rfl, ?_⟩
    refine ⟨by show 0 ≤ sizeLine; exact Nat.zero_le _, fun D nD => ?_⟩
    have fin : ∀ H9, Same H3 H9 → Q (.bl true) H9 := fun H9 S9 => k H9 (B4.same S9) (D5.trans (But.of S9))
    have bl : ∀ {H2 : Hp} {E : XK}, (∀ G e, Same H2 G → H2 e = none → E (.ref (cl "BadSystem")) (some e) (upd G e (.xd [("what", .str wd), ("index", .int 0)]))) → BadL (cl "BadSystem") H2 E (linkW (n : Nat) r) := fun h x hx G e S ne => by
      rw [hw] at hx
      cases hx
      exact h G e S ne
    have nog : ∀ l, r = lkR l → LkOk (n : Nat) l → False := fun l el lo => by
      rw [el, linkW_lk lo] at hw
      cases hw
    refine ⟨_, rfl, by decide, by decide, for_range (fun i σ H4 => Same H3 H4 ∧ ∃ us : List V, H4 D = some (.lst us) ∧ us.length = i ∧ (∀ u ∈ us, ∃ e, u = .ref e ∧ H4 e = some (.tup [.int 0, .str wd])) ∧ ∃ v10 : Option V, σ = [some (.ref b), some (.ref p), some (.int (n : Nat)), some (.int o1), some (.int o2), some (.int am), some (.ref pt), some lv, some (.str wd), some (.ref D), v10, none]) ⟨sNew (o := .lst []) nD, [], upd_same, rfl, (fun u h => by cases h), _, rfl⟩ ?_ ?_⟩
    · rintro i σ H4 hi ⟨S4, ws, hD4, lw, hws, v10, rfl⟩
      have X4 := X3.same S4
      have hr4 := hr3.same S4
      have put : ∀ {H5 G : Hp} {x q : Addr}, Same H4 H5 → Same H5 G → H5 x = none → upd G x (.xd [("what", .str wd), ("index", .int 0)]) q = none → ∃ us : List V, upd (upd G x (.xd [("what", .str wd), ("index", .int 0)])) q (.tup [.int 0, .str wd]) D = some (.lst us) ∧ us.length < sizeLine ∧ Same H3 (upd (upd (upd G x (.xd [("what", .str wd), ("index", .int 0)])) q (.tup [.int 0, .str wd])) D (.lst (us ++ [.ref q]))) ∧ ∃ vs : List V, (upd (upd (upd G x (.xd [("what", .str wd), ("index", .int 0)])) q (.tup [.int 0, .str wd])) D (.lst (us ++ [.ref q]))) D = some (.lst vs) ∧ vs.length = i + 1 ∧ (∀ u ∈ vs, ∃ e, u = .ref e ∧ (upd (upd (upd G x (.xd [("what", .str wd), ("index", .int 0)])) q (.tup [.int 0, .str wd])) D (.lst (us ++ [.ref q]))) e = some (.tup [.int 0, .str wd])) := fun {H5 G x q} S5 SG nx nq => by
        have S45 := S5.trans SG
        have nx4 := S5.free nx
        have Sx : Same H4 (upd G x (.xd [("what", .str wd), ("index", .int 0)])) := same_upd S45 nx4
        have Sq := Sx.trans (sNew (o := .tup [.int 0, .str wd]) nq)
        have hDq := Sq _ _ hD4
        refine ⟨ws, hDq, small1000 (by omega), same_upd (S4.trans Sq) nD, _, upd_same, by rw [List.length_append, lw]; rfl, fun u hu => ?_⟩
        rcases List.mem_append.mp hu with hu | hu
        · obtain ⟨e, eu, he⟩ := hws u hu
          exact ⟨e, eu, tup_updL (Sq _ _ he) hDq⟩
        · exact ⟨q, List.mem_singleton.mp hu, tup_updL upd_same hDq⟩
      refine ⟨_, rfl, rfl, _, rfl, ite2 (fun g => ?_) (fun g => ?_)⟩
      · refine ⟨_, rfl, _, rfl, p, t, n, us, ls, lv, r, rfl, X4, lok, by omega, by omega, hr4, rok, bl fun G x S nx => ?_, fun l el lo => (nog l el lo).elim⟩
        refine ⟨true, T.is_BadSystem, fun _ a0 _ => ?_, fun q => Bool.noConfusion q⟩
        have hDx : upd G x (.xd [("what", .str wd), ("index", .int 0)]) D = some (.lst ws) := by rw [upd_ne (ne_of_none hD4 nx)]; exact S _ _ hD4
        refine ⟨_, rfl, .inl ⟨rfl, _, SqL.of hDx⟩, _, rfl, rfl, rfl, x, _, _, rfl, upd_same, rfl, _, rfl, rfl, rfl, x, _, _, rfl, upd_same, rfl, by show 2 ≤ sizeLine; decide, fun q nq => ?_⟩
        obtain ⟨us2, h1, h2, h3, vs2, h4, h5, h6⟩ := put (Same.refl _) S nx nq
        exact ⟨D, _, _, rfl, rfl, h1, h2, h3, vs2, h4, h5, h6, _, rfl⟩
      · refine ⟨_, rfl, _, rfl, by show 0 ≤ sizeLine; exact Nat.zero_le _, fun q1 m1 => ?_⟩
        have Sa := sNew (o := .tup []) m1
        refine fun y d ny nd ne0 => ⟨y, d, [.ref q1], rfl, rfl, upd_same, rfl, ?_⟩
        have S2 := Sa.trans (made (o1 := .own y) (o2 := .ins (cl "Implied") d []) (o3 := .ins (cl "Implied") d [("path", .ref q1)]) ny nd)
        refine ⟨p, t, y, n, us, ls, lv, r, rfl, X4.same S2, lok, by omega, by omega, hr4.same S2, rok, bl fun G x S nx => ?_, fun l el lo => (nog l el lo).elim⟩
        refine ⟨true, T.is_BadSystem, fun _ a0 _ => ?_, fun q => Bool.noConfusion q⟩
        have hDx : upd G x (.xd [("what", .str wd), ("index", .int 0)]) D = some (.lst ws) := by rw [upd_ne (ne_of_none (S2 _ _ hD4) nx)]; exact S _ _ (S2 _ _ hD4)
        refine ⟨_, rfl, .inl ⟨rfl, _, SqL.of hDx⟩, _, rfl, rfl, rfl, x, _, _, rfl, upd_same, rfl, _, rfl, rfl, rfl, x, _, _, rfl, upd_same, rfl, by show 2 ≤ sizeLine; decide, fun q nq => ?_⟩
        obtain ⟨us2, h1, h2, h3, vs2, h4, h5, h6⟩ := put S2 S nx nq
        exact ⟨D, _, _, rfl, rfl, h1, h2, h3, vs2, h4, h5, h6, _, rfl⟩
    · rintro σ H4 ⟨S4, ws, hD4, lw, hws, v10, rfl⟩
      have okw : PyData.strOk wd = true := by rcases hwd with rfl | rfl <;> decide +kernel
      refine ⟨_, rfl, _, rfl, by show 2 ≤ sizeLine; decide, fun q1 m1 => ⟨_, rfl, by show 2 ≤ sizeLine; decide, fun q2 m2 => ⟨by show 2 ≤ sizeLine; decide, fun q3 m3 => ?_⟩⟩⟩
      have Sa := sNew (o := .tup [.int 0, .str wd]) m1
      have Sb := sNew (o := .tup [.int 0, .str wd]) m2
      have Sc := sNew (o := .lst [.ref q1, .ref q2]) m3
      have S := Sa.trans (Sb.trans Sc)
      have fl : ∀ d ∈ ([0, 0] : List Nat).map (fun _ => sqD false (([.int 0, .str wd] : List V).map vD)), Fl1 d := fun d hd => by
        obtain ⟨_, _, rfl⟩ := List.mem_map.mp hd
        exact fl_row false (pr_ok okw)
      have d1 := prs_dp (K := K) (H := upd (upd (upd H4 q1 (.tup [.int 0, .str wd])) q2 (.tup [.int 0, .str wd])) q3 (.lst [.ref q1, .ref q2])) (w := wd) (us := ws) fun u hu => let ⟨e, eu, he⟩ := hws u hu; ⟨e, eu, S _ _ he⟩
      have d2 := prs_dp (K := K) (H := upd (upd (upd H4 q1 (.tup [.int 0, .str wd])) q2 (.tup [.int 0, .str wd])) q3 (.lst [.ref q1, .ref q2])) (w := wd) (us := [.ref q1, .ref q2]) fun u hu => by
        rcases (show u = .ref q1 ∨ u = .ref q2 by simpa using hu) with rfl | rfl
        · exact ⟨q1, rfl, Sc _ _ (Sb _ _ upd_same)⟩
        · exact ⟨q2, rfl, Sc _ _ upd_same⟩
      have ew : ws.map (fun _ => sqD false (([.int 0, .str wd] : List V).map vD)) = ([0, 0] : List Nat).map (fun _ => sqD false (([.int 0, .str wd] : List V).map vD)) := by
        match ws, (show ws.length = 2 from lw) with
        | [_, _], _ => rfl
      rw [ew] at d1
      refine ⟨_, _, dp_lst (SqL.of (S _ _ hD4)) d1, dp_lst (SqL.of upd_same) d2, fls_shaped true fl, fls_shaped true fl, ?_⟩
      have es : PyData.eqv (sqD true (([0, 0] : List Nat).map fun _ => sqD false (([.int 0, .str wd] : List V).map vD))) (sqD true (([0, 0] : List Nat).map fun _ => sqD false (([.int 0, .str wd] : List V).map vD))) = true := sqD_self true fun d hd => by
        obtain ⟨_, _, rfl⟩ := List.mem_map.mp hd
        exact row_self false _
      have fin := fin _ (S4.trans S)
      rw [← es] at fin
      exact fin
theorem cal_bad_link (T : Txt P w K mg cl) : Cal P w K mg base CX0 6 "_law_bad_link" ["_law_bag_here", "_law_system", "_law_count"] (spBadL (cl "System")) := by
  obtain ⟨f, fd, F, m⟩ := T.d_bad_link
  exact ⟨f, fd, ok_bad_link F T, m, F.kp, F.binds fun _ _ _ _ _ _ us hl => match us, hl with | [_, _, _], _ => rfl⟩
end
end My
set_option Elab.async false
set_option linter.all false
set_option maxRecDepth 100000
set_option maxHeartbeats 1000000
namespace My
open PySem L2 Dw Wp
open C8 (pss_cut tCut)
set_option pp.maxSteps 600
open Bf Fw
def spGreedy : Sp := fun vs H Q _ => ∃ (g : Addr) (us : List V) (ls : List Lk) (n : Nat), vs = [.int (n : Nat), .ref g] ∧ LlT H g us ls ∧ (∀ l ∈ ls, LkOk (n : Nat) l) ∧ 1 ≤ n ∧ n ≤ 12 ∧ ls.length ≤ 300 ∧ (∃ φ, Keeps (nls ls) φ) ∧
  ∀ (D : Addr) (H' : Hp), Same H H' → H' D = some (.lst ((gst ls n).map fun (i : Nat) => V.int i)) → Q (.ref D) H'
section
variable {P : Program} {w : World} {K : PySem.W.Frag} {mg : Str → Option Value} {base : Heap} {cl : String → Addr}
theorem ok_greedy {f : Addr} {fd : FuncData} (F : Fun K "_law_greedy" "_law_greedy" s_greedy f fd) (T : Txt P w K mg cl) : FnOk P w K mg base CX0 3 f fd ["_law_count", "_law_links_here"] (spGreedy) := by
  refine F.ok sc_greedy (fun vs H Q E h => ?_) (fun cdv A outer s H vs Q E hr h => ?_)
  · obtain ⟨g, us, ls, n, rfl, _⟩ := h
    rfl
  · obtain ⟨g, us, ls, n, rfl, hL, lok, n1, n12, ll, ⟨φ, kφ⟩, k⟩ := h
    have C_implies : Cal P w K mg base CX0 2 "_law_implies" _ spImplies := cal_implies T
    refine ⟨_, (pss_cons (ps_set (i := 2) sc_greedy.nd rfl (Or.inl rfl) (by exact (pe_listRg rfl (by rfl) T.n_list (by exact (prg_1 (by rfl) T.n_range (by exact (pe_callB call_len_seq (by rfl) T.n_len PySem.boot_len (pa_cons (pv 1) pa_nil))))))))
        (pss_cons (ps_for PassesOwn.never rfl (pi_range1 rfl T.n_range (pa_cons (pe_callB call_len_seq (by rfl) T.n_len PySem.boot_len (pa_cons (pv 1) pa_nil)) pa_nil)) (pg_name (i := 3) sc_greedy.nd rfl (Or.inr rfl))
          (pss_cons (ps_setLc (i := 4) (own := [("_law_x", 5)]) (g := gName 5)  rfl sc_greedy.nd rfl rfl (sw_true rfl rfl rfl (by decide +kernel)) (pi_list (pv 2)) (blkOk_by (own := [("_law_x", 5)]) (N := ["_law_count", "_law_links_here", "_law_left", "_law_k", "_law_others", "_law_x"]) (sc := defScope s_greedy) (by decide +kernel)) (fun _ _ _ _ _ => pg_name (i := 5) sc_greedy.nd rfl (Or.inl rfl)) (fun _ _ _ _ _ => pts_one (pt_cmpR op_ne (pv 5) (pv 3) (nomark _))) (fun _ _ _ _ _ => (pv 5)))
            (pss_one (ps_if (pt_val (pe_cal C_implies (hr.mono (by decide)) (pa_cons (pv 0) (pa_cons (pe_lc (own := [("_law_x", 5)]) (g := gName 5) (tt := tYes) rfl sc_greedy.nd (pi_list (pv 4)) (blkOk_by (own := [("_law_x", 5)]) (N := ["_law_count", "_law_links_here", "_law_left", "_law_k", "_law_others", "_law_x"]) (sc := defScope s_greedy) (by decide +kernel)) (fun _ _ _ _ _ => pg_name (i := 5) sc_greedy.nd rfl (Or.inl rfl)) (fun _ _ _ _ _ => pts_nil) (fun _ _ _ _ _ => (pe_ix (ix_listK (K := K) rfl) (pv 1) (pv 5) (fun _ _ => rfl)))) (pa_cons (pe_ix ix_list (pv 1) (pv 3) (fun _ _ => rfl)) pa_nil)))))
              (pss_one (ps_set (i := 2) sc_greedy.nd rfl (Or.inl rfl) (pv 4))) pss_nil))))
        (pss_one (ps_ret (pv 2))))), ?_⟩
    have lu := hL.2.length
    have gl : ∀ i, (grd (nls ls) n i).length ≤ 300 := fun i => Nat.le_trans (grd_len i) (by rw [nls_len]; exact ll)
    refine ⟨_, rfl, g, us, rfl, .inl (SqL.of hL.1), _, rfl, RgOk.of_le (by omega) (by omega) (by omega) (by omega), fun D0 nD0 => ?_⟩
    have e0 : rgV 0 (us.length : Nat) = (grd (nls ls) n 0).map fun (i : Nat) => V.int i := by
      rw [rgV_nat, lu]
      show _ = (List.range (nls ls).length).map _
      rw [nls_len]
    rw [e0]
    refine ⟨_, rfl, g, us, rfl, .inl (SqL.of (sNew nD0 _ _ hL.1)), (us.length : Nat), rfl, by omega, by omega, for_range (fun i σ H1 => ∃ (D : Addr) (v3 v4 v5 : Option V), σ = [some (.int (n : Nat)), some (.ref g), some (.ref D), v3, v4, v5] ∧ Same H H1 ∧ H1 D = some (.lst ((grd (nls ls) n i).map fun (i : Nat) => V.int i))) ⟨D0, none, none, none, rfl, sNew nD0, upd_same⟩ ?_ ?_⟩
    · rintro i σ H1 hi ⟨D, v3, v4, v5, rfl, S1, hD⟩
      have il : i < ls.length := by omega
      rw [show (0 : Int) + (i : Nat) = ((i : Nat) : Int) by omega]
      generalize eg : grd (nls ls) n i = gg at hD
      have glt : ∀ j ∈ gg, j < ls.length := fun j hj => by
        rw [← eg] at hj
        have := grd_lt hj
        rw [nls_len] at this
        exact this
      have gle : gg.length ≤ 300 := by rw [← eg]; exact gl i
      refine ⟨_, rfl, D, rfl, ⟨_, SqL.of hD⟩, fun O nO => lc_list (K := K) (a := D) (xs := gg.map fun (i : Nat) => V.int i) (fun j H5 => H5 = upd H1 O (.lst (((gg.take j).filter (Fw.ne i)).map fun (i : Nat) => V.int i))) rfl (fun j H5 _ z => by rw [z]; exact SqL.of (sNew nO _ _ hD)) (fun j x H5 hx e => ?_) (fun H5 e => ?_)⟩
      · subst e
        obtain ⟨y, hy, rfl⟩ := nat_at hx
        have pt := ne_take (i := i) hy
        refine ⟨rfl, _, rfl, _, rfl, rfl, _, rfl, ite2 (fun z => ?_) (fun z => ?_)⟩
        · have z : ¬ y = i := fun w => by
            rw [w] at z
            simp at z
          rw [if_neg z] at pt
          refine ⟨_, rfl, _, upd_same, small1000 ?_, ?_⟩
          · rw [List.length_map]
            have := filter_len (p := Fw.ne i) (g := gg.take j) (m := 300) (by rw [List.length_take]; omega)
            omega
          · rw [upd_upd, pt, List.map_append]
            rfl
        · have z : y = i := by
            by_cases q : y = i
            · exact q
            · exfalso
              refine z ?_
              show (!decide (V.int _ = V.int _)) = true
              rw [decide_eq_false fun e => q (by have := V.int.inj e; omega)]
              rfl
          rw [if_pos z, List.append_nil] at pt
          show upd H1 O _ = upd H1 O _
          rw [pt]
      rw [List.length_map, List.take_length] at e
      generalize eos : gg.filter (Fw.ne i) = os at e
      have olt : ∀ j ∈ os, j < ls.length := fun j hj => glt j (by rw [← eos] at hj; exact (ne_mem.mp hj).1)
      have ole : os.length ≤ 300 := by rw [← eos]; exact filter_len gle
      subst e
      have SO := sNew (o := .lst (os.map fun (i : Nat) => V.int i)) nO
      have S5 := S1.trans SO
      have hO : upd H1 O (.lst (os.map fun (i : Nat) => V.int i)) O = some (.lst (os.map fun (i : Nat) => V.int i)) := upd_same
      have hD5 := SO _ _ hD
      generalize upd H1 O (.lst (os.map fun (i : Nat) => V.int i)) = H5 at S5 hO hD5
      have hL5 := hL.same S5
      refine ⟨_, rfl, _, rfl, O, rfl, ⟨_, SqL.of hO⟩, fun O2 nO2 => lc_list (K := K) (a := O) (xs := os.map fun (i : Nat) => V.int i) (fun j H6 => H6 = upd H5 O2 (.lst (pick us (os.take j)))) rfl (fun j H6 _ z => by rw [z]; exact SqL.of (sNew nO2 _ _ hO)) (fun j x H6 hx e => ?_) (fun H6 e => ?_)⟩
      · subst e
        obtain ⟨y, hy, rfl⟩ := nat_at hx
        have yl := olt y (List.mem_of_getElem? hy)
        have yu : y < us.length := by omega
        refine ⟨rfl, _, rfl, _, rfl, g, _, _, _, rfl, rfl, SqL.of (sNew nO2 _ _ hL5.1), atI_nat (List.getElem?_eq_getElem yu), _, upd_same, small1000 ?_, ?_⟩
        · rw [pick_len fun q hq => by have := olt q (List.mem_of_mem_take hq); omega, List.length_take]
          omega
        · rw [upd_upd, pick_snoc hy yu]
      rw [List.length_map, List.take_length] at e
      subst e
      have S2' := sNew (o := .lst (pick us os)) nO2
      have S6 := S5.trans S2'
      have hL6 := hL.same S6
      obtain ⟨bb, hbb, hcc⟩ := ll_at hL6 il
      refine ⟨_, rfl, _, rfl, g, _, _, _, rfl, rfl, SqL.of hL6.1, atI_nat hbb, ?_⟩
      refine ⟨O2, bb, pick us os, pick ls os, n, ls[i], rfl, ⟨upd_same, pick_paired hL6.2 os⟩, LkOk.pick lok, n1, n12, by rw [pick_len olt]; exact ole, ⟨φ, by rw [nls_pick]; exact keeps_pick os kφ⟩, hcc, lok _ (List.getElem_mem il), fun H7 S7 => ?_⟩
      have un : grd (nls ls) n (i + 1) = if impB (nls (pick ls os)) n (nl ls[i]) = true then os else gg := by
        rw [nls_pick, ← at_nls (List.getElem?_eq_getElem il), ← eos, ← eg]
        rfl
      have S57 := S2'.trans S7
      refine ⟨_, rfl, ?_⟩
      refine ite2 (fun z => ?_) (fun z => ?_)
      · rw [if_pos z] at un
        exact ⟨_, rfl, O, _, _, _, rfl, S6.trans S7, by rw [un]; exact S57 _ _ hO⟩
      · rw [if_neg z] at un
        exact ⟨D, _, _, _, rfl, S6.trans S7, by rw [un]; exact S57 _ _ hD5⟩
    · rintro σ H1 ⟨D, v3, v4, v5, rfl, S1, hD⟩
      refine ⟨_, rfl, k D H1 S1 ?_⟩
      rw [hD, show ((us.length : Nat) : Int).toNat = ls.length by omega]
theorem cal_greedy (T : Txt P w K mg cl) : Cal P w K mg base CX0 3 "_law_greedy" ["_law_count", "_law_links_here"] (spGreedy) := by
  obtain ⟨f, fd, F, m⟩ := T.d_greedy
  exact ⟨f, fd, ok_greedy F T, m, F.kp, F.binds fun _ _ _ _ _ _ us hl => match us, hl with | [_, _], _ => rfl⟩
end
end My
set_option Elab.async false
set_option linter.all false
set_option maxRecDepth 100000
set_option maxHeartbeats 1000000
namespace My
open PySem L2 Dw Wp
open C8 (pss_cut tCut)
set_option pp.maxSteps 600
open Bf Fw
theorem eqv_ints (l : Bool) : ∀ is js : List Int, PyData.eqv (sqD l ((is.map V.int).map vD)) (sqD l ((js.map V.int).map vD)) = decide (is = js) := by
  have all : ∀ is js : List Int, PyData.eqvAll ((is.map V.int).map vD) ((js.map V.int).map vD) = decide (is = js) := fun is => by
    induction is with
    | nil => intro js; cases js <;> simp [PyData.eqvAll]
    | cons i is ih =>
      intro js
      cases js with
      | nil => simp [PyData.eqvAll]
      | cons j js =>
        have e : PyData.eqvAll (((i :: is).map V.int).map vD) (((j :: js).map V.int).map vD) = (PyData.eqv (vD (.int i)) (vD (.int j)) && PyData.eqvAll ((is.map V.int).map vD) ((js.map V.int).map vD)) := by
          simp [PyData.eqvAll]
        have e2 : PyData.eqv (vD (.int i)) (vD (.int j)) = decide (i = j) := by
          simp [vD, PyData.eqv]
          rfl
        rw [e, ih, e2]
        by_cases g : i = j <;> by_cases g2 : is = js <;> simp [g, g2]
  intro is js
  rw [← all]
  cases l <;> simp only [sqD, PyData.eqv] <;> rfl
theorem in_ints (i : Int) : ∀ is : List Int, inV (.int i) (is.map V.int) = is.contains i
  | [] => rfl
  | j :: is => by
    have ih := in_ints i is
    show (eqV (.int j) (.int i) || inV (.int i) (is.map V.int)) = _
    rw [ih, List.contains_cons]
    have : eqV (.int j) (.int i) = (i == j) := by
      show decide (j = i) = (i == j)
      by_cases g : j = i
      · simp [g]
      · simp [g, Ne.symm g]
    rw [this]
theorem flatI (is : List Int) : (is.map V.int).all flatV = true := List.all_eq_true.mpr fun x hx => okV.flat (okI is x hx)
theorem op_notIn_seqK {X : Cx} {K : PySem.W.Frag} (h : X.K = K) : OpR X (compareOp .NotIn) (rIn K true) := h ▸ op_notIn_seq
theorem no_ring {ls : List Lk} {n : Nat} {is : List Nat} (h : RingP ls n is) (ex : ∃ φ, Keeps (nls ls) φ) : False := by
  obtain ⟨_, _, p, ld, sm⟩ := h
  obtain ⟨φ, K⟩ := ex
  have := ld.bound K
  omega
theorem no_tm {CT : Addr} {ls : List Lk} {n : Nat} {H : Hp} {E : XK} (ex : ∃ φ, Keeps (nls ls) φ) : NoTm CT ls n H E := fun _ _ R => (no_ring R ex).elim
theorem rows_two {ls : List Lk} {n : Nat} {H : Hp} {ku du : List V} {ks ds : List Nat} (pk : Paired (KpAt ls n H) ku ks) (pd : Paired (DrAt ls n H) du ds) : ∀ u ∈ ku ++ du, ∃ b i r, u = .ref b ∧ H b = some (.tup [.int (i : Nat), .ref r]) := fun u hu => by
  rcases List.mem_append.mp hu with hu | hu
  · obtain ⟨j, hj⟩ := List.mem_iff_getElem?.mp hu
    obtain ⟨i, _, b, ta, _, _, e, h, _⟩ := Paired.at pk hj
    exact ⟨b, i, ta, e, h⟩
  · obtain ⟨j, hj⟩ := List.mem_iff_getElem?.mp hu
    obtain ⟨i, _, b, ta, _, _, e, h, _⟩ := Paired.at pd hj
    exact ⟨b, i, ta, e, h⟩
theorem nI_cont (i : Nat) (g : List Nat) : (g.map fun (i : Nat) => (i : Int)).contains (i : Int) = decide (i ∈ g) := by
  rw [List.contains_eq_mem]
  congr 1
  apply propext
  constructor
  · intro h
    obtain ⟨j, hj, e⟩ := List.mem_map.mp h
    rw [show i = j by omega]
    exact hj
  · exact fun h => List.mem_map.mpr ⟨i, h, rfl⟩
def spLNeed (C : Addr) : Sp := fun vs H Q _ => ∃ (p t g : Addr) (us ws : List V) (ls : List Lk) (n : Nat), vs = [.ref p, .int (n : Nat), .ref g] ∧ SyAt C H p (n : Nat) t ws ls ∧ LlT H g us ls ∧ (∀ l ∈ ls, LkOk (n : Nat) l) ∧ 1 ≤ n ∧ n ≤ 12 ∧ ls.length ≤ 100 ∧ (∃ φ, Keeps (nls ls) φ) ∧ ∀ H', Same H H' → Q (.bl true) H'
section
variable {P : Program} {w : World} {K : PySem.W.Frag} {mg : Str → Option Value} {base : Heap} {cl : String → Addr}
theorem ok_L_needed {f : Addr} {fd : FuncData} (F : Fun K "_law_needed" "_law_needed" s_L_needed f fd) (T : Txt P w K mg cl) : FnOk P w K mg base CX0 7 f fd ["_law_system", "_law_count", "_law_links_here"] (spLNeed (cl "System")) := by
  refine F.ok sc_L_needed (fun vs H Q E h => ?_) (fun cdv A outer s H vs Q E hr h => ?_)
  · obtain ⟨p, t, g, us, ws, ls, n, rfl, _⟩ := h
    rfl
  · obtain ⟨p, t, g, us, ws, ls, n, rfl, X, hL, lok, n1, n12, ll, ex, k⟩ := h
    have C_needed : Cal P w K mg base (L2.CX P w) 6 "needed" _ (spNeed (cl "System") (cl "NoTimes") (cl "Needed")) := cal_needed T
    have C_is_whole : Cal P w K mg base CX0 1 "_law_is_whole" _ (spIsI K) := cal_is_whole T
    have C_greedy : Cal P w K mg base CX0 3 "_law_greedy" _ spGreedy := cal_greedy T
    have C_parts : Cal P w K mg base CX0 3 "_law_parts" _ spParts := cal_parts T
    have C_shows : Cal P w K mg base CX0 3 "_law_shows" _ spShows := cal_shows T
    refine ⟨_, (pss_cons (ps_set (i := 3) sc_L_needed.nd rfl (Or.inl rfl) (pe_cal C_needed (hr.mono (by decide)) (pa_cons (pv 0) pa_nil)))
        (pss_cons (ps_if (PW.pt (pw_or (pt_not (pt_val (pe_callB call_isi (by rfl) T.n_isinstance (by decide +kernel) (pa_cons (pv 3) (pa_cons (pe_cls T.m_Needed) pa_nil))))) (pw_or (pt_not (pt_val (pe_callB call_isi (by rfl) T.n_isinstance (by decide +kernel) (pa_cons (pe_fld (pv 3) rfl) (pa_cons (pe_ty "tuple" T.n_tuple) pa_nil))))) (pw_or1 (pt_not (pt_val (pe_callB call_isi (by rfl) T.n_isinstance (by decide +kernel) (pa_cons (pe_fld (pv 3) rfl) (pa_cons (pe_ty "tuple" T.n_tuple) pa_nil)))))))))
          (pss_one (ps_ret pe_bl)) pss_nil)
        (pss_cons (ps_set (i := 4) sc_L_needed.nd rfl (Or.inl rfl) (pe_op op_cat (pe_callTy call_list_of (by rfl) T.n_list (by decide +kernel) (pa_cons (pe_fld (pv 3) rfl) pa_nil)) (pe_callTy call_list_of (by rfl) T.n_list (by decide +kernel) (pa_cons (pe_fld (pv 3) rfl) pa_nil))))
        (pss_cons (ps_if (pt_cmpR (op_neD hr.units) (pe_lc (own := [("_law_x", 9)]) (g := gName 9)  rfl sc_L_needed.nd (pi_list (pv 4)) (blkOk_by (own := [("_law_x", 9)]) (N := ["_law_system", "_law_count", "_law_links_here", "_law_told", "_law_rows", "_law_left", "_law_k", "_law_times_here", "_law_path", "_law_x"]) (sc := defScope s_L_needed) (by decide +kernel)) (fun _ _ _ _ _ => pg_name (i := 9) sc_L_needed.nd rfl (Or.inl rfl)) (fun _ _ _ _ _ => pts_one (PW.pt (pw_or (pt_not (pt_val (pe_callB (call_isiK' (K := K) rfl) (by rfl) T.n_isinstance (by decide +kernel) (pa_cons (pv 9) (pa_cons (pe_ty "tuple" T.n_tuple) pa_nil))))) (pw_or (pt_cmpR op_ne (pe_callB (call_len_seqK (K := K) rfl) (by rfl) T.n_len PySem.boot_len (pa_cons (pv 9) pa_nil)) pe_int (nomark _)) (pw_or1 (pt_not (pt_val (pe_cal C_is_whole (hr.mono (by decide)) (pa_cons (pe_ix (ix_tupK (K := K) rfl) (pv 9) pe_int (fun _ _ => rfl)) pa_nil))))))))) (fun _ _ _ _ _ => (pv 9))) (pe_lst pa_nil) (nomark _))
          (pss_one (ps_ret pe_bl)) pss_nil)
        (pss_cons (ps_set (i := 5) sc_L_needed.nd rfl (Or.inr rfl) (pe_cal C_greedy (hr.mono (by decide)) (pa_cons (pv 1) (pa_cons (pv 2) pa_nil))))
        (pss_cons (ps_if (pt_cmpR (op_neD hr.units) (pe_lc (own := [("_law_x", 9)]) (g := gName 9) (tt := tYes) rfl sc_L_needed.nd (pi_tup (pe_fld (pv 3) rfl)) (blkOk_by (own := [("_law_x", 9)]) (N := ["_law_system", "_law_count", "_law_links_here", "_law_told", "_law_rows", "_law_left", "_law_k", "_law_times_here", "_law_path", "_law_x"]) (sc := defScope s_L_needed) (by decide +kernel)) (fun _ _ _ _ _ => pg_name (i := 9) sc_L_needed.nd rfl (Or.inl rfl)) (fun _ _ _ _ _ => pts_nil) (fun _ _ _ _ _ => (pe_ix (ix_tupK (K := K) rfl) (pv 9) pe_int (fun _ _ => rfl)))) (pv 5) (nomark _))
          (pss_one (ps_ret pe_bl)) pss_nil)
        (pss_cons (ps_if (pt_cmpR (op_neD hr.units) (pe_lc (own := [("_law_x", 9)]) (g := gName 9) (tt := tYes) rfl sc_L_needed.nd (pi_tup (pe_fld (pv 3) rfl)) (blkOk_by (own := [("_law_x", 9)]) (N := ["_law_system", "_law_count", "_law_links_here", "_law_told", "_law_rows", "_law_left", "_law_k", "_law_times_here", "_law_path", "_law_x"]) (sc := defScope s_L_needed) (by decide +kernel)) (fun _ _ _ _ _ => pg_name (i := 9) sc_L_needed.nd rfl (Or.inl rfl)) (fun _ _ _ _ _ => pts_nil) (fun _ _ _ _ _ => (pe_ix (ix_tupK (K := K) rfl) (pv 9) pe_int (fun _ _ => rfl)))) (pe_lc (own := [("_law_k", 6)]) (g := gName 6)  rfl sc_L_needed.nd (pi_range1 rfl T.n_range (pa_cons (pe_callB call_len_seq (by rfl) T.n_len PySem.boot_len (pa_cons (pv 2) pa_nil)) pa_nil)) (blkOk_by (own := [("_law_k", 6)]) (N := ["_law_system", "_law_count", "_law_links_here", "_law_told", "_law_rows", "_law_left", "_law_k", "_law_times_here", "_law_path", "_law_x"]) (sc := defScope s_L_needed) (by decide +kernel)) (fun _ _ _ _ _ => pg_name (i := 6) sc_L_needed.nd rfl (Or.inl rfl)) (fun _ _ _ _ _ => pts_one (pt_cmpR (op_notIn_seqK (K := K) rfl) (pv 6) (pv 5) (by rfl))) (fun _ _ _ _ _ => (pv 6))) (nomark _))
          (pss_one (ps_ret pe_bl)) pss_nil)
        (pss_cons (ps_for PassesOwn.never rfl (pi_tup (pe_fld (pv 3) rfl)) (pg_tup rfl (pgs_cons (pg_name (i := 6) sc_L_needed.nd rfl (Or.inr rfl)) (pgs_cons (pg_name (i := 7) sc_L_needed.nd rfl (Or.inl rfl)) pgs_nil)))
          (pss_one (ps_if (pt_not (pt_val (pe_cal C_parts (hr.mono (by decide)) (pa_cons (pv 1) (pa_cons (pe_lc (own := [("_law_x", 9)]) (g := gName 9)  rfl sc_L_needed.nd (pi_list (pv 5)) (blkOk_by (own := [("_law_x", 9)]) (N := ["_law_system", "_law_count", "_law_links_here", "_law_told", "_law_rows", "_law_left", "_law_k", "_law_times_here", "_law_path", "_law_x"]) (sc := defScope s_L_needed) (by decide +kernel)) (fun _ _ _ _ _ => pg_name (i := 9) sc_L_needed.nd rfl (Or.inl rfl)) (fun _ _ _ _ _ => pts_one (pt_cmpR op_ne (pv 9) (pv 6) (nomark _))) (fun _ _ _ _ _ => (pe_ix (ix_listK (K := K) rfl) (pv 2) (pv 9) (fun _ _ => rfl)))) (pa_cons (pv 7) (pa_cons (pe_ix ix_list (pv 2) (pv 6) (fun _ _ => rfl)) pa_nil)))))))
              (pss_one (ps_ret pe_bl)) pss_nil)))
        (pss_cons (ps_for PassesOwn.never rfl (pi_tup (pe_fld (pv 3) rfl)) (pg_tup rfl (pgs_cons (pg_name (i := 6) sc_L_needed.nd rfl (Or.inr rfl)) (pgs_cons (pg_name (i := 8) sc_L_needed.nd rfl (Or.inl rfl)) pgs_nil)))
          (pss_one (ps_if (PW.pt (pw_or (pt_not (pt_val (pe_cal C_shows (hr.mono (by decide)) (pa_cons (pv 2) (pa_cons (pv 8) (pa_cons (pe_ix ix_list (pv 2) (pv 6) (fun _ _ => rfl)) pa_nil)))))) (pw_or1 (pt_cmpR (op_neD hr.units) (pe_lc (own := [("_law_x", 9)]) (g := gName 9)  rfl sc_L_needed.nd (pi_tup (pv 8)) (blkOk_by (own := [("_law_x", 9)]) (N := ["_law_system", "_law_count", "_law_links_here", "_law_told", "_law_rows", "_law_left", "_law_k", "_law_times_here", "_law_path", "_law_x"]) (sc := defScope s_L_needed) (by decide +kernel)) (fun _ _ _ _ _ => pg_name (i := 9) sc_L_needed.nd rfl (Or.inl rfl)) (fun _ _ _ _ _ => pts_one (pt_cmpR (op_notIn_seqK (K := K) rfl) (pv 9) (pv 5) (by rfl))) (fun _ _ _ _ _ => (pv 9))) (pe_lst pa_nil) (nomark _)))))
              (pss_one (ps_ret pe_bl)) pss_nil)))
        (pss_one (ps_ret pe_bl))))))))))), ?_⟩
    refine ⟨_, rfl, p, t, n, ws, ls, rfl, X, lok, by omega, by omega, no_tm ex, fun x H1 S1 nx _ ⟨A, B, ku, du, ⟨dx, hx⟩, hA, hB, pk, pd⟩ => ?_⟩
    have lu := hL.2.length
    refine ⟨_, rfl, _, _, _, _, _, rfl, .own (cl "Needed"), .base (.ins hx T.cl_Needed T.y_Needed T.z1 T.z2 T.z3_Needed), T.k_Ne_Ne, _, rfl, iteF ?_⟩
    refine ⟨_, rfl, x, _, _, _, _, rfl, hx, T.cl_Needed, T.na_Needed _ (by decide), rfl, _, _, _, _, _, rfl, .ty "tuple", .base (.tup hA), (show _ = some true from kit_ty (by decide +kernel)), _, rfl, iteF ?_⟩
    refine ⟨_, rfl, x, _, _, _, _, rfl, hx, T.cl_Needed, T.na_Needed _ (by decide), rfl, _, _, _, _, _, rfl, .ty "tuple", .base (.tup hB), (show _ = some true from kit_ty (by decide +kernel)), _, rfl, iteF ?_⟩
    have gle : (gst ls n).length ≤ 100 := Nat.le_trans (grd_len _) (by rw [nls_len]; exact ll)
    have glt : ∀ j ∈ gst ls n, j < ls.length := fun j hj => by
      have := grd_lt hj
      rw [nls_len] at this
      exact this
    have lk : ku.length ≤ 100 := by rw [pk.length]; exact gle
    have ld : du.length ≤ 100 := by
      rw [pd.length]
      exact Nat.le_trans (List.length_filter_le _ _) (by rw [List.length_range]; exact ll)
    refine ⟨_, rfl, x, _, _, _, _, rfl, hx, T.cl_Needed, T.na_Needed _ (by decide), rfl, A, ku, rfl, .inr (SqT.of hA), fun q1 m1 => ?_⟩
    have Sa := sNew (o := .lst ku) m1
    refine ⟨_, rfl, x, _, _, _, _, rfl, Sa _ _ hx, T.cl_Needed, T.na_Needed _ (by decide), rfl, B, du, rfl, .inr (SqT.of (Sa _ _ hB)), fun q2 m2 => ?_⟩
    have Sb := sNew (o := .lst du) m2
    refine ⟨q1, q2, ku, du, rfl, rfl, Sb _ _ upd_same, upd_same, Nat.le_of_lt (small1000 (by omega)), fun R nR => ?_⟩
    have S2 := Sa.trans (Sb.trans (sNew (o := .lst (ku ++ du)) nR))
    have two := rows_two (Paired.impP (fun _ _ h => KpAt.same h S2) pk) (Paired.impP (fun _ _ h => DrAt.same h S2) pd)
    have hR : upd (upd (upd H1 q1 (.lst ku)) q2 (.lst du)) R (.lst (ku ++ du)) R = some (.lst (ku ++ du)) := upd_same
    have hx2 := S2 _ _ hx
    have hA2 := S2 _ _ hA
    have hB2 := S2 _ _ hB
    have pk := Paired.impP (fun _ _ h => KpAt.same h S2) pk
    have pd := Paired.impP (fun _ _ h => DrAt.same h S2) pd
    have S := S1.trans S2
    generalize upd (upd (upd H1 q1 (.lst ku)) q2 (.lst du)) R (.lst (ku ++ du)) = H2 at S2 two hR hx2 hA2 hB2 pk pd S
    clear hx hA hB S2 Sa Sb
    refine ⟨_, rfl, R, rfl, ⟨_, SqL.of hR⟩, fun D nD => lc_list (K := K) (a := R) (xs := ku ++ du) (fun j H5 => H5 = upd H2 D (.lst [])) rfl (fun j H5 _ z => by rw [z]; exact SqL.of (sNew nD _ _ hR)) (fun j v H5 hv e => ?_) (fun H5 e => ?_)⟩
    · subst e
      obtain ⟨bb, ii, rr, rfl, hb⟩ := two v (List.mem_of_getElem? hv)
      have hb5 := sNew (o := .lst []) nD _ _ hb
      refine ⟨rfl, _, rfl, _, _, _, _, _, rfl, .ty "tuple", .base (.tup hb5), (show _ = some true from kit_ty (by decide +kernel)), _, rfl, iteF ?_⟩
      refine ⟨_, rfl, bb, _, rfl, .inr (SqT.of hb5), rfl, _, rfl, ?_⟩
      refine iteF ⟨_, rfl, bb, _, _, _, rfl, rfl, SqT.of hb5, atI_nat (j := 0) rfl, _, _, rfl, (.int _ : Dm K _ (.int (ii : Nat)) "int"), _, rfl, iteF rfl⟩
    subst e
    refine ⟨by show 0 ≤ sizeLine; exact Nat.zero_le _, fun q3 m3 => ?_⟩
    have Sc := (sNew (o := .lst []) nD).trans (sNew (o := .lst []) m3)
    refine ⟨_, _, dp_lst (SqL.of (sNew m3 _ _ upd_same)) .nil, dp_lst (SqL.of upd_same) .nil, row_shaped (xs := []) true (by simp), row_shaped (xs := []) true (by simp), _, rfl, ?_⟩
    rw [eqv_nilE]
    refine iteF ?_
    have S3 := S.trans Sc
    refine ⟨_, rfl, _, rfl, g, us, ls, n, rfl, hL.same S3, lok, n1, n12, by omega, ex, fun G H3 S4 hG => ?_⟩
    have S34 := Sc.trans S4
    have hx3 := S34 _ _ hx2
    have hA3 := S34 _ _ hA2
    have hB3 := S34 _ _ hB2
    have pk := Paired.impP (fun _ _ h => KpAt.same h S34) pk
    have pd := Paired.impP (fun _ _ h => DrAt.same h S34) pd
    have S := S.trans S34
    clear S34 Sc S3 S4 hx2 hA2 hB2 hR two
    refine ⟨_, rfl, x, _, _, _, _, rfl, hx3, T.cl_Needed, T.na_Needed _ (by decide), rfl, A, rfl, ⟨_, SqT.of hA3⟩, fun D1 nD1 => lc_tup (K := K) (a := A) (xs := ku) (fun j H5 => H5 = upd H3 D1 (.lst (((gst ls n).take j).map fun (i : Nat) => V.int i))) rfl (fun j H5 _ z => by rw [z]; exact SqT.of (sNew nD1 _ _ hA3)) (fun j v H5 hv e => ?_) (fun H5 e => ?_)⟩
    · subst e
      obtain ⟨ii, hi, bb, ta, _, _, rfl, hb, _⟩ := Paired.at pk hv
      refine ⟨rfl, _, rfl, bb, _, _, _, rfl, rfl, SqT.of (sNew nD1 _ _ hb), atI_nat (j := 0) rfl, _, upd_same, small1000 (by rw [List.length_map, List.length_take]; omega), ?_⟩
      rw [upd_upd, take_snoc hi, List.map_append]
      rfl
    rw [pk.length, List.take_length] at e
    subst e
    have Sd := sNew (o := .lst ((gst ls n).map fun (i : Nat) => V.int i)) nD1
    have dG : ∀ {H9 : Hp} {a : Addr}, H9 a = some (.lst ((gst ls n).map fun (i : Nat) => V.int i)) → Dp K H9 (.ref a) (sqD true ((((gst ls n).map fun (i : Nat) => (i : Int)).map V.int).map vD)) := fun h => dpI (by rw [h, castV])
    refine ⟨_, rfl, _, _, dG upd_same, dG (Sd _ _ hG), row_shaped true (okI _), row_shaped true (okI _), _, rfl, ?_⟩
    rw [eqv_ints, decide_eq_true rfl]
    refine iteF ?_
    have hx3 := Sd _ _ hx3
    have hA3 := Sd _ _ hA3
    have hB3 := Sd _ _ hB3
    have hG := Sd _ _ hG
    have pk := Paired.impP (fun _ _ h => KpAt.same h Sd) pk
    have pd := Paired.impP (fun _ _ h => DrAt.same h Sd) pd
    have S := S.trans Sd
    generalize upd H3 D1 (.lst ((gst ls n).map fun (i : Nat) => V.int i)) = H4 at hx3 hA3 hB3 hG pk pd S
    clear Sd
    have lout : ∀ m, m ≤ ls.length → ((List.range m).filter (outG (gst ls n))).length ≤ 100 := fun m hm => Nat.le_trans (List.length_filter_le _ _) (by rw [List.length_range]; omega)
    refine ⟨_, rfl, x, _, _, _, _, rfl, hx3, T.cl_Needed, T.na_Needed _ (by decide), rfl, B, rfl, ⟨_, SqT.of hB3⟩, fun D2 nD2 => lc_tup (K := K) (a := B) (xs := du) (fun j H5 => H5 = upd H4 D2 (.lst ((((List.range ls.length).filter (outG (gst ls n))).take j).map fun (i : Nat) => V.int i))) rfl (fun j H5 _ z => by rw [z]; exact SqT.of (sNew nD2 _ _ hB3)) (fun j v H5 hv e => ?_) (fun H5 e => ?_)⟩
    · subst e
      obtain ⟨ii, hi, bb, ta, _, _, rfl, hb, _⟩ := Paired.at pd hv
      have lo := lout _ (Nat.le_refl _)
      refine ⟨rfl, _, rfl, bb, _, _, _, rfl, rfl, SqT.of (sNew nD2 _ _ hb), atI_nat (j := 0) rfl, _, upd_same, small1000 (by rw [List.length_map, List.length_take]; omega), ?_⟩
      rw [upd_upd, take_snoc hi, List.map_append]
      rfl
    rw [pd.length, List.take_length] at e
    subst e
    have Sd := sNew (o := .lst (((List.range ls.length).filter (outG (gst ls n))).map fun (i : Nat) => V.int i)) nD2
    have hL4 := hL.same (S.trans Sd)
    have hG4 := Sd _ _ hG
    refine ⟨_, rfl, g, us, rfl, .inl (SqL.of hL4.1), _, rfl, by omega, by omega, fun D3 nD3 => lc_range (fun j H5 => H5 = upd (upd H4 D2 (.lst (((List.range ls.length).filter (outG (gst ls n))).map fun (i : Nat) => V.int i))) D3 (.lst (((List.range j).filter (outG (gst ls n))).map fun (i : Nat) => V.int i))) rfl ?_ ?_⟩
    · rintro j H5 hj rfl
      have hj : j < ls.length := by omega
      rw [show (0 : Int) + (j : Nat) = ((j : Nat) : Int) by omega]
      have lo := lout j (by omega)
      refine ⟨rfl, _, rfl, _, rfl, G, _, rfl, .inl (SqL.of (by rw [sNew nD3 _ _ hG4, ← castV])), rfl, flatI _, _, rfl, ?_⟩
      show if (!inV (.int (j : Nat)) (((gst ls n).map fun (i : Nat) => (i : Int)).map V.int)) = true then _ else _
      rw [in_ints, nI_cont, filt_snoc]
      show if outG (gst ls n) j = true then _ else _
      split
      · refine ⟨_, rfl, _, upd_same, small1000 (by rw [List.length_map]; omega), ?_⟩
        rw [upd_upd, List.map_append]
        rfl
      · show upd _ D3 _ = upd _ D3 _
        rw [List.append_nil]
    · rintro H5 e
      rw [show ((us.length : Nat) : Int).toNat = ls.length by omega] at e
      subst e
      have Se := sNew (o := .lst (((List.range ls.length).filter (outG (gst ls n))).map fun (i : Nat) => V.int i)) nD3
      have dO : ∀ {H9 : Hp} {a : Addr}, H9 a = some (.lst (((List.range ls.length).filter (outG (gst ls n))).map fun (i : Nat) => V.int i)) → Dp K H9 (.ref a) (sqD true (((((List.range ls.length).filter (outG (gst ls n))).map fun (i : Nat) => (i : Int)).map V.int).map vD)) := fun h => dpI (by rw [h, castV])
      refine ⟨_, _, dO (Se _ _ upd_same), dO upd_same, row_shaped true (okI _), row_shaped true (okI _), _, rfl, ?_⟩
      rw [eqv_ints, decide_eq_true rfl]
      refine iteF ?_
      have Sde := Sd.trans Se
      have hx3 := Sde _ _ hx3
      have hA3 := Sde _ _ hA3
      have hB3 := Sde _ _ hB3
      have hG := Sde _ _ hG
      have pk := Paired.impP (fun _ _ h => KpAt.same h Sde) pk
      have pd := Paired.impP (fun _ _ h => DrAt.same h Sde) pd
      have S := S.trans Sde
      generalize upd (upd H4 D2 (.lst (((List.range ls.length).filter (outG (gst ls n))).map fun (i : Nat) => V.int i))) D3 (.lst (((List.range ls.length).filter (outG (gst ls n))).map fun (i : Nat) => V.int i)) = H6 at hx3 hA3 hB3 hG pk pd S
      clear Sd Se Sde hL4 hG4 dO
      have noR : R = R := rfl
      refine ⟨_, rfl, x, _, _, _, _, rfl, hx3, T.cl_Needed, T.na_Needed _ (by decide), rfl, A, rfl, ⟨_, SqT.of hA3⟩, for_tup (K := K) (a := A) (xs := ku) (fun j σ H7 => Same H6 H7 ∧ ∃ v6 v7 v8 : Option V, σ = [some (.ref p), some (.int (n : Nat)), some (.ref g), some (.ref x), some (.ref R), some (.ref G), v6, v7, v8, none]) ⟨Same.refl _, _, _, _, rfl⟩ (fun j σ H7 _ q => SqT.of (q.1 _ _ hA3)) ?_ ?_⟩
      · rintro j v σ H7 hv ⟨S7, v6, v7, v8, rfl⟩
        obtain ⟨ii, hi, bb, ta, ts, l, rfl, hb, hta, hl, U⟩ := Paired.at pk hv
        have il := (List.getElem?_eq_some_iff.mp hl).1
        have S17 := S.trans S7
        have hL7 := hL.same S17
        have hG7 := S7 _ _ hG
        refine ⟨bb, _, rfl, SqT.of (S7 _ _ hb), rfl, _, _, rfl, _, _, rfl, rfl, ?_⟩
        refine ⟨_, rfl, _, rfl, G, rfl, ⟨_, SqL.of hG7⟩, fun O nO => lc_list (K := K) (a := G) (xs := (gst ls n).map fun (i : Nat) => V.int i) (fun j H8 => H8 = upd H7 O (.lst (pick us (((gst ls n).take j).filter (Fw.ne ii))))) rfl (fun j H8 _ z => by rw [z]; exact SqL.of (sNew nO _ _ hG7)) (fun j x H8 hx e => ?_) (fun H8 e => ?_)⟩
        · subst e
          obtain ⟨y, hy, rfl⟩ := nat_at hx
          have yl := glt y (List.mem_of_getElem? hy)
          have yu : y < us.length := by omega
          have pt := pick_take (us := us) (i := ii) hy yu
          have sz : (pick us (((gst ls n).take j).filter (Fw.ne ii))).length ≤ 300 := by
            rw [pick_len (fun q hq => by have := glt q (List.mem_of_mem_take (ne_mem.mp hq).1); omega)]
            refine filter_len ?_
            rw [List.length_take]
            omega
          refine ⟨rfl, _, rfl, _, rfl, rfl, _, rfl, ite2 (fun z => ?_) (fun z => ?_)⟩
          · have z : ¬ y = ii := fun w => by
              rw [w] at z
              simp at z
            rw [if_neg z] at pt
            refine ⟨_, rfl, _, rfl, g, _, _, _, rfl, rfl, SqL.of (sNew nO _ _ hL7.1), atI_nat (List.getElem?_eq_getElem yu), _, upd_same, small1000 (by omega), ?_⟩
            rw [upd_upd, pt]
          · have z : y = ii := by
              by_cases q : y = ii
              · exact q
              · exfalso
                refine z ?_
                show (!decide (V.int _ = V.int _)) = true
                rw [decide_eq_false fun e => q (by have := V.int.inj e; omega)]
                rfl
            rw [if_pos z, List.append_nil] at pt
            show upd H7 O _ = upd H7 O _
            rw [pt]
        rw [List.length_map, List.take_length] at e
        subst e
        have olt : ∀ j ∈ (gst ls n).filter (Fw.ne ii), j < ls.length := fun j hj => glt j (ne_mem.mp hj).1
        have SO := sNew (o := .lst (pick us ((gst ls n).filter (Fw.ne ii)))) nO
        have hL8 := hL7.same SO
        obtain ⟨bl, hbl, hcl⟩ := ll_at hL8 il
        have e2 : ls[ii] = l := (List.getElem?_eq_some_iff.mp hl).2
        rw [e2] at hcl
        refine ⟨_, rfl, _, rfl, _, rfl, g, _, _, _, rfl, rfl, SqL.of hL8.1, atI_nat hbl, O, ta, bl, _, _, ts, n, l, rfl, ⟨upd_same, pick_paired hL8.2 _⟩, LkOk.pick lok, by omega, by rw [pick_len olt]; exact filter_len (by omega), SO _ _ (S7 _ _ hta), hcl, lok l (List.mem_of_getElem? hl), U.tms, U.far, fun H9 S9 => ?_⟩
        exact ⟨_, rfl, iteF ⟨S7.trans (SO.trans S9), _, _, _, rfl⟩⟩
      · rintro σ H7 ⟨S7, v6, v7, v8, rfl⟩
        have hB7 := S7 _ _ hB3
        refine ⟨_, rfl, x, _, _, _, _, rfl, S7 _ _ hx3, T.cl_Needed, T.na_Needed _ (by decide), rfl, B, rfl, ⟨_, SqT.of hB7⟩, for_tup (K := K) (a := B) (xs := du) (fun j σ H8 => Same H7 H8 ∧ ∃ v6 v7 v8 : Option V, σ = [some (.ref p), some (.int (n : Nat)), some (.ref g), some (.ref x), some (.ref R), some (.ref G), v6, v7, v8, none]) ⟨Same.refl _, _, _, _, rfl⟩ (fun j σ H8 _ q => SqT.of (q.1 _ _ hB7)) ?_ ?_⟩
        · rintro j v σ H8 hv ⟨S8, v6, v7, v8, rfl⟩
          obtain ⟨ii, hi, bb, pa, js, l, rfl, hb, hpa, hl, ld, sm, lj, inj⟩ := Paired.at pd hv
          have il := (List.getElem?_eq_some_iff.mp hl).1
          have S78 := S7.trans S8
          have hL8 := hL.same (S.trans S78)
          obtain ⟨bl, hbl, hcl⟩ := ll_at hL8 il
          have e2 : ls[ii] = l := (List.getElem?_eq_some_iff.mp hl).2
          rw [e2] at hcl
          have hp8 := S78 _ _ hpa
          refine ⟨bb, _, rfl, SqT.of (S78 _ _ hb), rfl, _, _, rfl, _, _, rfl, rfl, ?_⟩
          refine ⟨_, rfl, _, rfl, _, rfl, _, rfl, g, _, _, _, rfl, rfl, SqL.of hL8.1, atI_nat hbl, g, pa, bl, us, ls, js, n, l, rfl, hL8, hp8, (pn lok).2, by omega, hcl, lok l (List.mem_of_getElem? hl), ld, sm, fun H9 S9 => ⟨_, rfl, iteF ?_⟩⟩
          have hp9 := S9 _ _ hp8
          have hG9 := S9 _ _ (S78 _ _ hG)
          refine ⟨_, rfl, pa, rfl, ⟨_, SqT.of hp9⟩, fun D9 nD9 => lc_tup (K := K) (a := pa) (xs := js.map fun (i : Nat) => V.int i) (fun j HH => HH = upd H9 D9 (.lst [])) rfl (fun j HH _ z => by rw [z]; exact SqT.of (sNew nD9 _ _ hp9)) (fun j x HH hx e => ?_) (fun HH e => ?_)⟩
          · subst e
            obtain ⟨y, hy, rfl⟩ := nat_at hx
            refine ⟨rfl, _, rfl, _, rfl, G, _, rfl, .inl (SqL.of (by rw [sNew nD9 _ _ hG9, ← castV])), rfl, flatI _, _, rfl, ?_⟩
            show if (!inV (.int (y : Nat)) (((gst ls n).map fun (i : Nat) => (i : Int)).map V.int)) = true then _ else _
            rw [in_ints, nI_cont, decide_eq_true (inj y (List.mem_of_getElem? hy))]
            exact iteF rfl
          subst e
          refine ⟨by show 0 ≤ sizeLine; exact Nat.zero_le _, fun q9 m9 => ?_⟩
          have Sx := (sNew (o := .lst []) nD9).trans (sNew (o := .lst []) m9)
          refine ⟨_, _, dp_lst (SqL.of (sNew m9 _ _ upd_same)) .nil, dp_lst (SqL.of upd_same) .nil, row_shaped (xs := []) true (by simp), row_shaped (xs := []) true (by simp), _, rfl, ?_⟩
          rw [eqv_nilE]
          exact iteF ⟨S8.trans (S9.trans Sx), _, _, _, rfl⟩
        · rintro σ H8 ⟨S8, v6, v7, v8, rfl⟩
          exact k H8 (S.trans (S7.trans S8))
theorem cal_L_needed (T : Txt P w K mg cl) : Cal P w K mg base CX0 7 "_law_needed" ["_law_system", "_law_count", "_law_links_here"] (spLNeed (cl "System")) := by
  obtain ⟨f, fd, F, m⟩ := T.d_L_needed
  exact ⟨f, fd, ok_L_needed F T, m, F.kp, F.binds fun _ _ _ _ _ _ us hl => match us, hl with | [_, _, _], _ => rfl⟩
end
end My
set_option Elab.async false
set_option linter.all false
set_option maxRecDepth 100000
set_option maxHeartbeats 1000000
namespace My
open PySem L2 Dw Wp
open C8 (pss_cut tCut)
set_option pp.maxSteps 600
open Bf Fw
def spOther : Sp := fun vs H Q _ => ∃ (b g : Addr) (us : List V) (ls : List Lk) (n : Nat), vs = [.ref b, .int (n : Nat), .ref g] ∧ BgAt H b ∧ LlT H g us ls ∧ g ≠ b ∧ (∀ l ∈ ls, LkOk (n : Nat) l) ∧ 1 ≤ n ∧ n ≤ 12 ∧ ls.length ≤ 100 ∧ (∃ φ, Keeps (nls ls) φ) ∧
  ∀ (D : Addr) (us' : List V) (ls' : List Lk) (H' : Hp), H D = none → LlT H' D us' ls' → (∀ l ∈ ls', LkOk (n : Nat) l) → ls'.length ≤ 6 → BgAt H' b → But b H H' → Q (.ref D) H'
theorem lk_put2 {H' : Hp} {D q : Addr} {us : List V} {ls : List Lk} {l : Lk} (hL : LlT H' D us ls) (hq : H' q = some (.tup (lkV l))) : LlT (upd H' D (.lst (us ++ [.ref q]))) D (us ++ [.ref q]) (ls ++ [l]) :=
  ⟨upd_same, Paired.appendP (Paired.impP (fun _ _ h => LkT.upd h hL.1) hL.2) (.cons ⟨q, rfl, tup_updL hq hL.1⟩ .nil)⟩
section
variable {P : Program} {w : World} {K : PySem.W.Frag} {mg : Str → Option Value} {base : Heap} {cl : String → Addr}
theorem ok_other {f : Addr} {fd : FuncData} (F : Fun K "_law_other" "_law_other" s_other f fd) (T : Txt P w K mg cl) : FnOk P w K mg base CX0 5 f fd ["_law_bag_here", "_law_count", "_law_links_here"] (spOther) := by
  refine F.ok sc_other (fun vs H Q E h => ?_) (fun cdv A outer s H vs Q E hr h => ?_)
  · obtain ⟨b, g, us, ls, n, rfl, _⟩ := h
    rfl
  · obtain ⟨b, g, us, ls, n, rfl, B, hL, ngb, lok, n1, n12, ll, ex, k⟩ := h
    have C_take : Cal P w K mg base CX0 1 "_law_take" _ spTake := cal_take T
    have C_of : Cal P w K mg base CX0 2 "_law_of" _ spOf := cal_of T
    have C_near : Cal P w K mg base CX0 4 "_law_near" _ spNear := cal_near T
    refine ⟨_, (pss_cons (ps_set (i := 3) sc_other.nd rfl (Or.inl rfl) (pe_lst pa_nil))
        (pss_cons (ps_for PassesOwn.never rfl (pi_range1 rfl T.n_range (pa_cons (pe_cal C_take (hr.mono (by decide)) (pa_cons (pv 0) (pa_cons pe_int pa_nil))) pa_nil)) (pg_name (i := 4) sc_other.nd rfl (Or.inl rfl))
          (pss_cons (ps_set (i := 5) sc_other.nd rfl (Or.inl rfl) (pe_cal C_take (hr.mono (by decide)) (pa_cons (pv 0) (pa_cons pe_int pa_nil))))
            (pss_one (ps_if (PW.pt (pw_or (pt_cmpR op_eq (pv 5) pe_int (nomark _)) (pw_or1 (pt_cmpR (op_eqD hr.units) (pv 2) (pe_lst pa_nil) (nomark _)))))
              (pss_one (ps_expr (pe_app1 (by exact (pv 3)) (by exact (pa_cons (pe_cal C_near (hr.mono (by decide)) (pa_cons (pv 0) (pa_cons (pv 1) (pa_cons (pv 2) pa_nil)))) pa_nil))))) (pss_cons (ps_asg (pe_cal C_of (hr.mono (by decide)) (pa_cons (pv 0) (pa_cons (pv 2) pa_nil))) (pg_tup rfl (pgs_cons (pg_name (i := 6) sc_other.nd rfl (Or.inl rfl)) (pgs_cons (pg_name (i := 7) sc_other.nd rfl (Or.inl rfl)) (pgs_cons (pg_name (i := 8) sc_other.nd rfl (Or.inl rfl)) pgs_nil)))))
                (pss_one (ps_expr (pe_app1 (by exact (pv 3)) (by exact (pa_cons (pe_tup (pa_cons (pv 6) (pa_cons (pv 7) (pa_cons (pe_op op_add (pe_op op_add (pv 8) (pe_op op_mul (pe_op op_fdiv (pe_cal C_take (hr.mono (by decide)) (pa_cons (pv 0) (pa_cons pe_int pa_nil))) pe_int) (pe_op op_sub pe_int (pv 5)))) (pe_cal C_take (hr.mono (by decide)) (pa_cons (pv 0) (pa_cons pe_int pa_nil)))) pa_nil)))) pa_nil))))))))))
        (pss_one (ps_ret (pv 3))))), ?_⟩
    have lu := hL.2.length
    refine ⟨by show 0 ≤ sizeLine; exact Nat.zero_le _, fun D nD => ?_⟩
    have S0 := sNew (o := .lst []) nD
    have B0 := B.same S0
    have nDb := B.ne nD
    refine ⟨_, rfl, b, _, rfl, B0, by decide, by decide, fun m H1 m0 m1 B1 D1 => ⟨_, rfl, by omega, by omega, ?_⟩⟩
    have D1 := (But.of S0).trans D1
    have hD1 : H1 D = some (.lst []) := ‹But b (upd H D (.lst [])) H1› _ _ upd_same nDb
    refine for_range (fun i σ H2 => ∃ (us' : List V) (ls' : List Lk) (v4 v5 v6 v7 v8 : Option V), σ = [some (.ref b), some (.int (n : Nat)), some (.ref g), some (.ref D), v4, v5, v6, v7, v8] ∧ LlT H2 D us' ls' ∧ (∀ l ∈ ls', LkOk (n : Nat) l) ∧ ls'.length = i ∧ BgAt H2 b ∧ But b H H2) ⟨[], [], _, _, _, _, _, rfl, ⟨hD1, .nil⟩, (fun l h => by cases h), rfl, B1, D1⟩ ?_ ?_
    · rintro i σ H2 hi ⟨us', ls', v4, v5, v6, v7, v8, rfl, hL2, lok2, ll2, B2, D2⟩
      have i6 : i < 6 := by omega
      refine ⟨_, rfl, b, _, rfl, B2, by decide, by decide, fun kd H3 kd0 kd1 B3 D3 => ?_⟩
      have D23 := D2.trans D3
      have hL3 := hL2.but nDb B2 D3
      have hg3 := hL.but ngb B D23
      have fin : ∀ {H9 : Hp} {q : Addr} {l : Lk}, LlT H9 D us' ls' → H9 q = some (.tup (lkV l)) → LkOk (n : Nat) l → BgAt H9 b → But b H H9 → ∀ (w4 w5 w6 w7 w8 : Option V), ∃ (vs' : List V) (ks' : List Lk) (v4 v5 v6 v7 v8 : Option V), ([some (.ref b), some (.int (n : Nat)), some (.ref g), some (.ref D), w4, w5, w6, w7, w8] : List (Option V)) = [some (.ref b), some (.int (n : Nat)), some (.ref g), some (.ref D), v4, v5, v6, v7, v8] ∧ LlT (upd H9 D (.lst (us' ++ [.ref q]))) D vs' ks' ∧ (∀ l ∈ ks', LkOk (n : Nat) l) ∧ ks'.length = i + 1 ∧ BgAt (upd H9 D (.lst (us' ++ [.ref q]))) b ∧ But b H (upd H9 D (.lst (us' ++ [.ref q]))) := fun {H9 q l} h1 h2 h3 h4 h5 w4 w5 w6 w7 w8 => by
        refine ⟨_, _, _, _, _, _, _, rfl, lk_put2 h1 h2, fun x hx => ?_, by rw [List.length_append, ll2]; rfl, h4.upd nDb, but_upd h5 nD⟩
        rcases List.mem_append.mp hx with hx | hx
        · exact lok2 x hx
        · rw [List.mem_singleton.mp hx]; exact h3
      have sz : us'.length < sizeLine := small1000 (by rw [hL2.2.length]; omega)
      refine ⟨_, rfl, rfl, _, rfl, ite2 (fun _ => iteT ?_) (fun _ => ?_)⟩
      · exact ⟨_, rfl, .inl ⟨rfl, _, SqL.of hL3.1⟩, _, rfl, _, rfl, _, rfl, b, g, us, ls, n, rfl, B3, hg3, ngb, lok, n1, n12, by omega, ex, fun q l H9 hq lo B9 D9 => ⟨D, _, _, rfl, rfl, (hL3.but nDb B3 D9).1, sz, fin (hL3.but nDb B3 D9) hq lo B9 (D23.trans D9) _ _ _ _ _⟩⟩
      refine ⟨_, rfl, by show 0 ≤ sizeLine; exact Nat.zero_le _, fun q0 m0 => ?_⟩
      have Sz := sNew (o := .lst []) m0
      have hg4 := hg3.same Sz
      have hL4 := hL3.same Sz
      have B4 := B3.same Sz
      have D4 := D23.trans (But.of Sz)
      refine ⟨_, _, dp_lst (SqL.of hg4.1) (lks_dp hg4.2), dp_lst (SqL.of upd_same) .nil, fls_shaped true (lks_fl ls), row_shaped (xs := []) true (by simp), _, rfl, ?_⟩
      rw [eqv_nilE]
      refine ite2 (fun z => ?_) (fun z => ?_)
      · exact ⟨_, rfl, .inl ⟨rfl, _, SqL.of hL4.1⟩, _, rfl, _, rfl, _, rfl, b, g, us, ls, n, rfl, B4, hg4, ngb, lok, n1, n12, by omega, ex, fun q l H9 hq lo B9 D9 => ⟨D, _, _, rfl, rfl, (hL4.but nDb B4 D9).1, sz, fin (hL4.but nDb B4 D9) hq lo B9 (D4.trans D9) _ _ _ _ _⟩⟩
      have ne : 1 ≤ ls.length := by
        cases ls with
        | nil => exact absurd rfl z
        | cons _ _ => exact Nat.succ_le_succ (Nat.zero_le _)
      refine ⟨_, rfl, _, rfl, b, g, us, rfl, B4, hg4.1, ngb, by omega, by omega, fun j x H5 hx B5 D5 => ?_⟩
      have hg5 := hg4.but ngb B4 D5
      have hL5 := hL4.but nDb B4 D5
      have D45 := D4.trans D5
      obtain ⟨l, hl, e, rfl, he⟩ := Paired.at hg5.2 hx
      have lo := lok l (List.mem_of_getElem? hl)
      obtain ⟨l1, l2, am⟩ := l
      refine ⟨e, _, rfl, SqT.of he, rfl, _, _, rfl, _, _, rfl, _, _, rfl, rfl, ?_⟩
      refine ⟨_, rfl, .inl ⟨rfl, _, SqL.of hL5.1⟩, _, rfl, _, rfl, _, rfl, _, rfl, b, _, rfl, B5, by decide, by decide, fun j1 H6 j10 j11 B6 D6 => ⟨_, _, rfl, rfl, ⟨by decide, by decide⟩, _, rfl, _, _, rfl, rfl, _, _, rfl, rfl, .inl (by omega), _, _, rfl, rfl, _, rfl, b, _, rfl, B6, by decide, by decide, fun j2 H7 j20 j21 B7 D7 => ⟨_, _, rfl, rfl, by show 3 ≤ sizeLine; decide, fun q nq => ?_⟩⟩⟩
      have hL7 := (hL5.but nDb B5 D6).but nDb B6 D7
      have D57 := D45.trans (D6.trans D7)
      have Sq := sNew (o := .tup [.int l1, .int l2, .int (am + j1 / 10 * (1 - kd) + j2)]) nq
      exact ⟨D, _, _, rfl, rfl, (hL7.same Sq).1, sz, fin (l := (l1, l2, am + j1 / 10 * (1 - kd) + j2)) (hL7.same Sq) upd_same lo (B7.same Sq) (D57.trans (But.of Sq)) _ _ _ _ _⟩
    · rintro σ H2 ⟨us', ls', v4, v5, v6, v7, v8, rfl, hL2, lok2, ll2, B2, D2⟩
      exact ⟨_, rfl, k D us' ls' H2 nD hL2 lok2 (by omega) B2 D2⟩
theorem cal_other (T : Txt P w K mg cl) : Cal P w K mg base CX0 5 "_law_other" ["_law_bag_here", "_law_count", "_law_links_here"] (spOther) := by
  obtain ⟨f, fd, F, m⟩ := T.d_other
  exact ⟨f, fd, ok_other F T, m, F.kp, F.binds fun _ _ _ _ _ _ us hl => match us, hl with | [_, _, _], _ => rfl⟩
end
end My
set_option Elab.async false
set_option linter.all false
set_option maxRecDepth 100000
set_option maxHeartbeats 1000000
namespace My
open PySem L2 Dw Wp
open C8 (pss_cut tCut)
set_option pp.maxSteps 600
open Bf Fw
def spCompd (C : Addr) : Sp := fun vs H Q _ => ∃ (b p t g : Addr) (us ws : List V) (ls : List Lk) (n : Nat), vs = [.ref b, .ref p, .int (n : Nat), .ref g] ∧ BgAt H b ∧ SyAt C H p (n : Nat) t ws ls ∧ LlT H g us ls ∧ g ≠ b ∧ (∀ l ∈ ls, LkOk (n : Nat) l) ∧ 1 ≤ n ∧ n ≤ 12 ∧ ls.length ≤ 100 ∧ (∃ φ, Keeps (nls ls) φ) ∧ ∀ H', BgAt H' b → But b H H' → Q (.bl true) H'
def spBarr (C : Addr) : Sp := fun vs H Q _ => ∃ (p q t1 t2 e : Addr) (n : Nat) (kd : Int) (us1 us2 : List V) (ls1 ls2 : List Lk) (l : Lk), vs = [.ref p, .ref q, .int kd, .ref e] ∧ SyAt C H p (n : Nat) t1 us1 ls1 ∧ SyAt C H q (n : Nat) t2 us2 ls2 ∧ (∀ l ∈ ls1, LkOk (n : Nat) l) ∧ (∀ l ∈ ls2, LkOk (n : Nat) l) ∧ n ≤ 12 ∧ ls1.length ≤ 100 ∧ ls2.length ≤ 100 ∧ H e = some (.tup (lkV l)) ∧ LkOk (n : Nat) l ∧
  (¬ ∃ φ, Keeps (nls ls2) φ) ∧ ∀ (pa : Addr) (is : List Nat) (H' : Hp), RingP ls2 n is → Same H H' → H' pa = some (natT is) → Q (.ref pa) H'
def spOC (C : Addr) : Sp := fun vs H Q _ => ∃ (p q t1 t2 : Addr) (m n : Nat) (us1 us2 : List V) (ls1 ls2 : List Lk), vs = [.ref p, .ref q] ∧ SyAt C H p (m : Nat) t1 us1 ls1 ∧ SyAt C H q (n : Nat) t2 us2 ls2 ∧ (∀ l ∈ ls1, LkOk (m : Nat) l) ∧ (∀ l ∈ ls2, LkOk (n : Nat) l) ∧ n ≤ 12 ∧ ls1.length ≤ 100 ∧ ls2.length ≤ 100 ∧ m ≠ n ∧ ∀ H', Same H H' → Q (.bl true) H'
section
variable {P : Program} {w : World} {K : PySem.W.Frag} {mg : Str → Option Value} {base : Heap} {cl : String → Addr}
theorem ok_other_count {f : Addr} {fd : FuncData} (F : Fun K "_law_other_count" "_law_other_count" s_other_count f fd) (T : Txt P w K mg cl) : FnOk P w K mg base CX0 6 f fd ["_law_one", "_law_other_here"] (spOC (cl "System")) := by
  refine F.ok sc_other_count (fun vs H Q E h => ?_) (fun cdv A outer s H vs Q E hr h => ?_)
  · obtain ⟨p, q, t1, t2, m, n, us1, us2, ls1, ls2, rfl, _⟩ := h
    rfl
  · obtain ⟨p, q, t1, t2, m, n, us1, us2, ls1, ls2, rfl, X, Y, lok1, lok2, ln, ll1, ll2, emn, k⟩ := h
    have C_compare_systems : Cal P w K mg base (L2.CX P w) 5 "compare_systems" _ (spCmp (cl "System") (cl "OtherCount") (cl "NoTimes") (cl "KeptByAll") (cl "PartedAt")) := cal_compare_systems T
    refine ⟨_, (pss_cut (ps_try_only (Wout := fun _ _ _ _ => False) rfl rfl ⟨rfl, by decide, Or.inl T.m_OtherCount⟩ takes0
            (fun W pn xe tk po => (pss_one (ps_expr (pe_calS C_compare_systems (hr.mono (by decide)) (fun σ => passAt tk σ) (pa_cons (pv 0) (pa_cons (pv 1) pa_nil))))))
            (fun a oe cls d pn _ _ => (pss_one (ps_ret pe_bl))))
        (pss_one (ps_ret pe_bl))), ?_⟩
    refine ⟨fun _ _ => False, ?_, fun _ _ h => h.elim⟩
    refine ⟨_, rfl, _, rfl, p, q, t1, t2, m, n, us1, us2, ls1, ls2, rfl, X, Y, lok1, lok2, by omega, by omega, by omega, fun _ G S => ?_, fun e => absurd e emn, fun e => absurd e emn⟩
    exact ⟨true, T.is_OtherCount, fun _ _ _ => k G S, fun q => Bool.noConfusion q⟩
theorem cal_other_count (T : Txt P w K mg cl) : Cal P w K mg base CX0 6 "_law_other_count" ["_law_one", "_law_other_here"] (spOC (cl "System")) := by
  obtain ⟨f, fd, F, m⟩ := T.d_other_count
  exact ⟨f, fd, ok_other_count F T, m, F.kp, F.binds fun _ _ _ _ _ _ us hl => match us, hl with | [_, _], _ => rfl⟩
theorem ok_barred {f : Addr} {fd : FuncData} (F : Fun K "_law_barred" "_law_barred" s_barred f fd) (T : Txt P w K mg cl) : FnOk P w K mg base CX0 7 f fd ["_law_one", "_law_other_here", "_law_kind", "_law_link"] (spBarr (cl "System")) := by
  refine F.ok sc_barred (fun vs H Q E h => ?_) (fun cdv A outer s H vs Q E hr h => ?_)
  · obtain ⟨p, q, t1, t2, e, n, kd, us1, us2, ls1, ls2, l, rfl, _⟩ := h
    rfl
  · obtain ⟨p, q, t1, t2, e, n, kd, us1, us2, ls1, ls2, l, rfl, X, Y, lok1, lok2, ln, ll1, ll2, he, lo, no, k⟩ := h
    have C_implied : Cal P w K mg base (L2.CX P w) 5 "implied" _ (spImpl K (cl "System") (cl "BadSystem") (cl "NoTimes") (cl "Implied") (cl "Unimplied")) := cal_implied T
    have C_needed : Cal P w K mg base (L2.CX P w) 6 "needed" _ (spNeed (cl "System") (cl "NoTimes") (cl "Needed")) := cal_needed T
    have C_compare_systems : Cal P w K mg base (L2.CX P w) 5 "compare_systems" _ (spCmp (cl "System") (cl "OtherCount") (cl "NoTimes") (cl "KeptByAll") (cl "PartedAt")) := cal_compare_systems T
    refine ⟨_, (pss_cut (ps_try_as (i := 4) (Wout := fun _ _ _ _ => False) rfl rfl sc_barred.nd rfl rfl ⟨rfl, by decide, Or.inl T.m_NoTimes⟩ takes0
            (fun W pn xe tk po => (pss_one (ps_if (pt_cmpR op_eq (pv 2) pe_int (nomark _))
                (pss_one (ps_expr (pe_calS C_implied (hr.mono (by decide)) (fun σ => passAt tk σ) (pa_cons (pv 1) (pa_cons (pv 3) pa_nil))))) (pss_one (ps_if (pt_cmpR op_eq (pv 2) pe_int (nomark _))
                    (pss_one (ps_expr (pe_calS C_needed (hr.mono (by decide)) (fun σ => passAt tk σ) (pa_cons (pv 1) pa_nil)))) (pss_one (ps_expr (pe_calS C_compare_systems (hr.mono (by decide)) (fun σ => passAt tk σ) (pa_cons (pv 0) (pa_cons (pv 1) pa_nil))))))))))
            (fun a oe cls d pn hz hf => (pss_one (ps_ret (pe_xf (T.x_NoTimes).xf T.xf_NoTimes_path hz hf (pv 4))))))
        (pss_one (ps_ret pe_non))), ?_⟩
    refine ⟨fun _ _ => False, ?_, fun _ _ h => h.elim⟩
    have done : ∀ (pa x : Addr) (is : List Nat) (G : Hp), RingP ls2 n is → Same H G → H x = none → G pa = some (natT is) → pa ≠ x → Q (.ref pa) (upd G x (.xd [("path", .ref pa)])) := fun pa x is G R S nx hpa np => k pa is _ R (same_upd S nx) (by rw [upd_ne np]; exact hpa)
    refine ⟨_, rfl, rfl, _, rfl, ite2 (fun _ => ?_) (fun _ => ?_)⟩
    · refine ⟨_, rfl, _, rfl, q, t2, n, us2, ls2, .ref e, lkR l, rfl, Y, lok2, by omega, by omega, ⟨e, rfl, .inr he⟩, lkR_ok l, badL lo, fun l' el lo' => ⟨fun pa is R G x S nx hpa np => ?_, fun x H' _ _ ex => absurd ex no⟩⟩
      refine ⟨true, T.is_NoTimes, fun _ a0 _ => ?_, fun q => Bool.noConfusion q⟩
      exact ⟨_, rfl, rfl, rfl, x, _, _, rfl, upd_same, rfl, done pa x is G R S nx hpa np⟩
    refine ⟨_, rfl, rfl, _, rfl, ite2 (fun _ => ?_) (fun _ => ?_)⟩
    · refine ⟨_, rfl, q, t2, n, us2, ls2, rfl, Y, lok2, by omega, by omega, fun pa is R G x S nx hpa np => ?_, fun x H' _ _ ex => absurd ex no⟩
      refine ⟨true, T.is_NoTimes, fun _ a0 _ => ?_, fun q => Bool.noConfusion q⟩
      exact ⟨_, rfl, rfl, rfl, x, _, _, rfl, upd_same, rfl, done pa x is G R S nx hpa np⟩
    · refine ⟨_, rfl, _, rfl, p, q, t1, t2, n, n, us1, us2, ls1, ls2, rfl, X, Y, lok1, lok2, by omega, by omega, by omega, fun h => absurd rfl h, fun _ pa is R G x S nx hpa np => ?_, fun _ x H' _ _ ex => absurd ex no⟩
      refine ⟨true, T.is_NoTimes, fun _ a0 _ => ?_, fun q => Bool.noConfusion q⟩
      exact ⟨_, rfl, rfl, rfl, x, _, _, rfl, upd_same, rfl, done pa x is G R S nx hpa np⟩
theorem cal_barred (T : Txt P w K mg cl) : Cal P w K mg base CX0 7 "_law_barred" ["_law_one", "_law_other_here", "_law_kind", "_law_link"] (spBarr (cl "System")) := by
  obtain ⟨f, fd, F, m⟩ := T.d_barred
  exact ⟨f, fd, ok_barred F T, m, F.kp, F.binds fun _ _ _ _ _ _ us hl => match us, hl with | [_, _, _, _], _ => rfl⟩
end
end My
set_option Elab.async false
set_option linter.all false
set_option maxRecDepth 100000
set_option maxHeartbeats 1000000
namespace My
open PySem L2 Dw Wp
open C8 (pss_cut tCut)
set_option pp.maxSteps 600
open Bf Fw
theorem linksW_app {c : Int} {rs : List Rd} : ∀ {ls : List Lk} {i : Nat}, (∀ l ∈ ls, LkOk c l) → linksW c i (ls.map lkR ++ rs) = linksW c (i + ls.length) rs
  | [], _, _ => rfl
  | l :: ls, i, h => by
    have st0 : linksW c i (lkR l :: (ls.map lkR ++ rs)) = (match linkW c (lkR l) with
      | some w => some (V.int (i : Nat), w)
      | none => linksW c (i + 1) (ls.map lkR ++ rs)) := rfl
    rw [List.map_cons, List.cons_append, st0, linkW_lk (h l List.mem_cons_self)]
    show linksW c (i + 1) (ls.map lkR ++ rs) = _
    rw [linksW_app fun x hx => h x (List.mem_cons_of_mem _ hx), List.length_cons]
    congr 1
    omega
theorem sysW_app {c : Int} {ls : List Lk} {rs : List Rd} (c1 : 1 ≤ c) (c2 : c ≤ 12) (h : ∀ l ∈ ls, LkOk c l) (l : ls.length + rs.length ≤ 200) : sysW (.int c) (some (ls.map lkR ++ rs)) = linksW c ls.length rs := by
  rw [sysW_s (by rw [decide_eq_true c1, decide_eq_true c2]; rfl), if_neg (by rw [List.length_append, List.length_map]; omega), linksW_app h, Nat.zero_add]
theorem sysW_ls {c : Int} {ls : List Lk} (c1 : 1 ≤ c) (c2 : c ≤ 12) (h : ∀ l ∈ ls, LkOk c l) (l : ls.length ≤ 200) : sysW (.int c) (some (ls.map lkR)) = none := by
  have := sysW_app (rs := []) c1 c2 h (by simpa using l)
  rw [List.append_nil] at this
  exact this
theorem CmAt.same {CK CP : Addr} {ls1 ls2 : List Lk} {n : Nat} {H H' : Hp} {x : Addr} (h : CmAt CK CP ls1 ls2 n H x) (S : Same H H') : CmAt CK CP ls1 ls2 n H' x :=
  h.imp (fun ⟨A, pu, a, b, c⟩ => ⟨A, pu, a.same S, S _ _ b, Paired.impP (fun _ _ q => PaAt.same q S) c⟩) fun ⟨i, ta, ts, l, a, b, c⟩ => ⟨i, ta, ts, l, a.imp fun _ q => S _ _ q, S _ _ b, c⟩
/-- the places of links that are not told -/
theorem filt_first {p : Nat → Bool} {i : Nat} (hp : p i = true) (hn : ∀ j, j < i → p j = false) : ∀ k, ∃ rest, (List.range (i + 1 + k)).filter p = i :: rest
  | 0 => by
    refine ⟨[], ?_⟩
    rw [Nat.add_zero, List.range_succ, List.filter_append, List.filter_eq_nil_iff.mpr (fun j hj => by rw [hn j (List.mem_range.mp hj)]; decide)]
    simp [hp]
  | k + 1 => by
    obtain ⟨r, e⟩ := filt_first hp hn k
    refine ⟨r ++ (if p (i + 1 + k) = true then [i + 1 + k] else []), ?_⟩
    rw [show i + 1 + (k + 1) = (i + 1 + k) + 1 by omega, List.range_succ, List.filter_append, e]
    cases h : p (i + 1 + k) <;> simp [h]
def notI (ls ks : List Lk) (n : Nat) (k : Nat) : Bool := !(((ks[k]?).map fun l => impB (nls ls) n (nl l)).getD true)
section
variable {P : Program} {w : World} {K : PySem.W.Frag} {mg : Str → Option Value} {base : Heap} {cl : String → Addr}
theorem ok_compared {f : Addr} {fd : FuncData} (F : Fun K "_law_compared" "_law_compared" s_compared f fd) (T : Txt P w K mg cl) : FnOk P w K mg base CX0 7 f fd ["_law_bag_here", "_law_system", "_law_count", "_law_links_here"] (spCompd (cl "System")) := by
  refine F.ok sc_compared (fun vs H Q E h => ?_) (fun cdv A outer s H vs Q E hr h => ?_)
  · obtain ⟨b, p, t, g, us, ws, ls, n, rfl, _⟩ := h
    rfl
  · obtain ⟨b, p, t, g, us, ws, ls, n, rfl, B, X, hL, ngb, lok, n1, n12, ll, ex, k⟩ := h
    have C_other : Cal P w K mg base CX0 5 "_law_other" _ spOther := cal_other T
    have C_compare_systems : Cal P w K mg base (L2.CX P w) 5 "compare_systems" _ (spCmp (cl "System") (cl "OtherCount") (cl "NoTimes") (cl "KeptByAll") (cl "PartedAt")) := cal_compare_systems T
    have I_System : CalC P w K mg base (L2.CX P w) 4 (cl "System") _ (spSys K (cl "System") (cl "BadSystem")) := cal_System_init T
    have C_implies : Cal P w K mg base CX0 2 "_law_implies" _ spImplies := cal_implies T
    have C_is_whole : Cal P w K mg base CX0 1 "_law_is_whole" _ (spIsI K) := cal_is_whole T
    have C_parts : Cal P w K mg base CX0 3 "_law_parts" _ spParts := cal_parts T
    have C_shows : Cal P w K mg base CX0 3 "_law_shows" _ spShows := cal_shows T
    refine ⟨_, (pss_cons (ps_set (i := 4) sc_compared.nd rfl (Or.inr rfl) (pe_cal C_other (hr.mono (by decide)) (pa_cons (pv 0) (pa_cons (pv 2) (pa_cons (pv 3) pa_nil)))))
        (pss_cons (ps_set (i := 5) sc_compared.nd rfl (Or.inr rfl) (pe_cal C_compare_systems (hr.mono (by decide)) (pa_cons (pe_mk I_System T.m_System (hr.mono (by decide))  (pa_cons (pv 2) (pa_cons (pv 4) pa_nil))) (pa_cons (pv 1) pa_nil))))
        (pss_cons (ps_setLc (i := 6) (own := [("_law_k", 7)]) (g := gName 7)  rfl sc_compared.nd rfl rfl (sw_true rfl rfl rfl (by decide +kernel)) (pi_range1 rfl T.n_range (pa_cons (pe_callB call_len_seq (by rfl) T.n_len PySem.boot_len (pa_cons (pv 4) pa_nil)) pa_nil)) (blkOk_by (own := [("_law_k", 7)]) (N := ["_law_bag_here", "_law_system", "_law_count", "_law_links_here", "_law_some", "_law_answer", "_law_left", "_law_k"]) (sc := defScope s_compared) (by decide +kernel)) (fun _ _ _ _ _ => pg_name (i := 7) sc_compared.nd rfl (Or.inl rfl)) (fun _ _ _ _ _ => pts_one (pt_not (pt_val (pe_cal C_implies (hr.mono (by decide)) (pa_cons (pv 2) (pa_cons (pv 3) (pa_cons (pe_ix (ix_listK (K := K) rfl) (pv 4) (pv 7) (fun _ _ => rfl)) pa_nil))))))) (fun _ _ _ _ _ => (pv 7)))
        (pss_cons (ps_if (pt_cmpR (op_neD hr.units) (pv 6) (pe_lst pa_nil) (nomark _))
          (pss_cons (ps_if (PW.pt (pw_or (pt_not (pt_val (pe_callB call_isi (by rfl) T.n_isinstance (by decide +kernel) (pa_cons (pv 5) (pa_cons (pe_cls T.m_PartedAt) pa_nil))))) (pw_or (pt_cmpR op_ne (pe_fld (pv 5) rfl) (pe_ix ix_list (pv 6) pe_int (fun _ _ => rfl)) (nomark _)) (pw_or1 (pt_not (pt_val (pe_cal C_is_whole (hr.mono (by decide)) (pa_cons (pe_fld (pv 5) rfl) pa_nil))))))))
              (pss_one (ps_ret pe_bl)) pss_nil)
            (pss_one (ps_ret (pe_cal C_parts (hr.mono (by decide)) (pa_cons (pv 2) (pa_cons (pv 3) (pa_cons (pe_fld (pv 5) rfl) (pa_cons (pe_ix ix_list (pv 4) (pe_ix ix_list (pv 6) pe_int (fun _ _ => rfl)) (fun _ _ => rfl)) pa_nil)))))))) pss_nil)
        (pss_cons (ps_if (PW.pt (pw_or (pt_not (pt_val (pe_callB call_isi (by rfl) T.n_isinstance (by decide +kernel) (pa_cons (pv 5) (pa_cons (pe_cls T.m_KeptByAll) pa_nil))))) (pw_or (pt_not (pt_val (pe_callB call_isi (by rfl) T.n_isinstance (by decide +kernel) (pa_cons (pe_fld (pv 5) rfl) (pa_cons (pe_ty "tuple" T.n_tuple) pa_nil))))) (pw_or1 (pt_cmpR op_ne (pe_callB call_len_seq (by rfl) T.n_len PySem.boot_len (pa_cons (pe_fld (pv 5) rfl) pa_nil)) (pe_callB call_len_seq (by rfl) T.n_len PySem.boot_len (pa_cons (pv 4) pa_nil)) (nomark _))))))
          (pss_one (ps_ret pe_bl)) pss_nil)
        (pss_one (ps_ret (pe_cmpR (op_eqD hr.units) (pe_lc (own := [("_law_k", 7)]) (g := gName 7)  rfl sc_compared.nd (pi_range1 rfl T.n_range (pa_cons (pe_callB call_len_seq (by rfl) T.n_len PySem.boot_len (pa_cons (pv 4) pa_nil)) pa_nil)) (blkOk_by (own := [("_law_k", 7)]) (N := ["_law_bag_here", "_law_system", "_law_count", "_law_links_here", "_law_some", "_law_answer", "_law_left", "_law_k"]) (sc := defScope s_compared) (by decide +kernel)) (fun _ _ _ _ _ => pg_name (i := 7) sc_compared.nd rfl (Or.inl rfl)) (fun _ _ _ _ _ => pts_one (pt_not (pt_val (pe_cal C_shows (hr.mono (by decide)) (pa_cons (pv 3) (pa_cons (pe_ix (ix_tupK (K := K) rfl) (pe_fldK (K := K) rfl (pv 5) rfl) (pv 7) (fun _ _ => rfl)) (pa_cons (pe_ix (ix_listK (K := K) rfl) (pv 4) (pv 7) (fun _ _ => rfl)) pa_nil))))))) (fun _ _ _ _ _ => (pv 7))) (pe_lst pa_nil) (nomark _))))))))), ?_⟩
    refine ⟨_, rfl, _, rfl, _, rfl, b, g, us, ls, n, rfl, B, hL, ngb, lok, n1, n12, ll, ex, fun D vs ks H1 nD hK kok k6 B1 D1 => ?_⟩
    have hL1 := hL.but ngb B D1
    have X1 := X.butB B D1
    have nDb : D ≠ b := fun z => by
      obtain ⟨c, s, h1, _⟩ := B
      rw [z, h1] at nD
      cases nD
    refine ⟨_, rfl, _, rfl, mkSys (.int (n : Int)) (ro := some (ks.map lkR)) ⟨D, vs, rfl, .inl hK.1, lks_rd hK.2, fun x hx => (by obtain ⟨l, _, rfl⟩ := List.mem_map.mp hx; exact lkR_ok l), by rw [List.length_map]; omega⟩ (fun i w G e hd S he => ?_) (fun c' ls' p1 t1 us1 H2 h1 h2 h3 S2 X2 => ?_)⟩
    · rw [sysW_ls (by omega) (by omega) kok (by omega)] at hd
      cases hd
    cases h1
    have e := lkR_inj' (Option.some.inj h2)
    subst e
    refine ⟨_, rfl, p1, p, t1, t, n, n, us1, ws, ks, ls, rfl, X2, X1.same S2, kok, lok, by omega, by omega, by omega, fun h => absurd rfl h, fun _ => no_tm ex, fun _ x H3 S3 nx _ hx => ?_⟩
    have S13 := S2.trans S3
    have hK3 := hK.same S13
    have hL3 := hL1.same S13
    have D3 := D1.trans (But.of S13)
    have B3 := B1.same S13
    have fin : ∀ H9, Same H3 H9 → Q (.bl true) H9 := fun H9 S9 => k H9 (B3.same S9) (D3.trans (But.of S9))
    have kv := hK.2.length
    refine ⟨_, rfl, D, vs, rfl, .inl (SqL.of hK3.1), _, rfl, by omega, by omega, fun L nL => lc_range (fun j H4 => Same H3 H4 ∧ H4 L = some (.lst (((List.range j).filter (notI ls ks n)).map fun (i : Nat) => V.int i))) ⟨sNew nL, upd_same⟩ ?_ ?_⟩
    · rintro j H4 hj ⟨S4, hL4⟩
      have hj : j < ks.length := by omega
      rw [show (0 : Int) + (j : Nat) = ((j : Nat) : Int) by omega]
      have hK4 := hK3.same S4
      obtain ⟨e, he, hc⟩ := ll_at hK4 hj
      refine ⟨rfl, _, rfl, _, rfl, _, rfl, _, rfl, D, _, _, _, rfl, rfl, SqL.of hK4.1, atI_nat he, g, e, us, ls, n, ks[j], rfl, hL3.same S4, lok, n1, n12, by omega, ex, hc, kok _ (List.getElem_mem hj), fun H5 S5 => ?_⟩
      have en : notI ls ks n j = !(impB (nls ls) n (nl ks[j])) := by
        unfold notI
        rw [List.getElem?_eq_getElem hj]
        rfl
      rw [filt_snoc, en]
      have hL5 := S5 _ _ hL4
      have lo : ((List.range j).filter (notI ls ks n)).length ≤ 6 := Nat.le_trans (List.length_filter_le _ _) (by rw [List.length_range]; omega)
      cases hb : impB (nls ls) n (nl ks[j]) with
      | true =>
        refine ⟨_, rfl, iteF ⟨S4.trans S5, ?_⟩⟩
        rw [if_neg (by decide), List.append_nil]
        exact hL5
      | false =>
        refine ⟨_, rfl, iteT ⟨_, rfl, _, hL5, small1000 (by rw [List.length_map]; omega), same_upd (S4.trans S5) nL, ?_⟩⟩
        rw [upd_same, if_pos (by decide), List.map_append]
        rfl
    · rintro H4 ⟨S4, hL4⟩
      rw [show ((vs.length : Nat) : Int).toNat = ks.length by omega] at hL4
      have hx := CmAt.same hx S4
      have hK4 := hK3.same S4
      have hg4 := hL3.same S4
      refine ⟨_, rfl, by show 0 ≤ sizeLine; exact Nat.zero_le _, fun q0 m0 => ?_⟩
      have Sz := sNew (o := .lst []) m0
      have hx := CmAt.same hx Sz
      have S5 := S4.trans Sz
      have hK5 := hK3.same S5
      have hg5 := hL3.same S5
      have hL5 := Sz _ _ hL4
      refine ⟨_, _, dpI (is := (((List.range ks.length).filter (notI ls ks n)).map fun (i : Nat) => (i : Int))) (by rw [hL5, castV]), dp_lst (SqL.of upd_same) .nil, row_shaped true (okI _), row_shaped (xs := []) true (by simp), _, rfl, ?_⟩
      rw [eqv_nilI]
      rcases hx with ⟨A, pu, ⟨dq, hq⟩, hA, pp⟩ | ⟨i, ta, ts, l, ⟨dq, hq⟩, hta, hl, U, bef⟩
      · have e0 : (List.range ks.length).filter (notI ls ks n) = [] := List.filter_eq_nil_iff.mpr fun j hj => by
          have hj := List.mem_range.mp hj
          obtain ⟨v, _, _, is, _, _, I⟩ := Paired.at' (i := j) (y := ks[j]) pp (List.getElem?_eq_getElem hj)
          unfold notI
          rw [List.getElem?_eq_getElem hj]
          show ¬ (!impB (nls ls) n (nl ks[j])) = true
          rw [I.yes]
          decide
        rw [e0]
        refine iteF ?_
        refine ⟨_, rfl, _, _, _, _, _, rfl, .own (cl "KeptByAll"), .base (.ins hq T.cl_KeptByAll T.y_KeptByAll T.z1 T.z2 T.z3_KeptByAll), T.k_Kb_Kb, _, rfl, iteF ?_⟩
        have hq := hq
        have lp : pu.length = vs.length := by rw [pp.length, kv]
        refine ⟨_, rfl, x, _, _, _, _, rfl, hq, T.cl_KeptByAll, T.na_KeptByAll _ (by decide), rfl, _, _, _, _, _, rfl, .ty "tuple", .base (.tup hA), (show _ = some true from kit_ty (by decide +kernel)), _, rfl, iteF ?_⟩
        refine ⟨_, rfl, x, _, _, _, _, rfl, hq, T.cl_KeptByAll, T.na_KeptByAll _ (by decide), rfl, A, pu, rfl, .inr (SqT.of hA), _, rfl, D, vs, rfl, .inl (SqL.of hK5.1), rfl, _, rfl, ?_⟩
        rw [lp, decide_eq_true rfl]
        refine iteF ?_
        generalize upd H4 q0 (.lst []) = H5 at Sz S5 hK5 hg5 hL5 hq hA pp
        refine ⟨_, rfl, D, vs, rfl, .inl (SqL.of hK5.1), _, rfl, by omega, by omega, fun L2 nL2 => lc_range (fun j H6 => Same H5 H6 ∧ H6 L2 = some (.lst [])) ⟨sNew nL2, upd_same⟩ ?_ ?_⟩
        · rintro j H6 hj ⟨S6, hL6⟩
          have hj : j < ks.length := by omega
          rw [show (0 : Int) + (j : Nat) = ((j : Nat) : Int) by omega]
          have hK6 := hK5.same S6
          obtain ⟨e, he, hc⟩ := ll_at hK6 hj
          obtain ⟨v, hv, pa, is, rfl, hpa, I⟩ := Paired.at' (i := j) (y := ks[j]) pp (List.getElem?_eq_getElem hj)
          refine ⟨rfl, _, rfl, _, rfl, x, _, _, _, _, rfl, S6 _ _ hq, T.cl_KeptByAll, T.na_KeptByAll _ (by decide), rfl, _, rfl, A, _, _, _, rfl, rfl, SqT.of (S6 _ _ hA), atI_nat hv, _, rfl, _, rfl, D, _, _, _, rfl, rfl, SqL.of hK6.1, atI_nat he, g, pa, e, us, ls, is, n, ks[j], rfl, hg5.same S6, S6 _ _ hpa, (pn lok).2, by have := I.len; omega, hc, kok _ (List.getElem_mem hj), I.lead, I.sum, fun H7 S7 => ⟨_, rfl, iteF ⟨S6.trans S7, S7 _ _ hL6⟩⟩⟩
        · rintro H6 ⟨S6, hL6⟩
          refine ⟨by show 0 ≤ sizeLine; exact Nat.zero_le _, fun q9 m9 => ?_⟩
          have S9 := sNew (o := .lst []) m9
          refine ⟨_, _, dp_lst (SqL.of (S9 _ _ hL6)) .nil, dp_lst (SqL.of upd_same) .nil, row_shaped (xs := []) true (by simp), row_shaped (xs := []) true (by simp), ?_⟩
          rw [eqv_nilE]
          exact fin _ (S5.trans (S6.trans S9))
      · have il := (List.getElem?_eq_some_iff.mp hl).1
        obtain ⟨rest, er⟩ := filt_first (p := notI ls ks n) (i := i) (by unfold notI; rw [hl]; show (!impB (nls ls) n (nl l)) = true; rw [U.no]; rfl) (fun j hj => by
          have jl : j < ks.length := by omega
          have := bef j hj ks[j] (List.getElem?_eq_getElem jl)
          unfold notI
          rw [List.getElem?_eq_getElem jl]
          show (!impB (nls ls) n (nl ks[j])) = false
          rw [this]
          rfl) (ks.length - (i + 1))
        rw [show i + 1 + (ks.length - (i + 1)) = ks.length by omega] at er
        rw [er] at hL5 ⊢
        refine iteT ?_
        refine ⟨_, rfl, _, _, _, _, _, rfl, .own (cl "PartedAt"), .base (.ins hq T.cl_PartedAt T.y_PartedAt T.z1 T.z2 T.z3_PartedAt), T.k_Pa_Pa, _, rfl, iteF ?_⟩
        have a0 : atI ((i :: rest).map fun (i : Nat) => V.int i) ((0 : Nat) : Int) = some (.int (i : Nat)) := atI_nat rfl
        refine ⟨_, rfl, x, _, _, _, _, rfl, hq, T.cl_PartedAt, T.na_PartedAt _ (by decide), rfl, _, rfl, L, _, _, _, rfl, rfl, SqL.of hL5, a0, rfl, _, rfl, ?_⟩
        rw [decide_eq_true rfl]
        refine iteF ⟨_, rfl, x, _, _, _, _, rfl, hq, T.cl_PartedAt, T.na_PartedAt _ (by decide), rfl, _, _, rfl, (.int _ : Dm K _ (.int (i : Nat)) "int"), _, rfl, iteF ?_⟩
        obtain ⟨e, he, hc⟩ := ll_at hK5 il
        have e2 : ks[i] = l := (List.getElem?_eq_some_iff.mp hl).2
        rw [e2] at hc
        refine ⟨_, rfl, _, rfl, _, rfl, x, _, _, _, _, rfl, hq, T.cl_PartedAt, T.na_PartedAt _ (by decide), rfl, _, rfl, _, rfl, L, _, _, _, rfl, rfl, SqL.of hL5, a0, D, _, _, _, rfl, rfl, SqL.of hK5.1, atI_nat he, g, ta, e, us, ls, ts, n, l, rfl, hg5, lok, by omega, by omega, hta, hc, kok l (List.mem_of_getElem? hl), U.tms, U.far, fun H9 S9 => fin _ (S5.trans S9)⟩
theorem cal_compared (T : Txt P w K mg cl) : Cal P w K mg base CX0 7 "_law_compared" ["_law_bag_here", "_law_system", "_law_count", "_law_links_here"] (spCompd (cl "System")) := by
  obtain ⟨f, fd, F, m⟩ := T.d_compared
  exact ⟨f, fd, ok_compared F T, m, F.kp, F.binds fun _ _ _ _ _ _ us hl => match us, hl with | [_, _, _, _], _ => rfl⟩
end
end My
set_option Elab.async false
set_option linter.all false
set_option maxRecDepth 100000
set_option maxHeartbeats 1000000
namespace My
open PySem L2 Dw Wp
open C8 (pss_cut tCut)
set_option pp.maxSteps 600
open Bf Fw
theorem leads_parts {ls : List Lk} (pos : Pos ls) : ∀ {js : List Nat} {x y : Nat}, Leads (nls ls) js x y → (∀ k, k + 1 < js.length → e2 ls (js[k + 1]?.getD 0) = e1 ls (js[k]?.getD 0)) ∧ (js = [] → x = y) ∧ (js ≠ [] → e2 ls (js[0]?.getD 0) = (x : Int) ∧ e1 ls (js.getLast?.getD 0) = (y : Int))
  | [], x, y, h => ⟨fun k hk => absurd hk (Nat.not_lt_zero _), fun _ => h, fun z => absurd rfl z⟩
  | j :: js, x, y, ⟨l, h1, h2, h3⟩ => by
    obtain ⟨l', k1, rfl⟩ := nls_at h1
    obtain ⟨li, rfl⟩ := List.getElem?_eq_some_iff.mp k1
    obtain ⟨p1, p2⟩ := pos _ (List.getElem_mem li)
    have f1 : e1 ls j = ((nl ls[j]).1 : Nat) := by rw [← e1_at li]; exact (Int.toNat_of_nonneg p1).symm
    have f2 : e2 ls j = (x : Int) := by rw [← e2_at li, ← h2]; exact (Int.toNat_of_nonneg p2).symm
    obtain ⟨q1, q2, q3⟩ := leads_parts pos h3
    refine ⟨fun k hk => ?_, fun z => (by cases z), fun _ => ⟨f2, ?_⟩⟩
    · cases k with
      | zero =>
        cases js with
        | nil => simp at hk
        | cons j1 js => exact (q3 (by simp)).1.trans f1.symm
      | succ k => exact q1 k (by simp at hk; omega)
    · cases js with
      | nil =>
        show e1 ls j = _
        rw [f1, q2 rfl]
      | cons j1 js => exact (q3 (by simp)).2
theorem leads_pathN {ls : List Lk} (pos : Pos ls) {js : List Nat} {x y : Nat} (h : Leads (nls ls) js x y) : pathN ls js (x : Nat) (y : Nat) = none := by
  obtain ⟨q1, q2, q3⟩ := leads_parts pos h
  unfold pathN
  by_cases z : js = []
  · rw [if_pos z, if_pos (by rw [q2 z])]
  · obtain ⟨g1, g2⟩ := q3 z
    have ft : fits ls js = true := by
      unfold fits
      refine List.all_eq_true.mpr fun k hk => ?_
      have hk := List.mem_range.mp hk
      exact decide_eq_true (q1 k (by omega))
    rw [if_neg z, if_pos g1, if_pos ft, if_pos g2]
/-- what the law holds: a bag, a system, its links in a list -/
structure Zs (C b p t g : Addr) (n : Nat) (us lus : List V) (ls : List Lk) (H : Hp) : Prop where
  B : BgAt H b
  X : SyAt C H p (n : Nat) t us ls
  L : LlT H g lus ls
  ng : g ≠ b
  lok : ∀ l ∈ ls, LkOk (n : Nat) l
  n1 : 1 ≤ n
  n2 : n ≤ 12
  ll : ls.length ≤ 70
theorem Zs.same {C b p t g : Addr} {n : Nat} {us lus : List V} {ls : List Lk} {H H' : Hp} (Z : Zs C b p t g n us lus ls H) (S : Same H H') : Zs C b p t g n us lus ls H' := { Z with B := Z.B.same S, X := Z.X.same S, L := Z.L.same S }
theorem Zs.but {C b p t g : Addr} {n : Nat} {us lus : List V} {ls : List Lk} {H H' : Hp} (Z : Zs C b p t g n us lus ls H) (B : BgAt H' b) (D : But b H H') : Zs C b p t g n us lus ls H' := { Z with B := B, X := Z.X.butB Z.B D, L := Z.L.but Z.ng Z.B D }
theorem Zs.ix {C b p t g : Addr} {n : Nat} {us lus : List V} {ls : List Lk} {H : Hp} (Z : Zs C b p t g n us lus ls H) : IxOk n (nls ls) ∧ Pos ls := LkOk.ix Z.lok rfl
theorem kF_has {ls : List Lk} {n : Nat} {φ : Nat → Int} (ok : IxOk n (nls ls)) (K : Keeps (nls ls) φ) : ∃ ts, TmsP ls n ts := by
  have at_ : ∀ v, v < n → kF ((List.range n).map φ) v = φ v := fun v hv => by
    unfold kF
    rw [List.getElem?_map, List.getElem?_range hv]
    rfl
  refine ⟨(List.range n).map φ, by rw [List.length_map, List.length_range], fun l hl => ?_⟩
  rw [at_ _ (ok l hl).1, at_ _ (ok l hl).2]
  exact K l hl
theorem wIm_ok {ls : List Lk} {n : Nat} {l : Lk} {is : List Nat} (pos : My.Pos ls) (lo : LkOk (n : Nat) l) (I : ImpP ls n l is) : wIm ls l (is.map fun (i : Nat) => (i : Int)) = none := by
  have isN := Leads.lt I.lead
  have all : (is.map fun (i : Nat) => (i : Int)).all (isIx ls.length) = true := by
    refine List.all_eq_true.mpr fun x hx => ?_
    obtain ⟨j, h, rfl⟩ := List.mem_map.mp hx
    have := isN j h
    unfold isIx
    rw [decide_eq_true (Int.natCast_nonneg j), decide_eq_true (show (j : Int) < (ls.length : Int) by omega)]
    rfl
  have lp := leads_pathN pos I.lead
  rw [Int.toNat_of_nonneg lo.2.1, Int.toNat_of_nonneg lo.1.1] at lp
  unfold wIm
  rw [if_neg (by rw [all]; decide), natI, lp]
  show (if sumO ls is ≤ l.2.2 then (none : Option Str) else some "sum") = none
  rw [if_pos (by rw [← sumO_nl]; exact I.sum)]
theorem wUn_ok {ls : List Lk} {n : Nat} {l : Lk} {ts : List Int} (U : UnP ls n l ts) : wUn ls n l ts = none := by
  unfold wUn tmW
  rw [if_pos U.tms.1, if_pos (brk_nil.mpr U.tms.2)]
  show (if keepB ts l = true then some ("kept" : Str) else none) = none
  rw [if_neg]
  have far := U.far
  unfold keepB
  unfold kF at far
  rw [decide_eq_false (by omega)]
  decide
theorem sh_in {CI CU : Addr} {ls : List Lk} {n : Nat} {l : Lk} {H : Hp} {x : Addr} (n8 : n ≤ 800) (pos : My.Pos ls) (lo : LkOk (n : Nat) l) (h : ShAt CI CU ls n l H x) : AnIn CI CU ls n l H x none := by
  rcases h with ⟨pa, is, a, b, I⟩ | ⟨ta, ts, a, b, U⟩
  · exact .inl ⟨pa, _, a, by rw [b, natT_int], by rw [List.length_map]; exact Nat.le_trans I.len n8, (wIm_ok pos lo I).symm⟩
  · exact .inr ⟨ta, ts, a, b, by rw [U.tms.1]; exact n8, (wUn_ok U).symm⟩
def spLaw (K : PySem.W.Frag) : Sp := fun vs H Q _ => ∃ (a : Addr) (ns : List Int), vs = [.ref a] ∧ SqL K H a (ns.map V.int) ∧ ns.length ≤ 63 ∧ ∀ H', Q (.bl true) H'
section
variable {P : Program} {w : World} {K : PySem.W.Frag} {mg : Str → Option Value} {base : Heap} {cl : String → Addr}
theorem ok_law {f : Addr} {fd : FuncData} (F : Fun K "law" "law" s_law f fd) (T : Txt P w K mg cl) : FnOk P w K mg base CX0 10 f fd ["_law_script"] (spLaw K) := by
  refine F.ok sc_law (fun vs H Q E h => ?_) (fun cdv A outer s H vs Q E hr h => ?_)
  · obtain ⟨a, ns, rfl, _⟩ := h
    rfl
  · obtain ⟨a, ns, rfl, hS, hl, k⟩ := h
    have C_bag : Cal P w K mg base CX0 1 "_law_bag" _ (spBag K) := cal_bag T
    have C_take : Cal P w K mg base CX0 1 "_law_take" _ spTake := cal_take T
    have C_amount : Cal P w K mg base CX0 3 "_law_amount" _ spAmt := cal_amount T
    have C_times : Cal P w K mg base CX0 4 "_law_times" _ spTimes := cal_times T
    have C_links : Cal P w K mg base CX0 4 "_law_links" _ spLinks := cal_links T
    have C_solved : Cal P w K mg base CX0 3 "solved" _ (spSolved (cl "System") (cl "Ring") (cl "Kept")) := cal_solved T
    have C_bad_link : Cal P w K mg base CX0 6 "_law_bad_link" _ (spBadL (cl "System")) := cal_bad_link T
    have C_other_count : Cal P w K mg base CX0 6 "_law_other_count" _ (spOC (cl "System")) := cal_other_count T
    have C_barred : Cal P w K mg base CX0 7 "_law_barred" _ (spBarr (cl "System")) := cal_barred T
    have C_bars : Cal P w K mg base CX0 3 "_law_bars" _ spBars := cal_bars T
    have C_L_needed : Cal P w K mg base CX0 7 "_law_needed" _ (spLNeed (cl "System")) := cal_L_needed T
    have C_near : Cal P w K mg base CX0 4 "_law_near" _ spNear := cal_near T
    have C_implied : Cal P w K mg base (L2.CX P w) 5 "implied" _ (spImpl K (cl "System") (cl "BadSystem") (cl "NoTimes") (cl "Implied") (cl "Unimplied")) := cal_implied T
    have C_L_implied : Cal P w K mg base CX0 4 "_law_implied" _ (spLImpl (cl "Implied") (cl "Unimplied")) := cal_L_implied T
    have C_implied_fault : Cal P w K mg base (L2.CX P w) 5 "implied_fault" _ (spImF K (cl "System") (cl "BadSystem") (cl "Implied") (cl "Unimplied")) := cal_implied_fault T
    have C_judged : Cal P w K mg base CX0 6 "_law_judged" _ (spJud (cl "System") (cl "Implied") (cl "Unimplied")) := cal_judged T
    have C_compared : Cal P w K mg base CX0 7 "_law_compared" _ (spCompd (cl "System")) := cal_compared T
    have I_System : CalC P w K mg base (L2.CX P w) 4 (cl "System") _ (spSys K (cl "System") (cl "BadSystem")) := cal_System_init T
    refine ⟨_, (pss_cons (ps_for PassesOwn.never rfl (pi_range1 rfl T.n_range (pa_cons (pe_callB (call_max2 rfl) (by rfl) T.n_max (by decide +kernel) (pa_cons pe_int (pa_cons (pe_callB (call_min2 rfl) (by rfl) T.n_min (by decide +kernel) (pa_cons pe_int (pa_cons (pe_callB call_len_seq (by rfl) T.n_len PySem.boot_len (pa_cons (pv 0) pa_nil)) pa_nil))) pa_nil))) pa_nil)) (pg_name (i := 1) sc_law.nd rfl (Or.inl rfl))
          (pss_cons (ps_set (i := 2) sc_law.nd rfl (Or.inl rfl) (pe_cal C_bag (hr.mono (by decide)) (pa_cons (pv 0) (pa_cons (pv 1) pa_nil))))
            (pss_cut (ps_set (i := 3) sc_law.nd rfl (Or.inl rfl) (pe_op op_add pe_int (pe_cal C_take (hr.mono (by decide)) (pa_cons (pv 2) (pa_cons (pe_cut (pe_ifExp (pt_cmpR op_eq (pe_cal C_take (hr.mono (by decide)) (pa_cons (pv 2) (pa_cons pe_int pa_nil))) pe_int (nomark _)) pe_int pe_int)) pa_nil)))))
            (pss_cons (ps_set (i := 4) sc_law.nd rfl (Or.inl rfl) (pe_cut (pe_ifExp (pt_cmpR op_gt (pe_cal C_take (hr.mono (by decide)) (pa_cons (pv 2) (pa_cons pe_int pa_nil))) pe_int (nomark _)) (pe_cal C_times (hr.mono (by decide)) (pa_cons (pv 2) (pa_cons (pv 3) pa_nil))) pe_non)))
            (pss_cons (ps_set (i := 5) sc_law.nd rfl (Or.inl rfl) (pe_cal C_links (hr.mono (by decide)) (pa_cons (pv 2) (pa_cons (pv 3) (pa_cons (pe_cal C_take (hr.mono (by decide)) (pa_cons (pv 2) (pa_cons (pe_cut (pe_ifExp (pt_cmpR op_eq (pe_cal C_take (hr.mono (by decide)) (pa_cons (pv 2) (pa_cons pe_int pa_nil))) pe_int (nomark _)) pe_int pe_int)) pa_nil))) (pa_cons (pv 4) pa_nil))))))
            (pss_cut (ps_set (i := 6) sc_law.nd rfl (Or.inl rfl) (pe_mk I_System T.m_System (hr.mono (by decide))  (pa_cons (pv 3) (pa_cons (pv 5) pa_nil))))
            (pss_cut (ps_set (i := 7) sc_law.nd rfl (Or.inl rfl) (pe_mk I_System T.m_System (hr.mono (by decide))  (pa_cons (pe_op op_add pe_int (pe_op op_mod (pe_callTy call_int1 (by rfl) T.n_int (by decide +kernel) (pa_cons (pe_op op_add (pv 3) (pe_cal C_take (hr.mono (by decide)) (pa_cons (pv 2) (pa_cons pe_int pa_nil)))) pa_nil)) pe_int)) (pa_cons (pe_lst pa_nil) pa_nil))))
            (pss_cons (ps_if (pt_not (pt_val (pe_cal C_bad_link (hr.mono (by decide)) (pa_cons (pv 2) (pa_cons (pv 6) (pa_cons (pv 3) pa_nil))))))
              (pss_one (ps_ret pe_bl)) pss_nil)
            (pss_cut (ps_if (PW.pt (pw_and (pt_cmpR op_ne (pe_fld (pv 7) rfl) (pv 3) (nomark _)) (pw_and1 (pt_not (PW.pt (pw_and (pt_val (pe_cal C_other_count (hr.mono (by decide)) (pa_cons (pv 7) (pa_cons (pv 6) pa_nil)))) (pw_and1 (pt_val (pe_cal C_other_count (hr.mono (by decide)) (pa_cons (pv 6) (pa_cons (pv 7) pa_nil)))))))))))
              (pss_one (ps_ret pe_bl)) pss_nil)
            (pss_cons (ps_if (pt_val (pe_callB call_isi (by rfl) T.n_isinstance (by decide +kernel) (pa_cons (pe_cal C_solved (hr.mono (by decide)) (pa_cons (pv 6) pa_nil)) (pa_cons (pe_cls T.m_Ring) pa_nil))))
              (pss_cons (ps_set (i := 8) sc_law.nd rfl (Or.inl rfl) (pe_tup (pa_cons (pe_cal C_take (hr.mono (by decide)) (pa_cons (pv 2) (pa_cons (pv 3) pa_nil))) (pa_cons (pe_cal C_take (hr.mono (by decide)) (pa_cons (pv 2) (pa_cons (pv 3) pa_nil))) (pa_cons (pe_cal C_amount (hr.mono (by decide)) (pa_cons (pv 2) pa_nil)) pa_nil)))))
                (pss_cons (ps_for PassesOwn.never rfl (pi_range1 rfl T.n_range (pa_cons pe_int pa_nil)) (pg_name (i := 9) sc_law.nd rfl (Or.inl rfl))
                  (pss_one (ps_if (pt_not (pt_val (pe_cal C_bars (hr.mono (by decide)) (pa_cons (pv 5) (pa_cons (pe_cal C_barred (hr.mono (by decide)) (pa_cons (pe_mk I_System T.m_System (hr.mono (by decide))  (pa_cons (pv 3) (pa_cons (pe_lst (pa_cons (pv 8) pa_nil)) pa_nil))) (pa_cons (pv 6) (pa_cons (pv 9) (pa_cons (pv 8) pa_nil))))) pa_nil)))))
                      (pss_one (ps_ret pe_bl)) pss_nil)))
                (pss_one ps_continue))) pss_nil)
            (pss_cons (ps_if (pt_not (pt_val (pe_cal C_L_needed (hr.mono (by decide)) (pa_cons (pv 6) (pa_cons (pv 3) (pa_cons (pv 5) pa_nil))))))
              (pss_one (ps_ret pe_bl)) pss_nil)
            (pss_cons (ps_for PassesOwn.never rfl (pi_range1 rfl T.n_range (pa_cons pe_int pa_nil)) (pg_name (i := 10) sc_law.nd rfl (Or.inl rfl))
              (pss_cons (ps_set (i := 8) sc_law.nd rfl (Or.inl rfl) (pe_cal C_near (hr.mono (by decide)) (pa_cons (pv 2) (pa_cons (pv 3) (pa_cons (pv 5) pa_nil)))))
                (pss_cons (ps_set (i := 11) sc_law.nd rfl (Or.inl rfl) (pe_cal C_implied (hr.mono (by decide)) (pa_cons (pv 6) (pa_cons (pe_cut (pe_ifExp (pt_cmpR op_gt (pv 10) pe_int (nomark _)) (pv 8) (pe_callTy call_list_of (by rfl) T.n_list (by decide +kernel) (pa_cons (pv 8) pa_nil)))) pa_nil))))
                (pss_cons (ps_if (PW.pt (pw_or (pt_not (pt_val (pe_cal C_L_implied (hr.mono (by decide)) (pa_cons (pv 3) (pa_cons (pv 5) (pa_cons (pv 8) (pa_cons (pv 11) pa_nil))))))) (pw_or1 (pt_cmpR op_notN (pe_cal C_implied_fault (hr.mono (by decide)) (pa_cons (pv 6) (pa_cons (pv 8) (pa_cons (pv 11) pa_nil)))) pe_non (nomark _)))))
                  (pss_one (ps_ret pe_bl)) pss_nil)
                (pss_one (ps_if (pt_not (pt_val (pe_cal C_judged (hr.mono (by decide)) (pa_cons (pv 2) (pa_cons (pv 6) (pa_cons (pv 3) (pa_cons (pv 5) (pa_cons (pv 8) (pa_cons (pv 11) pa_nil)))))))))
                  (pss_one (ps_ret pe_bl)) pss_nil))))))
            (pss_one (ps_if (pt_not (pt_val (pe_cal C_compared (hr.mono (by decide)) (pa_cons (pv 2) (pa_cons (pv 6) (pa_cons (pv 3) (pa_cons (pv 5) pa_nil)))))))
              (pss_one (ps_ret pe_bl)) pss_nil))))))))))))))
        (pss_one (ps_ret pe_bl))), ?_⟩
    have lm : (ns.map V.int).length = ns.length := List.length_map _
    refine ⟨_, rfl, a, _, rfl, .inl hS, _, _, rfl, _, _, rfl, _, rfl, ?_⟩
    have mn : ∃ n : Nat, (if (if (((ns.map V.int).length : Nat) : Int) < 2 then (((ns.map V.int).length : Nat) : Int) else 2) > 1 then (if (((ns.map V.int).length : Nat) : Int) < 2 then (((ns.map V.int).length : Nat) : Int) else 2) else (1 : Int)) = (n : Int) ∧ n ≤ 2 := by
      by_cases h1 : (((ns.map V.int).length : Nat) : Int) < 2
      · rw [if_pos h1]
        by_cases h2 : (((ns.map V.int).length : Nat) : Int) > 1
        · rw [if_pos h2]
          exact ⟨_, rfl, by omega⟩
        · rw [if_neg h2]
          exact ⟨1, rfl, by decide⟩
      · rw [if_neg h1]
        exact ⟨2, rfl, by decide⟩
    obtain ⟨n0, en, hn0⟩ := mn
    rw [en]
    refine ⟨by omega, by omega, for_range (fun j σ H' => Same H H' ∧ ∃ (v1 v2 v3 v4 v5 v6 v7 v8 v9 v10 v11 : Option V), σ = [some (.ref a), v1, v2, v3, v4, v5, v6, v7, v8, v9, v10, v11]) ⟨Same.refl _, _, _, _, _, _, _, _, _, _, _, _, rfl⟩ ?_ (fun σ H' _ => k H')⟩
    rintro j σ H1 hj ⟨S1, v1, v2, v3, v4, v5, v6, v7, v8, v9, v10, v11, rfl⟩
    rw [Int.toNat_natCast] at hj
    rw [show (0 : Int) + (j : Nat) = ((j : Nat) : Int) from Int.zero_add _]
    refine ⟨_, rfl, _, rfl, a, ns, j, rfl, Same.seq S1 hS, hl, by omega, fun b H3 nb B3 S2 => ?_⟩
    refine ⟨fun σ' H' => ∃ n : Nat, 1 ≤ n ∧ n ≤ 12 ∧ BgAt H' b ∧ But b H3 H' ∧ σ' = [some (.ref a), some (.int (j : Nat)), some (.ref b), some (.int (n : Nat)), v4, v5, v6, v7, v8, v9, v10, v11], ?_, ?_⟩
    · refine ⟨_, rfl, fun v H' => ∃ m : Int, v = .int m ∧ 1 ≤ m ∧ m ≤ 6 ∧ BgAt H' b ∧ But b H3 H', ?_, fun v H4 ⟨m, hv, m1, m2, B4, D4⟩ => ?_⟩
      · exact ⟨_, rfl, b, _, rfl, B3, by decide, by decide, fun y H4 _ _ B4 D4 => ⟨rfl, _, rfl, ite2 (fun _ => ⟨_, rfl, by decide, by decide, B4, D4⟩) (fun _ => ⟨_, rfl, by decide, by decide, B4, D4⟩)⟩⟩
      · subst hv
        refine ⟨b, m, rfl, B4, m1, by omega, fun y H5 y0 y1 B5 D5 => ⟨_, _, rfl, rfl, (1 + y).toNat, by omega, by omega, B5, D4.trans D5, ?_⟩⟩
        rw [Int.toNat_of_nonneg (by omega)]
        rfl
    rintro σ' H4 ⟨n, c1, c2, B4, D4, rfl⟩
    refine ⟨fun v H' => TvAt H' b (n : Nat) v ∧ BgAt H' b ∧ But b H4 H', ?_, fun ft H6 ⟨hft, B6, D6⟩ => ?_⟩
    · refine ⟨_, rfl, b, _, rfl, B4, by decide, by decide, fun y H6 _ _ B6 D6 => ⟨_, _, rfl, rfl, _, rfl, ite2 (fun _ => ?_) (fun _ => ?_)⟩⟩
      · exact ⟨_, rfl, _, rfl, b, n, rfl, B6, by omega, by omega, fun tl ts H5 n5 h5 l5 B5 D5 => ⟨.inr ⟨tl, ts, rfl, h5, l5, B6.ne n5⟩, B5, D6.trans D5⟩⟩
      · exact ⟨.inl rfl, B6, D6⟩
    have D6 := D4.trans D6
    clear D4 B4
    refine ⟨_, rfl, _, rfl, _, rfl, fun v H' => ∃ m : Int, v = .int m ∧ 1 ≤ m ∧ m ≤ 13 ∧ BgAt H' b ∧ But b H6 H', ?_, fun v H7 ⟨m, hv, m0, m1, B7, D7⟩ => ?_⟩
    · exact ⟨_, rfl, b, _, rfl, B6, by decide, by decide, fun y H4 _ _ B4 D4 => ⟨rfl, _, rfl, ite2 (fun _ => ⟨_, rfl, by decide, by decide, B4, D4⟩) (fun _ => ⟨_, rfl, by decide, by decide, B4, D4⟩)⟩⟩
    subst hv
    refine ⟨b, m, rfl, B7, m0, by omega, fun mm H8 mm0 mm1 B8 D8 => ?_⟩
    have D78 := D7.trans D8
    have hft : TvAt H8 b (n : Nat) ft := by
      rcases hft with rfl | ⟨tl', ts', rfl, g1, g2, g3⟩
      · exact .inl rfl
      · exact .inr ⟨tl', ts', rfl, D78 _ _ g1 g3, g2, g3⟩
    have D8 := D6.trans D78
    clear D6 B6 D7 D78 B7
    refine ⟨_, rfl, b, n, mm, ft, rfl, B8, by omega, by omega, mm0, by omega, hft, fun g lus ls H9 n9 hL lok ll B9 D9 => ?_⟩
    have ngb := B8.ne n9
    have D9 := D8.trans D9
    have S9 : Same H H9 := fun z o e => D9 _ _ (S2 _ _ (S1 _ _ e)) (ne_of_none (S1 _ _ e) nb)
    have le : ls.length ≤ 13 := by omega
    have nbH : H b = none := S1.free nb
    clear D8 D9 B8 hft B3 S2 nb S1
    refine ⟨fun σ' H' => ∃ p t us, Zs (cl "System") b p t g n us lus ls H' ∧ Same H H' ∧ σ' = [some (.ref a), some (.int (j : Nat)), some (.ref b), some (.int (n : Nat)), some ft, some (.ref g), some (.ref p), v7, v8, v9, v10, v11], ?_, ?_⟩
    · refine ⟨_, rfl, _, rfl, mkSys (.int (n : Int)) (ro := some (ls.map lkR)) ⟨g, lus, rfl, .inl hL.1, lks_rd hL.2, fun x hx => (by obtain ⟨l, _, rfl⟩ := List.mem_map.mp hx; exact lkR_ok l), by rw [List.length_map]; omega⟩ (fun i w G e hd S he => ?_) (fun c' ls' p t us HA h1 h2 h3 SA X => ?_)⟩
      · rw [sysW_ls (by omega) (by omega) lok (by omega)] at hd
        cases hd
      · cases h1
        have e := lkR_inj' (Option.some.inj h2)
        subst e
        exact ⟨p, t, us, ⟨B9.same SA, X, hL.same SA, ngb, lok, by omega, by omega, by omega⟩, S9.trans SA, rfl⟩
    clear hL B9 S9
    rintro σ' H9 ⟨p, t, us, Z, S9, rfl⟩
    obtain ⟨ok, pos⟩ := Z.ix
    refine ⟨fun σ' H' => ∃ (p2 t2 : Addr) (m2 : Nat), 1 ≤ m2 ∧ m2 ≤ 12 ∧ Zs (cl "System") b p t g n us lus ls H' ∧ SyAt (cl "System") H' p2 (m2 : Nat) t2 [] [] ∧ Same H H' ∧ σ' = [some (.ref a), some (.int (j : Nat)), some (.ref b), some (.int (n : Nat)), some ft, some (.ref g), some (.ref p), some (.ref p2), v8, v9, v10, v11], ?_, ?_⟩
    · refine ⟨_, rfl, _, rfl, b, _, rfl, Z.B, by decide, by decide, fun y H10 y0 y1 B10 D10 => ⟨_, _, rfl, rfl, .inl ⟨_, rfl, _, _, rfl, rfl, (by show (0 : Int) < 8; decide), _, _, rfl, rfl, by show 0 ≤ sizeLine; exact Nat.zero_le _, fun q nq => ?_⟩⟩⟩
      have Z10 := Z.but B10 D10
      have Sq := sNew (o := .lst []) nq
      have S10 : Same H H10 := fun z o e => D10 _ _ (S9 _ _ e) (ne_of_none e nbH)
      refine mkSys (.int _) (ro := some []) ⟨q, [], rfl, .inl upd_same, .nil, (fun x hx => by cases hx), by decide⟩ (fun i w G e hd S he => ?_) (fun c' ls' p2 t2 us2 HA h1 h2 h3 SA X2 => ?_)
      · rw [show (some [] : Option (List Rd)) = some (([] : List Lk).map lkR) from rfl, sysW_ls (by show (1 : Int) ≤ 1 + ((n : Int) + y) % 8; omega) (by show 1 + ((n : Int) + y) % 8 ≤ 12; omega) (fun l h => by cases h) (by decide)] at hd
        cases hd
      · have e := lkR_inj' (ls := []) (Option.some.inj h2)
        subst e
        have h1 : 1 + ((n : Int) + y) % 8 = c' := V.int.inj h1
        have u0 : us2 = [] := List.eq_nil_of_length_eq_zero (by rw [X2.each.length]; rfl)
        subst u0
        exact ⟨p2, t2, c'.toNat, by omega, by omega, (Z10.same Sq).same SA, by rw [Int.toNat_of_nonneg (by omega)]; exact X2, S10.trans (Sq.trans SA), rfl⟩
    clear Z S9
    rintro σ' H10 ⟨p2, t2, m2, m20, m21, Z, Y, S10, rfl⟩
    refine ⟨_, rfl, _, rfl, _, rfl, b, p, t, n, us, ls, rfl, Z.B, Z.X, Z.lok, Z.n1, Z.n2, by omega, fun H11 B11 D11 => ⟨_, rfl, iteF ?_⟩⟩
    have Z11 := Z.but B11 D11
    have Y11 := Y.butB Z.B D11
    have S11 : Same H H11 := fun z o e => D11 _ _ (S10 _ _ e) (ne_of_none e nbH)
    clear Z Y S10
    obtain ⟨dy, hy⟩ := Y11.self
    refine ⟨fun σ' H' => ∃ v8, Zs (cl "System") b p t g n us lus ls H' ∧ Same H H' ∧ σ' = [some (.ref a), some (.int (j : Nat)), some (.ref b), some (.int (n : Nat)), some ft, some (.ref g), some (.ref p), some (.ref p2), v8, v9, v10, v11], ?_, ?_⟩
    · refine ⟨_, rfl, p2, _, _, _, _, rfl, hy, T.cl_System, T.na_System _ (by decide), rfl, _, rfl, rfl, _, rfl, ite2 (fun z => ?_) (fun z => ?_)⟩
      · have z : m2 ≠ n := fun w => by
          rw [w] at z
          simp at z
        refine ⟨_, rfl, _, rfl, p2, p, t2, t, m2, n, [], us, [], ls, rfl, Y11, Z11.X, (fun l h => by cases h), Z11.lok, Z11.n2, by decide, by omega, z, fun H12 S12 => ⟨_, rfl, iteT ⟨_, rfl, _, rfl, p, p2, t, t2, n, m2, us, [], ls, [], rfl, Z11.X.same S12, Y11.same S12, Z11.lok, (fun l h => by cases h), m21, by omega, by decide, Ne.symm z, fun H13 S13 => ⟨_, rfl, ?_⟩⟩⟩⟩
        exact iteF ⟨_, Z11.same (S12.trans S13), S11.trans (S12.trans S13), rfl⟩
      · exact ⟨_, Z11, S11, rfl⟩
    clear Z11 Y11 S11 hy
    rintro σ' H12 ⟨v8, Z, S12, rfl⟩
    refine ⟨_, rfl, p, t, n, us, ls, rfl, Z.X, Z.lok, by omega, by omega, fun q pa H13 S13 nq hv => ?_⟩
    have Z13 := Z.same S13
    have S13 := S12.trans S13
    clear Z S12
    rcases hv with ⟨⟨dq, hq⟩, is, hpa, R⟩ | ⟨⟨dq, hq⟩, ts, hpa, Tm⟩
    · refine ⟨_, _, _, _, _, rfl, .own (cl "Ring"), .base (.ins hq T.cl_Ring T.y_Ring T.z1 T.z2 T.z3_Ring), T.k_Ri_Ri, _, rfl, iteT ?_⟩
      refine ⟨_, rfl, _, rfl, b, (n : Nat), rfl, Z13.B, by omega, by omega, fun i1 H14 i10 i11 B14 D14 => ⟨_, rfl, _, rfl, b, (n : Nat), rfl, B14, by omega, by omega, fun i2 H15 i20 i21 B15 D15 => ⟨_, rfl, b, rfl, B15, fun am H16 B16 D16 => ⟨by show 3 ≤ sizeLine; decide, fun le nle => ?_⟩⟩⟩⟩
      have D16 := D14.trans (D15.trans D16)
      have Z16 := (Z13.but B16 D16).same (sNew (o := .tup [.int i1, .int i2, .int am]) nle)
      have S16 : Same H (upd H16 le (.tup [.int i1, .int i2, .int am])) := fun z o e => sNew nle _ _ (D16 _ _ (S13 _ _ e) (ne_of_none e nbH))
      have lo : LkOk (n : Nat) (i1, i2, am) := ⟨⟨i10, i11⟩, i20, i21⟩
      have hle : upd H16 le (.tup [.int i1, .int i2, .int am]) le = some (.tup (lkV (i1, i2, am))) := upd_same
      generalize upd H16 le (.tup [.int i1, .int i2, .int am]) = H17 at Z16 S16 hle
      refine ⟨_, rfl, by decide, by decide, for_range (fun i σ H18 => Same H17 H18 ∧ ∃ v9 : Option V, σ = [some (.ref a), some (.int (j : Nat)), some (.ref b), some (.int (n : Nat)), some ft, some (.ref g), some (.ref p), some (.ref p2), some (.ref le), v9, v10, v11]) ⟨Same.refl _, _, rfl⟩ ?_ ?_⟩
      · rintro i σ H18 hi ⟨S18, v9, rfl⟩
        have Z18 := Z16.same S18
        refine ⟨_, rfl, _, rfl, _, rfl, by show 1 ≤ sizeLine; decide, fun lq nlq => ?_⟩
        have Slq := sNew (o := .lst [.ref le]) nlq
        have hle18 := Slq _ _ (S18 _ _ hle)
        refine mkSys (.int (n : Int)) (ro := some ([(i1, i2, am)].map lkR)) ⟨lq, [.ref le], rfl, .inl upd_same, .cons ⟨le, rfl, .inr hle18⟩ .nil, fun x hx => (by obtain ⟨l, _, rfl⟩ := List.mem_map.mp hx; exact lkR_ok l), by show 1 ≤ 300; decide⟩ (fun i w G e hd S he => ?_) (fun c' ls' p3 t3 us3 H19 h1 h2 h3 S19 X19 => ?_)
        · rw [sysW_ls (by omega) (by omega) (fun l hl => by rw [List.mem_singleton.mp hl]; exact lo) (by show 1 ≤ 200; decide)] at hd
          cases hd
        cases h1
        have e := lkR_inj' (Option.some.inj h2)
        subst e
        have S89 := Slq.trans S19
        have Z19 := Z18.same S89
        refine ⟨_, rfl, _, rfl, _, rfl, p3, p, t3, t, le, n, _, us3, us, [(i1, i2, am)], ls, (i1, i2, am), rfl, X19, Z19.X, (fun l hl => by rw [List.mem_singleton.mp hl]; exact lo), Z19.lok, Z19.n2, by show 1 ≤ 100; decide, by omega, S19 _ _ hle18, lo, fun ex => no_ring R ex, fun pr js H20 Rj S20 hpr => ?_⟩
        have Z20 := Z19.same S20
        refine ⟨g, pr, lus, ls, js, n, rfl, Z20.L, hpr, pos, by omega, Rj, fun H21 S21 => ⟨_, rfl, iteF ⟨S18.trans (S89.trans (S20.trans S21)), _, rfl⟩⟩⟩
      · rintro σ H18 ⟨S18, v9, rfl⟩
        exact ⟨S16.trans S18, _, _, _, _, _, _, _, _, _, _, _, rfl⟩
    · refine ⟨_, _, _, _, _, rfl, .own (cl "Ring"), .base (.ins hq T.cl_Kept T.y_Kept T.z1 T.z2 T.z3_Kept), T.k_Ke_Ri, _, rfl, iteF ?_⟩
      have ex : ∃ φ, Keeps (nls ls) φ := ⟨_, Tm.2⟩
      refine ⟨_, rfl, _, rfl, _, rfl, p, t, g, lus, us, ls, n, rfl, Z13.X, Z13.L, Z13.lok, Z13.n1, Z13.n2, by omega, ex, fun H14 S14 => ⟨_, rfl, iteF ?_⟩⟩
      have Z14 := Z13.same S14
      have S14 := S13.trans S14
      clear Z13 S13 hpa hq
      refine ⟨_, rfl, by decide, by decide, for_range (fun i σ H15 => BgAt H15 b ∧ But b H14 H15 ∧ ∃ v8 v10 v11 : Option V, σ = [some (.ref a), some (.int (j : Nat)), some (.ref b), some (.int (n : Nat)), some ft, some (.ref g), some (.ref p), some (.ref p2), v8, v9, v10, v11]) ⟨Z14.B, But.refl _ _, _, _, _, rfl⟩ ?_ ?_⟩
      · rintro i σ H15 hi ⟨B15, D15, v8, v10, v11, rfl⟩
        have Z15 := Z14.but B15 D15
        refine ⟨_, rfl, _, rfl, _, rfl, b, g, lus, ls, n, rfl, Z15.B, Z15.L, Z15.ng, Z15.lok, Z15.n1, Z15.n2, by omega, ex, fun le l H16 hle lo B16 D16 => ?_⟩
        have Z16 := Z15.but B16 D16
        have D16 := D15.trans D16
        refine ⟨_, rfl, fun v H' => ∃ q, v = .ref q ∧ SqLk H' q l ∧ Same H16 H', ?_, fun v H17 ⟨lq, hv, hlq, S17⟩ => ?_⟩
        · exact ⟨_, rfl, _, _, rfl, rfl, _, rfl, ite2 (fun _ => ⟨_, rfl, le, rfl, .inr hle, Same.refl _⟩) (fun _ => ⟨_, rfl, le, _, rfl, .inr (SqT.of hle), fun q nq => ⟨q, rfl, .inl upd_same, sNew nq⟩⟩)⟩
        subst hv
        have Z17 := Z16.same S17
        refine ⟨p, t, n, us, ls, .ref lq, lkR l, rfl, Z17.X, Z17.lok, by omega, by omega, ⟨lq, rfl, hlq⟩, lkR_ok l, badL lo, fun l' el lo' => ⟨no_tm ex, fun x H18 S18 nx _ hx => ?_⟩⟩
        have e1 := lkR_inj' (ls := [l]) (ls' := [l']) (congrArg (fun z => [z]) el)
        cases e1
        have S78 := S17.trans S18
        have Z18 := Z16.same S78
        have hle18 := S78 _ _ hle
        refine ⟨_, rfl, _, rfl, _, rfl, _, rfl, g, x, le, lus, ls, n, l, rfl, Z18.L, Z18.lok, by omega, by omega, hle18, lo, hx, fun H19 S19 => ⟨_, rfl, iteF ?_⟩⟩
        have Z19 := Z18.same S19
        have hle19 := S19 _ _ hle18
        have hx19 := ShAt.same hx S19
        refine ⟨_, rfl, _, rfl, _, rfl, p, t, x, n, us, ls, .ref le, lkR l, rfl, Z19.X, Z19.lok, by omega, by omega, ⟨le, rfl, .inr hle19⟩, lkR_ok l, badL lo, fun l' el lo' => ?_⟩
        have e1 := lkR_inj' (ls := [l]) (ls' := [l']) (congrArg (fun z => [z]) el)
        cases e1
        refine ⟨le, none, rfl, hle19, sh_in (by omega) pos lo hx19, fun H20 S20 => ⟨rfl, _, rfl, iteF ?_⟩⟩
        have Z20 := Z19.same S20
        refine ⟨_, rfl, _, rfl, _, rfl, _, rfl, _, rfl, _, rfl, b, p, t, g, le, x, lus, us, ls, n, l, rfl, Z20.B, Z20.X, Z20.L, Z20.ng, Z20.lok, Z20.n1, Z20.n2, by omega, S20 _ _ hle19, lo, ShAt.same hx19 S20, fun H21 B21 D21 => ⟨_, rfl, iteF ?_⟩⟩
        exact ⟨B21, D16.trans ((But.of (S78.trans (S19.trans S20))).trans D21), _, _, _, rfl⟩
      · rintro σ H15 ⟨B15, D15, v8, v10, v11, rfl⟩
        have Z15 := Z14.but B15 D15
        refine ⟨_, rfl, _, rfl, _, rfl, _, rfl, b, p, t, g, lus, us, ls, n, rfl, Z15.B, Z15.X, Z15.L, Z15.ng, Z15.lok, Z15.n1, Z15.n2, by omega, ex, fun H16 B16 D16 => ⟨_, rfl, iteF ?_⟩⟩
        exact ⟨fun z o e => D16 _ _ (D15 _ _ (S14 _ _ e) (ne_of_none e nbH)) (ne_of_none e nbH), _, _, _, _, _, _, _, _, _, _, _, rfl⟩
theorem cal_law (T : Txt P w K mg cl) : Cal P w K mg base CX0 10 "law" ["_law_script"] (spLaw K) := by
  obtain ⟨f, fd, F, m⟩ := T.d_law
  exact ⟨f, fd, ok_law F T, m, F.kp, F.binds fun _ _ _ _ _ _ us hl => match us, hl with | [_], _ => rfl⟩
end
end My
set_option Elab.async false
set_option linter.all false
set_option maxRecDepth 100000
set_option maxHeartbeats 8000000
namespace My
open PySem L2 Dw He
theorem txt_mk {P : Program} {w : World} {K : PySem.W.Frag} {h : Heap} {mg : Str → Option Value} (X : K.In h) (G : h.Ns mainGlobals mg) (hP : P.main.file = lawFile) (c0 : HeM.SaysM lawFile faL fnL iniL prpL tsL exB w K) (stop : (P.main.scope.names.lookup ("super" : Str)).isSome = false) : Txt P w K mg (fun s => ga K (Str.ofString s)) := by
  have cS : HeM.SaysM P.main.file faL fnL iniL prpL tsL exB w K := by rw [hP]; exact c0
  have hz : HeM.zB K = true := cS.ex_at (L := exL) 0 rfl
  have opq : PySem.W.nsIn K cStatics "thirdparty.any" = some none := eqO_ok (cS.ex_at (L := exL) 1 rfl)
  exact {
    n_len := He.free_ok X G (cS.d.fact 0 (f := .free "len") rfl)
    n_int := He.free_ok X G (cS.d.fact 1 (f := .free "int") rfl)
    n_bool := He.free_ok X G (cS.d.fact 2 (f := .free "bool") rfl)
    n_list := He.free_ok X G (cS.d.fact 3 (f := .free "list") rfl)
    n_tuple := He.free_ok X G (cS.d.fact 4 (f := .free "tuple") rfl)
    n_isinstance := He.free_ok X G (cS.d.fact 5 (f := .free "isinstance") rfl)
    n_range := He.free_ok X G (cS.d.fact 6 (f := .free "range") rfl)
    n_ValueError := He.free_ok X G (cS.d.fact 7 (f := .free "ValueError") rfl)
    n_abs := He.free_ok X G (cS.d.fact 8 (f := .free "abs") rfl)
    n_min := He.free_ok X G (cS.d.fact 9 (f := .free "min") rfl)
    n_max := He.free_ok X G (cS.d.fact 10 (f := .free "max") rfl)
    n_sum := He.free_ok X G (cS.d.fact 11 (f := .free "sum") rfl)
    n_iter := He.free_ok X G (cS.d.fact 12 (f := .free "iter") rfl)
    n_enumerate := He.free_ok X G (cS.d.fact 13 (f := .free "enumerate") rfl)
    n_zip := He.free_ok X G (cS.d.fact 14 (f := .free "zip") rfl)
    c_MOST_INSTANTS := (let ⟨_, h⟩ := He.int_ok X G (cS.d.fact 15 (f := .int "MOST_INSTANTS" (12)) rfl); ⟨_, h, ⟨_, rfl⟩⟩)
    c_MOST_LINKS := (let ⟨_, h⟩ := He.int_ok X G (cS.d.fact 16 (f := .int "MOST_LINKS" (200)) rfl); ⟨_, h, ⟨_, rfl⟩⟩)
    m_DeedError := (He.glo_ok X G (cS.d.fact 17 (f := .glo "DeedError") rfl))
    m_BadSystem := (He.glo_ok X G (cS.d.fact 18 (f := .glo "BadSystem") rfl))
    m_BadTimes := (He.glo_ok X G (cS.d.fact 19 (f := .glo "BadTimes") rfl))
    m_OtherCount := (He.glo_ok X G (cS.d.fact 20 (f := .glo "OtherCount") rfl))
    m_NoTimes := (He.glo_ok X G (cS.d.fact 21 (f := .glo "NoTimes") rfl))
    m_System := (He.glo_ok X G (cS.d.fact 22 (f := .glo "System") rfl))
    m_Kept := (He.glo_ok X G (cS.d.fact 23 (f := .glo "Kept") rfl))
    m_Ring := (He.glo_ok X G (cS.d.fact 24 (f := .glo "Ring") rfl))
    m_Implied := (He.glo_ok X G (cS.d.fact 25 (f := .glo "Implied") rfl))
    m_Unimplied := (He.glo_ok X G (cS.d.fact 26 (f := .glo "Unimplied") rfl))
    m_Needed := (He.glo_ok X G (cS.d.fact 27 (f := .glo "Needed") rfl))
    m_KeptByAll := (He.glo_ok X G (cS.d.fact 28 (f := .glo "KeptByAll") rfl))
    m_PartedAt := (He.glo_ok X G (cS.d.fact 29 (f := .glo "PartedAt") rfl))
    o_BadSystem := HeM.oxB_ok (cS.ex_at (L := exL) 2 rfl)
    i_BadSystem := (let ⟨fd, F⟩ := cS.d.def_ 0 (d := ⟨("BadSystem", some "__init__"), "__init__", "BadSystem.__init__", defArgs s_BadSystem_init, defBody s_BadSystem_init, defScope s_BadSystem_init, [], []⟩) rfl; ⟨_, fd, fun_of F, HeM.inB_ok (cS.ex_at (L := exL) 3 rfl)⟩)
    o_BadTimes := HeM.oxB_ok (cS.ex_at (L := exL) 4 rfl)
    i_BadTimes := (let ⟨fd, F⟩ := cS.d.def_ 1 (d := ⟨("BadTimes", some "__init__"), "__init__", "BadTimes.__init__", defArgs s_BadTimes_init, defBody s_BadTimes_init, defScope s_BadTimes_init, [], []⟩) rfl; ⟨_, fd, fun_of F, HeM.inB_ok (cS.ex_at (L := exL) 5 rfl)⟩)
    o_OtherCount := HeM.oxB_ok (cS.ex_at (L := exL) 6 rfl)
    i_OtherCount := (let ⟨fd, F⟩ := cS.d.def_ 2 (d := ⟨("OtherCount", some "__init__"), "__init__", "OtherCount.__init__", defArgs s_OtherCount_init, defBody s_OtherCount_init, defScope s_OtherCount_init, [], []⟩) rfl; ⟨_, fd, fun_of F, HeM.inB_ok (cS.ex_at (L := exL) 7 rfl)⟩)
    o_NoTimes := HeM.oxB_ok (cS.ex_at (L := exL) 8 rfl)
    i_NoTimes := (let ⟨fd, F⟩ := cS.d.def_ 3 (d := ⟨("NoTimes", some "__init__"), "__init__", "NoTimes.__init__", defArgs s_NoTimes_init, defBody s_NoTimes_init, defScope s_NoTimes_init, [], []⟩) rfl; ⟨_, fd, fun_of F, HeM.inB_ok (cS.ex_at (L := exL) 9 rfl)⟩)
    xf_BadSystem_index := eqO_ok (cS.ex_at (L := exL) 10 rfl)
    xf_BadSystem_what := eqO_ok (cS.ex_at (L := exL) 11 rfl)
    cr := ⟨(cS.ex_at (L := exL) 12 rfl), eqO_ok (cS.ex_at (L := exL) 13 rfl)⟩
    vi := HeM.valIs_ok (cS.ex_at (L := exL) 14 rfl)
    x_BadSystem := HeM.xcB_ok (cS.ex_at (L := exL) 15 rfl) hz
    x_BadTimes := HeM.xcB_ok (cS.ex_at (L := exL) 16 rfl) hz
    x_OtherCount := HeM.xcB_ok (cS.ex_at (L := exL) 17 rfl) hz
    x_NoTimes := HeM.xcB_ok (cS.ex_at (L := exL) 18 rfl) hz
    is_BadSystem := of_decide_eq_true (cS.ex_at (L := exL) 19 rfl)
    is_BadTimes := of_decide_eq_true (cS.ex_at (L := exL) 20 rfl)
    ne_System := ⟨of_decide_eq_true (cS.ex_at (L := exL) 21 rfl), eqO_ok (cS.ex_at (L := exL) 22 rfl)⟩
    cl_System := He.cls_ok (cS.d.fact 30 (f := .cls "System") rfl)
    na_System := (fun f hf => eqO_ok (List.all_eq_true.mp (cS.ex_at (L := exL) 23 rfl) f hf))
    y_System := eqO_ok (cS.ex_at (L := exL) 24 rfl)
    z3_System := of_decide_eq_true (cS.ex_at (L := exL) 21 rfl)
    cl_Kept := He.cls_ok (cS.d.fact 31 (f := .cls "Kept") rfl)
    na_Kept := (fun f hf => eqO_ok (List.all_eq_true.mp (cS.ex_at (L := exL) 25 rfl) f hf))
    y_Kept := eqO_ok (cS.ex_at (L := exL) 26 rfl)
    z3_Kept := of_decide_eq_true (cS.ex_at (L := exL) 27 rfl)
    cl_Ring := He.cls_ok (cS.d.fact 32 (f := .cls "Ring") rfl)
    na_Ring := (fun f hf => eqO_ok (List.all_eq_true.mp (cS.ex_at (L := exL) 28 rfl) f hf))
    y_Ring := eqO_ok (cS.ex_at (L := exL) 29 rfl)
    z3_Ring := of_decide_eq_true (cS.ex_at (L := exL) 30 rfl)
    k_in_Sy := (fun n hn => of_decide_eq_true (List.all_eq_true.mp (cS.ex_at (L := exL) 31 rfl) n hn))
    nf_System := (fun n hn => List.all_eq_true.mp (cS.ex_at (L := exL) 32 rfl) n hn)
    nf2_System := (cS.ex_at (L := exL) 33 rfl)
    k_Sy_Sy := of_decide_eq_true (cS.ex_at (L := exL) 34 rfl)
    k_Ri_Ri := of_decide_eq_true (cS.ex_at (L := exL) 35 rfl)
    k_Ke_Ri := of_decide_eq_true (cS.ex_at (L := exL) 36 rfl)
    i_System := (let ⟨fd, F⟩ := HeM.SaysM.var cS 0 (d := ⟨("System", some "__init__"), "__init__", "System.__init__", defArgs s_System_init, defBody s_System_init, defScope s_System_init, [], []⟩) (st := s_System_init) rfl rfl rfl rfl; ⟨_, fd, F, He.mkr_ok (cS.d.fact 33 (f := .mkr "System") rfl)⟩)
    i_Kept := (let ⟨fd, F⟩ := cS.d.def_ 4 (d := ⟨("Kept", some "__init__"), "__init__", "Kept.__init__", defArgs s_Kept_init, defBody s_Kept_init, defScope s_Kept_init, [], []⟩) rfl; ⟨_, fd, fun_of F, He.mkr_ok (cS.d.fact 34 (f := .mkr "Kept") rfl)⟩)
    i_Ring := (let ⟨fd, F⟩ := cS.d.def_ 5 (d := ⟨("Ring", some "__init__"), "__init__", "Ring.__init__", defArgs s_Ring_init, defBody s_Ring_init, defScope s_Ring_init, [], []⟩) rfl; ⟨_, fd, fun_of F, He.mkr_ok (cS.d.fact 35 (f := .mkr "Ring") rfl)⟩)
    d_System_broken := (let ⟨fd, F⟩ := cS.d.def_ 6 (d := ⟨("System", some "broken"), "broken", "System.broken", defArgs s_System_broken, defBody s_System_broken, defScope s_System_broken, [], []⟩) rfl; ⟨_, fd, fun_of F, He.meth_ok (cS.d.fact 36 (f := .meth "System" "broken") rfl)⟩)
    d_System_eq := (let ⟨fd, F⟩ := cS.d.def_ 7 (d := ⟨("System", some "__eq__"), "__eq__", "System.__eq__", defArgs s_System_eq, defBody s_System_eq, defScope s_System_eq, [], []⟩) rfl; ⟨_, fd, fun_of F, He.meth_ok (cS.d.fact 37 (f := .meth "System" "__eq__") rfl)⟩)
    d_System_len := (let ⟨fd, F⟩ := cS.d.def_ 8 (d := ⟨("System", some "__len__"), "__len__", "System.__len__", defArgs s_System_len, defBody s_System_len, defScope s_System_len, [], []⟩) rfl; ⟨_, fd, fun_of F, He.meth_ok (cS.d.fact 38 (f := .meth "System" "__len__") rfl)⟩)
    d_System_iter := (let ⟨fd, F⟩ := cS.d.def_ 9 (d := ⟨("System", some "__iter__"), "__iter__", "System.__iter__", defArgs s_System_iter, defBody s_System_iter, defScope s_System_iter, [], []⟩) rfl; ⟨_, fd, fun_of F, He.meth_ok (cS.d.fact 39 (f := .meth "System" "__iter__") rfl)⟩)
    d_is_integer := (let ⟨fd, F⟩ := cS.d.def_ 10 (d := ⟨("is_integer", none), "is_integer", "is_integer", defArgs s_is_integer, defBody s_is_integer, defScope s_is_integer, [], []⟩) rfl; ⟨_, fd, fun_of F, (He.glo_ok X G (cS.d.fact 40 (f := .glo "is_integer") rfl))⟩)
    d_is_instant := (let ⟨fd, F⟩ := cS.d.def_ 11 (d := ⟨("is_instant", none), "is_instant", "is_instant", defArgs s_is_instant, defBody s_is_instant, defScope s_is_instant, [], []⟩) rfl; ⟨_, fd, fun_of F, (He.glo_ok X G (cS.d.fact 41 (f := .glo "is_instant") rfl))⟩)
    d_are_times := (let ⟨fd, F⟩ := cS.d.def_ 12 (d := ⟨("are_times", none), "are_times", "are_times", defArgs s_are_times, defBody s_are_times, defScope s_are_times, [], []⟩) rfl; ⟨_, fd, fun_of F, (He.glo_ok X G (cS.d.fact 42 (f := .glo "are_times") rfl))⟩)
    d_link_fault := (let ⟨fd, F⟩ := cS.d.def_ 13 (d := ⟨("link_fault", none), "link_fault", "link_fault", defArgs s_link_fault, defBody s_link_fault, defScope s_link_fault, [], []⟩) rfl; ⟨_, fd, fun_of F, (He.glo_ok X G (cS.d.fact 43 (f := .glo "link_fault") rfl))⟩)
    d_keeps_link := (let ⟨fd, F⟩ := cS.d.def_ 14 (d := ⟨("keeps_link", none), "keeps_link", "keeps_link", defArgs s_keeps_link, defBody s_keeps_link, defScope s_keeps_link, [], []⟩) rfl; ⟨_, fd, fun_of F, (He.glo_ok X G (cS.d.fact 44 (f := .glo "keeps_link") rfl))⟩)
    d_are_indexes := (let ⟨fd, F⟩ := cS.d.def_ 15 (d := ⟨("are_indexes", none), "are_indexes", "are_indexes", defArgs s_are_indexes, defBody s_are_indexes, defScope s_are_indexes, [], []⟩) rfl; ⟨_, fd, fun_of F, (He.glo_ok X G (cS.d.fact 45 (f := .glo "are_indexes") rfl))⟩)
    d_has_joints := (let ⟨fd, F⟩ := cS.d.def_ 16 (d := ⟨("has_joints", none), "has_joints", "has_joints", defArgs s_has_joints, defBody s_has_joints, defScope s_has_joints, [], []⟩) rfl; ⟨_, fd, fun_of F, (He.glo_ok X G (cS.d.fact 46 (f := .glo "has_joints") rfl))⟩)
    d_sum_of := (let ⟨fd, F⟩ := cS.d.def_ 17 (d := ⟨("sum_of", none), "sum_of", "sum_of", defArgs s_sum_of, defBody s_sum_of, defScope s_sum_of, [], []⟩) rfl; ⟨_, fd, fun_of F, (He.glo_ok X G (cS.d.fact 47 (f := .glo "sum_of") rfl))⟩)
    d_path_fault := (let ⟨fd, F⟩ := cS.d.def_ 18 (d := ⟨("path_fault", none), "path_fault", "path_fault", defArgs s_path_fault, defBody s_path_fault, defScope s_path_fault, [], []⟩) rfl; ⟨_, fd, fun_of F, (He.glo_ok X G (cS.d.fact 48 (f := .glo "path_fault") rfl))⟩)
    d_times_fault := (let ⟨fd, F⟩ := cS.d.def_ 19 (d := ⟨("times_fault", none), "times_fault", "times_fault", defArgs s_times_fault, defBody s_times_fault, defScope s_times_fault, [], []⟩) rfl; ⟨_, fd, fun_of F, (He.glo_ok X G (cS.d.fact 49 (f := .glo "times_fault") rfl))⟩)
    d_ring_behind := (let ⟨fd, F⟩ := cS.d.def_ 20 (d := ⟨("ring_behind", none), "ring_behind", "ring_behind", defArgs s_ring_behind, defBody s_ring_behind, defScope s_ring_behind, [], []⟩) rfl; ⟨_, fd, fun_of F, (He.glo_ok X G (cS.d.fact 50 (f := .glo "ring_behind") rfl))⟩)
    d_settle := (let ⟨fd, F⟩ := cS.d.def_ 21 (d := ⟨("settle", none), "settle", "settle", defArgs s_settle, defBody s_settle, defScope s_settle, [], []⟩) rfl; ⟨_, fd, fun_of F, (He.glo_ok X G (cS.d.fact 51 (f := .glo "settle") rfl))⟩)
    d_settled_from := (let ⟨fd, F⟩ := cS.d.def_ 22 (d := ⟨("settled_from", none), "settled_from", "settled_from", defArgs s_settled_from, defBody s_settled_from, defScope s_settled_from, [], []⟩) rfl; ⟨_, fd, fun_of F, (He.glo_ok X G (cS.d.fact 52 (f := .glo "settled_from") rfl))⟩)
    d_solved := (let ⟨fd, F⟩ := cS.d.def_ 23 (d := ⟨("solved", none), "solved", "solved", defArgs s_solved, defBody s_solved, defScope s_solved, [], []⟩) rfl; ⟨_, fd, fun_of F, (He.glo_ok X G (cS.d.fact 53 (f := .glo "solved") rfl))⟩)
    d_kept_times := (let ⟨fd, F⟩ := cS.d.def_ 24 (d := ⟨("kept_times", none), "kept_times", "kept_times", defArgs s_kept_times, defBody s_kept_times, defScope s_kept_times, [], []⟩) rfl; ⟨_, fd, fun_of F, (He.glo_ok X G (cS.d.fact 54 (f := .glo "kept_times") rfl))⟩)
    d_path_back := (let ⟨fd, F⟩ := cS.d.def_ 25 (d := ⟨("path_back", none), "path_back", "path_back", defArgs s_path_back, defBody s_path_back, defScope s_path_back, [], []⟩) rfl; ⟨_, fd, fun_of F, (He.glo_ok X G (cS.d.fact 55 (f := .glo "path_back") rfl))⟩)
    d_completed := (let ⟨fd, F⟩ := cS.d.def_ 26 (d := ⟨("completed", none), "completed", "completed", defArgs s_completed, defBody s_completed, defScope s_completed, [], []⟩) rfl; ⟨_, fd, fun_of F, (He.glo_ok X G (cS.d.fact 56 (f := .glo "completed") rfl))⟩)
    d_check_link := (let ⟨fd, F⟩ := cS.d.def_ 27 (d := ⟨("check_link", none), "check_link", "check_link", defArgs s_check_link, defBody s_check_link, defScope s_check_link, [], []⟩) rfl; ⟨_, fd, fun_of F, (He.glo_ok X G (cS.d.fact 57 (f := .glo "check_link") rfl))⟩)
    d_shown := (let ⟨fd, F⟩ := cS.d.def_ 28 (d := ⟨("shown", none), "shown", "shown", defArgs s_shown, defBody s_shown, defScope s_shown, [], []⟩) rfl; ⟨_, fd, fun_of F, (He.glo_ok X G (cS.d.fact 58 (f := .glo "shown") rfl))⟩)
    d_implied := (let ⟨fd, F⟩ := cS.d.def_ 29 (d := ⟨("implied", none), "implied", "implied", defArgs s_implied, defBody s_implied, defScope s_implied, [], []⟩) rfl; ⟨_, fd, fun_of F, (He.glo_ok X G (cS.d.fact 59 (f := .glo "implied") rfl))⟩)
    d_implied_fault := (let ⟨fd, F⟩ := cS.d.def_ 30 (d := ⟨("implied_fault", none), "implied_fault", "implied_fault", defArgs s_implied_fault, defBody s_implied_fault, defScope s_implied_fault, [], []⟩) rfl; ⟨_, fd, fun_of F, (He.glo_ok X G (cS.d.fact 60 (f := .glo "implied_fault") rfl))⟩)
    d_needed_indexes := (let ⟨fd, F⟩ := cS.d.def_ 31 (d := ⟨("needed_indexes", none), "needed_indexes", "needed_indexes", defArgs s_needed_indexes, defBody s_needed_indexes, defScope s_needed_indexes, [], []⟩) rfl; ⟨_, fd, fun_of F, (He.glo_ok X G (cS.d.fact 61 (f := .glo "needed_indexes") rfl))⟩)
    d_needed := (let ⟨fd, F⟩ := cS.d.def_ 32 (d := ⟨("needed", none), "needed", "needed", defArgs s_needed, defBody s_needed, defScope s_needed, [], []⟩) rfl; ⟨_, fd, fun_of F, (He.glo_ok X G (cS.d.fact 62 (f := .glo "needed") rfl))⟩)
    d_compare_systems := (let ⟨fd, F⟩ := cS.d.def_ 33 (d := ⟨("compare_systems", none), "compare_systems", "compare_systems", defArgs s_compare_systems, defBody s_compare_systems, defScope s_compare_systems, [], []⟩) rfl; ⟨_, fd, fun_of F, (He.glo_ok X G (cS.d.fact 63 (f := .glo "compare_systems") rfl))⟩)
    d_bag := (let ⟨fd, F⟩ := cS.d.def_ 34 (d := ⟨("_law_bag", none), "_law_bag", "_law_bag", defArgs s_bag, defBody s_bag, defScope s_bag, [], []⟩) rfl; ⟨_, fd, fun_of F, (He.glo_ok X G (cS.d.fact 64 (f := .glo "_law_bag") rfl))⟩)
    d_take := (let ⟨fd, F⟩ := cS.d.def_ 35 (d := ⟨("_law_take", none), "_law_take", "_law_take", defArgs s_take, defBody s_take, defScope s_take, [], []⟩) rfl; ⟨_, fd, fun_of F, (He.glo_ok X G (cS.d.fact 65 (f := .glo "_law_take") rfl))⟩)
    d_of := (let ⟨fd, F⟩ := cS.d.def_ 36 (d := ⟨("_law_of", none), "_law_of", "_law_of", defArgs s_of, defBody s_of, defScope s_of, [], []⟩) rfl; ⟨_, fd, fun_of F, (He.glo_ok X G (cS.d.fact 66 (f := .glo "_law_of") rfl))⟩)
    d_amount := (let ⟨fd, F⟩ := cS.d.def_ 37 (d := ⟨("_law_amount", none), "_law_amount", "_law_amount", defArgs s_amount, defBody s_amount, defScope s_amount, [], []⟩) rfl; ⟨_, fd, fun_of F, (He.glo_ok X G (cS.d.fact 67 (f := .glo "_law_amount") rfl))⟩)
    d_times := (let ⟨fd, F⟩ := cS.d.def_ 38 (d := ⟨("_law_times", none), "_law_times", "_law_times", defArgs s_times, defBody s_times, defScope s_times, [], []⟩) rfl; ⟨_, fd, fun_of F, (He.glo_ok X G (cS.d.fact 68 (f := .glo "_law_times") rfl))⟩)
    d_links := (let ⟨fd, F⟩ := cS.d.def_ 39 (d := ⟨("_law_links", none), "_law_links", "_law_links", defArgs s_links, defBody s_links, defScope s_links, [], []⟩) rfl; ⟨_, fd, fun_of F, (He.glo_ok X G (cS.d.fact 69 (f := .glo "_law_links") rfl))⟩)
    d_is_whole := (let ⟨fd, F⟩ := cS.d.def_ 40 (d := ⟨("_law_is_whole", none), "_law_is_whole", "_law_is_whole", defArgs s_is_whole, defBody s_is_whole, defScope s_is_whole, [], []⟩) rfl; ⟨_, fd, fun_of F, (He.glo_ok X G (cS.d.fact 70 (f := .glo "_law_is_whole") rfl))⟩)
    d_L_are_times := (let ⟨fd, F⟩ := cS.d.def_ 41 (d := ⟨("_law_are_times", none), "_law_are_times", "_law_are_times", defArgs s_L_are_times, defBody s_L_are_times, defScope s_L_are_times, [], []⟩) rfl; ⟨_, fd, fun_of F, (He.glo_ok X G (cS.d.fact 71 (f := .glo "_law_are_times") rfl))⟩)
    d_keep := (let ⟨fd, F⟩ := cS.d.def_ 42 (d := ⟨("_law_keep", none), "_law_keep", "_law_keep", defArgs s_keep, defBody s_keep, defScope s_keep, [], []⟩) rfl; ⟨_, fd, fun_of F, (He.glo_ok X G (cS.d.fact 72 (f := .glo "_law_keep") rfl))⟩)
    d_leads := (let ⟨fd, F⟩ := cS.d.def_ 43 (d := ⟨("_law_leads", none), "_law_leads", "_law_leads", defArgs s_leads, defBody s_leads, defScope s_leads, [], []⟩) rfl; ⟨_, fd, fun_of F, (He.glo_ok X G (cS.d.fact 73 (f := .glo "_law_leads") rfl))⟩)
    d_sum := (let ⟨fd, F⟩ := cS.d.def_ 44 (d := ⟨("_law_sum", none), "_law_sum", "_law_sum", defArgs s_sum, defBody s_sum, defScope s_sum, [], []⟩) rfl; ⟨_, fd, fun_of F, (He.glo_ok X G (cS.d.fact 74 (f := .glo "_law_sum") rfl))⟩)
    d_bars := (let ⟨fd, F⟩ := cS.d.def_ 45 (d := ⟨("_law_bars", none), "_law_bars", "_law_bars", defArgs s_bars, defBody s_bars, defScope s_bars, [], []⟩) rfl; ⟨_, fd, fun_of F, (He.glo_ok X G (cS.d.fact 75 (f := .glo "_law_bars") rfl))⟩)
    d_spans := (let ⟨fd, F⟩ := cS.d.def_ 46 (d := ⟨("_law_spans", none), "_law_spans", "_law_spans", defArgs s_spans, defBody s_spans, defScope s_spans, [], []⟩) rfl; ⟨_, fd, fun_of F, (He.glo_ok X G (cS.d.fact 76 (f := .glo "_law_spans") rfl))⟩)
    d_implies := (let ⟨fd, F⟩ := cS.d.def_ 47 (d := ⟨("_law_implies", none), "_law_implies", "_law_implies", defArgs s_implies, defBody s_implies, defScope s_implies, [], []⟩) rfl; ⟨_, fd, fun_of F, (He.glo_ok X G (cS.d.fact 77 (f := .glo "_law_implies") rfl))⟩)
    d_path_due := (let ⟨fd, F⟩ := cS.d.def_ 48 (d := ⟨("_law_path_due", none), "_law_path_due", "_law_path_due", defArgs s_path_due, defBody s_path_due, defScope s_path_due, [], []⟩) rfl; ⟨_, fd, fun_of F, (He.glo_ok X G (cS.d.fact 78 (f := .glo "_law_path_due") rfl))⟩)
    d_bent := (let ⟨fd, F⟩ := cS.d.def_ 49 (d := ⟨("_law_bent", none), "_law_bent", "_law_bent", defArgs s_bent, defBody s_bent, defScope s_bent, [], []⟩) rfl; ⟨_, fd, fun_of F, (He.glo_ok X G (cS.d.fact 79 (f := .glo "_law_bent") rfl))⟩)
    d_near := (let ⟨fd, F⟩ := cS.d.def_ 50 (d := ⟨("_law_near", none), "_law_near", "_law_near", defArgs s_near, defBody s_near, defScope s_near, [], []⟩) rfl; ⟨_, fd, fun_of F, (He.glo_ok X G (cS.d.fact 80 (f := .glo "_law_near") rfl))⟩)
    d_shows := (let ⟨fd, F⟩ := cS.d.def_ 51 (d := ⟨("_law_shows", none), "_law_shows", "_law_shows", defArgs s_shows, defBody s_shows, defScope s_shows, [], []⟩) rfl; ⟨_, fd, fun_of F, (He.glo_ok X G (cS.d.fact 81 (f := .glo "_law_shows") rfl))⟩)
    d_parts := (let ⟨fd, F⟩ := cS.d.def_ 52 (d := ⟨("_law_parts", none), "_law_parts", "_law_parts", defArgs s_parts, defBody s_parts, defScope s_parts, [], []⟩) rfl; ⟨_, fd, fun_of F, (He.glo_ok X G (cS.d.fact 82 (f := .glo "_law_parts") rfl))⟩)
    d_L_implied := (let ⟨fd, F⟩ := cS.d.def_ 53 (d := ⟨("_law_implied", none), "_law_implied", "_law_implied", defArgs s_L_implied, defBody s_L_implied, defScope s_L_implied, [], []⟩) rfl; ⟨_, fd, fun_of F, (He.glo_ok X G (cS.d.fact 83 (f := .glo "_law_implied") rfl))⟩)
    d_due := (let ⟨fd, F⟩ := cS.d.def_ 54 (d := ⟨("_law_due", none), "_law_due", "_law_due", defArgs s_due, defBody s_due, defScope s_due, [], []⟩) rfl; ⟨_, fd, fun_of F, (He.glo_ok X G (cS.d.fact 84 (f := .glo "_law_due") rfl))⟩)
    d_judged := (let ⟨fd, F⟩ := cS.d.def_ 55 (d := ⟨("_law_judged", none), "_law_judged", "_law_judged", defArgs s_judged, defBody s_judged, defScope s_judged, [], []⟩) rfl; ⟨_, fd, fun_of F, (He.glo_ok X G (cS.d.fact 85 (f := .glo "_law_judged") rfl))⟩)
    d_bad_link := (let ⟨fd, F⟩ := cS.d.def_ 56 (d := ⟨("_law_bad_link", none), "_law_bad_link", "_law_bad_link", defArgs s_bad_link, defBody s_bad_link, defScope s_bad_link, [], []⟩) rfl; ⟨_, fd, fun_of F, (He.glo_ok X G (cS.d.fact 86 (f := .glo "_law_bad_link") rfl))⟩)
    d_greedy := (let ⟨fd, F⟩ := cS.d.def_ 57 (d := ⟨("_law_greedy", none), "_law_greedy", "_law_greedy", defArgs s_greedy, defBody s_greedy, defScope s_greedy, [], []⟩) rfl; ⟨_, fd, fun_of F, (He.glo_ok X G (cS.d.fact 87 (f := .glo "_law_greedy") rfl))⟩)
    d_L_needed := (let ⟨fd, F⟩ := cS.d.def_ 58 (d := ⟨("_law_needed", none), "_law_needed", "_law_needed", defArgs s_L_needed, defBody s_L_needed, defScope s_L_needed, [], []⟩) rfl; ⟨_, fd, fun_of F, (He.glo_ok X G (cS.d.fact 88 (f := .glo "_law_needed") rfl))⟩)
    d_other := (let ⟨fd, F⟩ := cS.d.def_ 59 (d := ⟨("_law_other", none), "_law_other", "_law_other", defArgs s_other, defBody s_other, defScope s_other, [], []⟩) rfl; ⟨_, fd, fun_of F, (He.glo_ok X G (cS.d.fact 89 (f := .glo "_law_other") rfl))⟩)
    d_compared := (let ⟨fd, F⟩ := cS.d.def_ 60 (d := ⟨("_law_compared", none), "_law_compared", "_law_compared", defArgs s_compared, defBody s_compared, defScope s_compared, [], []⟩) rfl; ⟨_, fd, fun_of F, (He.glo_ok X G (cS.d.fact 90 (f := .glo "_law_compared") rfl))⟩)
    d_barred := (let ⟨fd, F⟩ := cS.d.def_ 61 (d := ⟨("_law_barred", none), "_law_barred", "_law_barred", defArgs s_barred, defBody s_barred, defScope s_barred, [], []⟩) rfl; ⟨_, fd, fun_of F, (He.glo_ok X G (cS.d.fact 91 (f := .glo "_law_barred") rfl))⟩)
    d_other_count := (let ⟨fd, F⟩ := cS.d.def_ 62 (d := ⟨("_law_other_count", none), "_law_other_count", "_law_other_count", defArgs s_other_count, defBody s_other_count, defScope s_other_count, [], []⟩) rfl; ⟨_, fd, fun_of F, (He.glo_ok X G (cS.d.fact 92 (f := .glo "_law_other_count") rfl))⟩)
    d_law := (let ⟨fd, F⟩ := cS.d.def_ 63 (d := ⟨("law", none), "law", "law", defArgs s_law, defBody s_law, defScope s_law, [], []⟩) rfl; ⟨_, fd, fun_of F, (He.glo_ok X G (cS.d.fact 93 (f := .glo "law") rfl))⟩)
    xf_NoTimes_path := eqO_ok (cS.ex_at (L := exL) 37 rfl)
    is_NoTimes := of_decide_eq_true (cS.ex_at (L := exL) 38 rfl)
    k_Ke_Ke := of_decide_eq_true (cS.ex_at (L := exL) 39 rfl)
    k_Ri_Ke := of_decide_eq_true (cS.ex_at (L := exL) 40 rfl)
    is_OtherCount := of_decide_eq_true (cS.ex_at (L := exL) 41 rfl)
    cl_Implied := He.cls_ok (cS.d.fact 94 (f := .cls "Implied") rfl)
    na_Implied := (fun f hf => eqO_ok (List.all_eq_true.mp (cS.ex_at (L := exL) 42 rfl) f hf))
    y_Implied := eqO_ok (cS.ex_at (L := exL) 43 rfl)
    z3_Implied := of_decide_eq_true (cS.ex_at (L := exL) 44 rfl)
    cl_Unimplied := He.cls_ok (cS.d.fact 95 (f := .cls "Unimplied") rfl)
    na_Unimplied := (fun f hf => eqO_ok (List.all_eq_true.mp (cS.ex_at (L := exL) 45 rfl) f hf))
    y_Unimplied := eqO_ok (cS.ex_at (L := exL) 46 rfl)
    z3_Unimplied := of_decide_eq_true (cS.ex_at (L := exL) 47 rfl)
    cl_Needed := He.cls_ok (cS.d.fact 96 (f := .cls "Needed") rfl)
    na_Needed := (fun f hf => eqO_ok (List.all_eq_true.mp (cS.ex_at (L := exL) 48 rfl) f hf))
    y_Needed := eqO_ok (cS.ex_at (L := exL) 49 rfl)
    z3_Needed := of_decide_eq_true (cS.ex_at (L := exL) 50 rfl)
    cl_KeptByAll := He.cls_ok (cS.d.fact 97 (f := .cls "KeptByAll") rfl)
    na_KeptByAll := (fun f hf => eqO_ok (List.all_eq_true.mp (cS.ex_at (L := exL) 51 rfl) f hf))
    y_KeptByAll := eqO_ok (cS.ex_at (L := exL) 52 rfl)
    z3_KeptByAll := of_decide_eq_true (cS.ex_at (L := exL) 53 rfl)
    cl_PartedAt := He.cls_ok (cS.d.fact 98 (f := .cls "PartedAt") rfl)
    na_PartedAt := (fun f hf => eqO_ok (List.all_eq_true.mp (cS.ex_at (L := exL) 54 rfl) f hf))
    y_PartedAt := eqO_ok (cS.ex_at (L := exL) 55 rfl)
    z3_PartedAt := of_decide_eq_true (cS.ex_at (L := exL) 56 rfl)
    i_Implied := (let ⟨fd, F⟩ := cS.d.def_ 64 (d := ⟨("Implied", some "__init__"), "__init__", "Implied.__init__", defArgs s_Implied_init, defBody s_Implied_init, defScope s_Implied_init, [], []⟩) rfl; ⟨_, fd, fun_of F, He.mkr_ok (cS.d.fact 99 (f := .mkr "Implied") rfl)⟩)
    i_Unimplied := (let ⟨fd, F⟩ := cS.d.def_ 65 (d := ⟨("Unimplied", some "__init__"), "__init__", "Unimplied.__init__", defArgs s_Unimplied_init, defBody s_Unimplied_init, defScope s_Unimplied_init, [], []⟩) rfl; ⟨_, fd, fun_of F, He.mkr_ok (cS.d.fact 100 (f := .mkr "Unimplied") rfl)⟩)
    i_Needed := (let ⟨fd, F⟩ := cS.d.def_ 66 (d := ⟨("Needed", some "__init__"), "__init__", "Needed.__init__", defArgs s_Needed_init, defBody s_Needed_init, defScope s_Needed_init, [], []⟩) rfl; ⟨_, fd, fun_of F, He.mkr_ok (cS.d.fact 101 (f := .mkr "Needed") rfl)⟩)
    i_KeptByAll := (let ⟨fd, F⟩ := cS.d.def_ 67 (d := ⟨("KeptByAll", some "__init__"), "__init__", "KeptByAll.__init__", defArgs s_KeptByAll_init, defBody s_KeptByAll_init, defScope s_KeptByAll_init, [], []⟩) rfl; ⟨_, fd, fun_of F, He.mkr_ok (cS.d.fact 102 (f := .mkr "KeptByAll") rfl)⟩)
    i_PartedAt := (let ⟨fd, F⟩ := cS.d.def_ 68 (d := ⟨("PartedAt", some "__init__"), "__init__", "PartedAt.__init__", defArgs s_PartedAt_init, defBody s_PartedAt_init, defScope s_PartedAt_init, [], []⟩) rfl; ⟨_, fd, fun_of F, He.mkr_ok (cS.d.fact 103 (f := .mkr "PartedAt") rfl)⟩)
    k_Im_Im := of_decide_eq_true (cS.ex_at (L := exL) 57 rfl)
    k_Im_Un := of_decide_eq_true (cS.ex_at (L := exL) 58 rfl)
    k_Im_Ne := of_decide_eq_true (cS.ex_at (L := exL) 59 rfl)
    k_Im_Kb := of_decide_eq_true (cS.ex_at (L := exL) 60 rfl)
    k_Im_Pa := of_decide_eq_true (cS.ex_at (L := exL) 61 rfl)
    k_Un_Im := of_decide_eq_true (cS.ex_at (L := exL) 62 rfl)
    k_Un_Un := of_decide_eq_true (cS.ex_at (L := exL) 63 rfl)
    k_Un_Ne := of_decide_eq_true (cS.ex_at (L := exL) 64 rfl)
    k_Un_Kb := of_decide_eq_true (cS.ex_at (L := exL) 65 rfl)
    k_Un_Pa := of_decide_eq_true (cS.ex_at (L := exL) 66 rfl)
    k_Ne_Im := of_decide_eq_true (cS.ex_at (L := exL) 67 rfl)
    k_Ne_Un := of_decide_eq_true (cS.ex_at (L := exL) 68 rfl)
    k_Ne_Ne := of_decide_eq_true (cS.ex_at (L := exL) 69 rfl)
    k_Ne_Kb := of_decide_eq_true (cS.ex_at (L := exL) 70 rfl)
    k_Ne_Pa := of_decide_eq_true (cS.ex_at (L := exL) 71 rfl)
    k_Kb_Im := of_decide_eq_true (cS.ex_at (L := exL) 72 rfl)
    k_Kb_Un := of_decide_eq_true (cS.ex_at (L := exL) 73 rfl)
    k_Kb_Ne := of_decide_eq_true (cS.ex_at (L := exL) 74 rfl)
    k_Kb_Kb := of_decide_eq_true (cS.ex_at (L := exL) 75 rfl)
    k_Kb_Pa := of_decide_eq_true (cS.ex_at (L := exL) 76 rfl)
    k_Pa_Im := of_decide_eq_true (cS.ex_at (L := exL) 77 rfl)
    k_Pa_Un := of_decide_eq_true (cS.ex_at (L := exL) 78 rfl)
    k_Pa_Ne := of_decide_eq_true (cS.ex_at (L := exL) 79 rfl)
    k_Pa_Kb := of_decide_eq_true (cS.ex_at (L := exL) 80 rfl)
    k_Pa_Pa := of_decide_eq_true (cS.ex_at (L := exL) 81 rfl)
    z1 := eqO_ok (ba hz).1
    z2 := of_decide_eq_true (ba hz).2 }
theorem law_end {w : World} {K : PySem.W.Frag} {h : Heap} {mg : Str → Option Value} {fa : Addr} (X : K.In h) (G : h.Ns mainGlobals mg) (hfa : mg ("law" : Str) = some (.ref fa)) (c : HeM.SaysM lawFile faL fnL iniL prpL tsL exB w K) :
    ∃ fd : FuncData, (∀ (s : Shared) (v : Value), BindsTo s fd ⟨[v], []⟩ [("_law_script", v)]) ∧ ∀ base : Heap, K.In base → base.Ns mainGlobals mg → FnOk Rw.prog w K mg base CX0 10 fa fd ["_law_script"] (spLaw K) := by
  have T : Txt Rw.prog w K mg (fun s => ga K (Str.ofString s)) := txt_mk X G rfl c (by decide +kernel)
  obtain ⟨f, fd, F, m⟩ := T.d_law
  have e := hfa.symm.trans m
  cases e
  exact ⟨fd, fun s v => Fun.bindsA1 F (fun _ _ _ _ _ _ us hl => match us, hl with | [_], _ => rfl) s v, fun base _ _ => ok_law F T⟩
end My
open PySem PySem.W PySem.Calls PyProof.Rows
set_option maxHeartbeats 0 in
theorem PySem.Challenge.cw_lastlife_k36_whole_implied_needed_compar_holds : PySem.Challenge.rw_lastlife_k36_whole_implied_needed_compar.Holds := by
  w_on; o_law
  refine HandSHeadRun.head_any (r := My.Rw) (q := view My.Rw.prog [75]) (H := My.hkM) (ob := My.obM) (M := 12000) (loose := My.looseL) (d := HandSHeadRun.topDef My.Rw.prog 75) (kwd := []) My.obM_eq
    (by kernel_rfl) (fun s => by kernel_rfl) My.runM (by kernel_rfl) (by kernel_rfl) (by kernel_rfl) (by rfl) (by first | assumption | decide +kernel) (by decide +kernel) ⟨rfl, rfl, rfl, rfl, rfl, by decide +kernel⟩ ?hw ?hc
  case hw => w_witness2
  case hc =>
    refine L2.walk_ofE (l := PySem.Challenge.rw_lastlife_k36_whole_implied_needed_compar) (n := 63) (k := 10) (x := "_law_script") (CX := L2.CX0) rfl (by decide) (by kernel_rfl) ⟨rfl, by decide, by decide⟩ ?F (fun _ _ _ _ z => z)
    intro w mg fa h Y G hmg0
    obtain ⟨K, KX, c⟩ := Y
    have hmg : mg ("law" : PySem.Str) = some (.ref fa) := by
      have e : (HandSHeadRun.topDef My.Rw.prog 75).name = ("law" : PySem.Str) := by kernel_rfl
      rw [← e]
      exact hmg0
    obtain ⟨fd, hb, hF⟩ := My.law_end (w := w) KX G hmg c
    exact ⟨K, fd, My.spLaw K, KX, hb, fun H a ns hl _ hS => ⟨a, ns, rfl, hS, hl, fun _ => rfl⟩, hF⟩
