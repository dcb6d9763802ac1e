import PyProof.Rows.All
import Wide.All
import OpenK.AllK
import Wide.FinOn
import HandS.ForMost
import HandS.ForExc
import HandS.ExcInit
import KE.KExcSuper
import HandS.IsInst
import HandS.ExcIs
import HandS.ExcField
import HandS.MakeKwOnly
import HandS.ExcOwn
import HandS.Codes
import HandS.Style
import HandS.Flow
import HandS.ClsMeth
import HandS.ExcValue
import HandS.Base
import HandS.Call
import HandS.Exc
import HandS.List
import KE.KStateDown
import HandS.Ends
import HandS.More
import HandS.Words
import HandS.WordsExc
import HandS.Defaults
import HandS.Head0
import HandS.Head1
import HandS.Head2
import HandS.HeadEnd
import HandS.HeadHook1
import HandS.HeadHook2
import HandS.HeadHook3
import HandS.Property
import HandS.OwnEq
import KE.KOwnIter
import HandS.IterVal
import PyProof.InstSpecial
import HandS.Walk
import KE.GoesEnum
import HandS.TupLe
import HandS.TupAny
import HandS.SetKeys
import HandS.Strs
import HandS.Text
import HandS.Deep
import HandS.Star
import HandS.SlotsOwn
import HandS.Iter
import PySem.Challenge.RW_lastlife_k34_systems_and_their_paths
import HandS.Wide
set_option Elab.async false
set_option linter.all false
set_option maxRecDepth 100000
set_option maxHeartbeats 4000000
namespace PySem
namespace ErrL
open PySem.W PySem.Calls PyProof.Rows PySem.HandSPX
/-! own errors whose first row calls the base's maker through super() -/
def supS (args : List Expr) (a1 a2 a3 a4 a5 : Pos) : Stmt :=
  .Expr (.Call (.Attribute (.Call (.Name "super" a1) [] [] a2) "__init__" a3) args [] a4) a5
def stoS (f : Str) (q1 q2 q3 q4 : Pos) : Stmt :=
  .Assign [.Attribute (.Name "self" q1) f q2] (.Name f q3) q4
/-- the facts about an error class at C whose maker stands at fI -/
structure SupC (prog : Program) (K : Frag) (C fI : Addr) (qual : Str) (params : Arguments) (body : List Stmt) (scope : Scope) : Prop where
  cls : ∃ nm q N bs bm sn sub ab col dd k0 k1 k2 k3 k5, K.lookup C = some (excClassObj nm q C N bs bm true sn sub ab col dd k0 k1 k2 k3 k5 "ValueError.__new__") ∧ refsVE bm = true
  fn : ∃ (oc : Value) (od : Option Addr) (kV doc pm : Value) (an : Option Addr) (cda : Addr) (ct : Value) (osl : Array (Option Value)) (cc : Addr) (vs : Array Value) (file : Str) (tf : Tok) (ccl : Value) (cdd : Option Addr) (ccs : Array (Option Value)) (cl : Value) (cld : Option Addr) (csl : Array (Option Value)),
    K.lookup fI = some ⟨oc, od, .func (ksFn "__init__" qual params body scope .none kV doc pm an (.ref cda) ct cc), osl⟩ ∧ codeIn K (.ref cda) qual = true ∧
    K.lookup cda = some ⟨ccl, cdd, .fields vs, ccs⟩ ∧ vs[2]? = some (.str file tf) ∧ ((prog.main.file : Str) == file) = true ∧
    K.lookup cc = some ⟨cl, cld, .cell (some (.ref C)), csl⟩
  self1 : mroIn K C (.ref C) = some true
  isVE : subIn K (.ref C) (.type "ValueError") = some true
  opq : nsIn K cStatics "thirdparty.any" = some none
  sup : ks_superIn K C C "__init__" = some (some (.builtin "ValueError.__init__"))
  sa : findIn K (.ref C) "__setattr__" = some (some (.builtin "object.__setattr__"))
  iC : findIn K (.ref C) "__init__" = some (some (.ref fI))
  tC : typeIn K (.ref fI) = some (.type "function")
  top : (prog.main.scope.names.lookup ("super" : Str)).isSome = false
/-- a method-wrapper of ValueError.__init__, bound to x, called -/
theorem call_mw {prog : Program} {w : World} {A : Around} {E : Value → Shared → Prop} {h : Heap} {g : Array GenState} {d : Drawn} {t : Nat} {os : OsState}
    {nm q : Str} {C N : Addr} {bs bm : List Value} {hdct : Bool} {sn : List Str} {sub : List Value} {ab : Bool} {col : Option Bool} {dd : Option Addr} {k0 k1 k2 k3 k5 : Option Value}
    {u e t0 : Addr} {rest : List Value} {Q : Value → Shared → Prop}
    (hC : h.get? C = some (excClassObj nm q C N bs bm hdct sn sub ab col dd k0 k1 k2 k3 k5 "ValueError.__new__")) (he : h.get? e = some (excO C t0)) (hu : h.get? u = some (kxs_mw "ValueError.__init__" e)) (hrest : rest.length ≤ sizeLine)
    (hq : ∀ h' t1, (∀ b o, b ≠ e → h.get? b = some o → h'.get? b = some o) → h'.get? e = some (excO C t1) → Q .none ⟨h', g, d, t, os⟩) :
    wpAny (model prog w) A (call (.ref u) rest) Q E ⟨h, g, d, t, os⟩ := by
  refine wpAny_call (codeAny_of_tree ?_)
  show wpAny _ A.in1 (callAny (.ref u) ⟨rest, []⟩) _ _ _
  simp only [callAny]
  refine wpAny_bind (wpAny_load hu ?_)
  refine KFB.if_so (by rfl) ?_
  refine wpAny_bind (check_bound_init F.excBase_ValueError.toExcCallFacts hC he rfl ?_)
  refine wpAny_bind (wpAny_pure (wpAny_pure ?_))
  refine ⟨plainId_quiet F.excBase_ValueError.init.plain _, codeAny_builtin F.excBase_ValueError.initEntry ?_⟩
  wp_walk
  refine hq _ h.objs.size (fun b o hb ho => ?_) ?_
  · rw [Heap.get?_update_other _ _ (Ne.symm hb)]
    exact Heap.get?_push_of_some _ ho
  · rw [Heap.get?_update_self _ (Heap.get?_push_of_some _ he) rfl]
    rfl

/-- what stands behind super().__init__(..): the exception has new args, all else is kept -/
theorem sup_first {prog : Program} {w : World} {A : Around} {E : Value → Shared → Prop} {K : Frag} {C fI : Addr} {qual : Str} {body : List Stmt} {scope : Scope} {mg mb : Str → Option Value}
    {ar : Arg} {x t0 L cda cc : Addr} {m : Str → Option Value} {e0 : Expr} {es : List Expr} {a1 a2 a3 a4 a5 : Pos} {s : Shared} {Q : Flow → Shared → Prop} {fd : FuncData} {oc ccl cl : Value} {od cdd cld : Option Addr} {osl ccs csl : Array (Option Value)} {vs : Array Value} {file : Str} {tf : Tok}
    {nm q : Str} {N : Addr} {bs bm : List Value} {sn : List Str} {sub : List Value} {ab : Bool} {col : Option Bool} {dd : Option Addr} {k0 k1 k2 k3 k5 : Option Value}
    (hC : K.lookup C = some (excClassObj nm q C N bs bm true sn sub ab col dd k0 k1 k2 k3 k5 "ValueError.__new__"))
    (X : K.In s.heap) (hg : s.heap.Ns mainGlobals mg) (hb : s.heap.Ns builtinsNs mb) (hbt : ∀ y : Str, y ≠ "__name__" → mb y = bootBuiltins y) (hsu : mg "super" = none)
    (hf : K.lookup fI = some ⟨oc, od, .func fd, osl⟩) (hp : (fd.params.posonlyargs ++ fd.params.args).head? = some ar)
    (hcode : K.lookup cda = some ⟨ccl, cdd, .fields vs, ccs⟩) (hvs : vs[2]? = some (.str file tf)) (hfile : ((prog.main.file : Str) == file) = true) (hcell : K.lookup cc = some ⟨cl, cld, .cell (some (.ref C)), csl⟩)
    (self1 : mroIn K C (.ref C) = some true) (isVE : subIn K (.ref C) (.type "ValueError") = some true) (opq : nsIn K cStatics "thirdparty.any" = some none) (sup : ks_superIn K C C "__init__" = some (some (.builtin "ValueError.__init__")))
    (htop : (prog.main.scope.names.lookup ("super" : Str)).isSome = false)
    (hns : s.heap.Ns L m) (hv : m ar.arg = some (.ref x)) (hx : s.heap.get? x = some (excO C t0))
    (hks : scope.names.lookup ("super" : Str) = some .globalImplicit) (hkc : scope.names.lookup ("__class__" : Str) = some .free) (hka : scope.names.lookup ar.arg = some .local) (hk : scope.kind = .function)
    (hargs : ∀ (s1 : Shared) (Q1 : List Value → Shared → Prop), s1.heap.Ns L m → s1.heap.Ns mainGlobals mg → s1.heap.Ns builtinsNs mb → (∀ us tk, us.length ≤ 10 → Q1 us { s1 with toks := tk }) →
      wpAny (model prog w) A (spliced (backTo a4 (starEach (e0 :: es) (ksEnv qual scope L fI (.ref cda) cc)))) Q1 E s1)
    (he : starEach (e0 :: es) (ksEnv qual scope L fI (.ref cda) cc) = (false, eval e0 (ksEnv qual scope L fI (.ref cda) cc)) :: starEach es (ksEnv qual scope L fI (.ref cda) cc))
    (hpl : (backTo a4 (starEach es (ksEnv qual scope L fI (.ref cda) cc))).any (·.1) = false)
    (hi : interactive (ksEnv qual scope L fI (.ref cda) cc) = false) {pl : Sem Bool}
    (hev : eval (.Call (.Attribute (.Call (.Name "super" a1) [] [] a2) "__init__" a3) (e0 :: es) [] a4) (ksEnv qual scope L fI (.ref cda) cc) = (do
      let ov ← attributeBase (.Call (.Name "super" a1) [] [] a2) "__init__" (ksEnv qual scope L fI (.ref cda) cc) (eval (.Call (.Name "super" a1) [] [] a2) (ksEnv qual scope L fI (.ref cda) cc))
      standAt a3.atName
      let (f, first) ← holding [ov] (getMethod ov "__init__" pl)
      callWith a4 f first (backTo a4 (starEach (e0 :: es) (ksEnv qual scope L fI (.ref cda) cc))) []))
    (hsw : swapsWith (.Call (.Attribute (.Call (.Name "super" a1) [] [] a2) "__init__" a3) (e0 :: es) [] a4) none a5.line (ksEnv qual scope L fI (.ref cda) cc) = pure false)
    (h : ∀ h' tk t1, (∀ b o, b ≠ x → s.heap.get? b = some o → h'.get? b = some o) → h'.get? x = some (excO C t1) → Q .next { s with heap := h', toks := tk }) :
    _root_.PySem.wpAt (model prog w) A (.func body (ksEnv qual scope L fI (.ref cda) cc)) (exec (supS (e0 :: es) a1 a2 a3 a4 a5) (ksEnv qual scope L fI (.ref cda) cc)) Q E s := by
  have hCc : clsIn K C = some { name := nm, bases := bs, mro := .ref C :: bm, ns := N, qualname := q, hasDict := true, slotNames := sn, subclasses := sub, abstract := ab, collection := col, hasDel := false } := by unfold clsIn; rw [hC] <;> rfl
  obtain ⟨hh, g, d, t, os⟩ := s
  have hCh := X _ _ hC
  have xC : x ≠ C := by
    rintro rfl
    rw [hCh] at hx
    cases hx
  unfold supS
  refine ks_wpAt_Expr_any (ks_wpAt_MethodCall ?_ hev) hi hsw
  refine ks_wpAt_super_base (env := ksEnv qual scope L fI (.ref cda) cc) hks hkc (by decide) rfl (X _ _ hf) rfl hp rfl (X _ _ hcode) rfl hvs hfile htop ?_
  refine ks_loadName_global hk hks (loadGlobal_builtin (env := ksEnv qual scope L fI (.ref cda) cc) hg hsu hb ((hbt _ (by decide +kernel)).trans (show bootBuiltins ("super" : Str) = some (.type "super") by decide +kernel)) ⟨rfl, ?_⟩)
  refine wpAny_loadName_free hk hkc rfl ⟨_, X _ _ hcell, rfl⟩ ?_
  refine wpAny_loadName_local hk hka hns hv ?_
  refine ks_wpAny_isType_cls hCh rfl ⟨rfl, ?_⟩
  refine ks_wpAny_call_super hCh rfl hx rfl (fun c e => ?_) (looks_mroIn X self1) (fun h1 e1 k1 => ?_)
  · cases e
  have X1 : K.In h1 := X.keeps k1
  have hx1 := k1 _ _ hx
  have hI : Looks (model prog w) h1 (isInstance (.ref x) (.type "ValueError")) true := (InstAt.type (od := none) ⟨hx1, rfl, rfl, trivial⟩).andThen (looks_subIn X1 isVE)
  have hsu2 := sup
  unfold ks_superIn at hsu2
  rw [hCc] at hsu2
  refine kxs_getMethod kxs_ValueError e1 (looks_opaque X1 opq) (l₀ := .ref C :: bm) ?_ rfl X1 hsu2 hI xC (by decide) ?_
  · exact fun A Q E s k q => wpAny_bind ((looks_clsIn X1 hCc) A _ E s k (wpAny_pure q))
  have k2 : ∀ b o, h1.get? b = some o → (h1.push (kxs_mw "ValueError.__init__" x)).get? b = some o := fun b o e => Heap.get?_push_of_some _ e
  have k12 : ∀ b o, hh.get? b = some o → (h1.push (kxs_mw "ValueError.__init__" x)).get? b = some o := fun b o e => k2 b o (k1 b o e)
  have mwn : (h1.push (kxs_mw "ValueError.__init__" x)).get? h1.objs.size = some (kxs_mw "ValueError.__init__" x) := Heap.get?_push_at rfl rfl
  rw [he]
  refine kxs_callWith (i := "ValueError.__init__") (x := x) (by show (false || (backTo a4 (starEach es (ksEnv qual scope L fI (.ref cda) cc))).any (·.1)) = false; rw [hpl]; rfl) ?_
  refine evalArgs_plain ?_
  have ha := hargs ⟨h1.push (kxs_mw "ValueError.__init__" x), g, d, t + 1, os⟩ (fun vs s₁ => KxsAt "ValueError.__init__" h1.objs.size x s₁.heap ∧ wpAny (model prog w) A (call (.ref h1.objs.size) ([] ++ vs)) (fun _ => Q .next) E s₁) (hns.keeps k12) (hg.keeps k12) (hb.keeps k12) (fun us tk hl => ?_)
  · rw [he] at ha
    exact ha
  refine ⟨mwn, ?_⟩
  refine call_mw ((X.keeps k12) _ _ hC) (k12 _ _ hx) mwn (Nat.le_trans hl (by rw [sizeLine_eq]; decide)) fun h' t1 k e => ?_
  exact h h' tk t1 (fun b o hb e => k b o hb (k12 b o e)) e

/-- what the text of the maker says: everything that hangs on its written scope -/
structure SupW (prog : Program) (w : World) (params : Arguments) (scope : Scope) (qual : Str) (fs : List Str) (ok : List Value → Prop) (e0 : Expr) (es : List Expr) (a1 a2 a3 a4 a5 : Pos) : Prop where
  hk : scope.kind = .function
  co : scope.isCoroutine = false
  gen : scope.isGenerator = false
  ks : scope.names.lookup ("super" : Str) = some .globalImplicit
  kc : scope.names.lookup ("__class__" : Str) = some .free
  kse : scope.names.lookup ("self" : Str) = some .local
  kf : ∀ f ∈ fs, scope.names.lookup f = some .local
  cell : ∀ y ∈ scope.names, y.2 ≠ .cell
  par : ∃ p, (params.posonlyargs ++ params.args).head? = some p ∧ p.arg = "self"
  hi : ∀ (L fI : Addr) (cd : Value) (cc : Addr), interactive (ksEnv qual scope L fI cd cc) = false
  hev : ∀ (L fI : Addr) (cd : Value) (cc : Addr), ∃ pl : Sem Bool, eval (.Call (.Attribute (.Call (.Name "super" a1) [] [] a2) "__init__" a3) (e0 :: es) [] a4) (ksEnv qual scope L fI cd cc) = (do
      let ov ← attributeBase (.Call (.Name "super" a1) [] [] a2) "__init__" (ksEnv qual scope L fI cd cc) (eval (.Call (.Name "super" a1) [] [] a2) (ksEnv qual scope L fI cd cc))
      standAt a3.atName
      let (f, first) ← holding [ov] (getMethod ov "__init__" pl)
      callWith a4 f first (backTo a4 (starEach (e0 :: es) (ksEnv qual scope L fI cd cc))) [])
  hsw : ∀ (L fI : Addr) (cd : Value) (cc : Addr), swapsWith (.Call (.Attribute (.Call (.Name "super" a1) [] [] a2) "__init__" a3) (e0 :: es) [] a4) none a5.line (ksEnv qual scope L fI cd cc) = pure false
  hst : ∀ (L fI : Addr) (cd : Value) (cc : Addr) (f : Str) (q1 q2 q3 q4 : Pos), swapsWith (.Name f q3) (some (.Attribute (.Name "self" q1) f q2)) q4.line (ksEnv qual scope L fI cd cc) = pure false
  he : ∀ (L fI : Addr) (cd : Value) (cc : Addr), starEach (e0 :: es) (ksEnv qual scope L fI cd cc) = (false, eval e0 (ksEnv qual scope L fI cd cc)) :: starEach es (ksEnv qual scope L fI cd cc)
  hpl : ∀ (L fI : Addr) (cd : Value) (cc : Addr), (backTo a4 (starEach es (ksEnv qual scope L fI cd cc))).any (·.1) = false
  hargs : ∀ (L fI : Addr) (cd : Value) (cc : Addr) (A : Around) (E : Value → Shared → Prop) (us : List Value) (s1 : Shared) (mg mb m : Str → Option Value) (Q1 : List Value → Shared → Prop), ok us → (∀ (i : Nat) (f : Str), fs[i]? = some f → m f = us[i]?) → us.length = fs.length → mg "str" = none → s1.heap.Ns L m → s1.heap.Ns mainGlobals mg → s1.heap.Ns builtinsNs mb →
      (∀ y : Str, y ≠ "__name__" → mb y = bootBuiltins y) → (∀ ws tk, ws.length ≤ 10 → Q1 ws { s1 with toks := tk }) →
      wpAny (model prog w) A (spliced (backTo a4 (starEach (e0 :: es) (ksEnv qual scope L fI cd cc)))) Q1 E s1
/-- what a maker leaves of a fresh exception at x: its dict holds the map -/
structure InitEnd (h h' : Heap) (x C dx : Addr) (mA : Str → Option Value) : Prop where
  keep : ∀ b o, b ≠ x → h.get? b = some o → h'.get? b = some o
  obj : ∃ t1, h'.get? x = some { cls := .ref C, dict := some dx, data := .fields #[.ref t1, .none, .none, .none, .bool false, .none] }
  dbig : h.objs.size ≤ dx
  dne : dx ≠ x
  ns : h'.Ns1 dx mA
theorem ldS {M : Model} {s : Shared} {env : Env} {m : Str → Option Value} {x : Str} {pos : Pos} {v : Value} {Q : Value → Shared → Prop} {A : Around} {E : Value → Shared → Prop} (hk : env.scope.kind = .function) (hl : env.kindOf x = some .local) (hn : s.heap.Ns env.locals m) (hv : m x = some v) (h : Q v s)
    (hd : (x == ("__debug__" : Str)) = false) : wpAny M A (eval (.Name x pos) env) Q E s := wpAny_Name (wpAny_loadName_local hk hl hn hv h) hd
section
variable {prog : Program} {w : World} {A : Around} {E : Value → Shared → Prop} {K : Frag} {C fI : Addr} {qual : Str} {params : Arguments} {body : List Stmt} {scope : Scope} {mg mb : Str → Option Value} {x t0 : Addr} {s : Shared} {R : Result → Shared → Prop}
    {f f1 f2 : Str} {ok : List Value → Prop} {e0 : Expr} {es : List Expr} {a1 a2 a3 a4 a5 q1 q2 q3 q4 r1 r2 r3 r4 : Pos}
theorem kin_but {h h' : Heap} (X : K.In h) (hx : K.lookup x = none) (k : ∀ b o, b ≠ x → h.get? b = some o → h'.get? b = some o) : K.In h' := fun a o e => k a o (fun z => by rw [z, hx] at e; cases e) (X a o e)
theorem ns_but {h h' : Heap} {L : Addr} {m : Str → Option Value} (n : L ≠ x) (hn : h.Ns L m) (k : ∀ b o, b ≠ x → h.get? b = some o → h'.get? b = some o) : h'.Ns L m := by
  obtain ⟨o, es, ep, ho, r⟩ := hn
  exact ⟨o, es, ep, k _ _ n ho, r⟩
/-- one field -/
theorem sup_init1 (T : SupC prog K C fI qual params [supS (e0 :: es) a1 a2 a3 a4 a5, stoS f q1 q2 q3 q4] scope) (W : SupW prog w params scope qual [f] ok e0 es a1 a2 a3 a4 a5) (hnf : findIn K (.ref C) f = some none) (hfd : (f == ("__debug__" : Str)) = false) (hfs : f ≠ "self") {v : Value} (hok : ok [v])
    (hb : ∀ (kV doc pm : Value) (an : Option Addr) (cdv ct : Value) (cc : Addr), bindArgs (ksFn "__init__" qual params [supS (e0 :: es) a1 a2 a3 a4 a5, stoS f q1 q2 q3 q4] scope .none kV doc pm an cdv ct cc) ⟨[.ref x, v], []⟩ = pure [(("self" : Str), Value.ref x), (f, v)])
    (X : K.In s.heap) (hlim : s.heap.NoLimit) (hg : s.heap.Ns mainGlobals mg) (hbn : s.heap.Ns builtinsNs mb) (hbt : ∀ y : Str, y ≠ "__name__" → mb y = bootBuiltins y) (hsu : mg "super" = none) (hstr : mg "str" = none)
    (hx : s.heap.get? x = some (excO C t0)) (hnx : K.lookup x = none) (hroom : A.depth < recursionLimit)
    (hq : ∀ h' tk dx, InitEnd s.heap h' x C dx (fun y => if y = f then some v else none) → R (.ok (.ret .none)) { s with heap := h', toks := tk }) :
    codeAny (model prog w) A (.call (.ref fI) ⟨[.ref x, v], []⟩) R s := by
  obtain ⟨nm, q, N, bs, bm, sn, sub, ab, col, dd, k0, k1, k2, k3, k5, hC, hbm⟩ := T.cls
  obtain ⟨oc, od, kV, doc, pm, an, cda, ct, osl, cc, vs, file, tf, ccl, cdd, ccs, cl, cld, csl, hf, hcd, hcode, hvs, hfile, hcell⟩ := T.fn
  obtain ⟨par, hp, hps⟩ := W.par
  have hcl : clsIn K C = some { name := nm, bases := bs, mro := .ref C :: bm, ns := N, qualname := q, hasDict := true, slotNames := sn, subclasses := sub, abstract := ab, collection := col, hasDel := false } := by unfold clsIn; rw [hC] <;> rfl
  refine ks_codeAny_call_defAt (fd := ksFn "__init__" qual params [supS (e0 :: es) a1 a2 a3 a4 a5, stoS f q1 q2 q3 q4] scope .none kV doc pm an (.ref cda) ct cc) (binds := [(("self" : Str), Value.ref x), (f, v)]) hroom (X _ _ hf) rfl hlim (codeRec_of X hcd) rfl (BindsTo.of_eq (hb ..)) W.cell ?_ (fun h₁ hn k₁ => ?_) W.co W.gen W.hk
  · intro y hy
    rcases List.mem_cons.mp hy with rfl | hy
    · exact W.kse
    · rcases List.mem_cons.mp hy with rfl | hy
      · exact W.kf f (List.mem_cons_self)
      · cases hy
  have hmf : (fun y => List.lookup y (List.reverse [(("self" : Str), Value.ref x), (f, v)])) f = some v := by
    show List.lookup f [(f, v), (("self" : Str), Value.ref x)] = some v
    simp [List.lookup]
  have hms : (fun y => List.lookup y (List.reverse [(("self" : Str), Value.ref x), (f, v)])) ("self" : Str) = some (Value.ref x) := by
    show List.lookup ("self" : Str) [(f, v), (("self" : Str), Value.ref x)] = some (.ref x)
    have e : (("self" : Str) == f) = false := by simpa using Ne.symm hfs
    simp [List.lookup, e]
  have X₁ : K.In h₁ := X.keeps k₁
  obtain ⟨pl, hev⟩ := W.hev s.heap.objs.size fI (.ref cda) cc
  show _root_.PySem.wpAt _ _ (.func _ (ksEnv qual scope s.heap.objs.size fI (.ref cda) cc)) (execs _ (ksEnv qual scope s.heap.objs.size fI (.ref cda) cc)) _ _ _
  refine ks_wpAt_execs_cons (sup_first hC X₁ (hg.keeps k₁) (hbn.keeps k₁) hbt hsu hf hp hcode hvs hfile hcell T.self1 T.isVE T.opq T.sup T.top hn (by rw [hps]; exact hms) (k₁ _ _ hx) W.ks W.kc (by rw [hps]; exact W.kse) W.hk ?_ (W.he ..) (W.hpl ..) (W.hi ..) hev (W.hsw ..) ?_)
  · intro s1 Q1 g1 g2 g3 g4
    refine W.hargs _ _ _ _ _ _ [v] s1 mg mb _ Q1 hok (fun i f' e => ?_) rfl hstr g1 g2 g3 hbt g4
    match i, e with
    | 0, e => cases e; exact hmf
  intro h₂ tk₂ t₁ k₂ hx₂
  refine wpAt_of_wpAny ?_
  have n₂ : s.heap.objs.size ≠ x := Nat.ne_of_gt (Heap.lt_size hx)
  have k12 : ∀ b o, b ≠ x → s.heap.get? b = some o → h₂.get? b = some o := fun b o hb e => k₂ b o hb (k₁ b o e)
  have X₂ : K.In h₂ := kin_but X₁ hnx k₂
  have hn₂ : h₂.Ns s.heap.objs.size _ := ns_but n₂ hn k₂
  show wpAny _ _ (execs _ _) _ _ _
  refine wpAny_execs_cons (plainObj_wpAny_Assign_Attribute ?_ (W.hst ..))
  refine ldS W.hk (W.kf f (List.mem_cons_self)) hn₂ hmf (ldS W.hk W.kse hn₂ hms ?_ (by decide)) hfd
  refine set_plain X₂ (ox := excO C t₁) (od := none) ⟨hx₂, rfl, rfl, trivial⟩ T.sa ?_
  refine exc_osa X₂ hx₂ hcl (show refsVE (.ref C :: bm) = true from hbm) rfl hnf (fun h₃ tk₃ dx k₃ dn dne hx₃ hn₃ => ?_)
  show wpAny _ _ (execs _ _) _ _ _
  refine wpAny_execs_nil (hq h₃ tk₃ dx ⟨fun b o hb e => k₃ b o hb (k12 b o hb e), ⟨_, hx₃⟩, ?_, dne, hn₃⟩)
  exact Nat.le_of_lt (Nat.lt_of_lt_of_le hn₂.lt dn)
/-- two fields -/
theorem sup_init2 (T : SupC prog K C fI qual params [supS (e0 :: es) a1 a2 a3 a4 a5, stoS f1 q1 q2 q3 q4, stoS f2 r1 r2 r3 r4] scope) (W : SupW prog w params scope qual [f1, f2] ok e0 es a1 a2 a3 a4 a5)
    (hnf1 : findIn K (.ref C) f1 = some none) (hnf2 : findIn K (.ref C) f2 = some none) (hfd1 : (f1 == ("__debug__" : Str)) = false) (hfd2 : (f2 == ("__debug__" : Str)) = false) (hfs1 : f1 ≠ "self") (hfs2 : f2 ≠ "self") (h12 : f1 ≠ f2) {v1 v2 : Value} (hok : ok [v1, v2])
    (hb : ∀ (kV doc pm : Value) (an : Option Addr) (cdv ct : Value) (cc : Addr), bindArgs (ksFn "__init__" qual params [supS (e0 :: es) a1 a2 a3 a4 a5, stoS f1 q1 q2 q3 q4, stoS f2 r1 r2 r3 r4] scope .none kV doc pm an cdv ct cc) ⟨[.ref x, v1, v2], []⟩ = pure [(("self" : Str), Value.ref x), (f1, v1), (f2, v2)])
    (X : K.In s.heap) (hlim : s.heap.NoLimit) (hg : s.heap.Ns mainGlobals mg) (hbn : s.heap.Ns builtinsNs mb) (hbt : ∀ y : Str, y ≠ "__name__" → mb y = bootBuiltins y) (hsu : mg "super" = none) (hstr : mg "str" = none)
    (hx : s.heap.get? x = some (excO C t0)) (hnx : K.lookup x = none) (hroom : A.depth < recursionLimit)
    (hq : ∀ h' tk dx, InitEnd s.heap h' x C dx (fun y => if y = f2 then some v2 else if y = f1 then some v1 else none) → R (.ok (.ret .none)) { s with heap := h', toks := tk }) :
    codeAny (model prog w) A (.call (.ref fI) ⟨[.ref x, v1, v2], []⟩) R s := by
  obtain ⟨nm, q, N, bs, bm, sn, sub, ab, col, dd, k0, k1, k2, k3, k5, hC, hbm⟩ := T.cls
  obtain ⟨oc, od, kV, doc, pm, an, cda, ct, osl, cc, vs, file, tf, ccl, cdd, ccs, cl, cld, csl, hf, hcd, hcode, hvs, hfile, hcell⟩ := T.fn
  obtain ⟨par, hp, hps⟩ := W.par
  have hcl : clsIn K C = some { name := nm, bases := bs, mro := .ref C :: bm, ns := N, qualname := q, hasDict := true, slotNames := sn, subclasses := sub, abstract := ab, collection := col, hasDel := false } := by unfold clsIn; rw [hC] <;> rfl
  have kf1 := W.kf f1 (List.mem_cons_self)
  have kf2 := W.kf f2 (List.mem_cons_of_mem _ (List.mem_cons_self))
  refine ks_codeAny_call_defAt (fd := ksFn "__init__" qual params [supS (e0 :: es) a1 a2 a3 a4 a5, stoS f1 q1 q2 q3 q4, stoS f2 r1 r2 r3 r4] scope .none kV doc pm an (.ref cda) ct cc) (binds := [(("self" : Str), Value.ref x), (f1, v1), (f2, v2)]) hroom (X _ _ hf) rfl hlim (codeRec_of X hcd) rfl (BindsTo.of_eq (hb ..)) W.cell ?_ (fun h₁ hn k₁ => ?_) W.co W.gen W.hk
  · intro y hy
    rcases List.mem_cons.mp hy with rfl | hy
    · exact W.kse
    rcases List.mem_cons.mp hy with rfl | hy
    · exact kf1
    rcases List.mem_cons.mp hy with rfl | hy
    · exact kf2
    · cases hy
  have e12 : (f1 == f2) = false := by simpa using h12
  have es1 : (("self" : Str) == f1) = false := by simpa using Ne.symm hfs1
  have es2 : (("self" : Str) == f2) = false := by simpa using Ne.symm hfs2
  have hmf1 : (fun y => List.lookup y (List.reverse [(("self" : Str), Value.ref x), (f1, v1), (f2, v2)])) f1 = some v1 := by
    show List.lookup f1 [(f2, v2), (f1, v1), (("self" : Str), Value.ref x)] = some v1
    simp [List.lookup, e12]
  have hmf2 : (fun y => List.lookup y (List.reverse [(("self" : Str), Value.ref x), (f1, v1), (f2, v2)])) f2 = some v2 := by
    show List.lookup f2 [(f2, v2), (f1, v1), (("self" : Str), Value.ref x)] = some v2
    simp [List.lookup]
  have hms : (fun y => List.lookup y (List.reverse [(("self" : Str), Value.ref x), (f1, v1), (f2, v2)])) ("self" : Str) = some (Value.ref x) := by
    show List.lookup ("self" : Str) [(f2, v2), (f1, v1), (("self" : Str), Value.ref x)] = some (.ref x)
    simp [List.lookup, es1, es2]
  have X₁ : K.In h₁ := X.keeps k₁
  obtain ⟨pl, hev⟩ := W.hev s.heap.objs.size fI (.ref cda) cc
  show _root_.PySem.wpAt _ _ (.func _ (ksEnv qual scope s.heap.objs.size fI (.ref cda) cc)) (execs _ (ksEnv qual scope s.heap.objs.size fI (.ref cda) cc)) _ _ _
  refine ks_wpAt_execs_cons (sup_first hC X₁ (hg.keeps k₁) (hbn.keeps k₁) hbt hsu hf hp hcode hvs hfile hcell T.self1 T.isVE T.opq T.sup T.top hn (by rw [hps]; exact hms) (k₁ _ _ hx) W.ks W.kc (by rw [hps]; exact W.kse) W.hk ?_ (W.he ..) (W.hpl ..) (W.hi ..) hev (W.hsw ..) ?_)
  · intro s1 Q1 g1 g2 g3 g4
    refine W.hargs _ _ _ _ _ _ [v1, v2] s1 mg mb _ Q1 hok (fun i f' e => ?_) rfl hstr g1 g2 g3 hbt g4
    match i, e with
    | 0, e => cases e; exact hmf1
    | 1, e => cases e; exact hmf2
  intro h₂ tk₂ t₁ k₂ hx₂
  refine wpAt_of_wpAny ?_
  have n₂ : s.heap.objs.size ≠ x := Nat.ne_of_gt (Heap.lt_size hx)
  have k12 : ∀ b o, b ≠ x → s.heap.get? b = some o → h₂.get? b = some o := fun b o hb e => k₂ b o hb (k₁ b o e)
  have X₂ : K.In h₂ := kin_but X₁ hnx k₂
  have hn₂ : h₂.Ns s.heap.objs.size _ := ns_but n₂ hn k₂
  show wpAny _ _ (execs _ _) _ _ _
  refine wpAny_execs_cons (plainObj_wpAny_Assign_Attribute ?_ (W.hst ..))
  refine ldS W.hk kf1 hn₂ hmf1 (ldS W.hk W.kse hn₂ hms ?_ (by decide)) hfd1
  refine set_plain X₂ (ox := excO C t₁) (od := none) ⟨hx₂, rfl, rfl, trivial⟩ T.sa ?_
  refine exc_osa X₂ hx₂ hcl (show refsVE (.ref C :: bm) = true from hbm) rfl hnf1 (fun h₃ tk₃ dx k₃ dn dne hx₃ hn₃ => ?_)
  have X₃ : K.In h₃ := kin_but X₂ hnx k₃
  have hLd : s.heap.objs.size ≠ dx := Nat.ne_of_lt (Nat.lt_of_lt_of_le hn₂.lt dn)
  have hn₃' : h₃.Ns s.heap.objs.size _ := ns_but n₂ hn₂ k₃
  obtain ⟨od3, ho3⟩ : ∃ o, h₃.get? dx = some o := by
    obtain ⟨o, _, _, e, _⟩ := hn₃
    exact ⟨o, e⟩
  show wpAny _ _ (execs _ _) _ _ _
  refine wpAny_execs_cons (plainObj_wpAny_Assign_Attribute ?_ (W.hst ..))
  refine ldS W.hk kf2 hn₃' hmf2 (ldS W.hk W.kse hn₃' hms ?_ (by decide)) hfd2
  refine set_plain X₃ (ox := { cls := .ref C, dict := some dx, data := .fields #[.ref t₁, .none, .none, .none, .bool false, .none] }) (od := some od3) ⟨hx₃, rfl, rfl, ho3⟩ T.sa ?_
  refine PySem.OEX.osa_old X₃ hx₃ hn₃ (nl := [f1]) (fun y hy => ?_) (by show 1 ≤ 1000; decide) hcl (show refsVE (.ref C :: bm) = true from hbm) rfl hnf2 (fun h₄ tk₄ k₄ hn₄ => ?_)
  · by_cases e : y = f1
    · rw [e]; exact List.mem_cons_self
    · exact absurd (if_neg e) hy
  show wpAny _ _ (execs _ _) _ _ _
  have hbig : s.heap.objs.size ≤ dx := Nat.le_of_lt (Nat.lt_of_lt_of_le hn₂.lt dn)
  refine wpAny_execs_nil (hq h₄ tk₄ dx ⟨fun b o hb e => k₄ b o (Nat.ne_of_lt (Nat.lt_of_lt_of_le (Heap.lt_size e) hbig)) (k₃ b o hb (k12 b o hb e)), ⟨_, k₄ _ _ (Ne.symm dne) hx₃⟩, hbig, dne, hn₄⟩)
end
/-- an error that is made -/
structure Made (h h' : Heap) (e C d : Addr) (mA : Str → Option Value) : Prop where
  keep : ∀ b o, h.get? b = some o → h'.get? b = some o
  new : h.objs.size ≤ e
  obj : ∃ t1 : Addr, h'.get? e = some { cls := .ref C, dict := some d, data := .fields #[.ref t1, .none, .none, .none, .bool false, .none] }
  dbig : h.objs.size ≤ d
  dne : d ≠ e
  ns : h'.Ns1 d mA
/-- the class at C makes errors of these fields -/
structure Makes (prog : Program) (w : World) (K : Frag) (mg : Str → Option Value) (C : Addr) (fs : List Str) (ok : List Value → Prop) : Prop where
  kC : keepIn K (.ref C) = true
  exC : subIn K (.ref C) (.type "BaseException") = some true
  tyC : typeIn K (.ref C) = some (.type "type")
  run : ∀ (A : Around) (s : Shared) (us : List Value) (mb : Str → Option Value) (R : Result → Shared → Prop), us.length = fs.length → ok us → K.In s.heap → s.heap.NoLimit → s.heap.Ns mainGlobals mg → s.heap.Ns builtinsNs mb → (∀ y : Str, y ≠ "__name__" → mb y = bootBuiltins y) →
    A.depth + 1 < recursionLimit → (∀ h' tk e d mA, (∀ f : Str, mA f = (fs.zip us).lookup f) → Made s.heap h' e C d mA → R (.ok (.ret (.ref e))) { s with heap := h', toks := tk }) → codeAny (model prog w) A (.call (.ref C) ⟨us, []⟩) R s
/-- from the maker to the class -/
theorem made_of {prog : Program} {w : World} {A : Around} {K : Frag} {C fI : Addr} {s : Shared} {us : List Value} {mA : Str → Option Value} {R : Result → Shared → Prop} {nm q : Str} {N : Addr} {bs bm : List Value} {sn : List Str} {sub : List Value} {ab : Bool} {col : Option Bool} {dd : Option Addr} {k0 k1 k2 k3 k5 : Option Value}
    (hC : K.lookup C = some (excClassObj nm q C N bs bm true sn sub ab col dd k0 k1 k2 k3 k5 "ValueError.__new__")) (hbm : refsVE bm = true) (iC : findIn K (.ref C) "__init__" = some (some (.ref fI))) (tC : typeIn K (.ref fI) = some (.type "function")) (hus : us.length ≤ 10)
    (X : K.In s.heap) (hlim : s.heap.NoLimit)
    (hin : ∀ (A' : Around) (s' : Shared) (x t0 : Addr) (R' : Result → Shared → Prop), A'.depth = A.depth + 1 → (∀ b o, s.heap.get? b = some o → s'.heap.get? b = some o) → s'.heap.get? x = some (excO C t0) → K.lookup x = none →
      (∀ h' tk dx, InitEnd s'.heap h' x C dx mA → R' (.ok (.ret .none)) { s' with heap := h', toks := tk }) → codeAny (model prog w) A' (.call (.ref fI) ⟨.ref x :: us, []⟩) R' s')
    (hq : ∀ h' tk e d, Made s.heap h' e C d mA → R (.ok (.ret (.ref e))) { s with heap := h', toks := tk }) :
    codeAny (model prog w) A (.call (.ref C) ⟨us, []⟩) R s := by
  obtain ⟨hp, g, dr, tk, os⟩ := s
  have k : ∀ b o, hp.get? b = some o → ((hp.push (kdv_tup us)).push (excO C hp.objs.size)).get? b = some o := fun b o e => Heap.get?_push_of_some _ (Heap.get?_push_of_some _ e)
  have hget : ((hp.push (kdv_tup us)).push (excO C hp.objs.size)).get? (hp.objs.size + 1) = some (excO C hp.objs.size) := by heap_get
  have hnx : K.lookup (hp.objs.size + 1) = none := by
    cases e : K.lookup (hp.objs.size + 1) with
    | none => rfl
    | some o =>
      have z : hp.get? (hp.objs.size + 1) = some o := X _ _ e
      exact absurd (Nat.lt_of_succ_lt (Heap.lt_size z)) (Nat.lt_irrefl _)
  refine call_own F.excBase_ValueError (fun X => refsVE_contains X bm hbm) (X _ _ hC) (looks_findIn X iC) (fun self => bind_fn X self tC) (Nat.le_trans hus (by rw [sizeLine_eq]; decide)) ?_
  refine hin (A.under (.builtin "type.__call__" ⟨.ref C :: us, []⟩)) ⟨(hp.push (kdv_tup us)).push (excO C hp.objs.size), g, dr, tk, os⟩ (hp.objs.size + 1) hp.objs.size _ rfl k hget hnx fun h' tk' dx ⟨k', hx, dn, dne, hns⟩ => ?_
  have old : ∀ b o, hp.get? b = some o → h'.get? b = some o := fun b o e => k' b o (Nat.ne_of_lt (Nat.lt_succ_of_lt (Heap.lt_size e))) (k b o e)
  have z : hp.objs.size + 1 + 1 ≤ dx := by
    first
      | (simpa only [Heap.size_push] using dn)
      | exact dn
      | (have q := dn; rw [Heap.size_push, Heap.size_push] at q; exact q)
  obtain ⟨t1, hx⟩ := hx
  exact ⟨rfl, hq h' tk' (hp.objs.size + 1) dx ⟨old, Nat.le_succ _, ⟨t1, hx⟩, Nat.le_trans (Nat.le_trans (Nat.le_succ _) (Nat.le_succ _)) z, dne, hns⟩⟩
section
variable {prog : Program} {w : World} {K : Frag} {C fI : Addr} {qual : Str} {params : Arguments} {scope : Scope} {mg : Str → Option Value} {f f1 f2 : Str} {ok : List Value → Prop} {e0 : Expr} {es : List Expr} {a1 a2 a3 a4 a5 q1 q2 q3 q4 r1 r2 r3 r4 : Pos}
theorem makes1 (T : SupC prog K C fI qual params [supS (e0 :: es) a1 a2 a3 a4 a5, stoS f q1 q2 q3 q4] scope) (W : SupW prog w params scope qual [f] ok e0 es a1 a2 a3 a4 a5) (kC : keepIn K (.ref C) = true) (exC : subIn K (.ref C) (.type "BaseException") = some true) (tyC : typeIn K (.ref C) = some (.type "type"))
    (hnf : findIn K (.ref C) f = some none) (hfd : (f == ("__debug__" : Str)) = false) (hfs : f ≠ "self") (hsu : mg "super" = none) (hstr : mg "str" = none)
    (hb : ∀ (x : Addr) (v : Value) (kV doc pm : Value) (an : Option Addr) (cdv ct : Value) (cc : Addr), bindArgs (ksFn "__init__" qual params [supS (e0 :: es) a1 a2 a3 a4 a5, stoS f q1 q2 q3 q4] scope .none kV doc pm an cdv ct cc) ⟨[.ref x, v], []⟩ = pure [(("self" : Str), Value.ref x), (f, v)]) :
    Makes prog w K mg C [f] ok where
  kC := kC
  exC := exC
  tyC := tyC
  run := fun A s us mb R hl hok X hlim hg hbn hbt hroom hq => by
    obtain ⟨nm, q, N, bs, bm, sn, sub, ab, col, dd, k0, k1, k2, k3, k5, hC, hbm⟩ := T.cls
    match us, hl with
    | [v], _ =>
      refine made_of (mA := fun y => if y = f then some v else none) hC hbm T.iC T.tC (by show 1 ≤ 10; decide) X hlim (fun A' s' x t0 R' hd k hx hnx h' => ?_) fun h' tk e d M => hq h' tk e d _ (fun g => ?_) M
      · exact sup_init1 T W hnf hfd hfs hok (hb x v) (X.keeps k) (hlim.keeps k) (hg.keeps k) (hbn.keeps k) hbt hsu hstr hx hnx (by rw [hd]; exact hroom) h'
      · by_cases e : g = f
        · subst e; simp [List.zip]
        · have e2 : (g == f) = false := by simpa using e
          simp [List.zip, List.lookup, e, e2]
theorem makes2 (T : SupC prog K C fI qual params [supS (e0 :: es) a1 a2 a3 a4 a5, stoS f1 q1 q2 q3 q4, stoS f2 r1 r2 r3 r4] scope) (W : SupW prog w params scope qual [f1, f2] ok e0 es a1 a2 a3 a4 a5) (kC : keepIn K (.ref C) = true) (exC : subIn K (.ref C) (.type "BaseException") = some true) (tyC : typeIn K (.ref C) = some (.type "type"))
    (hnf1 : findIn K (.ref C) f1 = some none) (hnf2 : findIn K (.ref C) f2 = some none) (hfd1 : (f1 == ("__debug__" : Str)) = false) (hfd2 : (f2 == ("__debug__" : Str)) = false) (hfs1 : f1 ≠ "self") (hfs2 : f2 ≠ "self") (h12 : f1 ≠ f2) (hsu : mg "super" = none) (hstr : mg "str" = none)
    (hb : ∀ (x : Addr) (v1 v2 : Value) (kV doc pm : Value) (an : Option Addr) (cdv ct : Value) (cc : Addr), bindArgs (ksFn "__init__" qual params [supS (e0 :: es) a1 a2 a3 a4 a5, stoS f1 q1 q2 q3 q4, stoS f2 r1 r2 r3 r4] scope .none kV doc pm an cdv ct cc) ⟨[.ref x, v1, v2], []⟩ = pure [(("self" : Str), Value.ref x), (f1, v1), (f2, v2)]) :
    Makes prog w K mg C [f1, f2] ok where
  kC := kC
  exC := exC
  tyC := tyC
  run := fun A s us mb R hl hok X hlim hg hbn hbt hroom hq => by
    obtain ⟨nm, q, N, bs, bm, sn, sub, ab, col, dd, k0, k1, k2, k3, k5, hC, hbm⟩ := T.cls
    match us, hl with
    | [v1, v2], _ =>
      refine made_of (mA := fun y => if y = f2 then some v2 else if y = f1 then some v1 else none) hC hbm T.iC T.tC (by show 2 ≤ 10; decide) X hlim (fun A' s' x t0 R' hd k hx hnx h' => ?_) fun h' tk e d M => hq h' tk e d _ (fun g => ?_) M
      · exact sup_init2 T W hnf1 hnf2 hfd1 hfd2 hfs1 hfs2 h12 hok (hb x v1 v2) (X.keeps k) (hlim.keeps k) (hg.keeps k) (hbn.keeps k) hbt hsu hstr hx hnx (by rw [hd]; exact hroom) h'
      · by_cases e : g = f2
        · subst e
          have e2 : (g == f1) = false := by simpa using Ne.symm h12
          simp [List.zip, List.lookup, e2]
        · have e2 : (g == f2) = false := by simpa using e
          by_cases e1 : g = f1
          · subst e1; simp [List.zip, List.lookup, e]
          · have e3 : (g == f1) = false := by simpa using e1
            simp [List.zip, List.lookup, e, e1, e2, e3]
end
end ErrL
end PySem

namespace L2
open PySem PySem.Spec PyProof.Rows
theorem relO_zip : ∀ {fs : List Str} {vs : List V} {us : List Value}, Vals vs us → ∀ f, RelO (List.lookup f (fs.zip vs)) (List.lookup f (fs.zip us))
  | [], vs, us, r, f => by simp [List.zip, RelO]
  | g :: fs, [], _, .nil, f => by simp [List.zip, RelO]
  | g :: fs, v :: vs, u :: us, .cons rv r, f => by
    by_cases e : f = g
    · subst e
      have q : RelO (some v) (some u) := rv
      simpa [List.zip, List.lookup] using q
    · have e2 : (f == g) = false := by simpa using e
      have ih := relO_zip (fs := fs) r f
      simpa [List.zip, List.lookup, e2] using ih
section
variable {X : Cx} {C : Addr} {fs : List Str} {ok : List Value → Prop}
/-- X(e, ..): a new error; okV says that the values may be written into its args -/
def tMkErr (C : Addr) (fs : List Str) (okV : List V → Prop) (ta : TA) : St → Hp → XK → Prop := fun σ H Q => ta σ H fun vs H1 => vs.length = fs.length ∧ okV vs ∧ ∀ d, H1 d = none → Q (.ref C) (some d) (upd H1 d (.xd (fs.zip vs)))
theorem pmk_err {x : Str} {e : Expr} {es : List Expr} {ta : TA} {p pos : Pos} {k : Nat} {okV : List V → Prop} (T : PySem.ErrL.Makes X.prog X.w X.K X.mg C fs ok) (hok : ∀ vs us, Vals vs us → okV vs → ok us) (gC : X.mg x = some (.ref C)) (hr : Room k X.A) (ha : PA X (e :: es) ta) (hg : Gl X x := by rfl)
    (hdb : (x == ("__debug__" : Str)) = false := by decide) (he : starEach (e :: es) X.env = (false, eval e X.env) :: starEach es X.env := by rfl) (hpl : (backTo pos (starEach es X.env)).any (·.1) = false := by rfl) :
    PMk X (.Call (.Name x p) (e :: es) [] pos) (tMkErr C fs okV ta) := by
  intro pins s σ H Q I h
  refine wpAny_Call_Name_kw (ld_glob I hg gC ?_ hdb)
  refine PySem.W.callWith_K (h₀ := X.base) I.ok.mod.kin T.kC (thn (ha.run pos pins s σ H _ I h) fun us s1 hh => ?_) he hpl
  obtain ⟨vs, H1, I1, r1, hl, hov, q1⟩ := hh
  refine ⟨I1.kIn, ?_⟩
  show wpAny _ _ (call (.ref C) us) _ _ _
  obtain ⟨mb, hmb, hbt⟩ := I1.mod.blt
  have hlim := I1.nolimit
  have hgl := I1.mod.glob.keeps I1.bk
  have hbl := hmb.keeps I1.bk
  have kin := I1.kIn
  obtain ⟨hp, g, dr, tk, os⟩ := s1
  refine wpAny_call (T.run _ _ us mb _ (by rw [← hl]; exact (Vals.length r1).symm) (hok vs us r1 hov) kin hlim hgl hbl hbt (by have := hr.dp; omega) fun h' tk' e d mA hmA M => ?_)
  show MkP X pins σ Q (.ref e) ⟨h', g, dr, tk', os⟩
  obtain ⟨t1, hoe⟩ := M.obj
  have hns := M.ns
  obtain ⟨G', g1, g2⟩ := restrict h' fun b => decide (b ≠ e)
  have gk : ∀ b, b ≠ e → G'.get? b = h'.get? b := fun b hb => g1 b (decide_eq_true hb)
  have ge : G'.get? e = none := g2 e (by simp)
  have old : ∀ b o, hp.get? b = some o → G'.get? b = some o := fun b o q => (gk b (Nat.ne_of_lt (Nat.lt_of_lt_of_le (Heap.lt_size q) M.new))).trans (M.keep b o q)
  have ob : ObjOk X.prog X.w (upd H1 d (.xd (fs.zip vs))) G' d (.xd (fs.zip vs)) :=
    ⟨_, hns.at (fun o q => (gk d M.dne).trans q), fun f => by rw [hmA]; exact relO_zip r1 f⟩
  have J : Inv X pins σ (upd H1 d (.xd (fs.zip vs))) ⟨G', g, dr, tk', os⟩ := I1.laid (t' := tk') old M.dbig ob
  refine ⟨e, _, _, ⟨G', g, dr, tk', os⟩, _, .ref C, some d, rfl, J, fun b o q => ?_, ge, hoe, ⟨rfl, rfl⟩, rfl, rfl, ?_, rfl, I1.bare, raises_own T.exC T.tyC, q1 d (I1.hok.fresh M.dbig)⟩
  · by_cases hb : b = e
    · have q' : G'.get? b = some o := q
      rw [hb, ge] at q'; cases q'
    · exact (gk b hb).symm.trans q
  · rw [upd_ne (Ne.symm M.dne)]
    exact I1.hok.fresh M.new
/-- raise X(e, ..) -/
def tRaiseErr (C : Addr) (fs : List Str) (okV : List V → Prop) (W : WX) (ta : TA) : TS := fun _ σ H => tMkErr C fs okV ta σ H fun cls d H' => W cls d σ H'
theorem ps_raiseErr {W : WX} {x : Str} {e : Expr} {es : List Expr} {ta : TA} {p pos pos2 : Pos} {k : Nat} {okV : List V → Prop} (hc : X.calm = true) (T : PySem.ErrL.Makes X.prog X.w X.K X.mg C fs ok) (hok : ∀ vs us, Vals vs us → okV vs → ok us) (gC : X.mg x = some (.ref C)) (hr : Room k X.A) (tk : Takes X W) (ha : PA X (e :: es) ta) (hg : Gl X x := by rfl)
    (hdb : (x == ("__debug__" : Str)) = false := by decide) (he : starEach (e :: es) X.env = (false, eval e X.env) :: starEach es X.env := by rfl) (hpl : (backTo pos (starEach es X.env)).any (·.1) = false := by rfl) :
    PS X (.Raise (some (.Call (.Name x p) (e :: es) [] pos)) none pos2) (tRaiseErr C fs okV W ta) := ps_raise hc tk (pmk_err T hok gC hr ha hg hdb he hpl)
end
end L2
set_option Elab.async false
set_option linter.all false
set_option maxRecDepth 100000
set_option maxHeartbeats 4000000
namespace PySem
namespace ErrL
open PySem.W PySem.Calls PyProof.Rows PySem.HandSPX
section
variable {prog : Program} {w : World} {params : Arguments} {scope : Scope} {qual : Str} {f f1 f2 : Str} {a1 a2 a3 a4 a5 p0 p1 p2 p3 : Pos} {j0 : Nat} {z : Str}
theorem args_c (hk : scope.kind = .function) (L fI : Addr) (cd : Value) (cc : Addr) (A : Around) (E : Value → Shared → Prop) (s1 : Shared) (Q1 : List Value → Shared → Prop) (h : ∀ (ws : List Value) tk, ws.length ≤ 10 → Q1 ws { s1 with toks := tk }) :
    wpAny (model prog w) A (spliced (backTo a4 (starEach [.Constant (.str z) j0 p0] (ksEnv qual scope L fI cd cc)))) Q1 E s1 := by
  show wpAny _ _ (spliced [(false, eval (.Constant (.str z) j0 p0) (ksEnv qual scope L fI cd cc))]) _ _ _
  exact spliced_cons (wpAny_Constant_str (spliced_nil (h _ _ (by show 1 ≤ 10; decide))))
theorem args_cn (hk : scope.kind = .function) (kf : scope.names.lookup f = some .local) (hfd : (f == ("__debug__" : Str)) = false) (L fI : Addr) (cd : Value) (cc : Addr) (A : Around) (E : Value → Shared → Prop) (v : Value) (s1 : Shared) (m : Str → Option Value) (Q1 : List Value → Shared → Prop)
    (hm : m f = some v) (hn : s1.heap.Ns L m) (h : ∀ (ws : List Value) tk, ws.length ≤ 10 → Q1 ws { s1 with toks := tk }) :
    wpAny (model prog w) A (spliced (backTo a4 (starEach [.Constant (.str z) j0 p0, .Name f p1] (ksEnv qual scope L fI cd cc)))) Q1 E s1 := by
  show wpAny _ _ (spliced [(false, eval (.Constant (.str z) j0 p0) (ksEnv qual scope L fI cd cc)), (false, eval (.Name f p1) (ksEnv qual scope L fI cd cc))]) _ _ _
  refine spliced_cons (wpAny_Constant_str (spliced_cons ?_))
  exact ldS hk kf hn hm (spliced_nil (h _ _ (by show 2 ≤ 10; decide))) hfd
theorem args_csn (hk : scope.kind = .function) (kf1 : scope.names.lookup f1 = some .local) (kf2 : scope.names.lookup f2 = some .local) (kstr : scope.names.lookup ("str" : Str) = some .globalImplicit) (hfd1 : (f1 == ("__debug__" : Str)) = false) (hfd2 : (f2 == ("__debug__" : Str)) = false)
    (L fI : Addr) (cd : Value) (cc : Addr) (A : Around) (E : Value → Shared → Prop) (i : Int) (t : Tok) (v2 : Value) (s1 : Shared) (m mg mb : Str → Option Value) (Q1 : List Value → Shared → Prop) (hi : i.natAbs.log2 < 1920)
    (hm1 : m f1 = some (.int i t)) (hm2 : m f2 = some v2) (hstr : mg "str" = none) (hn : s1.heap.Ns L m) (hg : s1.heap.Ns mainGlobals mg) (hb : s1.heap.Ns builtinsNs mb) (hbt : ∀ y : Str, y ≠ "__name__" → mb y = bootBuiltins y) (h : ∀ (ws : List Value) tk, ws.length ≤ 10 → Q1 ws { s1 with toks := tk })
    (he1 : starEach [.Name f1 p2] (ksEnv qual scope L fI cd cc) = (false, eval (.Name f1 p2) (ksEnv qual scope L fI cd cc)) :: starEach [] (ksEnv qual scope L fI cd cc)) :
    wpAny (model prog w) A (spliced (backTo a4 (starEach [.Constant (.str z) j0 p0, .Call (.Name "str" p1) [.Name f1 p2] [] p3, .Name f2 a5] (ksEnv qual scope L fI cd cc)))) Q1 E s1 := by
  show wpAny _ _ (spliced [(false, eval (.Constant (.str z) j0 p0) (ksEnv qual scope L fI cd cc)), (false, eval (.Call (.Name "str" p1) [.Name f1 p2] [] p3) (ksEnv qual scope L fI cd cc)), (false, eval (.Name f2 a5) (ksEnv qual scope L fI cd cc))]) _ _ _
  refine spliced_cons (wpAny_Constant_str (spliced_cons ?_))
  refine wpAny_Call_Name_kw ?_
  refine wpAny_Name ?_ (by decide)
  refine ks_loadName_global hk kstr (loadGlobal_builtin (env := ksEnv qual scope L fI cd cc) hg hstr hb ((hbt _ (by decide +kernel)).trans (show bootBuiltins ("str" : Str) = some (.type "str") by decide +kernel)) ?_)
  refine PyProof.Rows.callWith_type1 ?_ he1 rfl
  show wpAny _ _ (spliced [(false, eval (.Name f1 p2) (ksEnv qual scope L fI cd cc))]) _ _ _
  refine spliced_cons (ldS hk kf1 hn hm1 (spliced_nil ?_) hfd1)
  refine PySem.P.str_of_int hi (spliced_cons ?_)
  exact ldS hk kf2 hn hm2 (spliced_nil (h _ _ (by show 3 ≤ 10; decide))) hfd2
end
end ErrL
end PySem
set_option Elab.async false
set_option linter.all false
set_option maxRecDepth 100000
set_option maxHeartbeats 4000000
/-! isinstance of a caught error that has its own dict -/
namespace PySem.ErrL
open PySem PySem.W PySem.Spec PySem.Calls PyProof.Rows
section
variable {prog : Program} {w : World} {A : Around} {E : Value → Shared → Prop} {s : Shared} {K : Frag} {x D : Addr} {ox : Obj} {od : Option Obj}
theorem find_cls (hd : hasDictIn K D = true) (ha : findIn K (.ref D) "__class__" = some (some (.builtin "object.__class__"))) (hn : specialIn K (.builtin "object.__class__") "__get__" = some (some (.builtin "getset_descriptor.__get__"))) (ht : takesIn K (.builtin "object.__class__") = some true) :
    findObj K D od "__class__" = some (.bind (.builtin "getset_descriptor.__get__") (.builtin "object.__class__")) := by
  obtain ⟨cd, hc, _⟩ := any_some hd
  unfold findObj
  rw [hc, Option.bind_some, ha, Option.bind_some]
  simp [hn, ht]
/-- e.__class__, e an error with its dict -/
theorem cls_of (T : L2.ExcC K D) {Q : Option Value → Shared → Prop} (X : K.In s.heap) (I : InstAt s.heap x ox D od) (h : Q (some (.ref D)) { s with toks := s.toks + 1 }) : wpAny (model prog w) A (getAttr? (.ref x) "__class__") Q E s := by
  have hf := find_cls (od := od) T.hd T.ha T.hn T.ht
  obtain ⟨hp, g, d, t, os⟩ := s
  have ty := I.type (M := model prog w); have l1 := looks_findIn (M := model prog w) X T.hg; have l2 := looks_findIn (M := model prog w) X T.hk
  have l3 := looks_find (M := model prog w) X I hf; have sb : Looks (model prog w) hp (isInstance (.ref x) (.type "BaseException")) true := ty.andThen (looks_subIn X T.hs)
  have n2 : (Value.builtin "BaseException.__getattribute__" == Value.builtin "object.__getattribute__") = false := by decide +kernel
  have n1 : (onTheHeap (Value.ref D) && Value.builtin "BaseException.__getattribute__" == Value.builtin "object.__getattribute__") = false := (by rw [n2]; rfl)
  unfold getAttr? getAttrBy? getAttrBy
  refine wpAny_bind (wpAny_mkText (wpAny_bind (wpAny_attempt (wpAny_holding (wpAny_bind (ty.at (wpAny_bind (l1.at ?_))))))))
  show wpAny _ _ (if (onTheHeap (Value.ref D) && Value.builtin "BaseException.__getattribute__" == Value.builtin "object.__getattribute__") = true then _ else _) _ _ _
  rw [n1, if_neg Bool.false_ne_true]; unfold getAttrByItsOwn hookBefore
  refine wpAny_bind ?_
  rw [if_pos (show onTheHeap (Value.ref D) = true from rfl)]
  refine l2.at (wpAny_bind (wpAny_attempt (wpAny_holding ?_)))
  unfold callGetattribute
  rw [show (false && onTheHeap (Value.builtin "BaseException.__getattribute__")) = false from rfl, if_neg Bool.false_ne_true]; unfold boundAndCalled; rw [PySem.F.excAttr_ValueError.ga.bind (.ref x)]
  refine wpAny_bind (wpAny_pure ?_)
  show wpAny _ _ (call (.builtin "BaseException.__getattribute__") [.ref x, .str "__class__" t]) _ _ _
  refine wpAny_call (codeAny_call_builtin PySem.F.excAttr_ValueError.ga.plain PySem.F.entry_bexc_ga (@check_slot (model prog w) _ _ ⟨hp, g, d, t + 1, os⟩ "BaseException.__getattribute__" "BaseException" "__getattribute__" (.ref x) [.str "__class__" t] [] _ (by decide +kernel) (by decide +kernel) sb (PySem.F.args_bexc_ga (.ref x) (.str "__class__" t)) ?_))
  unfold Builtin.«object.__getattribute__»
  refine wpAny_bind (wpAny_of_eq (a := ((Value.ref x : Value), [Value.str "__class__" t])) (by first | rfl | (simp only [slotArgs]; rfl)) (wpAny_bind (wpAny_pure (wpAny_bind (ty.at (wpAny_bind (l3.at ?_)))))))
  show wpAny _ _ (holding [Value.builtin "object.__class__"] (call (.builtin "getset_descriptor.__get__") [.builtin "object.__class__", .ref x, .ref D]) >>= ret) _ _ _
  refine wpAny_bind (wpAny_holding (wpAny_call (class_get (s := ⟨hp, g, d, t + 1, os⟩) (ox := ox) (od := od) X I T.hm (wpAny_pure ?_))))
  show wpAny _ _ (handedOut (.ref D)) _ _ _
  rw [handedOut_of (v := .ref D) rfl]
  first
    | exact wpAny_pure (wpAny_pure h)
    | exact wpAny_pure h
    | exact wpAny_pure (wpAny_bind (wpAny_pure (wpAny_pure h)))
theorem kitx_err (T : L2.ExcC K D) : KitX K (.ref x) (.ref D) (fun h => InstAt h x ox D od) where
  ty := fun _ _ _ I => I.type
  it := fun M h X I => by
    obtain ⟨cd, hc, _⟩ := any_some T.hd
    unfold clsIn at hc
    split at hc
    · rename_i c' d' cd' sl' ho
      intro A' Q' E' s' k q; unfold isType loadHead; exact wpAny_bind (wpAny_loadPart (k _ _ (X _ _ ho)) (wpAny_pure q))
    · cases hc
  ne := (handS_kitx_exc (x := x) (ox := ox) T.hg T.hk T.hs T.hd T.ha T.hn T.ht T.hm).ne
  ca := fun X I k => cls_of T X I k
end
end PySem.ErrL
namespace L2
open PySem PySem.Spec PyProof.Rows
theorem ExcC.xf {K : PySem.W.Frag} {C : Addr} (T : ExcC K C) : XfC K C := ⟨T.hg, T.hk, T.hs, T.hd⟩
/-- isinstance(e, c), e the error that the suite holds, its dict at dd -/
def rIsErr (K : PySem.W.Frag) (cls : Value) (d : Option Addr) (a : Addr) : List V → Hp → VK → Prop := fun xs H Q => ∃ (c : V) (cv : Value) (b : Bool) (D dd : Addr) (fs : List (Str × V)), xs = [.ref a, c] ∧ cls = .ref D ∧ d = some dd ∧ H dd = some (.xd fs) ∧ ExcC K D ∧ ClsV c cv ∧ PySem.W.kitOne K (.ref D) cv = some b ∧ Q (.bl b) H
theorem call_isErr {X : Cx} {a : Addr} {cls : Value} {d : Option Addr} {oe : Obj} {pn : List (Addr × Obj)} (hz : Zc cls d oe) (hf : ∃ vs, oe.data = .fields vs) : CallR (X.suite a ((a, oe) :: pn)) (.builtin "isinstance") (rIsErr X.K cls d a) := by
  intro pins s σ H xs us Q I r h
  obtain ⟨c, cv, b, D, dd, fs, rfl, rfl, rfl, hdd, T, hcv, e, q⟩ := h
  obtain ⟨u1, u2, rfl, r1, r2⟩ := vals2 r
  obtain rfl : u1 = Value.ref a := r1
  have ec := hcv.eq r2
  subst ec
  obtain ⟨hget, _⟩ := I.pin (a, oe) (List.mem_append.mpr (.inl List.mem_cons_self))
  obtain ⟨vs, hv⟩ := hf
  obtain ⟨mA, hns, _⟩ := (show ObjOk X.prog X.w H s.heap dd (.xd fs) from I.hok dd _ hdd)
  obtain ⟨o', es, ep, ho, _⟩ := hns
  have J : PySem.W.InstAt s.heap a oe D (some o') := ⟨hget, hz.1, by unfold PySem.W.notCls; rw [hv] <;> rfl, by rw [hz.2]; exact ho⟩
  exact PySem.W.kia_one (PySem.ErrL.kitx_err T) I.kIn J e (fun z => nomatch z) fun tk => ⟨.bl b, H, I.kept (t' := tk) fun _ _ z => z, rfl, q⟩
theorem call_isErrK {X : Cx} {K : PySem.W.Frag} {a : Addr} {cls : Value} {d : Option Addr} {oe : Obj} {pn : List (Addr × Obj)} (h : X.K = K) (hz : Zc cls d oe) (hf : ∃ vs, oe.data = .fields vs) : CallR (X.suite a ((a, oe) :: pn)) (.builtin "isinstance") (rIsErr K cls d a) := h ▸ call_isErr hz hf
/-- .. with a dict or without -/
def rIsErr2 (K : PySem.W.Frag) (cls : Value) (d : Option Addr) (a : Addr) : List V → Hp → VK → Prop := fun xs H Q => ∃ (c : V) (cv : Value) (b : Bool) (D : Addr), xs = [.ref a, c] ∧ cls = .ref D ∧ (∀ dd, d = some dd → ∃ fs, H dd = some (.xd fs)) ∧ ExcC K D ∧ ClsV c cv ∧ PySem.W.kitOne K (.ref D) cv = some b ∧ Q (.bl b) H
theorem call_isErr2 {X : Cx} {a : Addr} {cls : Value} {d : Option Addr} {oe : Obj} {pn : List (Addr × Obj)} (hz : Zc cls d oe) (hf : ∃ vs, oe.data = .fields vs) : CallR (X.suite a ((a, oe) :: pn)) (.builtin "isinstance") (rIsErr2 X.K cls d a) := by
  intro pins s σ H xs us Q I r h
  obtain ⟨c, cv, b, D, rfl, rfl, hdd, T, hcv, e, q⟩ := h
  obtain ⟨u1, u2, rfl, r1, r2⟩ := vals2 r
  obtain rfl : u1 = Value.ref a := r1
  have ec := hcv.eq r2
  subst ec
  obtain ⟨hget, _⟩ := I.pin (a, oe) (List.mem_append.mpr (.inl List.mem_cons_self))
  obtain ⟨vs, hv⟩ := hf
  have J : ∃ od : Option Obj, PySem.W.InstAt s.heap a oe D od := by
    cases d with
    | none => exact ⟨none, hget, hz.1, by unfold PySem.W.notCls; rw [hv] <;> rfl, by rw [hz.2]; exact trivial⟩
    | some dd =>
      obtain ⟨fs, h⟩ := hdd dd rfl
      obtain ⟨mA, hns, _⟩ := (show ObjOk X.prog X.w H s.heap dd (.xd fs) from I.hok dd _ h)
      obtain ⟨o', es, ep, ho, _⟩ := hns
      exact ⟨some o', hget, hz.1, by unfold PySem.W.notCls; rw [hv] <;> rfl, by rw [hz.2]; exact ho⟩
  obtain ⟨od, J⟩ := J
  exact PySem.W.kia_one (PySem.ErrL.kitx_err T) I.kIn J e (fun z => nomatch z) fun tk => ⟨.bl b, H, I.kept (t' := tk) fun _ _ z => z, rfl, q⟩
theorem call_isErr2K {X : Cx} {K : PySem.W.Frag} {a : Addr} {cls : Value} {d : Option Addr} {oe : Obj} {pn : List (Addr × Obj)} (h : X.K = K) (hz : Zc cls d oe) (hf : ∃ vs, oe.data = .fields vs) : CallR (X.suite a ((a, oe) :: pn)) (.builtin "isinstance") (rIsErr2 K cls d a) := h ▸ call_isErr2 hz hf
end L2
set_option Elab.async false
set_option linter.all false
set_option maxRecDepth 100000
set_option maxHeartbeats 4000000
/-! the draws: an object of six entries -/
namespace Dw
open PySem L2
/-- the entries of the draws -/
def drK (c : Addr) (nx dg rs sd tn : Int) : List (Key × V) :=
  [(.inr "cells", .ref c), (.inr "next", .int nx), (.inr "digits", .int dg), (.inr "rest", .int rs), (.inr "seed", .int sd), (.inr "turn", .int tn)]
section
variable {c : Addr} {nx dg rs sd tn y : Int}
theorem g_cells : valV (drK c nx dg rs sd tn) (.inr "cells") = some (.ref c) := rfl
theorem g_next : valV (drK c nx dg rs sd tn) (.inr "next") = some (.int nx) := rfl
theorem g_digits : valV (drK c nx dg rs sd tn) (.inr "digits") = some (.int dg) := rfl
theorem g_rest : valV (drK c nx dg rs sd tn) (.inr "rest") = some (.int rs) := rfl
theorem g_seed : valV (drK c nx dg rs sd tn) (.inr "seed") = some (.int sd) := rfl
theorem g_turn : valV (drK c nx dg rs sd tn) (.inr "turn") = some (.int tn) := rfl
theorem p_next : putK (drK c nx dg rs sd tn) (.inr "next") (.int y) = drK c y dg rs sd tn := rfl
theorem p_digits : putK (drK c nx dg rs sd tn) (.inr "digits") (.int y) = drK c nx y rs sd tn := rfl
theorem p_rest : putK (drK c nx dg rs sd tn) (.inr "rest") (.int y) = drK c nx dg y sd tn := rfl
theorem p_seed : putK (drK c nx dg rs sd tn) (.inr "seed") (.int y) = drK c nx dg rs y tn := rfl
theorem p_turn : putK (drK c nx dg rs sd tn) (.inr "turn") (.int y) = drK c nx dg rs sd y := rfl
end
/-- the draws at d, their cells at c -/
def Dr (H : Hp) (d c : Addr) : Prop := d ≠ c ∧ ∃ (ns : List Int) (nx dg rs sd tn : Int), H d = some (.dK (drK c nx dg rs sd tn)) ∧ H c = some (.lst (ns.map V.int)) ∧ ns.length ≤ 63 ∧ 0 ≤ nx
theorem Dr.keep {H H' : Hp} {d c : Addr} (x : Dr H d c) (kd : ∀ o, H d = some o → H' d = some o) (kc : ∀ o, H c = some o → H' c = some o) : Dr H' d c := by
  obtain ⟨n, ns, nx, dg, rs, sd, tn, h1, h2, h3, h4⟩ := x
  exact ⟨n, ns, nx, dg, rs, sd, tn, kd _ h1, kc _ h2, h3, h4⟩
theorem Dr.same {H H' : Hp} {d c : Addr} (x : Dr H d c) (k : Same H H') : Dr H' d c := x.keep (k d) (k c)
theorem Dr.upd {H : Hp} {d c a : Addr} {o : HO} (x : Dr H d c) (h1 : d ≠ a) (h2 : c ≠ a) : Dr (upd H a o) d c := x.keep (fun o e => by rw [upd_ne h1]; exact e) (fun o e => by rw [upd_ne h2]; exact e)
theorem Dr.new {H : Hp} {d c a : Addr} {o : HO} (x : Dr H d c) (h : H a = none) : Dr (L2.upd H a o) d c := by
  obtain ⟨n, ns, nx, dg, rs, sd, tn, h1, h2, h3, h4⟩ := id x
  exact x.upd (ne_of_none h1 h) (ne_of_none h2 h)
theorem Dr.ne {H : Hp} {d c a : Addr} (x : Dr H d c) (h : H a = none) : d ≠ a ∧ c ≠ a := by
  obtain ⟨n, ns, nx, dg, rs, sd, tn, h1, h2, h3, h4⟩ := id x
  exact ⟨ne_of_none h1 h, ne_of_none h2 h⟩
/-- all but the object at d is as it was -/
def But (d : Addr) (H H' : Hp) : Prop := ∀ b o, H b = some o → b ≠ d → H' b = some o
theorem But.refl (d : Addr) (H : Hp) : But d H H := fun _ _ h _ => h
theorem But.trans {d : Addr} {H H1 H2 : Hp} (a : But d H H1) (b : But d H1 H2) : But d H H2 := fun c o h n => b c o (a c o h n) n
theorem But.of {d : Addr} {H H1 : Hp} (a : Same H H1) : But d H H1 := fun c o h _ => a c o h
theorem But.upd (d : Addr) (H : Hp) (o : HO) : But d H (L2.upd H d o) := fun c u h n => by rw [upd_ne n]; exact h
theorem But.free {d a : Addr} {H H1 : Hp} (x : But d H H1) (hd : ∀ o, H1 d = some o → True) (h : H1 a = none) (n : a ≠ d) : H a = none := by
  cases e : H a with
  | none => rfl
  | some o => rw [x a o e n] at h; cases h
/-- a draw: a number from 0 to many - 1; nothing but the draws changes -/
def spNext : Sp := fun vs H Q _ => ∃ (d c : Addr) (many : Int), vs = [.ref d, .int many] ∧ Dr H d c ∧ 1 ≤ many ∧ many < 1073741824 ∧
  ∀ (k : Int) (H' : Hp), 0 ≤ k → k < many → Dr H' d c → But d H H' → Q (.int k) H'
/-- the draws of a script -/
def spDigits (K : PySem.W.Frag) : Sp := fun vs H Q _ => ∃ (a : Addr) (ns : List Int) (many : V), vs = [.ref a, many] ∧ SqL K H a (ns.map V.int) ∧ ns.length ≤ 63 ∧
  ∀ (d c : Addr) (H' : Hp), H d = none → H c = none → Dr H' d c → Same H H' → Q (.ref d) H'
theorem dgs {H : Hp} {a : Addr} {kvs : List (Key × V)} {x : Str} {v : V} (e : H a = some (.dK kvs)) (h : valV kvs (.inr x) = some v) : DGet H a (.str x) (some v) := by
  have q := DGet.k (k := .inr x) e
  rw [h] at q
  exact q
theorem dps {H : Hp} {a : Addr} {kvs kvs' : List (Key × V)} {x : Str} {v : V} (e : H a = some (.dK kvs)) (h : putK kvs (.inr x) v = kvs') (hl : kvs.length < sizeLine) : DPut H a (.str x) v (upd H a (.dK kvs')) := by
  have q := DPut.k (k := .inr x) (v := v) e hl
  rw [h] at q
  exact q
theorem dpu {H : Hp} {a : Addr} {kvs kvs' : List (Key × V)} {x : Str} {v : V} (h : putK kvs (.inr x) v = kvs') (hl : kvs.length < sizeLine) : DPut (upd H a (.dK kvs)) a (.str x) v (upd H a (.dK kvs')) := by
  have q := dps (H := upd H a (.dK kvs)) (a := a) upd_same h hl
  rw [upd_upd] at q
  exact q
theorem dr_len {c : Addr} {nx dg rs sd tn : Int} : (drK c nx dg rs sd tn).length < sizeLine := by show 6 < sizeLine; decide
end Dw
set_option Elab.async false
set_option linter.all false
set_option maxRecDepth 100000
set_option maxHeartbeats 4000000
/-! new instances and methods whose error is wished for at the caller's slots -/
namespace L2
open PySem PySem.Spec PyProof.Rows
/-- C(..), C(.., k = v, ..), o.m(..): what is raised is wished for at σ -/
def tMakeS (C : Addr) (sp : Sp) (dvs : List V) (E : St → XK) (t : TA) : TE := fun σ H Q => t σ H fun vs H1 => ∀ x dx, H1 x = none → H1 dx = none → dx ≠ x →
  sp (.ref x :: (vs ++ dvs)) (upd (upd H1 dx (.own x)) x (.ins C dx [])) (fun v H2 => v = .non ∧ Q (.ref x) H2) (E σ)
def tMakeKS (C : Addr) (n m : Nat) (sp : Sp) (gV : List V → List V → List V) (E : St → XK) (t tk : TA) : TE := fun σ H Q => t σ H fun vs H1 => tk σ H1 fun zs H2 => vs.length = n ∧ zs.length = m ∧ ∀ x dx, H2 x = none → H2 dx = none → dx ≠ x →
  sp (gV (.ref x :: vs) zs) (upd (upd H2 dx (.own x)) x (.ins C dx [])) (fun v H3 => v = .non ∧ Q (.ref x) H3) (E σ)
def tMethSA (C : Addr) (m : Str) (sp : Sp) (dvs : List V) (E : St → XK) (ta : TE) (t : TA) : TE := fun σ H Q => ta σ H fun x H1 => ∃ a dx fs, x = .ref a ∧ H1 a = some (.ins C dx fs) ∧ fs.lookup m = none ∧
  t σ H1 fun vs H2 => sp (x :: (vs ++ dvs)) H2 Q (E σ)
section
variable {X : Cx} {CX : CXT} {k n : Nat} {f C : Addr} {fd : FuncData} {ps ks : List Str} {sp : Sp} {E : St → XK} {x m : Str} {p pos apos : Pos} {e o : Expr} {es : List Expr} {kws : List Keyword} {ta : TE} {t tk : TA} {ds : List Value} {dvs : List V} {g : List Value → List Value → List Value} {gV : List V → List V → List V}
theorem mk_back {pins : List (Addr × Obj)} {σ : St} {H : Hp} {s s' : Shared} {Q : VK} {r : Result} {E1 : XK} {a : Addr} (hx : PassesAt CX X σ E1) (I2 : Inv X pins σ H s)
    (hq : CR CX X.stack X.prog X.w H s (fun v H3 => v = .non ∧ Q (.ref a) H3) E1 r s') :
    PySem.W.InitBack a (fun r s' => match r with | .ok (.ret u) => EP X pins σ Q u s' | .ok _ => False | .error e => X.xe e s') r s' := by
  cases r with
  | error e => exact hx pins H s e s' I2 hq
  | ok fl =>
    cases fl with
    | ret u =>
      obtain ⟨v, H', I3, rv, ev, q3⟩ := I2.after hq
      subst ev
      exact ⟨rv, V.ref a, H', I3, rfl, q3⟩
    | next => exact hq.elim
    | brk => exact hq.elim
    | cont => exact hq.elim
theorem run_makeS {pins : List (Addr × Obj)} {σ : St} {H : Hp} {s : Shared} {Q : VK} {us : List Value} {vs : List V} (M : Mk X.K C f) (F : FnOk X.prog X.w X.K X.mg X.base CX k f fd ps sp) (hr : Room (k + 1) X.A) (hb : Binds X.K fd ps ds) (hd : Vals dvs ds)
    (hx : PassesAt CX X σ (E σ)) (I : Inv X pins σ H s) (r : Vals vs us)
    (h : ∀ x dx, H x = none → H dx = none → dx ≠ x → sp (.ref x :: (vs ++ dvs)) (upd (upd H dx (.own x)) x (.ins C dx [])) (fun v H2 => v = .non ∧ Q (.ref x) H2) (E σ)) :
    wpAny (model X.prog X.w) X.A (call (.ref C) us) (EP X pins σ Q) X.xe s := by
  have q0 := h (s.heap.objs.size + 1) s.heap.objs.size (I.hok.fresh (Nat.le_succ _)) (I.hok.fresh (Nat.le_refl _)) (Nat.ne_of_lt (Nat.lt_succ_self _))
  have J := Inv.made (C := C) I
  have rr : Vals (V.ref (s.heap.objs.size + 1) :: (vs ++ dvs)) (Value.ref (s.heap.objs.size + 1) :: (us ++ ds)) := .cons rfl (r.append hd)
  have hl : (Value.ref (s.heap.objs.size + 1) :: us ++ ds).length = ps.length := (rr.length.symm.trans (F.len _ _ _ _ q0))
  exact wpAny_call (make_map (f := f) I.kIn M.makes M.init (beq_iff_eq.mp M.fn) (codeAny_mono (F.run _ X.stack _ _ ⟨Value.ref (s.heap.objs.size + 1) :: us, []⟩ (Value.ref (s.heap.objs.size + 1) :: (us ++ ds)) _ _ (E σ) (hr.make C us [])
    (J.env0.make C us []) (hb _ (Value.ref (s.heap.objs.size + 1) :: us) J.kIn hl) rr q0) fun r s' q => mk_back hx J q))
theorem run_makeKS {pins : List (Addr × Obj)} {σ : St} {H : Hp} {s : Shared} {Q : VK} {us ws : List Value} {vs zs : List V} (M : Mk X.K C f) (F : FnOk X.prog X.w X.K X.mg X.base CX k f fd ps sp) (hr : Room (k + 1) X.A) (hb : KBn X.K fd ps (n + 1) ks g gV) (hx : PassesAt CX X σ (E σ))
    (I : Inv X pins σ H s) (r : Vals vs us) (rz : Vals zs ws) (l1 : vs.length = n) (l2 : zs.length = ks.length)
    (h : ∀ x dx, H x = none → H dx = none → dx ≠ x → sp (gV (.ref x :: vs) zs) (upd (upd H dx (.own x)) x (.ins C dx [])) (fun v H2 => v = .non ∧ Q (.ref x) H2) (E σ)) :
    wpAny (model X.prog X.w) X.A (call (.ref C) us (ks.zip ws)) (EP X pins σ Q) X.xe s := by
  have q0 := h (s.heap.objs.size + 1) s.heap.objs.size (I.hok.fresh (Nat.le_succ _)) (I.hok.fresh (Nat.le_refl _)) (Nat.ne_of_lt (Nat.lt_succ_self _))
  have J := Inv.made (C := C) I
  have rr := hb.rel (show Vals (V.ref (s.heap.objs.size + 1) :: vs) (Value.ref (s.heap.objs.size + 1) :: us) from .cons rfl r) rz
  have n1 : (Value.ref (s.heap.objs.size + 1) :: us).length = n + 1 := congrArg Nat.succ (r.length.symm.trans l1)
  exact wpAny_call (make_map (f := f) I.kIn M.makes M.init (beq_iff_eq.mp M.fn) (codeAny_mono (F.run _ X.stack _ _ ⟨Value.ref (s.heap.objs.size + 1) :: us, ks.zip ws⟩ (g (Value.ref (s.heap.objs.size + 1) :: us) ws) _ _ (E σ) (hr.make C us (ks.zip ws))
    (J.env0.make C us (ks.zip ws)) (hb.to _ (Value.ref (s.heap.objs.size + 1) :: us) ws J.kIn n1 (rz.length.symm.trans l2)) rr q0) fun r s' q => mk_back hx J q))
/-- C(e, ..) -/
theorem pe_makeS (M : Mk X.K C f) (F : FnOk X.prog X.w X.K X.mg X.base CX k f fd ps sp) (hr : Room (k + 1) X.A) (hg : Gl X x) (hm : X.mg x = some (.ref C)) (hb : Binds X.K fd ps ds) (hd : Vals dvs ds) (hx : ∀ σ, PassesAt CX X σ (E σ)) (ha : PA X (e :: es) t)
    (hdb : (x == ("__debug__" : Str)) = false := by decide) (he : starEach (e :: es) X.env = (false, eval e X.env) :: starEach es X.env := by rfl) (hpl : (backTo pos (starEach es X.env)).any (·.1) = false := by rfl) :
    PE X (.Call (.Name x p) (e :: es) [] pos) (tMakeS C sp dvs E t) := ⟨fun pins s σ H Q I h =>
  wpAny_Call_Name_kw (ld_glob I hg hm (PySem.W.callWith_K (h₀ := X.base) I.ok.mod.kin M.kp (thn (ha.run pos pins s σ H _ I h) fun us s1 ⟨vs, H1, I1, r, q⟩ => ⟨I1.kIn, run_makeS M F hr hb hd (hx σ) I1 r q⟩) he hpl) hdb)⟩
/-- C(e, .., k = v, ..) -/
theorem pe_makeKS (M : Mk X.K C f) (F : FnOk X.prog X.w X.K X.mg X.base CX k f fd ps sp) (hr : Room (k + 1) X.A) (hg : Gl X x) (hm : X.mg x = some (.ref C)) (hb : KBn X.K fd ps (n + 1) ks g gV) (hx : ∀ σ, PassesAt CX X σ (E σ)) (ha : PA X (e :: es) t) (hkw : PK X kws tk)
    (hall : (backToKw pos (keywordEach kws X.env)).all (·.1.isSome) = true := by rfl) (hks : (backToKw pos (keywordEach kws X.env)).filterMap (·.1) = ks := by rfl) (hdb : (x == ("__debug__" : Str)) = false := by decide)
    (he : starEach (e :: es) X.env = (false, eval e X.env) :: starEach es X.env := by rfl) (hpl : ((backTo pos (starEach (e :: es) X.env)).any (·.1) || (backToKw pos (keywordEach kws X.env)).any (·.1.isNone)) = false := by rfl) :
    PE X (.Call (.Name x p) (e :: es) kws pos) (tMakeKS C n ks.length sp gV E t tk) := ⟨fun pins s σ H Q I h =>
  wpAny_Call_Name_kw (ld_glob I hg hm (PySem.W.callWith_KW (h₀ := X.base) I.ok.mod.kin M.kp hall (thn (ha.run pos pins s σ H _ I h) fun us s1 ⟨vs, H1, I1, r, q⟩ =>
    thn (hkw.run pos pins s1 σ H1 _ I1 q) fun ws s2 ⟨zs, H2, I2, rz, l1, l2, q2⟩ => ⟨I2.kIn, by rw [hks]; exact run_makeKS M F hr hb (hx σ) I2 r rz l1 l2 q2⟩) hpl he) hdb)⟩
/-- o.m(e, ..) -/
theorem pe_methSA {pl : Sem Bool} (ho : PE X o ta) (c : Cls X.K C) (hm : Meth X.K C m f) (F : FnOk X.prog X.w X.K X.mg X.base CX k f fd ps sp) (hr : Room k X.A) (hb : Binds X.K fd ps []) (hx : ∀ σ, PassesAt CX X σ (E σ)) (ha : PA X (e :: es) t)
    (hst : starEach (e :: es) X.env = (false, eval e X.env) :: starEach es X.env := by rfl) (hpl : (backTo pos (starEach es X.env)).any (·.1) = false := by rfl)
    (ht : eval (.Call (.Attribute o m apos) (e :: es) [] pos) X.env = (do
      let v0 ← eval o X.env
      standAt apos.atName
      let (f1, first) ← holding [v0] (getMethod v0 m pl)
      callWith pos f1 first (backTo pos (starEach (e :: es) X.env)) (backToKw pos (keywordEach [] X.env))) := by rfl) :
    PE X (.Call (.Attribute o m apos) (e :: es) [] pos) (tMethSA C m sp [] E ta t) := by
  refine ⟨fun pins s σ H Q I h => PySem.W.methodCall_KW (pl := pl) (thn (ho.run pins s σ H _ I h) fun u s1 hh => ?_) ht⟩
  obtain ⟨x, H1, I1, rx, a, dx, fs, ex, ea, l, q⟩ := hh
  subst ex
  obtain rfl : u = Value.ref a := rx
  refine getmeth_ok I1 ea c hm l (PySem.W.callWith_K (first := [.ref a]) (h₀ := X.base) I.ok.mod.kin hm.kp (thn (ha.run pos pins s1 σ H1 _ I1 q) fun us s2 hh2 => ?_) hst hpl)
  obtain ⟨vs, H2, I2, r, q2⟩ := hh2
  rw [List.append_nil] at q2
  exact ⟨I2.kIn, run_fnS (us := .ref a :: us) (vs := .ref a :: vs) F hr hb (hx σ) I2 (.cons rfl r) q2⟩
end
end L2
set_option Elab.async false
set_option linter.all false
set_option maxRecDepth 100000
set_option maxHeartbeats 4000000
namespace L2
open PySem PySem.Spec PyProof.Rows
/-- a def of the text that keeps sp, as its callers need it -/
def Cal (P : Program) (w : World) (K : PySem.W.Frag) (mg : Str → Option Value) (base : Heap) (CX : CXT) (k : Nat) (x : Str) (ps : List Str) (sp : Sp) : Prop :=
  ∃ (f : Addr) (fd : FuncData), FnOk P w K mg base CX k f fd ps sp ∧ mg x = some (.ref f) ∧ PySem.W.keepIn K (.ref f) = true ∧ Binds K fd ps []
/-- a method of the class at C that keeps sp -/
def CalM (P : Program) (w : World) (K : PySem.W.Frag) (mg : Str → Option Value) (base : Heap) (CX : CXT) (k : Nat) (C : Addr) (m : Str) (ps : List Str) (sp : Sp) : Prop :=
  ∃ (f : Addr) (fd : FuncData), FnOk P w K mg base CX k f fd ps sp ∧ Meth K C m f ∧ Binds K fd ps []
/-- the class at C makes its instances by sp -/
def CalC (P : Program) (w : World) (K : PySem.W.Frag) (mg : Str → Option Value) (base : Heap) (CX : CXT) (k : Nat) (C : Addr) (ps : List Str) (sp : Sp) : Prop :=
  ∃ (f : Addr) (fd : FuncData), FnOk P w K mg base CX k f fd ps sp ∧ Mk K C f ∧ Binds K fd ps []
/-- where a def stands -/
def Def (K : PySem.W.Frag) (mg : Str → Option Value) (x : Str) (st : Stmt) : Prop := ∃ (f : Addr) (fd : FuncData), Fun K x x st f fd ∧ mg x = some (.ref f)
def DefM (K : PySem.W.Frag) (C : Addr) (m qual : Str) (st : Stmt) : Prop := ∃ (f : Addr) (fd : FuncData), Fun K m qual st f fd ∧ Meth K C m f
def DefC (K : PySem.W.Frag) (C : Addr) (qual : Str) (st : Stmt) : Prop := ∃ (f : Addr) (fd : FuncData), Fun K "__init__" qual st f fd ∧ Mk K C f
section
variable {X : Cx} {CX : CXT} {k : Nat} {ps : List Str} {sp : Sp} {x : Str} {p pos apos : Pos} {e o : Expr} {es : List Expr} {t : TA} {ta : TE} {v : V} {C : Addr} {m : Str}
theorem pe_cal (c : Cal X.prog X.w X.K X.mg X.base CX k x ps sp) (hr : Room k X.A) (ha : PA X (e :: es) t) (hx : Passes CX X E0 := by first | exact pass0 | exact passL) (hg : Gl X x := by rfl) (hdb : (x == ("__debug__" : Str)) = false := by decide) (he : starEach (e :: es) X.env = (false, eval e X.env) :: starEach es X.env := by rfl)
    (hpl : (backTo pos (starEach es X.env)).any (·.1) = false := by rfl) : PE X (.Call (.Name x p) (e :: es) [] pos) (tCall sp [] E0 t) := by
  obtain ⟨f, fd, h1, h2, h3, h4⟩ := c
  exact pe_call h1 hr hg h2 h3 h4 .nil hx ha hdb he hpl
theorem pe_cal0 (c : Cal X.prog X.w X.K X.mg X.base CX k x ps sp) (hr : Room k X.A) (hx : Passes CX X E0 := by first | exact pass0 | exact passL) (hg : Gl X x := by rfl) (hdb : (x == ("__debug__" : Str)) = false := by decide) : PE X (.Call (.Name x p) [] [] pos) (tCall sp [] E0 tNil) := by
  obtain ⟨f, fd, h1, h2, h3, h4⟩ := c
  exact pe_call0 h1 hr hg h2 h3 h4 .nil hx hdb
/-- f(e, ..) within a try: what it raises is wished for at the slots -/
theorem pe_calS {E : St → XK} (c : Cal X.prog X.w X.K X.mg X.base CX k x ps sp) (hr : Room k X.A) (hx : ∀ σ, PassesAt CX X σ (E σ)) (ha : PA X (e :: es) t) (hg : Gl X x := by rfl) (hdb : (x == ("__debug__" : Str)) = false := by decide) (he : starEach (e :: es) X.env = (false, eval e X.env) :: starEach es X.env := by rfl)
    (hpl : (backTo pos (starEach es X.env)).any (·.1) = false := by rfl) : PE X (.Call (.Name x p) (e :: es) [] pos) (tCallS sp E t) := by
  obtain ⟨f, fd, h1, h2, h3, h4⟩ := c
  exact pe_callS h1 hr hg h2 h3 h4 hx ha hdb he hpl
/-- C(e, ..) -/
theorem pe_mk (c : CalC X.prog X.w X.K X.mg X.base CX k C ps sp) (hm : X.mg x = some (.ref C)) (hr : Room (k + 1) X.A) (ha : PA X (e :: es) t) (hx : Passes CX X E0 := by first | exact pass0 | exact passL) (hg : Gl X x := by rfl) (hdb : (x == ("__debug__" : Str)) = false := by decide) (he : starEach (e :: es) X.env = (false, eval e X.env) :: starEach es X.env := by rfl)
    (hpl : (backTo pos (starEach es X.env)).any (·.1) = false := by rfl) : PE X (.Call (.Name x p) (e :: es) [] pos) (tMake C sp [] E0 t) := by
  obtain ⟨f, fd, h1, h2, h4⟩ := c
  exact pe_make h2 h1 hr hg hm h4 .nil hx ha hdb he hpl
theorem pe_mkS {E : St → XK} (c : CalC X.prog X.w X.K X.mg X.base CX k C ps sp) (hm : X.mg x = some (.ref C)) (hr : Room (k + 1) X.A) (hx : ∀ σ, PassesAt CX X σ (E σ)) (ha : PA X (e :: es) t) (hg : Gl X x := by rfl) (hdb : (x == ("__debug__" : Str)) = false := by decide) (he : starEach (e :: es) X.env = (false, eval e X.env) :: starEach es X.env := by rfl)
    (hpl : (backTo pos (starEach es X.env)).any (·.1) = false := by rfl) : PE X (.Call (.Name x p) (e :: es) [] pos) (tMakeS C sp [] E t) := by
  obtain ⟨f, fd, h1, h2, h4⟩ := c
  exact pe_makeS h2 h1 hr hg hm h4 .nil hx ha hdb he hpl
/-- o.m(e, ..), o.m() -/
theorem pe_mth {pl : Sem Bool} (cl : Cls X.K C) (c : CalM X.prog X.w X.K X.mg X.base CX k C m ps sp) (hr : Room k X.A) (ho : PE X o ta) (ha : PA X (e :: es) t) (hx : Passes CX X E0 := by first | exact pass0 | exact passL) (hst : starEach (e :: es) X.env = (false, eval e X.env) :: starEach es X.env := by rfl) (hpl : (backTo pos (starEach es X.env)).any (·.1) = false := by rfl)
    (ht : eval (.Call (.Attribute o m apos) (e :: es) [] pos) X.env = (do
      let v0 ← eval o X.env
      standAt apos.atName
      let (f1, first) ← holding [v0] (getMethod v0 m pl)
      callWith pos f1 first (backTo pos (starEach (e :: es) X.env)) (backToKw pos (keywordEach [] X.env))) := by rfl) : PE X (.Call (.Attribute o m apos) (e :: es) [] pos) (tMeth C m sp [] E0 ta t) := by
  obtain ⟨f, fd, h1, h2, h4⟩ := c
  exact pe_meth ho cl h2 h1 hr h4 .nil hx ha hst hpl ht
theorem pe_mth0 {pl : Sem Bool} (cl : Cls X.K C) (c : CalM X.prog X.w X.K X.mg X.base CX k C m ps sp) (hr : Room k X.A) (ho : PE X o ta) (hx : Passes CX X E0 := by first | exact pass0 | exact passL)
    (ht : eval (.Call (.Attribute o m apos) [] [] pos) X.env = (do
      let v0 ← eval o X.env
      standAt apos.atName
      let (f1, first) ← holding [v0] (getMethod v0 m pl)
      callWith pos f1 first (backTo pos (starEach [] X.env)) (backToKw pos (keywordEach [] X.env))) := by rfl) : PE X (.Call (.Attribute o m apos) [] [] pos) (tMeth C m sp [] E0 ta tNil) := by
  obtain ⟨f, fd, h1, h2, h4⟩ := c
  exact pe_meth0 ho cl h2 h1 hr h4 .nil hx ht
theorem pe_mthS {pl : Sem Bool} {E : St → XK} (cl : Cls X.K C) (c : CalM X.prog X.w X.K X.mg X.base CX k C m ps sp) (hr : Room k X.A) (ho : PE X o ta) (hx : ∀ σ, PassesAt CX X σ (E σ)) (ha : PA X (e :: es) t) (hst : starEach (e :: es) X.env = (false, eval e X.env) :: starEach es X.env := by rfl) (hpl : (backTo pos (starEach es X.env)).any (·.1) = false := by rfl)
    (ht : eval (.Call (.Attribute o m apos) (e :: es) [] pos) X.env = (do
      let v0 ← eval o X.env
      standAt apos.atName
      let (f1, first) ← holding [v0] (getMethod v0 m pl)
      callWith pos f1 first (backTo pos (starEach (e :: es) X.env)) (backToKw pos (keywordEach [] X.env))) := by rfl) : PE X (.Call (.Attribute o m apos) (e :: es) [] pos) (tMethSA C m sp [] E ta t) := by
  obtain ⟨f, fd, h1, h2, h4⟩ := c
  exact pe_methSA ho cl h2 h1 hr h4 hx ha hst hpl ht
end
/-- a module's constant -/
theorem pe_gl {X : Cx} {x : Str} {pos : Pos} {v : V} (h : ∃ u, X.mg x = some u ∧ RelV v u) (hg : Gl X x := by rfl) (hdb : (x == ("__debug__" : Str)) = false := by decide) : PE X (.Name x pos) (tC v) := by
  obtain ⟨u, hm, r⟩ := h
  exact pe_glob hg hm r hdb
/-- a built-in class as a value -/
theorem pe_ty {X : Cx} {x : Str} {pos : Pos} (n : String) (hm : X.mg x = none) (hg : Gl X x := by rfl) (hv : bootBuiltins x = some (.type n) := by decide +kernel) (hn : x ≠ "__name__" := by decide) (hd : (x == ("__debug__" : Str)) = false := by decide) : PE X (.Name x pos) (tC (.ty n)) :=
  pe_bltn hg hm hv rfl hn hd
/-- an own class as a value -/
theorem pe_cls {X : Cx} {x : Str} {pos : Pos} {C : Addr} (hm : X.mg x = some (.ref C)) (hg : Gl X x := by rfl) (hd : (x == ("__debug__" : Str)) = false := by decide) : PE X (.Name x pos) (tC (.ref C)) := pe_glob hg hm rfl hd
/-- a plain value and the name of its type -/
inductive Dm (K : PySem.W.Frag) (H : Hp) : V → String → Prop where
  | non : Dm K H .non "NoneType"
  | bl (b : Bool) : Dm K H (.bl b) "bool"
  | int (i : Int) : Dm K H (.int i) "int"
  | str (x : Str) (h : x.length ≤ sizeLine) : Dm K H (.str x) "str"
  | lst {a : Addr} {xs : List V} (e : H a = some (.lst xs)) : Dm K H (.ref a) "list"
  | tup {a : Addr} {xs : List V} (e : H a = some (.tup xs)) : Dm K H (.ref a) "tuple"
section
variable {K : PySem.W.Frag} {H H' : Hp} {v : V} {n : String}
theorem Dm.mono (d : Dm K H v n) (k : ∀ a o, v = .ref a → H a = some o → (∃ o', H' a = some o' ∧ ((∃ xs ys, o = .lst xs ∧ o' = .lst ys) ∨ o' = o))) : Dm K H' v n := by
  cases d with
  | non => exact .non
  | bl b => exact .bl b
  | int i => exact .int i
  | str x h => exact .str x h
  | lst e =>
    obtain ⟨o', h1, h2⟩ := k _ _ rfl e
    rcases h2 with ⟨xs, ys, _, h3⟩ | h3
    · subst h3; exact .lst h1
    · subst h3; exact .lst h1
  | tup e =>
    obtain ⟨o', h1, h2⟩ := k _ _ rfl e
    rcases h2 with ⟨xs, ys, h3, _⟩ | h3
    · cases h3
    · subst h3; exact .tup h1
theorem Dm.same (d : Dm K H v n) (k : Same H H') : Dm K H' v n := d.mono fun a o _ e => ⟨o, k a o e, .inr rfl⟩
theorem Dm.ty (d : Dm K H v n) : TyX K H v (.type n) := by
  cases d with
  | non => exact .base .non
  | bl b => exact .base (.bl b)
  | int i => exact .base (.int i)
  | str x h => exact .base (.str x)
  | lst e => exact .base (.lst e)
  | tup e => exact .base (.tup e)
end
theorem sNew {H : Hp} {p : Addr} {o : HO} (h : H p = none) : Same H (upd H p o) := fun b u e => by rw [upd_ne (ne_of_none e h)]; exact e
/-! the same rules, the written part named -/
section
variable {X : Cx} {K : PySem.W.Frag}
theorem ix_listK (h : X.K = K) : IxR X (rIxL K) := h ▸ ix_list
theorem ix_tupK (h : X.K = K) : IxR X (rIxT K) := h ▸ ix_tup
theorem call_isiK' (h : X.K = K) : CallR X (.builtin "isinstance") (rIsi K) := h ▸ call_isi
theorem call_isiTK (h : X.K = K) : CallR X (.builtin "isinstance") (rIsiT K) := h ▸ call_isiT
theorem sl_listK (h : X.K = K) : SlR X (rSlL K) := h ▸ sl_list
end
/-- a comprehension over a text -/
theorem lc_str {x : Str} {g : TG} {tt : TT} {te : TE} {vs : List Nat} {σ : St} {H1 : Hp} {D : Addr} {Qd : Hp → Prop} (Pv : Nat → Hp → Prop) (h0 : Pv 0 (upd H1 D (.lst [])))
    (hs : ∀ i c H, x.cps[i]? = some c → Pv i H → g (.str ⟨#[c]⟩) (wipe σ vs) H fun σ2 H2 => wipe σ2 vs = wipe σ vs ∧ tt σ2 H2 fun b H3 =>
      if b = true then te σ2 H3 fun y H4 => ∃ acc, H4 D = some (.lst acc) ∧ acc.length < sizeLine ∧ Pv (i + 1) (upd H4 D (.lst (acc ++ [y]))) else Pv (i + 1) H3) (hd : ∀ H, Pv x.cps.size H → Qd H) :
    ∃ W : Nat → Nat → Hp → Prop, (∃ m, W 0 m (upd H1 D (.lst []))) ∧ ∀ i m H, W i m H →
      ((Its x).stop i H ∧ Qd H) ∨ ((Its x).go i H ∧ ∃ Nx : Hp → Prop, (∀ H', Nx H' → ∃ m', m' < m ∧ W (i + 1) m' H') ∧ ∀ y H', (Its x).yld i H y H' → g y (wipe σ vs) H' fun σ2 H2 => wipe σ2 vs = wipe σ vs ∧ tt σ2 H2 fun b H3 =>
        if b = true then te σ2 H3 fun y H4 => ∃ acc, H4 D = some (.lst acc) ∧ acc.length < sizeLine ∧ Nx (upd H4 D (.lst (acc ++ [y]))) else Nx H3) := by
  refine ⟨fun i m H => m = x.cps.size - i ∧ i ≤ x.cps.size ∧ Pv i H, ⟨x.cps.size, by simp, Nat.zero_le _, h0⟩, ?_⟩
  rintro i m H ⟨rfl, hi, p⟩
  by_cases hlt : i < x.cps.size
  · refine .inr ⟨hlt, Pv (i + 1), fun H' p' => ⟨x.cps.size - (i + 1), by omega, rfl, by omega, p'⟩, ?_⟩
    rintro y H' ⟨rfl, c, hc, rfl⟩
    exact hs i c H' hc p
  · have e : i = x.cps.size := by omega
    subst e
    exact .inl ⟨Nat.le_refl _, hd H p⟩
/-- a for over a text -/
theorem for_strT {x : Str} {g : TG} {tb : TS} {D : Ends} {σ : St} {H : Hp} (Pv : Nat → St → Hp → Prop) (h0 : Pv 0 σ H)
    (hs : ∀ i c σ H, x.cps[i]? = some c → Pv i σ H → g (.str ⟨#[c]⟩) σ H fun σ2 H2 => tb { D with nx := Pv (i + 1), ct := Pv (i + 1), bk := D.nx } σ2 H2) (hd : ∀ σ H, Pv x.cps.size σ H → D.nx σ H) :
    ∃ W : Nat → Nat → St → Hp → Prop, (∃ m, W 0 m σ H) ∧ ∀ i m σ H, W i m σ H →
      ((Its x).stop i H ∧ D.nx σ H) ∨ ((Its x).go i H ∧ ∃ N : St → Hp → Prop, (∀ σ' H', N σ' H' → ∃ m', m' < m ∧ W (i + 1) m' σ' H') ∧ ∀ y H', (Its x).yld i H y H' → g y σ H' fun σ2 H2 => tb { D with nx := N, ct := N, bk := D.nx } σ2 H2) := by
  refine ⟨fun i m σ H => m = x.cps.size - i ∧ i ≤ x.cps.size ∧ Pv i σ H, ⟨x.cps.size, by simp, Nat.zero_le _, h0⟩, ?_⟩
  rintro i m σ H ⟨rfl, hi, p⟩
  by_cases hlt : i < x.cps.size
  · refine .inr ⟨hlt, Pv (i + 1), fun σ' H' p' => ⟨x.cps.size - (i + 1), by omega, rfl, by omega, p'⟩, ?_⟩
    rintro y H' ⟨rfl, c, hc, rfl⟩
    exact hs i c σ H' hc p
  · have e : i = x.cps.size := by omega
    subst e
    exact .inl ⟨Nat.le_refl _, hd σ H p⟩
end L2
set_option Elab.async false
set_option linter.all false
set_option maxRecDepth 100000
set_option maxHeartbeats 4000000
/-! own errors held as values -/
namespace L2
open PySem PySem.Spec PyProof.Rows
section
variable {X : Cx} {C : Addr} {fs : List Str} {ok : List Value → Prop} {x : Str} {e : Expr} {es : List Expr} {ta : TA} {p p1 p2 pos : Pos}
/-- X(e, ..), a value: the error and its dict -/
def tErV (C : Addr) (fs : List Str) (okV : List V → Prop) (ta : TA) : TE := fun σ H Q => ta σ H fun vs H1 => vs.length = fs.length ∧ okV vs ∧ ∀ a d, H1 a = none → H1 d = none → d ≠ a → Q (.ref a) (upd (upd H1 d (exd d (fs.zip vs))) a (exo a C (some d)))
theorem pe_erV {k : Nat} {okV : List V → Prop} (T : PySem.ErrL.Makes X.prog X.w X.K X.mg C fs ok) (hok : ∀ vs us, Vals vs us → okV vs → ok us) (gC : X.mg x = some (.ref C)) (hr : Room k X.A) (ha : PA X (e :: es) ta) (hg : Gl X x := by rfl)
    (hdb : (x == ("__debug__" : Str)) = false := by decide) (he : starEach (e :: es) X.env = (false, eval e X.env) :: starEach es X.env := by rfl) (hpl : (backTo pos (starEach es X.env)).any (·.1) = false := by rfl) :
    PE X (.Call (.Name x p) (e :: es) [] pos) (tErV C fs okV ta) := by
  refine ⟨fun pins s σ H Q I h => ?_⟩
  refine wpAny_Call_Name_kw (ld_glob I hg gC ?_ hdb)
  refine PySem.W.callWith_K (h₀ := X.base) I.ok.mod.kin T.kC (thn (ha.run pos pins s σ H _ I h) fun us s1 hh => ?_) he hpl
  obtain ⟨vs, H1, I1, r1, hl, hov, q1⟩ := hh
  refine ⟨I1.kIn, ?_⟩
  show wpAny _ _ (call (.ref C) us) _ _ _
  obtain ⟨mb, hmb, hbt⟩ := I1.mod.blt
  have hlim := I1.nolimit
  have hgl := I1.mod.glob.keeps I1.bk
  have hbl := hmb.keeps I1.bk
  have kin := I1.kIn
  obtain ⟨hp, g, dr, tk, os⟩ := s1
  refine wpAny_call (T.run _ _ us mb _ (by rw [← hl]; exact (Vals.length r1).symm) (hok vs us r1 hov) kin hlim hgl hbl hbt (by have := hr.dp; omega) fun h' tk' a d mA hmA M => ?_)
  obtain ⟨t1, hoe⟩ := M.obj
  have ha0 : hp.get? a = none := Heap.get?_none_of_le M.new
  have hd0 : hp.get? d = none := Heap.get?_none_of_le M.dbig
  have na : H1 a = none := I1.hok.fresh M.new
  have nd : H1 d = none := I1.hok.fresh M.dbig
  have rel : ∀ f, RelO ((fs.zip vs).lookup f) (mA f) := fun f => by rw [hmA]; exact relO_zip r1 f
  have U : Un X.fs [] H1 (upd (upd H1 d (exd d (fs.zip vs))) a (exo a C (some d))) hp h' := {
    keep := fun b u q _ _ _ => M.keep b u q
    slot := fun b u q _ _ _ => ⟨u.slots, M.keep b u q⟩
    free := fun b u q n _ => by rw [upd_ne (fun z => by rw [z, ha0] at q; cases q), upd_ne (fun z => by rw [z, hd0] at q; cases q)]; exact n
    there := fun b u q _ => ⟨u, M.keep b u q⟩
    tups := fun b xs q => by rw [upd_ne (ne_of_none q na), upd_ne (ne_of_none q nd)]; exact q
    frzs := fun b u xs q => by rw [upd_ne (ne_of_none q na), upd_ne (ne_of_none q nd)]; exact q
    tbls := fun b ps q => ⟨#[], by rw [upd_ne (ne_of_none q na), upd_ne (ne_of_none q nd), q]; simp⟩ }
  have hok2 : HOk X.prog X.w (upd (upd H1 d (exd d (fs.zip vs))) a (exo a C (some d))) h' := fun b u q => by
    by_cases hb : b = a
    · subst hb
      rw [upd_same] at q
      cases q
      exact exo_ok hoe
    · rw [upd_ne hb] at q
      by_cases hb2 : b = d
      · subst hb2
        rw [upd_same] at q
        cases q
        exact exd_ok M.ns rel
      · rw [upd_ne hb2] at q
        exact (I1.hok b u q).stay (fun c v _ z => M.keep c v z) (fun c z => by rw [upd_ne (ne_of_none z na), upd_ne (ne_of_none z nd)]; exact z) fun c xs z => by rw [upd_ne (ne_of_none z na), upd_ne (ne_of_none z nd)]; exact z
  exact ⟨.ref a, _, I1.un (t' := tk') U hok2, rfl, q1 a d na nd M.dne⟩
/-- X(e, ..), a value, X's own __init__ walked -/
def tOeV (C : Addr) (sp : Sp) (dvs : List V) (ta : TA) : TE := fun σ H Q => ta σ H fun vs H1 => vs.length ≤ 1000 ∧ ∀ a, H1 a = none → sp (.ref a :: (vs ++ dvs)) (upd H1 a (exo a C none)) (fun v H2 => v = .non ∧ Q (.ref a) H2) (fun _ _ _ => False)
theorem run_oeV {CX : CXT} {fI : Addr} {k : Nat} {fd : FuncData} {ps : List Str} {sp : Sp} {ds : List Value} {dvs : List V} {pins : List (Addr × Obj)} {σ : St} {H1 : Hp} {s1 : Shared} {Q : VK} {us : List Value} {vs : List V} (T : OexC X.K C) (iC : PySem.W.findIn X.K (.ref C) "__init__" = some (some (.ref fI))) (tI : PySem.W.typeIn X.K (.ref fI) = some (.type "function"))
    (F1 : FnOk X.prog X.w X.K X.mg X.base CX k fI fd ps sp) (hr : Room (k + 1) X.A) (hb : Binds X.K fd ps ds) (hd : Vals dvs ds) (hx : Passes CX X (fun _ _ _ => False)) (I1 : Inv X pins σ H1 s1) (r1 : Vals vs us) (hz : vs.length ≤ 1000)
    (q1 : ∀ a, H1 a = none → sp (.ref a :: (vs ++ dvs)) (upd H1 a (exo a C none)) (fun v H2 => v = .non ∧ Q (.ref a) H2) (fun _ _ _ => False)) : wpAny (model X.prog X.w) X.A (call (.ref C) us) (EP X pins σ Q) X.xe s1 := by
  obtain ⟨nm, q, N, bs, bm, sn, sub, ab, col, dd, k0, k1, k2, k3, k5, hC, hbm⟩ := T.cls
  obtain ⟨hp, g, dr, tk, os⟩ := s1
  have hsz : hp.objs.size ≤ hp.objs.size + 1 := Nat.le_succ _
  have hn : H1 (hp.objs.size + 1) = none := I1.hok.fresh hsz
  have hq := q1 (hp.objs.size + 1) hn
  have kk : ∀ b o, hp.get? b = some o → ((hp.push (PySem.W.kdv_tup us)).push (PySem.HandSPX.excO C hp.objs.size)).get? b = some o := fun b o e => Heap.get?_push_of_some _ (Heap.get?_push_of_some _ e)
  have hget : ((hp.push (PySem.W.kdv_tup us)).push (PySem.HandSPX.excO C hp.objs.size)).get? (hp.objs.size + 1) = some (PySem.HandSPX.excO C hp.objs.size) := by heap_get
  have I2 : Inv X pins σ (upd H1 (hp.objs.size + 1) (exo (hp.objs.size + 1) C none)) ⟨(hp.push (PySem.W.kdv_tup us)).push (PySem.HandSPX.excO C hp.objs.size), g, dr, tk, os⟩ :=
    I1.laid (t' := tk) (a := hp.objs.size + 1) (o := exo (hp.objs.size + 1) C none) (h' := (hp.push (PySem.W.kdv_tup us)).push (PySem.HandSPX.excO C hp.objs.size)) kk hsz (exo_ok hget)
  have r2 : Vals (V.ref (hp.objs.size + 1) :: (vs ++ dvs)) (Value.ref (hp.objs.size + 1) :: (us ++ ds)) := .cons rfl (r1.append hd)
  have hl : (Value.ref (hp.objs.size + 1) :: us ++ ds).length = ps.length := by
    have e := r2.length
    rw [F1.len _ _ _ _ hq] at e
    exact e.symm
  have hus : us.length ≤ sizeLine := by
    rw [← Paired.length r1, sizeLine_eq]
    omega
  refine wpAny_call (PySem.HandSPX.call_own F.excBase_ValueError (fun Y => PySem.HandSPX.refsVE_contains Y bm hbm) (I1.kIn _ _ hC) (PySem.W.looks_findIn I1.kIn iC) (fun self => PySem.W.bind_fn I1.kIn self tI) hus
    (codeAny_mono (F1.run _ X.stack _ _ ⟨Value.ref (hp.objs.size + 1) :: us, []⟩ (Value.ref (hp.objs.size + 1) :: (us ++ ds)) _ _ (fun _ _ _ => False) (hr.make C us []) (I2.env0.make C us []) (hb _ (Value.ref (hp.objs.size + 1) :: us) I2.kIn hl) r2 hq) fun r s' hq' => ?_))
  cases r with
  | error er => exact hx pins σ _ _ er s' I2 hq'
  | ok fl =>
    cases fl with
    | ret u =>
      obtain ⟨v, H2, J, rv, ev, q2⟩ := I2.after hq'
      subst ev
      exact ⟨rv, .ref (hp.objs.size + 1), H2, J, rfl, q2⟩
    | next => exact False.elim hq'
    | brk => exact False.elim hq'
    | cont => exact False.elim hq'
theorem pe_oeV {CX : CXT} {fI : Addr} {k : Nat} {fd : FuncData} {ps : List Str} {sp : Sp} {ds : List Value} {dvs : List V} (T : OexC X.K C) (iC : PySem.W.findIn X.K (.ref C) "__init__" = some (some (.ref fI))) (tI : PySem.W.typeIn X.K (.ref fI) = some (.type "function"))
    (F1 : FnOk X.prog X.w X.K X.mg X.base CX k fI fd ps sp) (hr : Room (k + 1) X.A) (hb : Binds X.K fd ps ds) (hd : Vals dvs ds) (hx : Passes CX X (fun _ _ _ => False)) (hm : X.mg x = some (.ref C)) (ha : PA X (e :: es) ta) (hg : Gl X x := by rfl)
    (hdb : (x == ("__debug__" : Str)) = false := by decide) (he : starEach (e :: es) X.env = (false, eval e X.env) :: starEach es X.env := by rfl) (hpl : (backTo pos (starEach es X.env)).any (·.1) = false := by rfl) :
    PE X (.Call (.Name x p) (e :: es) [] pos) (tOeV C sp dvs ta) := by
  refine ⟨fun pins s σ H Q I h => ?_⟩
  refine wpAny_Call_Name_kw (ld_glob I hg hm ?_ hdb)
  refine PySem.W.callWith_K (h₀ := X.base) I.ok.mod.kin T.kC (thn (ha.run pos pins s σ H _ I h) fun us s1 ⟨vs, H1, I1, r1, hz, q1⟩ => ⟨I1.kIn, ?_⟩) he hpl
  exact run_oeV T iC tI F1 hr hb hd hx I1 r1 hz q1
theorem pe_oeV0 {CX : CXT} {fI : Addr} {k : Nat} {fd : FuncData} {ps : List Str} {sp : Sp} {ds : List Value} {dvs : List V} (T : OexC X.K C) (iC : PySem.W.findIn X.K (.ref C) "__init__" = some (some (.ref fI))) (tI : PySem.W.typeIn X.K (.ref fI) = some (.type "function"))
    (F1 : FnOk X.prog X.w X.K X.mg X.base CX k fI fd ps sp) (hr : Room (k + 1) X.A) (hb : Binds X.K fd ps ds) (hd : Vals dvs ds) (hx : Passes CX X (fun _ _ _ => False)) (hm : X.mg x = some (.ref C)) (hg : Gl X x := by rfl)
    (hdb : (x == ("__debug__" : Str)) = false := by decide) : PE X (.Call (.Name x p) [] [] pos) (tOeV C sp dvs tNil) := by
  refine ⟨fun pins s σ H Q I h => ?_⟩
  refine wpAny_Call_Name_kw (ld_glob I hg hm ?_ hdb)
  exact PySem.W.callWith_K0 I.kIn T.kC (run_oeV (us := []) T iC tI F1 hr hb hd hx I .nil h.1 h.2)
/-- X(), a value, X a class without a text of its own -/
theorem pe_exV0 {bmB : List Value} {B newId initId : String} (F : ExcBaseFacts B newId initId bmB) (q : PySem.W.excIn X.K C bmB newId = true) (gC : X.mg x = some (.ref C)) (kC : PySem.W.keepIn X.K (.ref C) = true) (hg : Gl X x := by rfl) (hdb : (x == ("__debug__" : Str)) = false := by decide) :
    PE X (.Call (.Name x p) [] [] pos) (fun σ H Q => ∀ a, H a = none → Q (.ref a) (upd H a (exo a C none))) := by
  refine ⟨fun pins s σ H Q I h => ?_⟩
  refine wpAny_Call_Name_kw (ld_glob I hg gC ?_ hdb)
  refine PySem.W.callWith_K0 I.kIn kC ?_
  show wpAny _ _ (call (.ref C) []) _ _ _
  obtain ⟨bm, N, nm, qn, bs, hdct, sn, sub, ab, col, dd, k0, k1, k2, k3, k5, mN, hC, hN, hni, T⟩ := exc_obj I.kIn q
  refine wpAny_call_exc_subT F T hC hN hni (fun h' a hm => ?_) (by show 0 ≤ sizeLine; omega)
  have hn : H a = none := I.hok.gone hm.new
  obtain ⟨t, ht, _, _⟩ := hm.there
  exact ⟨.ref a, upd H a (exo a C none), I.laidN hm.keeps hm.new hn (exo_ok ht), rfl, h a hn⟩
/-- raise X() -/
theorem pmk_ex0 {bmB : List Value} {B newId initId : String} (F : ExcBaseFacts B newId initId bmB) (q : PySem.W.excIn X.K C bmB newId = true) (gC : X.mg x = some (.ref C)) (kC : PySem.W.keepIn X.K (.ref C) = true) (r : Raises X (.ref C)) (hg : Gl X x := by rfl) (hdb : (x == ("__debug__" : Str)) = false := by decide) :
    PMk X (.Call (.Name x p) [] [] pos) (fun _ H Q => Q (.ref C) none H) := by
  intro pins s σ H Q I h
  refine wpAny_Call_Name_kw (ld_glob I hg gC ?_ hdb)
  refine PySem.W.callWith_K0 I.kIn kC ?_
  show wpAny _ _ (call (.ref C) []) _ _ _
  obtain ⟨bm, N, nm, qn, bs, hdct, sn, sub, ab, col, dd, k0, k1, k2, k3, k5, mN, hC, hN, hni, T⟩ := exc_obj I.kIn q
  refine wpAny_call_exc_subT F T hC hN hni (fun h' e hm => ?_) (by show 0 ≤ sizeLine; omega)
  exact mk_of I hm r h (I.hok.gone hm.new)
/-- B.__init__(self, ..), B an own class that leaves it to ValueError -/
theorem pe_deinit {pl : Sem Bool} {B : Addr} {mc : Value} (r : ClX.CRead X.K B mc) (vV : PySem.W.findCls X.K (.ref B) mc "__init__" = some (.val (.builtin "ValueError.__init__"))) (hm : X.mg x = some (.ref B)) (ha : PA X (e :: es) ta)
    (hc : eval (.Call (.Attribute (.Name x p1) "__init__" p2) (e :: es) [] pos) X.env = (do
      let ov ← eval (.Name x p1) X.env
      standAt p2.atName
      let (f, first) ← holding [ov] (getMethod ov "__init__" pl)
      callWith pos f first (backTo pos (starEach (e :: es) X.env)) (backToKw pos (keywordEach [] X.env))) := by rfl) (hg : Gl X x := by rfl) (hdb : (x == ("__debug__" : Str)) = false := by decide)
    (he : starEach (e :: es) X.env = (false, eval e X.env) :: starEach es X.env := by rfl) (hpl : (backTo pos (starEach es X.env)).any (·.1) = false := by rfl) :
    PE X (.Call (.Attribute (.Name x p1) "__init__" p2) (e :: es) [] pos) (tVeI X.K ta) := by
  refine ⟨fun pins s σ H Q I h => ?_⟩
  refine PySem.W.methodCall_KW (ld_glob I hg hm ?_ hdb) hc
  refine PySem.W.method_cls I.kIn r.ga (PySem.W.cls_value I.kIn r.rd vV (by rfl) ?_)
  show wpAny _ _ (callWith pos (Value.builtin "ValueError.__init__") [] (backTo pos (starEach (e :: es) X.env)) []) _ _ _
  refine PyProof.Rows.callWith_method1 (thn (ha.run pos pins _ σ H _ (I.tok _) h) fun us s1 ⟨vs, H1, I1, r1, a, C, ws, ev, hl, T, ea, q⟩ => ?_) he hpl
  subst ev
  cases r1 with
  | @cons _ u0 _ ur ra rw' =>
    obtain rfl : u0 = Value.ref a := ra
    have hlen : ur.length ≤ sizeLine := by
      rw [← Paired.length rw', sizeLine_eq]
      omega
    exact oinit_ok T I1 ea hlen fun s' J => ⟨.non, H1, J, rfl, q⟩
/-- e.f, e an error that is a value -/
def tFldE (K : PySem.W.Frag) (f : Str) (te : TE) : TE := fun σ H Q => te σ H fun x H1 => ∃ (a C d : Addr) (fs : List (Str × V)) (v : V), x = .ref a ∧ H1 a = some (exo a C (some d)) ∧ H1 d = some (exd d fs) ∧ XfC K C ∧ PySem.W.findIn K (.ref C) f = some none ∧ fs.lookup f = some v ∧ Q v H1
theorem pe_fldE {o : Expr} {te : TE} {n : Str} (he : PE X o te) (hb : attributeBase o n X.env (eval o X.env) = eval o X.env := by rfl) : PE X (.Attribute o n pos) (tFldE X.K n te) := by
  refine ⟨fun pins s σ H Q I h => ?_⟩
  refine attr_of hb (thn (he.run pins s σ H _ I h) fun u s1 hh => ?_)
  obtain ⟨x, H1, I1, rx, a, C, d, fs, v, ex, ea, ed, T, hno, l, q⟩ := hh
  subst ex
  obtain rfl : u = Value.ref a := rx
  obtain ⟨t1, ho⟩ := exo_at I1.hok ea
  obtain ⟨mA, hns, hr⟩ := exd_at I1.hok ed
  obtain ⟨od, hod, hl⟩ := lookIn_ns hns
  obtain ⟨u, hu, ru⟩ := RelO.some_of (v := v) (o := mA n) (by rw [← l]; exact hr n)
  have J : PySem.W.InstAt s1.heap a { cls := .ref C, dict := some d, data := .fields #[.ref t1, .none, .none, .none, .bool false, .none] } C (some od) := ⟨ho, rfl, rfl, hod⟩
  exact HandSPX.exc_get I1.kIn J T.ga T.gg T.exC (PySem.W.findObj_own T.hdC hno rfl (by rw [hl, hu])) (handed_of ru) ⟨v, H1, I1.tok _, ru, q⟩
/-- isinstance(e, c), e an error that is a value -/
def rIsEv (K : PySem.W.Frag) : List V → Hp → VK → Prop := fun xs H Q => ∃ (a C : Addr) (d : Option Addr) (c : V) (cv : Value) (b : Bool), xs = [.ref a, c] ∧ H a = some (exo a C d) ∧ (∀ dd, d = some dd → ∃ fs, H dd = some (exd dd fs)) ∧ ExcC K C ∧ ClsV c cv ∧ PySem.W.kitOne K (.ref C) cv = some b ∧ Q (.bl b) H
theorem call_isEv : CallR X (.builtin "isinstance") (rIsEv X.K) := by
  intro pins s σ H xs us Q I r h
  obtain ⟨a, C, d, c, cv, b, rfl, ea, hd, T, hcv, e, q⟩ := h
  obtain ⟨u1, u2, rfl, r1, r2⟩ := vals2 r
  obtain rfl : u1 = Value.ref a := r1
  have ec := hcv.eq r2
  subst ec
  obtain ⟨t1, ho⟩ := exo_at I.hok ea
  have hod : ∃ od : Option Obj, PySem.W.InstAt s.heap a { cls := .ref C, dict := d, data := .fields #[.ref t1, .none, .none, .none, .bool false, .none] } C od := by
    cases d with
    | none => exact ⟨none, ho, rfl, rfl, trivial⟩
    | some dd =>
      obtain ⟨fs, ed⟩ := hd dd rfl
      obtain ⟨mA, hns, hr⟩ := exd_at I.hok ed
      obtain ⟨od, hod, hl⟩ := lookIn_ns hns
      exact ⟨some od, ho, rfl, rfl, hod⟩
  obtain ⟨od, J⟩ := hod
  exact PySem.W.kia_one (PySem.ErrL.kitx_err T) I.kIn J e (fun z => nomatch z) fun tk => ⟨.bl b, H, I.kept (t' := tk) fun _ _ z => z, rfl, q⟩
/-- the class at C makes its errors by a maker that is walked -/
def CalO (P : Program) (w : World) (K : PySem.W.Frag) (mg : Str → Option Value) (base : Heap) (k : Nat) (C : Addr) (ps : List Str) (sp : Sp) : Prop :=
  OexC K C ∧ ∃ (f : Addr) (fd : FuncData), FnOk P w K mg base CX0 k f fd ps sp ∧ PySem.W.findIn K (.ref C) "__init__" = some (some (.ref f)) ∧ PySem.W.typeIn K (.ref f) = some (.type "function") ∧ Binds K fd ps []
theorem pe_calO {k : Nat} {ps : List Str} {sp : Sp} (c : CalO X.prog X.w X.K X.mg X.base k C ps sp) (hm : X.mg x = some (.ref C)) (hr : Room (k + 1) X.A) (ha : PA X (e :: es) ta) (hx : Passes CX0 X (fun _ _ _ => False) := by first | exact pass0 | exact passL) (hg : Gl X x := by rfl)
    (hdb : (x == ("__debug__" : Str)) = false := by decide) (he : starEach (e :: es) X.env = (false, eval e X.env) :: starEach es X.env := by rfl) (hpl : (backTo pos (starEach es X.env)).any (·.1) = false := by rfl) :
    PE X (.Call (.Name x p) (e :: es) [] pos) (tOeV C sp [] ta) := by
  obtain ⟨T, f, fd, h1, h2, h3, h4⟩ := c
  exact pe_oeV T h2 h3 h1 hr h4 .nil hx hm ha hg hdb he hpl
theorem pe_calO0 {k : Nat} {ps : List Str} {sp : Sp} (c : CalO X.prog X.w X.K X.mg X.base k C ps sp) (hm : X.mg x = some (.ref C)) (hr : Room (k + 1) X.A) (hx : Passes CX0 X (fun _ _ _ => False) := by first | exact pass0 | exact passL) (hg : Gl X x := by rfl)
    (hdb : (x == ("__debug__" : Str)) = false := by decide) : PE X (.Call (.Name x p) [] [] pos) (tOeV C sp [] tNil) := by
  obtain ⟨T, f, fd, h1, h2, h3, h4⟩ := c
  exact pe_oeV0 T h2 h3 h1 hr h4 .nil hx hm hg hdb
end
/-! ### what stands of an error that is a value -/
/-- e is an error of the class at C -/
def ErV (H : Hp) (e C : Addr) : Prop := ∃ d : Option Addr, H e = some (exo e C d) ∧ ∀ dd, d = some dd → ∃ fs, H dd = some (exd dd fs)
/-- .. with these fields -/
def ErF (H : Hp) (e C : Addr) (g : List (Str × V)) : Prop := ∃ (d : Addr) (fs : List (Str × V)), H e = some (exo e C (some d)) ∧ H d = some (exd d fs) ∧ ∀ f v, g.lookup f = some v → fs.lookup f = some v
section
variable {K : PySem.W.Frag} {H H' : Hp} {e C : Addr} {g : List (Str × V)}
theorem ErF.v (x : ErF H e C g) : ErV H e C := by
  obtain ⟨d, fs, h1, h2, _⟩ := x
  exact ⟨some d, h1, fun dd q => by cases q; exact ⟨fs, h2⟩⟩
theorem ErV.same (x : ErV H e C) (S : Same H H') : ErV H' e C := by
  obtain ⟨d, h1, h2⟩ := x
  refine ⟨d, S _ _ h1, fun dd q => ?_⟩
  obtain ⟨fs, h⟩ := h2 dd q
  exact ⟨fs, S _ _ h⟩
theorem ErF.same (x : ErF H e C g) (S : Same H H') : ErF H' e C g := by
  obtain ⟨d, fs, h1, h2, h3⟩ := x
  exact ⟨d, fs, S _ _ h1, S _ _ h2, h3⟩
/-- X(e, ..) by super().__init__ -/
theorem erV_ok {fs : List Str} {okV : List V → Prop} {vs : List V} {Q : Addr → Hp → Prop} (hl : vs.length = fs.length) (hv : okV vs) (k : ∀ a H', Same H H' → ErF H' a C (fs.zip vs) → Q a H') :
    vs.length = fs.length ∧ okV vs ∧ ∀ a d, H a = none → H d = none → d ≠ a → Q a (upd (upd H d (exd d (fs.zip vs))) a (exo a C (some d))) := by
  refine ⟨hl, hv, fun a d na nd ne => k a _ ?_ ⟨d, fs.zip vs, upd_same, by rw [upd_ne ne]; exact upd_same, fun _ _ z => z⟩⟩
  exact (sNew nd).trans (sNew (by rw [upd_ne (Ne.symm ne)]; exact na))
/-- X() by a maker that is walked, or by none -/
theorem fldE_ok {f : Str} {v : V} {Q : VK} (x : ErF H e C g) (T : XfC K C) (hno : PySem.W.findIn K (.ref C) f = some none) (l : g.lookup f = some v) (k : Q v H) :
    ∃ (a C' d : Addr) (fs : List (Str × V)) (v' : V), V.ref e = .ref a ∧ H a = some (exo a C' (some d)) ∧ H d = some (exd d fs) ∧ XfC K C' ∧ PySem.W.findIn K (.ref C') f = some none ∧ fs.lookup f = some v' ∧ Q v' H := by
  obtain ⟨d, fs, h1, h2, h3⟩ := x
  exact ⟨e, C, d, fs, v, rfl, h1, h2, T, hno, h3 f v l, k⟩
theorem isE_ok {c : V} {cv : Value} {b : Bool} {Q : VK} (x : ErV H e C) (T : ExcC K C) (hc : ClsV c cv) (hk : PySem.W.kitOne K (.ref C) cv = some b) (k : Q (.bl b) H) : rIsEv K [.ref e, c] H Q := by
  obtain ⟨d, h1, h2⟩ := x
  exact ⟨e, C, d, c, cv, b, rfl, h1, h2, T, hc, hk, k⟩
/-- the promise of a maker that is walked: what it makes of a new error -/
def spIni (C : Addr) (fs : List Str) : Sp := fun vs H Q _ => ∃ (a : Addr) (us : List V), vs = .ref a :: us ∧ us.length = fs.length ∧ H a = some (exo a C none) ∧
  (fs = [] → Q .non H) ∧ ∀ dx H', H dx = none → dx ≠ a → (∀ b o, H b = some o → b ≠ a → H' b = some o) → H' a = some (exo a C (some dx)) → H' dx = some (exd dx (fs.zip us).reverse) → Q .non H'
theorem oeV_ok {fs : List Str} {vs : List V} {Q : Addr → Hp → Prop} (hl : vs.length = fs.length) (hz : vs.length ≤ 1000) (hn : fs ≠ []) (hd : ∀ f v, (fs.zip vs).lookup f = some v → (fs.zip vs).reverse.lookup f = some v) (k : ∀ a H', Same H H' → ErF H' a C (fs.zip vs) → Q a H') :
    vs.length ≤ 1000 ∧ ∀ a, H a = none → spIni C fs (.ref a :: (vs ++ [])) (upd H a (exo a C none)) (fun v H2 => v = .non ∧ Q a H2) (fun _ _ _ => False) := by
  refine ⟨hz, fun a na => ⟨a, vs, by rw [List.append_nil], hl, upd_same, fun z => absurd z hn, fun dx H' nd ne kp h1 h2 => ⟨rfl, k a H' (fun b o q => ?_) ⟨dx, _, h1, h2, hd⟩⟩⟩⟩
  have nb : b ≠ a := ne_of_none q na
  exact kp b o (by rw [upd_ne nb]; exact q) nb
theorem oeV0_ok {Q : Addr → Hp → Prop} (k : ∀ a H', Same H H' → ErV H' a C → Q a H') :
    ([] : List V).length ≤ 1000 ∧ ∀ a, H a = none → spIni C [] (.ref a :: ([] ++ [])) (upd H a (exo a C none)) (fun v H2 => v = .non ∧ Q a H2) (fun _ _ _ => False) :=
  ⟨by decide, fun a na => ⟨a, [], rfl, rfl, upd_same, fun _ => ⟨rfl, k a _ (sNew na) ⟨none, upd_same, fun dd q => by cases q⟩⟩, fun dx H' nd ne kp h1 h2 => ⟨rfl, k a H' (fun b o q => kp b o (by rw [upd_ne (ne_of_none q na)]; exact q) (ne_of_none q na)) ⟨some dx, h1, fun dd q => by cases q; exact ⟨_, h2⟩⟩⟩⟩⟩
theorem exV0_ok {Q : Addr → Hp → Prop} (k : ∀ a H', Same H H' → ErV H' a C → Q a H') : ∀ a, H a = none → Q a (upd H a (exo a C none)) :=
  fun a na => k a _ (sNew na) ⟨none, upd_same, fun dd q => by cases q⟩
end
end L2
set_option Elab.async false
set_option linter.all false
set_option maxRecDepth 100000
/-! several clauses «except X as n», the name alike in all -/
namespace L2
open PySem PySem.Spec PyProof.Rows
/-- the ends of a suite that holds a name at slot i: the name is gone behind it -/
def endsAs (i : Nat) (D : Ends) : Ends where
  nx := fun τ G => D.nx (τ.set i none) G
  rt := D.rt
  bk := fun τ G => D.bk (τ.set i none) G
  ct := fun τ G => D.ct (τ.set i none) G
/-- what the clauses wish, one behind the other -/
def wAsM (K : PySem.W.Frag) (i : Nat) (Wo : WX) (D : Ends) : List (Value × (Addr → Value → Option Addr → TS)) → WX
  | [] => Wo
  | (c, ts) :: r => fun cls d τ G => ∃ t, PySem.W.exmOne K cls c = some t ∧ (t = true → ∀ a, G a = none → ts a cls d (endsAs i D) (τ.set i (some (.ref a))) G) ∧ (t = false → wAsM K i Wo D r cls d τ G)
/-- the clauses, written -/
inductive ClsAs (X : Cx) (n : Str) : List ExceptHandler → List (Value × (Addr → Value → Option Addr → TS)) → Prop
  | nil : ClsAs X n [] []
  | cons {x : Str} {c : Value} {ts : Addr → Value → Option Addr → TS} {b0 : Stmt} {rest : List Stmt} {p q : Pos} {hs : List ExceptHandler} {l : List (Value × (Addr → Value → Option Addr → TS))} (hc : Names X x c)
      (hsu : ∀ (a : Addr) (oe : Obj) (cls : Value) (d : Option Addr) (pn : List (Addr × Obj)), Zc cls d oe → (∃ vs, oe.data = .fields vs) → PSs (X.suite a ((a, oe) :: pn)) (b0 :: rest) (ts a cls d)) (more : ClsAs X n hs l) :
      ClsAs X n (.ExceptHandler (some (.Name x p)) (some n) (b0 :: rest) q :: hs) ((c, ts) :: l)
section
variable {X : Cx} {n : Str} {i : Nat} {body : List Stmt} {c0 : ExceptHandler} {cs : List ExceptHandler} {l : List (Value × (Addr → Value → Option Addr → TS))} {pos : Pos} {tb : WX → TS} {Wo : WX}
theorem ps_try_asM (hst : X.stack = X.env :: X.outer) (hfr : X.env.frame = some X.env.locals) (hN : X.N.Nodup) (hi : X.N[i]? = some n) (hln : X.env.kindOf n = some .local) (tk : Takes X Wo)
    (hb : ∀ (W : WX) (pn : List (Addr × Obj)) (xe : Value → Shared → Prop), Takes (X.tr pn xe) W → PassesOwn (model X.prog X.w) X.A X.env xe → PSs (X.tr pn xe) body (tb W))
    (hh : ClsAs X n (c0 :: cs) l) : PS X (.Try body (c0 :: cs) [] [] pos) (fun D τ G => tb (wAsM X.K i Wo D l) D τ G) := by
  refine ⟨fun pins s τ G D I wish => ?_⟩
  have good := I.ok
  have frames : X.A.frames = some (X.env :: X.outer) := by rw [good.frames, hst]
  have loc : Loc X.env.scope n := .inl hln
  refine wpAny_Try_except (wpAny_mono ((hb (wAsM X.K i Wo D l) (X.pn ++ pins) (fun e s1 => wpAny (model X.prog X.w) X.A (noteFrame e X.env) (fun _ s2 => wpAny (model X.prog X.w) X.A (setFlight e none) (fun _ s3 =>
    wpAny (model X.prog X.w) X.A (handleBy e X.env (c0 :: cs)) (SP X pins D) X.xe s3) X.xe s2) X.xe s1) (fun u s1 caught => ?_) PassesOwn.looking).run [] s τ G D (I.toTry _) wish) (fun r s1 came => ?_) (fun e s1 z => z))
  · obtain ⟨a, B, sI, pinsI, τ1, G1, cls, d, rfl, J0, nb, up, sky, na, os, ag, w⟩ := caught
    have J : Inv X pins τ1 G1 sI := J0.ofTry good
    have skyX : Sky B (X.env :: X.outer) a (Zc cls d) X.env.locals s1.heap := by rw [← hst]; exact sky
    show wpAny _ X.A (noteFrame (.ref a) X.env) _ _ _
    refine Sky.land Zc.steady frames hfr skyX fun hp fl upL => ?_
    have J1 : Inv X pins τ1 G1 { s1 with heap := hp } := J.landed nb fl.1 (up.trans upL) os ag
    obtain ⟨oe, vs, hoe, hz, hdat⟩ := fl.there
    have notin : a ∉ frs (X.env :: X.outer) := fun hm => by
      obtain ⟨_, ob, eb, nf⟩ := fl.2.2.1.mem hm
      rw [hoe] at eb
      cases eb
      exact nf _ hdat
    have nL : a ≠ X.env.locals := fun z => notin (List.mem_filterMap.mpr ⟨X.env, List.mem_cons_self, by rw [hfr, z]⟩)
    have nF : a ∉ X.fs := fun hm => by
      obtain ⟨e, he, z⟩ := List.mem_filterMap.mp hm
      exact notin (List.mem_filterMap.mpr ⟨e, List.mem_cons_of_mem _ he, z⟩)
    have S1 := J1.suite hoe hdat na nL nF
    suffices go : ∀ {hs : List ExceptHandler} {ll : List (Value × (Addr → Value → Option Addr → TS))}, ClsAs X n hs ll → wAsM X.K i Wo D ll cls d τ1 G1 → wpAny (model X.prog X.w) X.A (handleBy (.ref a) X.env hs) (SP X pins D) X.xe { s1 with heap := hp } from go hh w
    intro hs ll hk
    induction hk with
    | nil =>
      intro out
      refine wpAny_handleBy_nil ?_
      obtain ⟨_, _, _, oe2, vs2, T, oT, tt, e2, _, d2, v2, _⟩ := id fl
      have fin : wpAny (model X.prog X.w) X.A (setFlight (.ref a) X.env.frame) (fun _ s4 => wpAny (model X.prog X.w) X.A (throw (.ref a) : Sem Flow) (SP X pins D) X.xe s4) X.xe { s1 with heap := hp } := by
        rw [hfr]
        refine HandSPX.setFlight_upZ fl fun h4 sk up4 => wpAny_throw (tk _ _ ?_)
        exact ⟨a, B, sI, pins, τ1, G1, cls, d, rfl, J, nb, (up.trans upL).trans up4, .inr (.inr (by rw [hst]; exact sk)), na, os, ag, out⟩
      unfold PySem.passOn
      refine wpAny_bind (wpAny_field e2 d2 v2 ?_)
      rw [if_neg (by simp)]
      first
        | exact wpAny_bind (wpAny_pure (wpAny_bind fin))
        | exact wpAny_bind fin
    | @cons x c ts b0 rest p q hs2 l2 hc hsu more ih =>
      intro out
      obtain ⟨t, ht, yes, no⟩ := out
      refine wpAny_handleBy_cons (codeAny_handlers_test ?_) (by intro z; cases z)
      have LM := PySem.W.exm_one (M := model X.prog X.w) J1.kIn (show PySem.W.Looks (model X.prog X.w) hp (typeOf (.ref a)) cls from fun _ _ _ _ k z => wpAny_typeOf_ref (k _ _ hoe) (by rw [hz.1]; exact z)) ht
      have ask : ∀ {Q : Value → Shared → Prop} {E : Value → Shared → Prop}, Q c { s1 with heap := hp } → wpAny (model X.prog X.w) (X.A.mark (some (.ref a))) (eval (.Name x p) X.env) Q E { s1 with heap := hp } := fun {Q E} z => by
        obtain ⟨hg, hdbg, hm | ⟨hm, hv, hnn⟩⟩ := hc
        · exact ld_glob (X := X.suite a ((a, oe) :: (X.pn ++ pins))) S1 hg hm z hdbg
        · exact ld_blt (X := X.suite a ((a, oe) :: (X.pn ++ pins))) S1 hg hm hv z hnn hdbg
      refine ask (LM.here ?_)
      cases t with
      | false => exact (show wpAny _ X.A (handleBy (.ref a) X.env hs2) _ _ _ from ih (no rfl))
      | true =>
        refine codeAny_handlers_suite_as (HandSPX.lands_againZ fl fun hp2 fl2 up2 => ?_)
        have J2 : Inv X pins τ1 G1 { s1 with heap := hp2 } := J.landed nb fl2.1 ((up.trans upL).trans up2) os ag
        obtain ⟨oe2, vs2, hoe2, hz2, hdat2⟩ := fl2.there
        refine store_ok (X := X.suite a ((a, oe2) :: (X.pn ++ pins))) (v := .ref a) (J2.suite hoe2 hdat2 na nL nF) hN hi loc rfl (fun s5 S5 => ?_) (.inr hln)
        refine wpAny_mono ((hsu a oe2 cls d (X.pn ++ pins) hz2 ⟨_, hdat2⟩).run [] s5 _ G1 _ S5 (yes rfl a na)) (fun r s6 came => ?_) (fun _ _ z => False.elim z)
        have gone : ∀ {τ6 : St} {G6 : Hp} {Q : Shared → Prop}, Inv (X.suite a ((a, oe2) :: (X.pn ++ pins))) [] τ6 G6 s6 → (∀ s7, Inv X pins (τ6.set i none) G6 s7 → Q s7) →
            wpAny (model X.prog X.w) X.A (do bindName X.env n .none; unbindBehindTheSuite X.env n q) (fun _ s7 => Q s7) X.xe s6 := fun S6 z => gone_ok (S6.unsuite good) hN hi hln z
        cases r with
        | next => obtain ⟨_, _, S6, w6⟩ := came; exact gone S6 fun _ J7 => ⟨_, _, J7, w6⟩
        | brk => obtain ⟨_, _, S6, w6⟩ := came; exact gone S6 fun _ J7 => ⟨_, _, J7, w6⟩
        | cont => obtain ⟨_, _, S6, w6⟩ := came; exact gone S6 fun _ J7 => ⟨_, _, J7, w6⟩
        | ret u => obtain ⟨_, _, _, S6, r6, w6⟩ := came; exact gone S6 fun _ J7 => ⟨_, _, _, J7, r6, w6⟩
  · cases r with
    | next => obtain ⟨_, _, J2, w2⟩ := came; exact wpAny_execs_nil ⟨_, _, J2.ofTry good, w2⟩
    | brk => obtain ⟨_, _, J2, w2⟩ := came; exact ⟨_, _, J2.ofTry good, w2⟩
    | cont => obtain ⟨_, _, J2, w2⟩ := came; exact ⟨_, _, J2.ofTry good, w2⟩
    | ret u => obtain ⟨_, _, _, J2, r2, w2⟩ := came; exact ⟨_, _, _, J2.ofTry good, r2, w2⟩
theorem ps_try_as2 {x1 x2 : Str} {c1 c2 : Value} {b1 b2 : Stmt} {r1 r2 : List Stmt} {p1 p2 q1 q2 : Pos} {ts1 ts2 : Addr → Value → Option Addr → TS} (hst : X.stack = X.env :: X.outer) (hfr : X.env.frame = some X.env.locals) (hN : X.N.Nodup) (hi : X.N[i]? = some n) (hln : X.env.kindOf n = some .local)
    (hc1 : Names X x1 c1) (hc2 : Names X x2 c2) (tk : Takes X Wo)
    (hb : ∀ (W : WX) (pn : List (Addr × Obj)) (xe : Value → Shared → Prop), Takes (X.tr pn xe) W → PassesOwn (model X.prog X.w) X.A X.env xe → PSs (X.tr pn xe) body (tb W))
    (h1 : ∀ (a : Addr) (oe : Obj) (cls : Value) (d : Option Addr) (pn : List (Addr × Obj)), Zc cls d oe → (∃ vs, oe.data = .fields vs) → PSs (X.suite a ((a, oe) :: pn)) (b1 :: r1) (ts1 a cls d))
    (h2 : ∀ (a : Addr) (oe : Obj) (cls : Value) (d : Option Addr) (pn : List (Addr × Obj)), Zc cls d oe → (∃ vs, oe.data = .fields vs) → PSs (X.suite a ((a, oe) :: pn)) (b2 :: r2) (ts2 a cls d)) :
    PS X (.Try body [.ExceptHandler (some (.Name x1 p1)) (some n) (b1 :: r1) q1, .ExceptHandler (some (.Name x2 p2)) (some n) (b2 :: r2) q2] [] [] pos) (fun D τ G => tb (wAsM X.K i Wo D [(c1, ts1), (c2, ts2)]) D τ G) :=
  ps_try_asM hst hfr hN hi hln tk hb (.cons hc1 h1 (.cons hc2 h2 .nil))
end
section
variable {X : Cx} {o e : Expr} {to : TE} {t : TA} {apos cpos : Pos}
/-- o.append(e) -/
theorem pe_app1 (ho : PE X o to) (ha : PA X [e] t) (hbase : attributeBase o "append" X.env (eval o X.env) = eval o X.env := by rfl)
    (hfew : ((backTo cpos (starEach [e] X.env)).all (fun x => !x.1) && (backToKw cpos (keywordEach [] X.env)).all (fun x => x.1.isSome) && decide ([e].length + ([] : List Keyword).length + (if ([] : List Keyword).isEmpty then 0 else 1) < 30)) = true := by rfl)
    (hline : (apos.endLine == cpos.line) = true := by rfl) (hs : starEach [e] X.env = (false, eval e X.env) :: starEach [] X.env := by rfl) (hplain : (backTo cpos (starEach [] X.env)).any (·.1) = false := by rfl) :
    PE X (.Call (.Attribute o "append" apos) [e] [] cpos) (tBM X.K "list" rAppend to t) := pe_bm PySem.F.plainAttrs_list PySem.F.slot_list_append PySem.F.type_list_append mt_append ho ha hbase hfew hline hs hplain
end
end L2
set_option Elab.async false
set_option linter.all false
set_option maxRecDepth 100000
set_option maxHeartbeats 4000000
/-! a head by one run: own errors' makers, any Bool of the written part -/
namespace HeM
open PySem PySem.Spec PyProof.Rows L2 He
/-! ### looks that answer true or false -/
/-- the object of an own error class -/
def ecB (K : PySem.W.Frag) (C : Addr) : Bool := match K.lookup C with
  | some ⟨.type "type", _, .cls cd, sl⟩ => (match cd.mro, sl.toList with
    | .ref C' :: bm, [_, _, _, _, some (.builtin n), _] => C' == C && (n == "ValueError.__new__" && (!cd.hasDel && (cd.hasDict && PySem.HandSPX.refsVE bm)))
    | _, _ => false)
  | _ => false
theorem ecB_ok {K : PySem.W.Frag} {C : Addr} (q : ecB K C = true) :
    ∃ nm q N bs bm sn sub ab col dd k0 k1 k2 k3 k5, K.lookup C = some (excClassObj nm q C N bs bm true sn sub ab col dd k0 k1 k2 k3 k5 "ValueError.__new__") ∧ PySem.HandSPX.refsVE bm = true := by
  unfold ecB at q
  split at q
  · rename_i dd cd sl ho
    split at q
    · rename_i C' bm k0 k1 k2 k3 n k5 hm hs
      simp only [Bool.and_eq_true, beq_iff_eq, Bool.not_eq_true'] at q
      obtain ⟨rfl, rfl, hdel, hdict, ht⟩ := q
      obtain ⟨nm, bs, mro, ns, qn, hd, sn, sub, ab, col, del⟩ := cd
      dsimp only at hm hdel hdict
      subst hm hdel hdict
      have hsl : sl = #[k0, k1, k2, k3, some (.builtin "ValueError.__new__"), k5] := by
        obtain ⟨l⟩ := sl
        simp only at hs
        rw [hs]
      subst hsl
      exact ⟨nm, qn, ns, bs, bm, sn, sub, ab, col, dd, k0, k1, k2, k3, k5, ho, ht⟩
    · cases q
  · cases q
/-- isinstance may be asked of its errors -/
def xcB (K : PySem.W.Frag) (D : Addr) : Bool :=
  eqO (PySem.W.findIn K (.ref D) "__getattribute__") (some (some (.builtin "BaseException.__getattribute__"))) && (eqO (PySem.W.findIn K (.ref D) "__getattr__") (some none) && (decide (PySem.W.subIn K (.ref D) (.type "BaseException") = some true) && (PySem.W.hasDictIn K D &&
    (eqO (PySem.W.findIn K (.ref D) "__class__") (some (some (.builtin "object.__class__"))) && decide (PySem.W.mroIn K D (.type "object") = some true)))))
def zB (K : PySem.W.Frag) : Bool := eqO (PySem.W.specialIn K (.builtin "object.__class__") "__get__") (some (some (.builtin "getset_descriptor.__get__"))) && decide (PySem.W.takesIn K (.builtin "object.__class__") = some true)
theorem xcB_ok {K : PySem.W.Frag} {D : Addr} (h : xcB K D = true) (z : zB K = true) : ExcC K D := by
  obtain ⟨h1, h⟩ := ba h
  obtain ⟨h2, h⟩ := ba h
  obtain ⟨h3, h⟩ := ba h
  obtain ⟨h4, h⟩ := ba h
  obtain ⟨h5, h6⟩ := ba h
  obtain ⟨z1, z2⟩ := ba z
  exact ⟨eqO_ok h1, eqO_ok h2, of_decide_eq_true h3, h4, eqO_ok h5, eqO_ok z1, of_decide_eq_true z2, of_decide_eq_true h6⟩
/-- its errors may be made -/
def oxB (K : PySem.W.Frag) (C : Addr) : Bool := ecB K C && (eqO (PySem.W.findIn K (.ref C) "__setattr__") (some (some (.builtin "object.__setattr__"))) && (decide (PySem.W.subIn K (.ref C) (.type "BaseException") = some true) && (decide (PySem.W.typeIn K (.ref C) = some (.type "type")) && PySem.W.keepIn K (.ref C))))
theorem oxB_ok {K : PySem.W.Frag} {C : Addr} (h : oxB K C = true) : OexC K C := by
  obtain ⟨h1, h⟩ := ba h
  obtain ⟨h2, h⟩ := ba h
  obtain ⟨h3, h⟩ := ba h
  obtain ⟨h4, h5⟩ := ba h
  exact ⟨ecB_ok h1, eqO_ok h2, of_decide_eq_true h3, of_decide_eq_true h4, h5⟩
/-- the maker stands in the class itself -/
def inB (K : PySem.W.Frag) (C : Str) : Bool := eqO (PySem.W.findIn K (.ref (ga K C)) "__init__") (some (some (.ref (ma K (ga K C) "__init__")))) && decide (PySem.W.typeIn K (.ref (ma K (ga K C) "__init__")) = some (.type "function"))
/-- found in the class as a value that it has -/
def valIs : Option PySem.W.CFound → Value → Bool
  | some (.val u), v => decide (u = v)
  | _, _ => false
theorem valIs_ok {o : Option PySem.W.CFound} {v : Value} (h : valIs o v = true) : o = some (.val v) := by
  cases o with
  | none => cases h
  | some f =>
    cases f with
    | val u => rw [of_decide_eq_true (show decide (u = v) = true from h)]
    | get _ _ _ _ => cases h
/-! ### makers that call super -/
structure IniD where
  C : Str
  qual : Str
  params : Arguments
  body : List Stmt
  scope : Scope
abbrev IniW : Type := Option (Str × Str × Arguments × FuncBody × Scope × Addr × Addr)
def iniW (K : PySem.W.Frag) (d : IniD) : IniW := match K.lookup (ma K (ga K d.C) "__init__") with
  | some ⟨_, _, .func fd, _⟩ => some (fd.name, fd.qualname, fd.params, fd.body, fd.scope, fd.globals, fd.builtins)
  | _ => none
def IniD.val (d : IniD) : IniW := some ("__init__", d.qual, d.params, .stmts d.body, d.scope, mainGlobals, builtinsNs)
/-- its function object: no defaults, one cell -/
def fnB (file : Str) (K : PySem.W.Frag) (C : Addr) (q : Str) : Option Obj → Bool
  | some ⟨_, _, .func fd, _⟩ => (match fd.closure, fd.defaults, fd.code with
    | [(x, cc)], .none, .ref cda => decide (x = "__class__") && (PySem.W.codeIn K (.ref cda) q && ((match K.lookup cda with
      | some ⟨_, _, .fields vs, _⟩ => (match (vs[2]? : Option Value) with
        | some (Value.str f _) => file == f
        | _ => false)
      | _ => false) && (match K.lookup cc with
      | some ⟨_, _, .cell (some (.ref C')), _⟩ => C' == C
      | _ => false)))
    | _, _, _ => false)
  | _ => false
def iniB (file : Str) (K : PySem.W.Frag) (d : IniD) : Bool :=
  oxB K (ga K d.C) && (inB K d.C && (decide (PySem.W.mroIn K (ga K d.C) (.ref (ga K d.C)) = some true) && (decide (PySem.W.subIn K (.ref (ga K d.C)) (.type "ValueError") = some true) &&
    (decide (PySem.W.ks_superIn K (ga K d.C) (ga K d.C) "__init__" = some (some (.builtin "ValueError.__init__"))) && fnB file K (ga K d.C) d.qual (K.lookup (ma K (ga K d.C) "__init__"))))))
theorem iniB_ok {P : Program} {K : PySem.W.Frag} {d : IniD} (e : iniW K d = d.val) (h : iniB P.main.file K d = true) (opq : PySem.W.nsIn K cStatics "thirdparty.any" = some none) (top : (P.main.scope.names.lookup ("super" : Str)).isSome = false) :
    PySem.ErrL.SupC P K (ga K d.C) (ma K (ga K d.C) "__init__") d.qual d.params d.body d.scope := by
  obtain ⟨h1, h⟩ := ba h
  obtain ⟨h2, h⟩ := ba h
  obtain ⟨h3, h⟩ := ba h
  obtain ⟨h4, h⟩ := ba h
  obtain ⟨h5, h6⟩ := ba h
  obtain ⟨i1, i2⟩ := ba h2
  have T := oxB_ok h1
  unfold iniW at e
  refine ⟨T.cls, ?_, of_decide_eq_true h3, of_decide_eq_true h4, opq, of_decide_eq_true h5, T.sa, eqO_ok i1, of_decide_eq_true i2, top⟩
  cases q : K.lookup (ma K (ga K d.C) "__init__") with
  | none =>
    rw [q] at e
    cases e
  | some o =>
    obtain ⟨oc, od, dt, osl⟩ := o
    rw [q] at e h6
    cases dt with
    | func fd =>
      obtain ⟨n1, n2, n3, n4, n5, n6, n7, n8, n9, n10, n11, n12, n13, n14, n15⟩ := fd
      have e2 : (some (n1, n2, n3, n4, n5, n6, n15) : IniW) = some (("__init__" : Str), d.qual, d.params, FuncBody.stmts d.body, d.scope, mainGlobals, builtinsNs) := e
      simp only [Option.some.injEq, Prod.mk.injEq] at e2
      obtain ⟨g1, g2, g3, g4, g5, g6, g7⟩ := e2
      subst g1 g2 g3 g4 g5 g6 g7
      unfold fnB at h6
      dsimp only at h6
      split at h6
      · rename_i x cc cda
        obtain ⟨r1, h6⟩ := ba h6
        obtain ⟨r2, h6⟩ := ba h6
        obtain ⟨r3, r4⟩ := ba h6
        obtain rfl := of_decide_eq_true r1
        split at r3
        · rename_i ccl cdd vs ccs hl
          split at r3
          · rename_i f tf hv
            split at r4
            · rename_i cl cld C' csl hc
              obtain rfl : C' = ga K d.C := beq_iff_eq.mp r4
              exact ⟨oc, od, n9, n10, n11, n12, cda, n14, osl, cc, vs, f, tf, ccl, cdd, ccs, cl, cld, csl, rfl, r2, hl, hv, r3, hc⟩
            · cases r4
          · cases r3
        · cases r3
      · cases h6
    | _ => cases e
/-! ### properties -/
/-- the getter of the property m -/
def pg (K : PySem.W.Frag) (C : Addr) (m : Str) : Addr := match PySem.W.recIn K (ma K C m) "property" with
  | some (.ref g :: _) => g
  | _ => 0
def pgD (K : PySem.W.Frag) (d : DefD) : Addr := pg K (ga K d.at_.1) (d.at_.2.getD "")
def fnWp (K : PySem.W.Frag) (d : DefD) : FnW := match K.lookup (pgD K d) with
  | some ⟨_, _, .func fd, _⟩ => some (fd.name, fd.qualname, fd.params, fd.body, fd.scope, fd.globals, fd.closure, fd.builtins)
  | _ => none
def isSomeHd : Option (List Value) → Addr → Bool
  | some (.ref g :: _), h => g == h
  | _, _ => false
def prpB (K : PySem.W.Frag) (d : DefD) : Bool :=
  eqO (PySem.W.findIn K (.ref (ga K d.at_.1)) (d.at_.2.getD "")) (some (some (.ref (ma K (ga K d.at_.1) (d.at_.2.getD ""))))) && (eqO (PySem.W.specialIn K (.ref (ma K (ga K d.at_.1) (d.at_.2.getD ""))) "__get__") (some (some (.builtin "property.__get__"))) &&
    (decide (PySem.W.takesIn K (.ref (ma K (ga K d.at_.1) (d.at_.2.getD ""))) = some true) && (isSomeHd (PySem.W.recIn K (ma K (ga K d.at_.1) (d.at_.2.getD "")) "property") (pgD K d) && (PySem.W.keepIn K (.ref (pgD K d)) && (match K.lookup (pgD K d) with
      | some ⟨_, _, .func fd, _⟩ => PySem.W.codeIn K fd.code d.qual && decide (fd.defaults = .none)
      | _ => false)))))
theorem prp_of {K : PySem.W.Frag} {d : DefD} (h : prpB K d = true) : PropOf K (ga K d.at_.1) (d.at_.2.getD "") (ma K (ga K d.at_.1) (d.at_.2.getD "")) (pgD K d) := by
  obtain ⟨h1, h⟩ := ba h
  obtain ⟨h2, h⟩ := ba h
  obtain ⟨h3, h⟩ := ba h
  obtain ⟨h4, h⟩ := ba h
  refine ⟨eqO_ok h1, eqO_ok h2, of_decide_eq_true h3, ?_⟩
  unfold isSomeHd at h4
  split at h4
  · rename_i g rest e
    obtain rfl : g = pgD K d := beq_iff_eq.mp h4
    exact ⟨rest, e⟩
  · cases h4
theorem prp_fun {K : PySem.W.Frag} {d : DefD} {st : Stmt} (e : fnWp K d = d.val) (h : prpB K d = true) (h1 : d.params = defArgs st) (h2 : d.body = defBody st) (h3 : d.scope = defScope st) : ∃ fd, Fun K d.name d.qual st (pgD K d) fd := by
  obtain ⟨_, h⟩ := ba h
  obtain ⟨_, h⟩ := ba h
  obtain ⟨_, h⟩ := ba h
  obtain ⟨_, h⟩ := ba h
  obtain ⟨kp, h⟩ := ba h
  unfold fnWp at e
  cases q : K.lookup (pgD K d) with
  | none =>
    rw [q] at h
    cases h
  | some o =>
    obtain ⟨oc, od, dt, osl⟩ := o
    rw [q] at h e
    cases dt with
    | func fd =>
      obtain ⟨n1, n2, n3, n4, n5, n6, n7, n8, n9, n10, n11, n12, n13, n14, n15⟩ := fd
      have e2 : (some (n1, n2, n3, n4, n5, n6, n7, n15) : FnW) = some (d.name, d.qual, d.params, .stmts d.body, d.scope, mainGlobals, [], builtinsNs) := e
      simp only [Option.some.injEq, Prod.mk.injEq] at e2
      obtain ⟨g1, g2, g3, g4, g5, g6, g7, g8⟩ := e2
      subst g1 g2 g3 g4 g5 g6 g7 g8
      obtain ⟨k1, k2⟩ := ba (show (PySem.W.codeIn K n13 d.qual && decide (n8 = .none)) = true from h)
      obtain rfl : n8 = .none := of_decide_eq_true k2
      refine ⟨_, ⟨oc, od, n9, n10, n11, n12, n13, n14, osl, ?_, q, k1⟩, kp⟩
      rw [← h1, ← h2, ← h3]
    | _ => cases h
/-! ### the Hook -/
/-- what the names of the module reach in n steps, and the table of third parties -/
def asM (g : Addr → Option Obj) : Nat → List Addr
  | 0 => [mainGlobals, cStatics]
  | n + 1 => growD g (asM g n)
/-- tables with text keys; defs whose defaults are not told -/
abbrev TabM : Type := List (Str × List Str) × List DefD
/-- the only default of a def: an empty tuple -/
def dfA (K : PySem.W.Frag) (d : DefD) : Addr := match K.lookup (fAd K d.at_) with
  | some ⟨_, _, .func fd, _⟩ => (match fd.defaults with
    | .ref T => (match K.lookup T with
      | some ⟨_, _, .seq its _, _⟩ => (match its.toList with
        | [.ref a] => a
        | _ => 0)
      | _ => 0)
    | _ => 0)
  | _ => 0
def etB (K : PySem.W.Frag) (a : Addr) : Bool := match K.lookup a with
  | some ⟨.type c, _, .seq its _, _⟩ => decide (c = "tuple") && its.isEmpty
  | _ => false
theorem etB_ok {K : PySem.W.Frag} {a : Addr} (h : etB K a = true) (H : Hp) : SqT K H a [] := by
  unfold etB at h
  split at h
  · rename_i c _ its n _ e
    obtain ⟨h1, h2⟩ := ba h
    obtain rfl : its = #[] := Array.isEmpty_iff.mp h2
    exact .inr ⟨_, #[], n, e, congrArg Value.type (of_decide_eq_true h1), rfl, Nat.zero_le _, .nil⟩
  · cases h
def codB (K : PySem.W.Frag) (d : DefD) : Bool := PySem.W.keepIn K (.ref (fAd K d.at_)) && (etB K (dfA K d) && (match K.lookup (fAd K d.at_) with
  | some ⟨_, _, .func fd, _⟩ => PySem.W.codeIn K fd.code d.qual && dflB K fd.defaults [.ref (dfA K d)]
  | _ => false))
abbrev AlM : Type := AlD × (List IniW × (List FnW × (List (Option (List (Option (Str × Int)))) × (List FnW × Bool))))
def obsM (file : Str) (fa : List Fa) (fn : List DefD) (ini : List IniD) (pr : List DefD) (ts : TabM) (ex : PySem.W.Frag → Bool) (K : PySem.W.Frag) : AlM := (obsD fa fn K, (ini.map fun d => iniW K d, (pr.map fun d => fnWp K d, (ts.1.map fun t => dicW K (ga K t.1), (ts.2.map fun d => fnW K d.at_, (ini.all fun d => iniB file K d) && ((pr.all fun d => prpB K d) && ((ts.2.all fun d => codB K d) && ex K)))))))
def valM (fn : List DefD) (ini : List IniD) (pr : List DefD) (ts : TabM) (w : World) : AlM := (valD fn, (ini.map IniD.val, (pr.map DefD.val, (ts.1.map fun t => some (keysIn w.params t.2), (ts.2.map DefD.val, true)))))
def obsMG (file : Str) (n : Nat) (fa : List Fa) (fn : List DefD) (ini : List IniD) (pr : List DefD) (ts : TabM) (ex : PySem.W.Frag → Bool) (g : Addr → Option Obj) : AlM := obsM file fa fn ini pr ts ex (frG g (asM g n))
/-- what is told -/
structure SaysM (file : Str) (fa : List Fa) (fn : List DefD) (ini : List IniD) (pr : List DefD) (ts : TabM) (ex : PySem.W.Frag → Bool) (w : World) (K : PySem.W.Frag) : Prop where
  t : ts.1.map (fun t => dicW K (ga K t.1)) = ts.1.map fun t => some (keysIn w.params t.2)
  v : ts.2.map (fun d => fnW K d.at_) = ts.2.map DefD.val
  vb : ∀ d ∈ ts.2, codB K d = true
  d : SaysD fa fn K
  w : ini.map (fun d => iniW K d) = ini.map IniD.val
  p : pr.map (fun d => fnWp K d) = pr.map DefD.val
  pb : ∀ d ∈ pr, prpB K d = true
  b : ∀ d ∈ ini, iniB file K d = true
  x : ex K = true
theorem saysM_of {file : Str} {fa : List Fa} {fn : List DefD} {ini : List IniD} {pr : List DefD} {ts : TabM} {ex : PySem.W.Frag → Bool} {w : World} {K : PySem.W.Frag} (e : obsM file fa fn ini pr ts ex K = valM fn ini pr ts w) : SaysM file fa fn ini pr ts ex w K := by
  have e1 : obsD fa fn K = valD fn := congrArg (fun z : AlM => z.1) e
  have e2 : ini.map (fun d => iniW K d) = ini.map IniD.val := congrArg (fun z : AlM => z.2.1) e
  have e3 : ((ini.all fun d => iniB file K d) && ((pr.all fun d => prpB K d) && ((ts.2.all fun d => codB K d) && ex K))) = true := congrArg (fun z : AlM => z.2.2.2.2.2) e
  have e5 : ts.1.map (fun t => dicW K (ga K t.1)) = ts.1.map fun t => some (keysIn w.params t.2) := congrArg (fun z : AlM => z.2.2.2.1) e
  have e6 : ts.2.map (fun d => fnW K d.at_) = ts.2.map DefD.val := congrArg (fun z : AlM => z.2.2.2.2.1) e
  have e4 : pr.map (fun d => fnWp K d) = pr.map DefD.val := congrArg (fun z : AlM => z.2.2.1) e
  obtain ⟨h1, h2⟩ := ba e3
  obtain ⟨h2, h3⟩ := ba h2
  obtain ⟨h4, h3⟩ := ba h3
  exact ⟨e5, e6, List.all_eq_true.mp h4, e1, e2, e4, List.all_eq_true.mp h2, List.all_eq_true.mp h1, h3⟩
theorem SaysM.prp {file : Str} {fa : List Fa} {fn : List DefD} {ini : List IniD} {pr : List DefD} {ts : TabM} {ex : PySem.W.Frag → Bool} {w : World} {K : PySem.W.Frag} (c : SaysM file fa fn ini pr ts ex w K) (i : Nat) {d : DefD} {st : Stmt} (h : pr[i]? = some d) (h1 : d.params = defArgs st) (h2 : d.body = defBody st) (h3 : d.scope = defScope st) :
    PropOf K (ga K d.at_.1) (d.at_.2.getD "") (ma K (ga K d.at_.1) (d.at_.2.getD "")) (pgD K d) ∧ ∃ fd, Fun K d.name d.qual st (pgD K d) fd := by
  have e2 : (pr.map fun d => fnWp K d)[i]? = (pr.map DefD.val)[i]? := by rw [c.p]
  rw [List.getElem?_map, List.getElem?_map, h] at e2
  have b := c.pb d (List.mem_of_getElem? h)
  exact ⟨prp_of b, prp_fun (Option.some.inj e2) b h1 h2 h3⟩
theorem SaysM.ini {P : Program} {fa : List Fa} {fn : List DefD} {ini : List IniD} {pr : List DefD} {ts : TabM} {ex : PySem.W.Frag → Bool} {w : World} {K : PySem.W.Frag} (c : SaysM P.main.file fa fn ini pr ts ex w K) (i : Nat) {d : IniD} (opq : PySem.W.nsIn K cStatics "thirdparty.any" = some none) (top : (P.main.scope.names.lookup ("super" : Str)).isSome = false) (h : ini[i]? = some d := by rfl) :
    PySem.ErrL.SupC P K (ga K d.C) (ma K (ga K d.C) "__init__") d.qual d.params d.body d.scope := by
  have e2 : (ini.map fun d => iniW K d)[i]? = (ini.map IniD.val)[i]? := by rw [c.w]
  rw [List.getElem?_map, List.getElem?_map, h] at e2
  exact iniB_ok (Option.some.inj e2) (c.b d (List.mem_of_getElem? h)) opq top
theorem SaysM.ox {file : Str} {fa : List Fa} {fn : List DefD} {ini : List IniD} {pr : List DefD} {ts : TabM} {ex : PySem.W.Frag → Bool} {w : World} {K : PySem.W.Frag} (c : SaysM file fa fn ini pr ts ex w K) (i : Nat) {d : IniD} (h : ini[i]? = some d := by rfl) : OexC K (ga K d.C) :=
  oxB_ok (ba (c.b d (List.mem_of_getElem? h))).1
theorem SaysM.ex_at {file : Str} {fa : List Fa} {fn : List DefD} {ini : List IniD} {pr : List DefD} {ts : TabM} {L : List (PySem.W.Frag → Bool)} {w : World} {K : PySem.W.Frag} (c : SaysM file fa fn ini pr ts (fun K => L.all fun b => b K) w K) (i : Nat) {b : PySem.W.Frag → Bool} (h : L[i]? = some b := by rfl) : b K = true :=
  List.all_eq_true.mp c.x b (List.mem_of_getElem? h)
theorem SaysM.tab {file : Str} {fa : List Fa} {fn : List DefD} {ini : List IniD} {pr : List DefD} {ts : TabM} {ex : PySem.W.Frag → Bool} {w : World} {K : PySem.W.Frag} (c : SaysM file fa fn ini pr ts ex w K) (i : Nat) {t : Str × List Str} (h : ts.1[i]? = some t := by rfl) : dicW K (ga K t.1) = some (keysIn w.params t.2) := by
  have e2 : (ts.1.map fun t => dicW K (ga K t.1))[i]? = (ts.1.map fun t => some (keysIn w.params t.2))[i]? := by rw [c.t]
  rw [List.getElem?_map, List.getElem?_map, h] at e2
  exact Option.some.inj e2
/-- a def as it stands behind the top, its one default an empty tuple -/
def FunV (K : PySem.W.Frag) (x qual : Str) (st : Stmt) (f : Addr) (fd : FuncData) : Prop := ∃ a0, FunD K x qual (defArgs st) (defBody st) (defScope st) [.ref a0] [] f fd ∧ ∀ H, SqT K H a0 []
theorem FunV.ok {P : Program} {w : World} {K : PySem.W.Frag} {mg : Str → Option Value} {base : Heap} {x qual : Str} {st : Stmt} {f : Addr} {fd : FuncData} {CX : CXT} {N ps : List Str} {k : Nat} {sp : Sp} (F : FunV K x qual st f fd) (S : FnScope N ps (defScope st)) (len : ∀ vs H Q E, sp vs H Q E → vs.length = ps.length)
    (hbody : ∀ (cdv : Value) (A : Around) (outer : List Env) (s : Shared) (H : Hp) (vs : List V) (Q : VK) (E : XK), Room k (A.deeper (envOfC qual (defScope st) s.heap.objs.size f cdv)) → sp vs H Q E →
      ∃ t, PSs (cxOf CX P w K mg base N qual (defScope st) f cdv A outer s H E) (defBody st) t ∧ t { nx := fun _ H' => Q .non H', rt := Q } (start N vs) H) : FnOk P w K mg base CX (k + 1) f fd ps sp := by
  obtain ⟨a0, F, _⟩ := F
  exact F.ok S len hbody
theorem FunV.binds {K : PySem.W.Frag} {x qual : Str} {st : Stmt} {f : Addr} {fd : FuncData} {ps : List Str} (F : FunV K x qual st f fd)
    (h : ∀ (T : Addr) (kV doc pm : Value) (an : Option Addr) (cdv ct : Value) (us its : List Value), us.length = ps.length → its.length = 1 →
      ∃ k, bindArgs (PySem.W.fnOf x qual (defArgs st) (defBody st) (defScope st) (.ref T) kV doc pm an cdv ct) ⟨us, []⟩ = seqItems? (.ref T) >>= k ∧ k (some its.toArray) = pure (ps.zip (us ++ its.drop 1))) : Binds K fd ps [] := by
  obtain ⟨a0, F, _⟩ := F
  obtain ⟨ds, r, b⟩ := F.binds1 (ps := ps) ps.length 1 (by simp) rfl h
  cases r
  exact b
theorem funV_of {K : PySem.W.Frag} {d : DefD} {st : Stmt} (e : fnW K d.at_ = d.val) (h : codB K d = true) (h1 : d.params = defArgs st) (h2 : d.body = defBody st) (h3 : d.scope = defScope st) : ∃ fd, FunV K d.name d.qual st (fAd K d.at_) fd := by
  obtain ⟨kp, h⟩ := ba h
  obtain ⟨et, h⟩ := ba h
  unfold fnW at e
  cases q : K.lookup (fAd K d.at_) with
  | none =>
    rw [q] at h
    cases h
  | some o =>
    obtain ⟨oc, od, dt, osl⟩ := o
    rw [q] at h e
    cases dt with
    | func fd =>
      obtain ⟨n1, n2, n3, n4, n5, n6, n7, n8, n9, n10, n11, n12, n13, n14, n15⟩ := fd
      have e2 : (some (n1, n2, n3, n4, n5, n6, n7, n15) : FnW) = some (d.name, d.qual, d.params, .stmts d.body, d.scope, mainGlobals, [], builtinsNs) := e
      simp only [Option.some.injEq, Prod.mk.injEq] at e2
      obtain ⟨g1, g2, g3, g4, g5, g6, g7, g8⟩ := e2
      subst g1 g2 g3 g4 g5 g6 g7 g8
      obtain ⟨k1, k2⟩ := ba (show (PySem.W.codeIn K n13 d.qual && dflB K n8 [.ref (dfA K d)]) = true from h)
      refine ⟨_, dfA K d, ⟨⟨oc, od, n8, n9, n10, n11, n12, n13, n14, osl, ?_, q, k1, dflB_ok k2, .inl rfl⟩, kp⟩, etB_ok et⟩
      rw [← h1, ← h2, ← h3]
    | _ => cases h
theorem SaysM.var {file : Str} {fa : List Fa} {fn : List DefD} {ini : List IniD} {pr : List DefD} {ts : TabM} {ex : PySem.W.Frag → Bool} {w : World} {K : PySem.W.Frag} (c : SaysM file fa fn ini pr ts ex w K) (i : Nat) {d : DefD} {st : Stmt} (h : ts.2[i]? = some d) (h1 : d.params = defArgs st) (h2 : d.body = defBody st) (h3 : d.scope = defScope st) :
    ∃ fd, FunV K d.name d.qual st (fAd K d.at_) fd := by
  have e2 : (ts.2.map fun d => fnW K d.at_)[i]? = (ts.2.map DefD.val)[i]? := by rw [c.v]
  rw [List.getElem?_map, List.getElem?_map, h] at e2
  exact funV_of (Option.some.inj e2) (c.vb d (List.mem_of_getElem? h)) h1 h2 h3
theorem inB_ok {K : PySem.W.Frag} {C : Str} (h : inB K C = true) : PySem.W.findIn K (.ref (ga K C)) "__init__" = some (some (.ref (ma K (ga K C) "__init__"))) ∧ PySem.W.typeIn K (.ref (ma K (ga K C) "__init__")) = some (.type "function") := by
  obtain ⟨h1, h2⟩ := ba h
  exact ⟨eqO_ok h1, of_decide_eq_true h2⟩
def hookM (file : Str) (n : Nat) (fa : List Fa) (fn : List DefD) (ini : List IniD) (pr : List DefD) (ts : TabM) (ex : PySem.W.Frag → Bool) : PySem.W.Hook where
  α := AlM
  obs := fun s => obsMG file n fa fn ini pr ts ex s.heap.get?
  val := fun w => valM fn ini pr ts w
  says := fun w h => ∃ K : PySem.W.Frag, K.In h ∧ SaysM file fa fn ini pr ts ex w K
  of := fun _ _ e => ⟨_, frG_in, saysM_of e⟩
  keeps := fun _ _ _ ⟨K, hK, c⟩ k => ⟨K, PySem.W.Frag.In.keeps hK k, c⟩
theorem obsMG_eq {file : Str} {n : Nat} {fa : List Fa} {fn : List DefD} {ini : List IniD} {pr : List DefD} {ts : TabM} {ex : PySem.W.Frag → Bool} {g : Addr → Option Obj} {s : Shared} (h : ∀ a, g a = s.heap.get? a) : obsMG file n fa fn ini pr ts ex g = (hookM file n fa fn ini pr ts ex).obs s := by
  have e : g = s.heap.get? := funext h
  rw [e] <;> rfl
end HeM
namespace L2
open PySem PySem.Spec PyProof.Rows
theorem fun_of {K : PySem.W.Frag} {x qual : Str} {st : Stmt} {f : Addr} {fd : FuncData} (F : FunD K x qual (defArgs st) (defBody st) (defScope st) [] [] f fd) : Fun K x qual st f fd := by
  obtain ⟨oc, od, dV, kV, doc, pm, an, cdv, ct, osl, rfl, lk, hcd, hD, hK⟩ := F.ex
  rcases hD with ⟨_, rfl⟩ | ⟨e, _⟩
  · exact ⟨⟨oc, od, kV, doc, pm, an, cdv, ct, osl, rfl, lk, hcd⟩, F.kp⟩
  · exact absurd rfl e
theorem Fun.bindsA1 {K : PySem.W.Frag} {x qual y : Str} {st : Stmt} {f : Addr} {fd : FuncData} (F : Fun K x qual st f fd)
    (h : ∀ (kV doc pm : Value) (an : Option Addr) (cdv ct : Value) (us : List Value), us.length = [y].length → bindArgs (PySem.W.fnOf x qual (defArgs st) (defBody st) (defScope st) .none kV doc pm an cdv ct) ⟨us, []⟩ = pure ([y].zip us)) (s : Shared) (v : Value) : BindsTo s fd ⟨[v], []⟩ [(y, v)] := by
  obtain ⟨oc, od, kV, doc, pm, an, cdv, ct, osl, rfl, lk, hcd⟩ := F.ex
  exact .of_eq (h kV doc pm an cdv ct [v] rfl)
end L2
set_option Elab.async false
set_option linter.all false
set_option maxRecDepth 100000
set_option maxHeartbeats 4000000
/-! == by an own __eq__ that may say False -/
namespace L2
open PySem PySem.Spec PyProof.Rows
def rOwn (K : PySem.W.Frag) (C : Addr) (sp : Sp) : R2 := fun x y H Q => ∃ (a dx : Addr) (fs : List (Str × V)) (t : Value), x = .ref a ∧ H a = some (.ins C dx fs) ∧ TyX K H y t ∧ PySem.W.notFirst K C t = true ∧ sp [x, y] H (fun v H' => (∃ b, v = .bl b) ∧ Q v H') E0
theorem op_own {X : Cx} {CX : CXT} {C : Addr} {k : Nat} {ps : List Str} {sp : Sp} (c : CalM X.prog X.w X.K X.mg X.base CX k C "__eq__" ps sp) (hr : Room k X.A) (hx : Passes CX X E0 := by first | exact pass0 | exact passL) : OpR X (compareOp .Eq) (rOwn X.K C sp) := by
  intro pins s σ H x y v u Q I rx ry h
  obtain ⟨f, fd, h1, h2, h4⟩ := c
  obtain ⟨a, dx, fs, t, rfl, ha, hy, hn, q⟩ := h
  obtain rfl : v = Value.ref a := rx
  obtain ⟨mA, J, _⟩ := ins_get I.hok ha
  obtain ⟨od, J, _⟩ := J.look
  obtain ⟨Pz, Z, pz, _⟩ := kit_of I ry hy
  obtain ⟨m, hF⟩ := I.fr
  show wpAny (model X.prog X.w) X.A (richCompare .Eq (.ref a) u) (EP X pins σ Q) X.xe s
  refine PySem.W.cmp_K (op := .Eq) (tb := t) hr.units0 hF I.ok.mod.kin J (Z.ty _ _ I.kIn pz) hn h2.at_ h2.fn ?_
  refine wpAny_mono (run_fn (us := [.ref a, u]) (vs := [.ref a, y]) (dvs := []) h1 hr h4 .nil hx I (.cons (show RelV (.ref a) (.ref a) from rfl) (.cons ry .nil)) q) (fun r s' hq => ?_) fun _ _ z => z
  obtain ⟨v', H', I', rv, ⟨b, rfl⟩, q'⟩ := hq
  obtain rfl : r = Value.bool b := rv
  exact ⟨.bl b, H', I', rfl, q'⟩
end L2
set_option Elab.async false
set_option linter.all false
set_option maxRecDepth 100000
set_option maxHeartbeats 400000
/-! len(o), a walk over o, o.f: by the class's own __len__, __iter__, properties -/
namespace L2
open PySem PySem.Spec PyProof.Rows
section
variable {X : Cx} {CX : CXT} {C : Addr} {k : Nat} {ps : List Str} {sp : Sp}
/-- a call of a def at one more level down -/
theorem run_in1 {pins : List (Addr × Obj)} {σ : St} {H : Hp} {s : Shared} {Q : VK} {f : Addr} {fd : FuncData} {us : List Value} {vs : List V} (F : FnOk X.prog X.w X.K X.mg X.base CX k f fd ps sp) (hr : Room (k + 1) X.A) (hb : Binds X.K fd ps [])
    (hx : Passes CX X E0) (I : Inv X pins σ H s) (r : Vals vs us) (h : sp vs H Q E0) : wpAny (model X.prog X.w) X.A.in1 (call (.ref f) us) (EP X pins σ Q) X.xe s := by
  have hl : (us ++ []).length = ps.length := by
    rw [List.append_nil, ← r.length]
    exact F.len _ _ _ _ h
  have hb' := hb s us I.kIn hl
  rw [List.append_nil] at hb'
  refine wpAny_call (codeAny_mono (F.run X.A.in1 X.stack s H ⟨us, []⟩ us vs Q E0 hr.in1 I.env0.in1 hb' r h) fun z s' hq => ?_)
  match z, hq with
  | .error e, hq => exact (hx pins σ H s e s' I hq)
  | .ok (.ret u), hq => exact I.after hq
/-- len(o) -/
def rLenOwn (C : Addr) (sp : Sp) : List V → Hp → VK → Prop := fun xs H Q => ∃ (a dx : Addr) (fs : List (Str × V)), xs = [.ref a] ∧ H a = some (.ins C dx fs) ∧ sp [.ref a] H (fun v H' => ∃ n : Nat, v = .int n ∧ n < 1000000 ∧ Q (.int n) H') E0
theorem call_lenOwn (c : CalM X.prog X.w X.K X.mg X.base CX k C "__len__" ps sp) (hr : Room (k + 1) X.A) (hx : Passes CX X E0 := by first | exact pass0 | exact passL) : CallR X (.builtin "len") (rLenOwn C sp) := by
  intro pins s σ H xs us Q I r h
  obtain ⟨f, fd, h1, h2, h4⟩ := c
  obtain ⟨a, dx, fs, rfl, ha, q⟩ := h
  obtain ⟨u, rfl, ru⟩ := vals1 r
  obtain rfl : u = Value.ref a := ru
  obtain ⟨mA, J, _⟩ := ins_get I.hok ha
  obtain ⟨od, J, _⟩ := J.look
  refine Calls.call_function_entry kind_len plain_len entry_len (args_len1 _) ?_
  unfold Builtin.«len»
  refine wpAny_bind (m := oneArg "len" _) (wpAny_pure ?_)
  refine wpAny_bind (m := callSpecial? (.ref a) (Str.ofString "__len__")) (PySem.W.special_fn I.kIn J h2.at_ (beq_iff_eq.mp h2.fn) (wpAny_mono (run_in1 h1 hr h4 hx I (show Vals [V.ref a] [Value.ref a] from .cons rfl .nil) q) (fun v s' hv => ?_) fun _ _ z => z))
  obtain ⟨v', H', I', rv, n, rfl, hn, q'⟩ := hv
  obtain ⟨t, rfl⟩ := rv
  refine wpAny_bind (wpAny_holding (wpAny_pure ?_))
  refine wpAny_bind (wpAny_letGo ?_)
  show wpAny _ _ (if (n : Int) < 0 then _ else _) _ _ _
  rw [if_neg (show ¬ ((n : Int) < 0) by omega)]
  show wpAny _ _ (if (n : Int) ≥ 2 ^ 63 then _ else _) _ _ _
  rw [if_neg (show ¬ ((n : Int) ≥ 2 ^ 63) by omega)]
  exact wpAny_bind (wpAny_mkInt (wpAny_pure ⟨_, rfl, .int n, H', I'.tok _, ⟨_, rfl⟩, q'⟩))
end
/-- as FnOk, the promise told the size of the memory at the call -/
structure FnN (P : Program) (w : World) (K : PySem.W.Frag) (mg : Str → Option Value) (base : Heap) (CX : CXT) (k : Nat) (f : Addr) (fd : FuncData) (ps : List Str) (sp : Nat → Sp) : Prop where
  len : ∀ n vs H Q E, sp n vs H Q E → vs.length = ps.length
  run : ∀ (A : Around) (outer : List Env) (s : Shared) (H : Hp) (us : List Value) (vs : List V) (Q : VK) (E : XK), Room k A → Env0 P w K mg base A outer s H → BindsTo s fd ⟨us, []⟩ (ps.zip us) → Vals vs us → sp s.heap.objs.size vs H Q E →
    codeAny (model P w) A (.call (.ref f) ⟨us, []⟩) (CR CX outer P w H s Q E) s
section
variable {P : Program} {w : World} {K : PySem.W.Frag} {mg : Str → Option Value} {base : Heap}
theorem Fun.okN {x qual : Str} {st : Stmt} {f : Addr} {fd : FuncData} {N ps : List Str} {k : Nat} {sp : Nat → Sp} (F : Fun K x qual st f fd) (S : FnScope N ps (defScope st)) (len : ∀ n vs H Q E, sp n vs H Q E → vs.length = ps.length)
    (body : ∀ (cdv : Value) (A : Around) (outer : List Env) (s : Shared) (H : Hp) (vs : List V) (Q : VK) (E : XK), Room k (A.deeper (envOfC qual (defScope st) s.heap.objs.size f cdv)) → sp s.heap.objs.size vs H Q E →
      ∃ t, PSs (cxOf CX0 P w K mg base N qual (defScope st) f cdv A outer s H E).nox (defBody st) t ∧ t { nx := fun _ H' => Q .non H', rt := Q } (start N vs) H) : FnN P w K mg base CX0 (k + 1) f fd ps sp := by
  obtain ⟨oc, od, kV, doc, pm, an, cdv, ct, osl, rfl, lk, hcd⟩ := F.ex
  refine ⟨len, fun A outer s H us vs Q E room env0 binds rel promise => ?_⟩
  have hlen := len _ _ _ _ _ promise
  have kin : K.In s.heap := env0.mod.kin.keeps fun b o e => (env0.bs b o e).1
  have nolim : s.heap.NoLimit := env0.mod.nolimit.keeps fun b o e => (env0.bs b o e).1
  have kinds : ∀ y ∈ ps.zip us, (defScope st).names.lookup y.1 = some .local ∨ ((defScope st).names.lookup y.1 = some .cell ∧ ((cellsFrom (s.heap.objs.size + 1) (defScope st).names []).lookup y.1).isSome = true) := by
    rintro ⟨n, v⟩ hy
    cases S.par n (List.of_mem_zip hy).1 with
    | inl q => exact .inl q
    | inr q => exact .inr ⟨q, PySem.W.cellsFrom_some _ _ _ (.inl q)⟩
  refine codeAny_call_function room.depth (kin _ _ lk) rfl S.co S.gen rfl (PySem.W.codeRec_of kin hcd) (binds _ _ _ _ (wpAny_newFunctionEnv_cells S.kind kinds fun env he s1 x => ?_))
  subst he
  refine ⟨nolim.keeps x.toInCall.keep, codeAny_func ?_⟩
  obtain ⟨t, ht, hq⟩ := body cdv A outer s H vs Q E (room.deeper _) promise
  have start_ok := inv_start (CX := CX0) (E := E) S room.hd env0 hlen rel x
  refine wpAny_mono (ht.nox.run [] s1 (start N vs) H _ start_ok hq) (fun fl s' hs => ?_) fun e s' hs => hs
  cases fl with
  | brk => exact False.elim (let ⟨_, _, _, q⟩ := hs; q)
  | cont => exact False.elim (let ⟨_, _, _, q⟩ := hs; q)
  | next =>
    obtain ⟨σ', H', J, q⟩ := hs
    exact ⟨V.non, H', J.os, J.bare, J.base, J.hok, rfl, q⟩
  | ret u =>
    obtain ⟨v, σ', H', J, rv, q⟩ := hs
    exact ⟨v, H', J.os, J.bare, J.base, J.hok, rv, q⟩
end
/-- at it the iterator of the tuple at t -/
def ItT (t it : Addr) : HO := .ext fun h => h.get? it = some { cls := .type "tuple_iterator", data := .fields #[.ref t, .int 0 0] }
theorem itT_ok {P : Program} {w : World} {H : Hp} {h : Heap} {t it : Addr} (e : h.get? it = some { cls := .type "tuple_iterator", data := .fields #[.ref t, .int 0 0] }) : ObjOk P w H h it (ItT t it) := ⟨e, ⟨_, e⟩, fun _ _ q k => k _ q⟩
/-- iter(t), t a tuple; the new thing lies behind n -/
def rIterT (K : PySem.W.Frag) (n : Nat) : List V → Hp → VK → Prop := fun xs H Q => ∃ (l : Addr) (zs : List V), xs = [.ref l] ∧ SqT K H l zs ∧ ∀ it, H it = none → n ≤ it → Q (.ref it) (upd H it (ItT l it))
theorem call_iterT {X : Cx} : CallR X (.builtin "iter") (rIterT X.K X.s_0.heap.objs.size) := by
  intro pins s σ H xs us Q I r h
  obtain ⟨l, zs, rfl, hq, q⟩ := h
  obtain ⟨u, rfl, ru⟩ := vals1 r
  obtain rfl : u = Value.ref l := ru
  obtain ⟨its, rv, pl, hz⟩ := I.tuple hq
  refine Calls.call_function_entry (by decide +kernel) (by decide +kernel) PySem.W.kdk_entry_iter (PySem.W.kdk_args_iter _) ?_
  unfold Builtin.«iter»
  refine wpAny_bind (m := someArgs "iter" 1 2 _) (wpAny_of_eq (a := [Value.ref l]) (by first | rfl | kernel_rfl!) ?_)
  show wpAny _ _ (pyIter (.ref l) >>= _) _ _ _
  refine wpAny_bind (wpAny_pyIter_tuple (show s.heap.IsTuple l its.toArray from pl) (wpAny_pure ⟨_, rfl, ?_⟩))
  have e : (s.heap.push { cls := .type "tuple_iterator", data := .fields #[.ref l, .int 0 0] }).get? s.heap.objs.size = some { cls := .type "tuple_iterator", data := .fields #[.ref l, .int 0 0] } := Heap.get?_push_size _ rfl
  exact ⟨.ref s.heap.objs.size, _, I.laid (o := ItT l s.heap.objs.size) (t' := s.toks) (fun b u e => Heap.get?_push_of_some _ e) (Nat.le_refl _) (itT_ok e), rfl, q _ (I.hok.fresh (Nat.le_refl _)) I.sz⟩
/-- what such an __iter__ promises -/
def spItT (K : PySem.W.Frag) (C : Addr) (f : Str) (n : Nat) : Sp := fun vs H Q _ => ∃ (a dx t : Addr) (fs : List (Str × V)) (zs : List V), vs = [.ref a] ∧ H a = some (.ins C dx fs) ∧ fs.lookup f = some (.ref t) ∧ SqT K H t zs ∧ ∀ it, H it = none → n ≤ it → Q (.ref it) (upd H it (ItT t it))
/-- the class at C walks over the tuple in its field f -/
def CalI (P : Program) (w : World) (K : PySem.W.Frag) (mg : Str → Option Value) (base : Heap) (k : Nat) (C : Addr) (f : Str) : Prop :=
  ∃ (g : Addr) (fd : FuncData), FnN P w K mg base CX0 k g fd ["self"] (spItT K C f) ∧ Meth K C "__iter__" g ∧ Binds K fd ["self"] []
def iOwn (K : PySem.W.Frag) (C : Addr) (f : Str) (tl : TE) : TI := fun σ H R => tl σ H fun x H1 => ∃ (a dx t : Addr) (fs : List (Str × V)), x = .ref a ∧ H1 a = some (.ins C dx fs) ∧ fs.lookup f = some (.ref t) ∧ (∃ zs, SqT K H1 t zs) ∧ R (Itt K t) H1
theorem looks_next {M : Model} {A : Around} {E : Value → Shared → Prop} {s : Shared} {it t : Addr} {Q : Option Value → Shared → Prop} (e : s.heap.get? it = some { cls := .type "tuple_iterator", data := .fields #[.ref t, .int 0 0] }) (h : ∀ g, Q (some g) s) : wpAny M A (specialOf (.ref it) "__next__") Q E s := by
  unfold specialOf
  refine wpAny_bind (wpAny_typeOf (T := "tuple_iterator") ⟨_, e, rfl⟩ (wpAny_of_eq (F.slot_tuple_iterator_next.lookup) (h _)))
theorem pi_own {X : Cx} {tg l : Expr} {tl : TE} {k : Nat} {C : Addr} {f : Str} (c : CalI X.prog X.w X.K X.mg X.base k C f) (hr : Room k X.A) (hl : PE X l tl) : PI X tg l (iOwn X.K C f tl) := by
  refine ⟨fun pins s σ H R I h => ?_⟩
  obtain ⟨g, fd, h1, h2, h4⟩ := c
  refine thn (hl.run pins s σ H _ I h) fun v s1 ⟨x, H1, I1, r1, q1⟩ => ?_
  obtain ⟨a, dx, t, fs, e, ha, hf, ⟨zs, hz⟩, q⟩ := q1
  subst e
  obtain rfl : v = Value.ref a := r1
  obtain ⟨mA, J, _⟩ := ins_get I1.hok ha
  obtain ⟨od, J, _⟩ := J.look
  obtain ⟨m0, hF⟩ := I1.fr
  refine PySem.W.owit_iter hF I1.ok.mod.kin J h2.at_ h2.fn ?_
  have pr : spItT X.K C f s1.heap.objs.size [.ref a] H1 (fun v H' => ∃ it, v = .ref it ∧ H1 it = none ∧ s1.heap.objs.size ≤ it ∧ H' = upd H1 it (ItT t it)) E0 := ⟨a, dx, t, fs, zs, rfl, ha, hf, hz, fun it n1 n2 => ⟨it, rfl, n1, n2, rfl⟩⟩
  have hb' := h4 s1 [.ref a] I1.kIn rfl
  rw [List.append_nil] at hb'
  refine wpAny_call (codeAny_mono (h1.run X.A X.stack s1 H1 [.ref a] [.ref a] _ E0 hr I1.env0 hb' (.cons rfl .nil) pr) fun z s' hq => ?_)
  match z, hq with
  | .error e, hq => exact hq.elim
  | .ok (.ret u), hq =>
    obtain ⟨v, H', I', rv, it, rfl, n1, n2, rfl⟩ := I1.after hq
    obtain rfl : u = Value.ref it := rv
    have eo := (I'.hok it _ upd_same).1
    unfold PySem.W.OwitIt
    refine looks_next eo fun _ => ?_
    have I2 := ItX.inv_drop I' (a := it) (φ := fun h => h.get? it = some { cls := .type "tuple_iterator", data := .fields #[.ref t, .int 0 0] }) upd_same
    have fp := ItX.inv_fp I' (a := it) (u := ItT t it) upd_same (Nat.le_trans I1.sz n2)
    rw [ItX.dropH_upd n1] at I2 fp
    refine ⟨it, [it], _, _, H1, rfl, I2, turn_tuple t it, ⟨_, eo, rfl, rfl⟩, fun b hb => ?_, q⟩
    obtain rfl : b = it := by simpa using hb
    exact fp
/-- the class at C has the property f, its getter keeps sp -/
def CalP (P : Program) (w : World) (K : PySem.W.Frag) (mg : Str → Option Value) (base : Heap) (k : Nat) (C : Addr) (f : Str) (sp : Sp) : Prop :=
  ∃ (p g : Addr) (fd : FuncData), FnOk P w K mg base CX0 k g fd ["self"] sp ∧ PropOf K C f p g ∧ Binds K fd ["self"] []
/-- o.f, a property -/
theorem pe_prp {X : Cx} {e : Expr} {pos : Pos} {ta : TE} {k : Nat} {C : Addr} {f : Str} {sp : Sp} (c : Cls X.K C) (h : CalP X.prog X.w X.K X.mg X.base k C f sp) (hr : Room (k + 1) X.A) (he : PE X e ta) (hab : attributeBase e f X.env (eval e X.env) = eval e X.env := by rfl) :
    PE X (.Attribute e f pos) (tProp C sp [] E0 ta) := by
  obtain ⟨p, g, fd, h1, h2, h3⟩ := h
  exact pe_prop he c h2 h1 hr h3 .nil pass0 hab
end L2
set_option Elab.async false
set_option linter.all false
set_option maxRecDepth 100000
set_option maxHeartbeats 1000000
/-! for i, x in enumerate(v), v a list or a tuple -/
namespace EnT
open PySem
open Sem (wp)
open AutoSeq1 (wpAny_loadPart')
def itTup (l : Addr) : Obj := { cls := .type "tuple_iterator", data := .fields #[.ref l, .int 0 0] }
def enumNew (n : Nat) : Obj := { cls := .type "enumerate", data := .fields #[.none, .bool false, .ref n, rawInt 0, .none, .none] }
theorem meets_newT (l : Addr) (items : Array Value) :
    Meets (Builtin.«enumerate.__new__» ⟨[.type "enumerate", .ref l], []⟩) (fun _ R s => s.heap.IsTuple l items ∧ R (.ok (.ret (.ref (s.heap.push (itTup l)).objs.size))) { s with heap := (s.heap.push (itTup l)).push (enumNew s.heap.objs.size) }) :=
  .of_wp fun prog w A R s h => by
    obtain ⟨hp, g, d, tk, os⟩ := s
    obtain ⟨hT, h⟩ := h
    have hsub := sub_enumerate
    have q : ∀ {A : Around} {E : Value → Shared → Prop} {Q : Value → Shared → Prop}, Q (.ref hp.objs.size) ⟨hp.push (itTup l), g, d, tk, os⟩ → wpAny (model prog w) A (pyIter (.ref l)) Q E ⟨hp, g, d, tk, os⟩ := fun q => wpAny_pyIter_tuple hT q
    wp_walk using q
    refine wpAny_stack_any fun st => wpAny_pure ?_
    split
    · rename_i c _ _ _ _ _
      cases (c == Value.type "enumerate") <;> (wp_walk using q; exact ⟨_, rfl, h⟩)
    · wp_walk using q; exact ⟨_, rfl, h⟩
theorem call_enumT {prog : Program} {w : World} {A : Around} {E : Value → Shared → Prop} {s : Shared} {l : Addr} {items : Array Value} {Q : Value → Shared → Prop} (hT : s.heap.IsTuple l items)
    (h : ∀ h', IsEnum h' (s.heap.objs.size + 1) s.heap.objs.size 0 .none → h'.IsTupleIter s.heap.objs.size l 0 → (∀ b o, s.heap.get? b = some o → h'.get? b = some o) → Q (.ref (s.heap.objs.size + 1)) { s with heap := h' }) :
    wpAny (model prog w) A (call (.type "enumerate") [.ref l]) Q E s := by
  have hz : (s.heap.push (itTup l)).objs.size = s.heap.objs.size + 1 := Heap.size_push ..
  have he : IsEnum ((s.heap.push (itTup l)).push (enumNew s.heap.objs.size)) (s.heap.objs.size + 1) s.heap.objs.size 0 .none := by
    have q := Heap.get?_push_size (s.heap.push (itTup l)) (o := enumNew s.heap.objs.size) rfl
    rw [hz] at q
    exact q
  refine callType_new F.called_enumerate (by decide) (F.typeCall_enumerate_1 _) (F.newCall_enumerate_1 _) (fun obj => F.args_object_init_2 obj _) F.entry_enumerate_new (meets_newT l items) ⟨hT, ?_⟩
  show _ ∧ _
  rw [hz]
  exact ⟨⟨_, he, rfl⟩, h _ he ⟨_, Heap.get?_push_of_some _ (Heap.get?_push_size _ rfl), rfl, rfl⟩ fun b o x => Heap.get?_push_of_some _ (Heap.get?_push_of_some _ x)⟩
end EnT
namespace L2
open PySem PySem.Spec PyProof.Rows
/-- the tuple at a, each item in a new pair -/
def IteT (K : PySem.W.Frag) (a : Addr) : It :=
  ⟨fun i H => ∃ (xs : List V) (x : V), SqT K H a xs ∧ xs[i]? = some x, fun i H v H' => ∃ T x, v = .ref T ∧ H T = none ∧ H' = upd H T (.tup [.int (i : Nat), x]) ∧ ∀ xs, SqT K H a xs → xs[i]? = some x, fun i H => ∃ xs : List V, SqT K H a xs ∧ xs.length ≤ i⟩
theorem tup_inj {X : Cx} {pins : List (Addr × Obj)} {σ : St} {H : Hp} {s : Shared} {a : Addr} {xs ys : List V} (I : Inv X pins σ H s) (h1 : SqT X.K H a xs) (h2 : SqT X.K H a ys) : xs = ys := by
  obtain ⟨i1, r1, ⟨o1, p1, c1⟩, _⟩ := I.tuple h1
  obtain ⟨i2, r2, ⟨o2, p2, c2⟩, _⟩ := I.tuple h2
  rw [p1] at p2
  cases p2
  obtain ⟨_, n1, d1⟩ := c1
  obtain ⟨_, n2, d2⟩ := c2
  rw [d1] at d2
  injection d2 with e _
  have e' : i1 = i2 := by simpa using e
  subst e'
  exact r1.inj r2
theorem turn_enumT {P : Program} {w : World} {K : PySem.W.Frag} {elts : List Expr} {kk : Nat} {tpos : Pos} (a e it : Addr) :
    Turn P w K (.Tuple elts kk tpos) (IteT K a) [e, it] e (fun i h => (∃ old, IsEnum h e it ((i : Nat) : Int) old) ∧ h.IsTupleIter it a i ∧ e ≠ it) where
  mem := by simp
  obj := fun i h st b hb => by
    obtain ⟨⟨old, he⟩, ⟨o, ho, hc, hd⟩, _⟩ := st
    rcases (show b = e ∨ b = it by simpa using hb) with rfl | rfl
    · exact ⟨_, he, fun v q => nomatch q⟩
    · exact ⟨o, ho, fun v q => by rw [hd] at q; cases q⟩
  keep := fun i h h' ⟨⟨old, he⟩, hi, hne⟩ k => ⟨⟨old, k e (by simp) _ he⟩, hi.at fun o q => k it (by simp) o q, hne⟩
  item := by
    intro X hP hw hK hc i pins s σ H E I hf st hg
    subst hP hw hK
    obtain ⟨⟨old, he⟩, hit, hne⟩ := st
    obtain ⟨xs, x, hq, hx⟩ := hg
    obtain ⟨its, rv, p, hz⟩ := I.tuple hq
    obtain ⟨u, hu, ru⟩ := rv.get hx
    have hat : a ≠ it := by
      rintro rfl
      obtain ⟨o1, p1, c1, _⟩ := p
      obtain ⟨o2, p2, c2, _⟩ := hit
      rw [p1] at p2
      cases p2
      rw [c1] at c2
      simp at c2
    have hae : a ≠ e := by
      rintro rfl
      obtain ⟨o1, p1, c1, _⟩ := p
      have he' : s.heap.get? a = some _ := he
      rw [p1] at he'
      cases he'
      simp at c1
    have hel : e < s.heap.objs.size := Heap.lt_size he
    have hil : it < s.heap.objs.size := by obtain ⟨_, q, _⟩ := hit; exact Heap.lt_size q
    have D := Draws.tuple (prog := X.prog) (w := X.w) (A := X.A.in1) (I.ok.hd hc) it a hat its.toArray
    have hlt : i < its.length := (List.getElem?_eq_some_iff.mp hu).1
    refine wpAny_pyNext_enum_itemD D he ⟨hit, show s.heap.IsTuple a its.toArray from p⟩ (by simpa using hlt) hne (by simp [hne, Ne.symm hae]) fun z h' tk hP ho hs' hT hsz hk => ?_
    have hzu : z = u := by
      have h1 : its.toArray[i]? = some z := hP
      rw [List.getElem?_toArray, hu] at h1
      exact (Option.some.inj h1).symm
    subst hzu
    refine ⟨_, rfl, wpAny_letOwnedTupleGo_enum (s := { s with heap := h', toks := tk + 1 }) ho fun h'' he' sb => ?_⟩
    have hT2 : h''.get? s.heap.objs.size = some { cls := .type "tuple", data := .seq #[.int i tk, z] } := (sb.2 _ (Nat.ne_of_gt hel)).trans hT
    have new : ObjOk X.prog X.w (upd H s.heap.objs.size (.tup [.int (i : Nat), x])) h'' s.heap.objs.size (.tup [.int (i : Nat), x]) :=
      ⟨by show 2 ≤ sizeLine; decide, [.int i tk, z], .cons ⟨_, rfl⟩ (.cons ru .nil), ⟨_, hT2, rfl, _, rfl⟩⟩
    have I1 : Inv X pins σ (upd H s.heap.objs.size (.tup [.int (i : Nat), x])) { s with heap := h'', toks := tk + 1 } :=
      I.turnedNew (t' := tk + 1) (ch := [e, it]) (fun b ob hb q => (sb.2 b (fun z => hb (by simp [z]))).trans (hk b ob (fun z => hb (by simp [z])) (fun z => hb (by simp [z])) q)) hf (Nat.le_refl _) new
    refine ⟨.ref s.heap.objs.size, _, I1, rfl, ⟨_, x, rfl, I.hok.fresh (Nat.le_refl _), rfl, fun ys hy => by rw [tup_inj I hy hq]; exact hx⟩, ⟨⟨z, ?_⟩, hs'.1.at fun o q => (sb.2 it (Ne.symm hne)).trans q, hne⟩, fun b hb => ?_⟩
    · rw [show ((i + 1 : Nat) : Int) = (i : Int) + 1 by omega]
      exact he'
    · have hb' : b < s.heap.objs.size := by
        rcases (show b = e ∨ b = it by simpa using hb) with rfl | rfl
        · exact hel
        · exact hil
      rw [upd_ne (Nat.ne_of_lt hb')]
      exact (hf b hb).1
  done := by
    intro X hP hw hK hc i pins s σ H E I hf st hg
    subst hP hw hK
    obtain ⟨⟨old, he⟩, hit, hne⟩ := st
    obtain ⟨xs, hq, hx⟩ := hg
    obtain ⟨its, rv, p, hz⟩ := I.tuple hq
    obtain ⟨f0, f1, f2, f3, f4, f5⟩ := hf it (by simp)
    have hat : a ≠ it := by
      rintro rfl
      obtain ⟨o1, p1, c1, _⟩ := p
      obtain ⟨o2, p2, c2, _⟩ := hit
      rw [p1] at p2
      cases p2
      rw [c1] at c2
      simp at c2
    have hl := rv.length
    have hi : its.toArray[i]? = none := by rw [List.getElem?_toArray]; exact List.getElem?_eq_none_iff.mpr (by omega)
    have D : Draws X.prog X.w X.A.in1 it [it, a] i (fun _ _ => True) (fun j h => h.IsTupleIter it a j ∧ h.IsTuple a its.toArray ∧ j = i) := {
      live := fun _ _ st => let ⟨o, ho, _⟩ := st.1; ⟨o, ho⟩
      frame := fun _ _ _ st hk => ⟨st.1.at fun o e => hk it (by simp) o e, st.2.1.at fun o e => hk a (by simp) o e, st.2.2⟩
      item := fun j s Q E hi st hQ => absurd st.2.2 (Nat.ne_of_lt hi)
      done := fun s Q E st hE => wpAny_nextOf_tuple_end (I.ok.hd hc) st.1 st.2.1 hi hE }
    exact wpAny_pyNext_enum_endD D he ⟨hit, show s.heap.IsTuple a its.toArray from p, rfl⟩ fun h' eb => ⟨rfl, I.turned (t' := s.toks) (fun b o hb q => eb b o hb q) f0 f1 f3 f4 f5⟩
  self := fun A i s Q E ⟨⟨_, he⟩, _⟩ h => wpAny_pyIter_enum he h
/-- v a list or a tuple: its items xs in new pairs with their index -/
def iEnu2 (K : PySem.W.Frag) (ta : TA) : TI := fun σ H R => ta σ H fun vs H1 => ∃ (a : Addr) (xs : List V), vs = [.ref a] ∧ (H1 a = some (.lst xs) ∨ H1 a = some (.tup xs)) ∧
  ∀ J, Walk J xs.length (fun H' => H' a = H1 a) (YPair (fun i => some (.int (i : Nat))) (fun i => xs[i]?)) → R J H1
theorem walk_enumT {K : PySem.W.Frag} {a : Addr} {xs : List V} : Walk (IteT K a) xs.length (fun H => SqT K H a xs) (YPair (fun i => some (.int (i : Nat))) (fun i => xs[i]?)) := by
  refine ⟨fun i _ hi q => ⟨xs, xs[i], q, List.getElem?_eq_getElem hi⟩, fun _ q => ⟨xs, q, Nat.le_refl _⟩, fun i H v H' _ q y => ?_⟩
  obtain ⟨T, x, h1, h2, h3, h4⟩ := y
  exact ⟨T, .int (i : Nat), x, h1, h2, h3, rfl, h4 xs q⟩
theorem pi_enu2 {X : Cx} {e : Expr} {ta : TA} {p pos tpos : Pos} {elts : List Expr} {kk : Nat} (hg : Gl X "enumerate") (hm : X.mg "enumerate" = none) (ha : PA X [e] ta) (hs : starEach [e] X.env = [(false, eval e X.env)] := by rfl) :
    PI X (.Tuple elts kk tpos) (.Call (.Name "enumerate" p) [e] [] pos) (iEnu2 X.K ta) := by
  refine ⟨fun pins s σ H R I h => ?_⟩
  refine Call_ (ld_blt I hg hm boot_enumerate (PyProof.Rows.callWith_type1 (thn (ha.run pos pins s σ H _ I h) fun us s1 ⟨vs, H1, I1, r1, q1⟩ => ?_) hs rfl))
  obtain ⟨a, xs, rfl, ho, q⟩ := q1
  obtain ⟨u, rfl, ru⟩ := vals1 r1
  obtain rfl : u = Value.ref a := ru
  have fresh : ∀ b ∈ [s1.heap.objs.size + 1, s1.heap.objs.size], s1.heap.objs.size ≤ b := fun b hb => by
    rcases (show b = s1.heap.objs.size + 1 ∨ b = s1.heap.objs.size by simpa using hb) with rfl | rfl
    · exact Nat.le_add_right _ _
    · exact Nat.le_refl _
  rcases ho with ho | ho
  · obtain ⟨its, rv, p', hz⟩ := I1.list (SqL.of ho)
    refine call_enumerate_list p'.isList fun h' he hit hsz hk => wpAny_pyIter_enum he ?_
    exact ⟨s1.heap.objs.size + 1, [s1.heap.objs.size + 1, s1.heap.objs.size], _, _, H1, rfl, I1.kept (t' := s1.toks) hk, turn_enum a _ _, ⟨⟨.none, he⟩, hit, Nat.succ_ne_self _⟩, fun b hb => I1.fpOk (fresh b hb) (I1.hok.fresh (fresh b hb)),
      q _ (walk_enum.mono (fun H' hh => SqL.of (hh.trans ho)) fun _ _ _ _ _ _ y => y)⟩
  · obtain ⟨its, rv, p', hz⟩ := I1.tuple (SqT.of ho)
    refine EnT.call_enumT (show s1.heap.IsTuple a its.toArray from p') fun h' he hit hk => wpAny_pyIter_enum he ?_
    exact ⟨s1.heap.objs.size + 1, [s1.heap.objs.size + 1, s1.heap.objs.size], _, _, H1, rfl, I1.kept (t' := s1.toks) hk, turn_enumT a _ _, ⟨⟨.none, he⟩, hit, Nat.succ_ne_self _⟩, fun b hb => I1.fpOk (fresh b hb) (I1.hok.fresh (fresh b hb)),
      q _ (walk_enumT.mono (fun H' hh => SqT.of (hh.trans ho)) fun _ _ _ _ _ _ y => y)⟩
/-- one of two ways to take a value apart -/
theorem pg_or {X : Cx} {tg : Expr} {g1 g2 : TG} (h1 : PG X tg g1) (h2 : PG X tg g2) : PG X tg (fun v σ H Q => g1 v σ H Q ∨ g2 v σ H Q) := by
  refine ⟨fun pins s σ H v u Q I r hw => ?_⟩
  rcases hw with hw | hw
  · exact h1.run pins s σ H v u Q I r hw
  · exact h2.run pins s σ H v u Q I r hw
/-- a list or a tuple, walked -/
def iSeq (tl : TE) : TI := fun σ H R => tl σ H fun x H1 => ∃ (a : Addr) (xs : List V), x = .ref a ∧ (H1 a = some (.lst xs) ∨ H1 a = some (.tup xs)) ∧ ∀ J, Walk J xs.length (fun H' => H' a = H1 a) (YAt xs) → R J H1
theorem pi_seq {X : Cx} {tg l : Expr} {tl : TE} (hl : PE X l tl) : PI X tg l (iSeq tl) := by
  refine ⟨fun pins s σ H R I h => thn (hl.run pins s σ H _ I h) fun v s1 ⟨x, H1, I1, r1, q1⟩ => ?_⟩
  obtain ⟨a, xs, rfl, ho, q⟩ := q1
  obtain rfl : v = Value.ref a := r1
  have new : ∀ b ∈ [s1.heap.objs.size], FpOk X pins H1 b := fun b hb => by
    obtain rfl : b = s1.heap.objs.size := by simpa using hb
    exact I1.fpOk (Nat.le_refl _) (I1.hok.fresh (Nat.le_refl _))
  rcases ho with ho | ho
  · obtain ⟨its, rv, p, hz⟩ := I1.list (SqL.of ho)
    refine wpAny_pyIter_list p.isList ⟨s1.heap.objs.size, [s1.heap.objs.size], _, _, H1, rfl, I1.kept (t' := s1.toks) fun b o e => Heap.get?_push_of_some _ e, turn_list a _, ⟨_, Heap.get?_push_size _ rfl, rfl, rfl⟩, new, ?_⟩
    exact q _ (walk_list.mono (fun H' hh => SqL.of (hh.trans ho)) fun _ _ _ _ _ _ y => y)
  · obtain ⟨its, rv, p, hz⟩ := I1.tuple (SqT.of ho)
    refine wpAny_pyIter_tuple (show s1.heap.IsTuple a its.toArray from p) ⟨s1.heap.objs.size, [s1.heap.objs.size], _, _, H1, rfl, I1.kept (t' := s1.toks) fun b o e => Heap.get?_push_of_some _ e, turn_tuple a _, ⟨_, Heap.get?_push_size _ rfl, rfl, rfl⟩, new, ?_⟩
    exact q _ (walk_tup.mono (fun H' hh => SqT.of (hh.trans ho)) fun _ _ _ _ _ _ y => y)
/-- an item of a list or a tuple -/
theorem ix_either {X : Cx} : IxR X (fun x y H Q => rIxL X.K x y H Q ∨ rIxT X.K x y H Q) := ix_list.or ix_tup
theorem ix_eitherK {X : Cx} {K : PySem.W.Frag} (h : X.K = K) : IxR X (fun x y H Q => rIxL K x y H Q ∨ rIxT K x y H Q) := h ▸ ix_either
end L2
set_option Elab.async false
set_option linter.all false
set_option maxRecDepth 100000
namespace L2
open PySem PySem.Spec PyProof.Rows
theorem eqvAll_ints : ∀ ns ms : List Int, PyData.eqvAll (ns.map PyData.int) (ms.map PyData.int) = decide (ns = ms)
  | [], [] => by simp [PyData.eqvAll]
  | [], m :: ms => by simp [PyData.eqvAll]
  | n :: ns, [] => by simp [PyData.eqvAll]
  | n :: ns, m :: ms => by
    have ih := eqvAll_ints ns ms
    by_cases e : n = m
    · subst e
      simp [PyData.eqvAll, PyData.eqv, ih]
    · simp [PyData.eqvAll, PyData.eqv, e]
theorem eqv_tupI (ns ms : List Int) : PyData.eqv (.tuple (ns.map PyData.int)) (.tuple (ms.map PyData.int)) = decide (ns = ms) := by rw [← eqvAll_ints]; simp [PyData.eqv]
theorem eqv_lstI (ns ms : List Int) : PyData.eqv (.list (ns.map PyData.int)) (.list (ms.map PyData.int)) = decide (ns = ms) := by rw [← eqvAll_ints]; simp [PyData.eqv]
theorem dpAll_ints {K : PySem.W.Frag} {H : Hp} : ∀ ns : List Int, DpAll K H (ns.map V.int) (ns.map PyData.int)
  | [] => .nil
  | n :: ns => .cons (.int n) (dpAll_ints ns)
theorem depthAll_ints : ∀ ns : List Int, PyData.depthAll (ns.map PyData.int) = 0
  | [] => by simp [PyData.depthAll]
  | n :: ns => by simp [PyData.depthAll, PyData.depth, depthAll_ints ns]
theorem layAll_ints : ∀ ns : List Int, PyData.canLayAll0 (ns.map PyData.int) = true
  | [] => by simp [PyData.canLayAll0]
  | n :: ns => by simp [PyData.canLayAll0, PyData.canLay0, layAll_ints ns]
theorem shaped_tupI (ns : List Int) : SeqAt.shaped (.tuple (ns.map PyData.int)) = true := by simp [SeqAt.shaped, PyData.canLay0, PyData.depth, layAll_ints, depthAll_ints]
theorem shaped_lstI (ns : List Int) : SeqAt.shaped (.list (ns.map PyData.int)) = true := by simp [SeqAt.shaped, PyData.canLay0, PyData.depth, layAll_ints, depthAll_ints]
theorem eqD_tup {K : PySem.W.Frag} {H : Hp} {p q : Addr} {ns ms : List Int} {Q : VK} (hp : SqT K H p (ns.map V.int)) (hq : SqT K H q (ms.map V.int)) (h : Q (.bl (decide (ns = ms))) H) : rEqD K (.ref p) (.ref q) H Q :=
  ⟨_, _, .tup hp (dpAll_ints ns), .tup hq (dpAll_ints ms), shaped_tupI ns, shaped_tupI ms, by rw [eqv_tupI]; exact h⟩
theorem eqD_lst {K : PySem.W.Frag} {H : Hp} {p q : Addr} {ns ms : List Int} {Q : VK} (hp : SqL K H p (ns.map V.int)) (hq : SqL K H q (ms.map V.int)) (h : Q (.bl (decide (ns = ms))) H) : rEqD K (.ref p) (.ref q) H Q :=
  ⟨_, _, .lst hp (dpAll_ints ns), .lst hq (dpAll_ints ms), shaped_lstI ns, shaped_lstI ms, by rw [eqv_lstI]; exact h⟩
theorem neD_lst {K : PySem.W.Frag} {H : Hp} {p q : Addr} {ns ms : List Int} {Q : VK} (hp : SqL K H p (ns.map V.int)) (hq : SqL K H q (ms.map V.int)) (h : Q (.bl (!decide (ns = ms))) H) : rNeD K (.ref p) (.ref q) H Q :=
  ⟨_, _, .lst hp (dpAll_ints ns), .lst hq (dpAll_ints ms), shaped_lstI ns, shaped_lstI ms, by rw [eqv_lstI]; exact h⟩
end L2
set_option Elab.async false
set_option linter.all false
set_option maxRecDepth 100000
set_option maxHeartbeats 1000000
/-! plain values as data: shapes, equality of lists and tuples of them, two deep -/
namespace L2
open PySem PySem.Spec PyProof.Rows
def vD : V → PyData
  | .bl b => .bool b
  | .int i => .int i
  | .str x => .str x
  | _ => .none
/-- a sequence's kind: a list or a tuple of these -/
def sqD (l : Bool) (ds : List PyData) : PyData := if l then .list ds else .tuple ds
/-- a plain value whose text can be laid -/
def okV : V → Bool
  | .non => true
  | .bl _ => true
  | .int _ => true
  | .str x => PyData.strOk x
  | _ => false
theorem okV.flat {v : V} (h : okV v = true) : flatV v = true := by cases v <;> first | rfl | cases h
theorem vD_lay {v : V} (h : okV v = true) : (vD v).canLay0 = true := by cases v <;> first | (simp only [vD, PyData.canLay0]; done) | (simp only [vD, PyData.canLay0]; exact h)
theorem vD_depth (v : V) : (vD v).depth = 0 := by cases v <;> simp [vD, PyData.depth]
theorem vDs_lay : ∀ {xs : List V}, (∀ x ∈ xs, okV x = true) → PyData.canLayAll0 (xs.map vD) = true
  | [], _ => by simp [PyData.canLayAll0]
  | v :: xs, h => by simp [PyData.canLayAll0, vD_lay (h v (List.mem_cons_self)), vDs_lay fun y hy => h y (List.mem_cons_of_mem _ hy)]
theorem vDs_depth : ∀ xs : List V, PyData.depthAll (xs.map vD) = 0
  | [] => by simp [PyData.depthAll]
  | v :: xs => by simp [PyData.depthAll, vD_depth v, vDs_depth xs]
theorem vD_shaped {v : V} (h : okV v = true) : SeqAt.shaped (vD v) = true := by simp [SeqAt.shaped, vD_lay h, vD_depth]
theorem row_lay (l : Bool) {xs : List V} (h : ∀ x ∈ xs, okV x = true) : (sqD l (xs.map vD)).canLay0 = true := by cases l <;> simp [sqD, PyData.canLay0, vDs_lay h]
theorem row_depth (l : Bool) (xs : List V) : (sqD l (xs.map vD)).depth = 1 := by cases l <;> simp [sqD, PyData.depth, vDs_depth]
theorem row_shaped (l : Bool) {xs : List V} (h : ∀ x ∈ xs, okV x = true) : SeqAt.shaped (sqD l (xs.map vD)) = true := by simp [SeqAt.shaped, row_lay l h, row_depth]
/-- data of one level: a plain value, a list or tuple of such -/
def Fl1 (d : PyData) : Prop := d.canLay0 = true ∧ d.depth ≤ 1
theorem fl_v {v : V} (h : okV v = true) : Fl1 (vD v) := ⟨vD_lay h, by rw [vD_depth]; omega⟩
theorem fl_row (l : Bool) {xs : List V} (h : ∀ x ∈ xs, okV x = true) : Fl1 (sqD l (xs.map vD)) := ⟨row_lay l h, by rw [row_depth]; omega⟩
theorem fls_lay : ∀ {ds : List PyData}, (∀ d ∈ ds, Fl1 d) → PyData.canLayAll0 ds = true
  | [], _ => by simp [PyData.canLayAll0]
  | d :: ds, h => by simp [PyData.canLayAll0, (h d (List.mem_cons_self)).1, fls_lay fun e he => h e (List.mem_cons_of_mem _ he)]
theorem fls_depth : ∀ {ds : List PyData}, (∀ d ∈ ds, Fl1 d) → PyData.depthAll ds ≤ 1
  | [], _ => by simp [PyData.depthAll]
  | d :: ds, h => by
    have h1 := (h d (List.mem_cons_self)).2
    have h2 := fls_depth fun e he => h e (List.mem_cons_of_mem d he)
    simp only [PyData.depthAll]
    omega
theorem fls_shaped (l : Bool) {ds : List PyData} (h : ∀ d ∈ ds, Fl1 d) : SeqAt.shaped (sqD l ds) = true := by
  have h1 := fls_lay h
  have h2 := fls_depth h
  cases l with
  | true =>
    show ((PyData.list ds).canLay0 && decide ((PyData.list ds).depth ≤ 64)) = true
    have e : (PyData.list ds).depth ≤ 64 := by
      have : (PyData.list ds).depth = PyData.depthAll ds + 1 := by simp only [PyData.depth]
      omega
    rw [decide_eq_true e, Bool.and_true]
    simp only [PyData.canLay0, h1]
  | false =>
    show ((PyData.tuple ds).canLay0 && decide ((PyData.tuple ds).depth ≤ 64)) = true
    have e : (PyData.tuple ds).depth ≤ 64 := by
      have : (PyData.tuple ds).depth = PyData.depthAll ds + 1 := by simp only [PyData.depth]
      omega
    rw [decide_eq_true e, Bool.and_true]
    simp only [PyData.canLay0, h1]
theorem vD_self (v : V) : PyData.eqv (vD v) (vD v) = true := by cases v <;> simp [vD, PyData.eqv]
theorem eqvAll_self : ∀ {ds : List PyData}, (∀ d ∈ ds, PyData.eqv d d = true) → PyData.eqvAll ds ds = true
  | [], _ => by simp [PyData.eqvAll]
  | d :: ds, h => by simp [PyData.eqvAll, h d (List.mem_cons_self), eqvAll_self fun e he => h e (List.mem_cons_of_mem _ he)]
theorem sqD_self (l : Bool) {ds : List PyData} (h : ∀ d ∈ ds, PyData.eqv d d = true) : PyData.eqv (sqD l ds) (sqD l ds) = true := by
  cases l <;> (simp only [sqD, PyData.eqv]; exact eqvAll_self h)
theorem row_self (l : Bool) (xs : List V) : PyData.eqv (sqD l (xs.map vD)) (sqD l (xs.map vD)) = true := sqD_self l fun d hd => by
  obtain ⟨v, _, rfl⟩ := List.mem_map.mp hd
  exact vD_self v
theorem eqvAll_append : ∀ {as bs cs ds : List PyData}, as.length = cs.length → PyData.eqvAll (as ++ bs) (cs ++ ds) = (PyData.eqvAll as cs && PyData.eqvAll bs ds)
  | [], bs, [], ds, _ => by simp [PyData.eqvAll]
  | [], _, _ :: _, _, h => by simp at h
  | _ :: _, _, [], _, h => by simp at h
  | a :: as, bs, c :: cs, ds, h => by
    have ih := eqvAll_append (as := as) (bs := bs) (cs := cs) (ds := ds) (by simpa using h)
    simp only [List.cons_append, PyData.eqvAll, ih, Bool.and_assoc]
section
variable {K : PySem.W.Frag} {H : Hp}
theorem dpv {v : V} (h : flatV v = true) : Dp K H v (vD v) := by
  cases v with
  | non => exact .non
  | bl b => exact .bl b
  | int i => exact .int i
  | str x => exact .str x
  | _ => cases h
theorem dpvs : ∀ {xs : List V}, (∀ x ∈ xs, flatV x = true) → DpAll K H xs (xs.map vD)
  | [], _ => .nil
  | x :: xs, h => .cons (dpv (h x (List.mem_cons_self))) (dpvs fun y hy => h y (List.mem_cons_of_mem _ hy))
theorem dp_lst {a : Addr} {xs : List V} {ds : List PyData} (h : SqL K H a xs) (d : DpAll K H xs ds) : Dp K H (.ref a) (sqD true ds) := .lst h d
theorem dp_tup {a : Addr} {xs : List V} {ds : List PyData} (h : SqT K H a xs) (d : DpAll K H xs ds) : Dp K H (.ref a) (sqD false ds) := .tup h d
end
end L2
set_option Elab.async false
set_option linter.all false
set_option maxRecDepth 100000
set_option maxHeartbeats 1000000
/-! comprehensions whose elements make nothing; lists side by side -/
namespace L2
open PySem PySem.Spec PyProof.Rows
def PvF (H : Hp) (D : Addr) (xs : List V) (f : V → Option V) (i : Nat) (H' : Hp) : Prop := H' = upd H D (.lst ((xs.take i).filterMap f))
section
variable {H : Hp} {D : Addr} {xs : List V} {f : V → Option V} {i : Nat} {x y : V}
theorem take_snoc {α : Type} {xs : List α} {i : Nat} {x : α} (hx : xs[i]? = some x) : xs.take (i + 1) = xs.take i ++ [x] := by rw [List.take_add_one, hx]; rfl
theorem fm_put (hx : xs[i]? = some x) (hf : f x = some y) (hz : xs.length < sizeLine) : ∃ acc, (upd H D (.lst ((xs.take i).filterMap f))) D = some (.lst acc) ∧ acc.length < sizeLine ∧ PvF H D xs f (i + 1) (upd (upd H D (.lst ((xs.take i).filterMap f))) D (.lst (acc ++ [y]))) := by
  refine ⟨_, upd_same, Nat.lt_of_le_of_lt (Nat.le_trans (List.length_filterMap_le _ _) (List.length_take_le' _ _)) hz, ?_⟩
  unfold PvF
  rw [upd_upd, take_snoc hx, List.filterMap_append]
  rw [show List.filterMap f [x] = [y] by rw [List.filterMap_cons, hf]; rfl]
theorem fm_skip (hx : xs[i]? = some x) (hf : f x = none) : PvF H D xs f (i + 1) (upd H D (.lst ((xs.take i).filterMap f))) := by
  unfold PvF
  rw [take_snoc hx, List.filterMap_append, show List.filterMap f [x] = [] by rw [List.filterMap_cons, hf]; rfl, List.append_nil]
theorem fm_end {H' : Hp} (h : PvF H D xs f xs.length H') : H' = upd H D (.lst (xs.filterMap f)) := by
  unfold PvF at h
  rw [List.take_length] at h
  exact h
end
theorem Paired.at {α β : Type} {F : α → β → Prop} : ∀ {xs : List α} {ys : List β} {i : Nat} {x : α}, Paired F xs ys → xs[i]? = some x → ∃ y, ys[i]? = some y ∧ F x y
  | _, _, i, _, .nil, h => by simp at h
  | _, _, 0, _, .cons h _, e => by
    cases (show some _ = some _ from e)
    exact ⟨_, rfl, h⟩
  | _, _, i + 1, _, .cons _ t, e => Paired.at (i := i) t e
theorem Paired.at' {α β : Type} {F : α → β → Prop} : ∀ {xs : List α} {ys : List β} {i : Nat} {y : β}, Paired F xs ys → ys[i]? = some y → ∃ x, xs[i]? = some x ∧ F x y
  | _, _, i, _, .nil, h => by simp at h
  | _, _, 0, _, .cons h _, e => by
    cases (show some _ = some _ from e)
    exact ⟨_, rfl, h⟩
  | _, _, i + 1, _, .cons _ t, e => Paired.at' (i := i) t e
theorem Paired.takeP {α β : Type} {F : α → β → Prop} : ∀ {xs : List α} {ys : List β} (n : Nat), Paired F xs ys → Paired F (xs.take n) (ys.take n)
  | _, _, 0, _ => .nil
  | _, _, _ + 1, .nil => .nil
  | _, _, n + 1, .cons h t => .cons h (Paired.takeP n t)
theorem Paired.appendP {α β : Type} {F : α → β → Prop} : ∀ {xs xs' : List α} {ys ys' : List β}, Paired F xs ys → Paired F xs' ys' → Paired F (xs ++ xs') (ys ++ ys')
  | _, _, _, _, .nil, s => s
  | _, _, _, _, .cons h t, s => .cons h (Paired.appendP t s)
theorem Paired.mapL {α β γ : Type} {F : α → β → Prop} {f : α → γ} {g : β → γ} (h : ∀ a b, F a b → f a = g b) : ∀ {xs : List α} {ys : List β}, Paired F xs ys → xs.map f = ys.map g
  | _, _, .nil => rfl
  | _, _, .cons r t => by rw [List.map_cons, List.map_cons, h _ _ r, Paired.mapL h t]
theorem call_tuple_ofK {X : Cx} {K : PySem.W.Frag} (h : X.K = K) : CallR X (.type "tuple") (fun xs H Q => ∃ p ys, xs = [.ref p] ∧ ((SqL K H p ys ∧ ∀ l, H l = none → Q (.ref l) (upd H l (.tup ys))) ∨ (SqT K H p ys ∧ Q (.ref p) H))) := h ▸ call_tuple_of
theorem call_list_ofK {X : Cx} {K : PySem.W.Frag} (h : X.K = K) : CallR X (.type "list") (fun xs H Q => ∃ p ys, xs = [.ref p] ∧ (SqL K H p ys ∨ SqT K H p ys) ∧ ∀ l, H l = none → Q (.ref l) (upd H l (.lst ys))) := h ▸ call_list_of
/-- what is known of the value, and no more, goes on -/
def tCutE (t : TE) : TE := fun σ H Q => ∃ R : V → Hp → Prop, t σ H R ∧ ∀ v H', R v H' → Q v H'
theorem pe_cut {X : Cx} {e : Expr} {t : TE} (h : PE X e t) : PE X e (tCutE t) := ⟨fun pins s σ H Q I ⟨R, h1, h2⟩ => wpAny_mono (h.run pins s σ H R I h1) (fun u s' ⟨v, H', I', r, q⟩ => ⟨v, H', I', r, h2 _ _ q⟩) fun _ _ z => z⟩
end L2
set_option Elab.async false
set_option linter.all false
set_option maxRecDepth 100000
set_option maxHeartbeats 1000000
/-! <= of places (year, kind, text); list.index, tuple.index; a written dict from texts to ints -/
namespace Ob
open PySem
theorem RcOp.le_str {A : Around} {s : Shared} (a b : Str) (t u : Tok) : RcOp .LtE A s (.str a t) (.str b u) (!decide (b.cps.toList < a.cps.toList)) := fun _ _ _ _ h => PySem.P.le_str h
end Ob
namespace L2
open PySem PySem.Spec PyProof.Rows
/-- a place is not behind another one -/
def leP (p q : Int × Int × Str) : Bool := if p.1 = q.1 then if p.2.1 = q.2.1 then (if p.2.2 = q.2.2 then true else !decide (q.2.2.cps.toList < p.2.2.cps.toList)) else decide (p.2.1 ≤ q.2.1) else decide (p.1 ≤ q.1)
def plV (p : Int × Int × Str) : List V := [.int p.1, .int p.2.1, .str p.2.2]
def rLeP (K : PySem.W.Frag) : R2 := fun x y H Q => ∃ (a b : Addr) (p q : Int × Int × Str), x = .ref a ∧ y = .ref b ∧ SqT K H a (plV p) ∧ SqT K H b (plV q) ∧ Q (.bl (leP p q)) H
theorem vals3x {x y z : V} {us : List Value} (h : Vals [x, y, z] us) : ∃ a b c, us = [a, b, c] ∧ RelV x a ∧ RelV y b ∧ RelV z c := by
  cases h with
  | cons ra h =>
    cases h with
    | cons rb h =>
      cases h with
      | cons rc h =>
        cases h
        exact ⟨_, _, _, rfl, ra, rb, rc⟩
theorem op_leP {X : Cx} (hu : X.A.units + 64 < cLine) : OpR X (compareOp .LtE) (rLeP X.K) := by
  intro pins s σ H x y v u Q I rx ry h
  obtain ⟨a, b, p, q, rfl, rfl, ha, hb, k⟩ := h
  obtain ⟨y1, k1, s1⟩ := p
  obtain ⟨y2, k2, s2⟩ := q
  cases rx
  cases ry
  obtain ⟨its, r1, p1, _⟩ := I.tuple ha
  obtain ⟨its2, r2, p2, _⟩ := I.tuple hb
  obtain ⟨_, _, _, rfl, ⟨ta, rfl⟩, ⟨tb, rfl⟩, ⟨tc, rfl⟩⟩ := vals3x (show Vals [V.int y1, .int k1, .str s1] its from r1)
  obtain ⟨_, _, _, rfl, ⟨ua, rfl⟩, ⟨ub, rfl⟩, ⟨uc, rfl⟩⟩ := vals3x (show Vals [V.int y2, .int k2, .str s2] its2 from r2)
  have ii : ∀ i j : Int, (i == j) = decide (i = j) := fun i j => by
    by_cases q : i = j
    · rw [decide_eq_true q]; exact beq_iff_eq.mpr q
    · rw [decide_eq_false q]; exact beq_eq_false_iff_ne.mpr q
  have ss : ∀ i j : Str, (i == j) = decide (i = j) := fun i j => by
    by_cases q : i = j
    · rw [decide_eq_true q]; exact beq_iff_eq.mpr q
    · rw [decide_eq_false q]; exact beq_eq_false_iff_ne.mpr q
  have R := Ob.RcOp.tuples_le (A := X.A) (s := s) (e := fun j => match j with | 0 => decide (y1 = y2) | 1 => decide (k1 = k2) | _ => decide (s1 = s2))
    (r := fun j => match j with | 0 => decide (y1 ≤ y2) | 1 => decide (k1 ≤ k2) | _ => !decide (s2.cps.toList < s1.cps.toList)) p1 p2 (Nat.lt_of_le_of_lt (Nat.le_add_right _ _) hu) (fun j h1 h2 => by
      match j, h1, h2 with
      | 0, _, _ => show SeqAt.EqAt _ _ _ _ (decide (y1 = y2)); rw [← ii]; exact SeqAt.EqAt.int_int _ _ _ _
      | 1, _, _ => show SeqAt.EqAt _ _ _ _ (decide (k1 = k2)); rw [← ii]; exact SeqAt.EqAt.int_int _ _ _ _
      | 2, _, _ => show SeqAt.EqAt _ _ _ _ (decide (s1 = s2)); rw [← ss]; exact SeqAt.EqAt.str_str _ _ _ _
      | j + 3, h1, _ => simp at h1; omega) (fun j h1 h2 _ => by
      match j, h1, h2 with
      | 0, _, _ => exact Ob.RcOp.le_int _ _ _ _
      | 1, _, _ => exact Ob.RcOp.le_int _ _ _ _
      | 2, _, _ => exact Ob.RcOp.le_str _ _ _ _
      | j + 3, h1, _ => simp at h1; omega)
  have z : wpAny (model X.prog X.w) X.A (compareOp .LtE (.ref a) (.ref b)) (EP X pins σ Q) X.xe s := R X.prog X.w X.xe (EP X pins σ Q) ⟨.bl _, H, I, rfl, by
    have e : leP (y1, k1, s1) (y2, k2, s2) = Ob.lexAt (fun j => match j with | 0 => decide (y1 = y2) | 1 => decide (k1 = k2) | _ => decide (s1 = s2)) (fun j => match j with | 0 => decide (y1 ≤ y2) | 1 => decide (k1 ≤ k2) | _ => !decide (s2.cps.toList < s1.cps.toList)) true 0 3 := by
      simp only [leP, Ob.lexAt, decide_eq_true_eq]
    rw [e] at k
    exact k⟩
  exact z
/-- a written tuple is one by its object -/
def tyB (K : PySem.W.Frag) (a : Addr) : Bool := match K.lookup a with
  | some ⟨.type c, none, _, _⟩ => decide (c = "tuple")
  | _ => false
theorem tyB_ok {K : PySem.W.Frag} {a : Addr} (h : tyB K a = true) : ∃ o, K.lookup a = some o ∧ o.cls = .type "tuple" ∧ o.dict = none := by
  unfold tyB at h
  split at h
  · rename_i c _ _ e
    exact ⟨_, e, congrArg Value.type (of_decide_eq_true h), rfl⟩
  · cases h
/-- d: a written dict from texts to ints -/
structure WD (K : PySem.W.Frag) (w : World) (d : Addr) (L : List (Str × Int)) : Prop where
  ex : ∃ es n, KDict K w d es n
  get : ∀ z, ∃ r, PySem.W.nsIn K d z = some r ∧ (match L.lookup z with | some i => ∃ u, r = some u ∧ RelV (.int i) u | none => r = none)
theorem keys_none {P : Params} {z : Str} : ∀ {l : List DictEntry} {ks : List Str}, l.map He.keyOf = He.keysIn P ks → z ∉ ks → l.find? (·.key.isStr z) = none ∧ l.any (·.refKey) = false
  | [], _, _, _ => ⟨rfl, rfl⟩
  | e :: r, [], h, _ => by cases h
  | e :: r, k :: ks, h, hz => by
    have h1 : He.keyOf e :: r.map He.keyOf = some (k, PyData.keyHash P k) :: He.keysIn P ks := h
    injection h1 with h2 h3
    obtain ⟨g1, g2⟩ := keys_none h3 (fun q => hz (List.mem_cons_of_mem _ q))
    unfold He.keyOf at h2
    split at h2
    · rename_i x t q
      have h4 := Option.some.inj h2
      obtain ⟨h5, h6⟩ := Prod.mk.inj h4
      have ne : (x == z) = false := beq_eq_false_iff_ne.mpr fun e => hz (by rw [← e, h5]; exact List.mem_cons_self)
      refine ⟨?_, ?_⟩
      · rw [List.find?_cons_of_neg (by rw [q]; show ¬ (x == z) = true; rw [ne]; decide)]
        exact g1
      · rw [List.any_cons, g2, Bool.or_false]
        show (match e.key with | .ref _ => true | _ => false) = false
        rw [q]
    · cases h2
theorem look_none_mem {α : Type} {z : Str} : ∀ {L : List (Str × α)}, L.lookup z = none → z ∉ L.map (·.1)
  | [], _ => by simp
  | (t, a) :: L, h => by
    rw [List.lookup_cons] at h
    cases e : z == t with
    | true => rw [e] at h; cases h
    | false =>
      rw [e] at h
      intro q
      rcases List.mem_cons.mp q with q | q
      · rw [beq_eq_false_iff_ne] at e; exact e q
      · exact look_none_mem h q
theorem look_some_mem {α : Type} {z : Str} {i : α} : ∀ {L : List (Str × α)}, L.lookup z = some i → (z, i) ∈ L
  | [], h => by cases h
  | (t, a) :: L, h => by
    rw [List.lookup_cons] at h
    cases e : z == t with
    | true => rw [e] at h; cases h; rw [beq_iff_eq] at e; rw [e]; exact List.mem_cons_self
    | false => rw [e] at h; exact List.mem_cons_of_mem _ (look_some_mem h)
theorem wd_of {K : PySem.W.Frag} {w : World} {d : Addr} {L : List (Str × Int)} (h1 : He.dicW K d = some (He.keysIn w.params (L.map (·.1)))) (h2 : He.valsB K d (L.map fun q => (q.1, .int q.2)) = true) : WD K w d L := by
  refine ⟨He.dicW_ok h1, fun z => ?_⟩
  cases e : L.lookup z with
  | some i =>
    obtain ⟨u, g1, g2⟩ := He.valsB_ok h2 (q := (z, .int i)) (List.mem_map.mpr ⟨(z, i), look_some_mem e, rfl⟩)
    exact ⟨some u, g1, u, rfl, g2⟩
  | none =>
    refine ⟨none, ?_, rfl⟩
    have hz := look_none_mem e
    unfold He.dicW at h1
    cases q : K.lookup d with
    | none => rw [q] at h1; cases h1
    | some o =>
      obtain ⟨oc, od, dt, osl⟩ := o
      rw [q] at h1
      cases oc with
      | type c =>
        cases od with
        | none =>
          cases dt with
          | dict es n =>
            have h1 : (match decide (c = "dict") && (osl.isEmpty && !(d == sysModules)) with
              | true => some (es.toList.map He.keyOf)
              | false => none) = some (He.keysIn w.params (L.map (·.1))) := h1
            cases zz : decide (c = "dict") && (osl.isEmpty && !(d == sysModules)) with
            | false => rw [zz] at h1; cases h1
            | true =>
              rw [zz] at h1
              obtain ⟨k1, k2⟩ := keys_none (Option.some.inj h1) hz
              unfold PySem.W.nsIn
              rw [q]
              show (match es.toList.find? (·.key.isStr z) with | some e => some (some e.val) | none => if es.toList.any (·.refKey) then none else some none) = _
              rw [k1, k2]
              rfl
          | _ => cases h1
        | some b => cases dt <;> cases h1
      | _ => cases od <;> cases dt <;> cases h1
theorem cut_drop (xs : List V) (n : Nat) : cutV xs (some (n : Int)) none = xs.drop n := by
  unfold cutV
  rw [HT.sIx_nat, HT.sIx_none]
  by_cases h : n ≤ xs.length
  · rw [Nat.min_eq_left h, List.take_of_length_le (by rw [List.length_drop]; exact Nat.le_refl _)]
  · rw [Nat.min_eq_right (by omega), List.drop_of_length_le (Nat.le_refl _), List.drop_of_length_le (by omega)]
    exact List.take_nil
theorem slOr {K : PySem.W.Frag} {H : Hp} {b : Addr} {xs : List V} {n : Nat} {Q : VK} (hb : H b = some (.lst xs) ∨ H b = some (.tup xs)) (h0 : 0 < n) (hl : n ≤ xs.length)
    (k : ∀ l o, H l = none → (o = .lst (xs.drop n) ∨ o = .tup (xs.drop n)) → Q (.ref l) (upd H l o)) : rSlL K (.ref b) (some (n : Int)) none H Q ∨ rSlA K (.ref b) (some (n : Int)) none H Q := by
  rcases hb with hb | hb
  · exact .inl ⟨b, xs, rfl, SqL.of hb, fun l h => by rw [cut_drop]; exact k l _ h (.inl rfl)⟩
  · refine .inr ⟨b, xs, rfl, SqT.of hb, fun h => ?_, fun _ l h => by rw [cut_drop]; exact k l _ h (.inr rfl)⟩
    rw [HT.sIx_nat, Nat.min_eq_left hl] at h
    omega
/-- a part of a list or a tuple -/
theorem sl_eitherK {X : Cx} {K : PySem.W.Frag} (h : X.K = K) : SlR X (fun x lo hi H Q => rSlL K x lo hi H Q ∨ rSlA K x lo hi H Q) := h ▸ sl_list.or sl_tupA
theorem sl_either {X : Cx} : SlR X (fun x lo hi H Q => rSlL X.K x lo hi H Q ∨ rSlA X.K x lo hi H Q) := sl_list.or sl_tupA
section
variable {X : Cx} {K : PySem.W.Frag} {w : World} {d : Addr} {L : List (Str × Int)}
theorem op_notIn_wd (D : WD X.K X.w d L) : OpR X (compareOp .NotIn) (fun x y H Q => ∃ z : Str, x = .str z ∧ y = .ref d ∧ Q (.bl (!(L.lookup z).isSome)) H) := by
  intro pins s σ H x y v u Q I rx ry h
  obtain ⟨z, rfl, rfl, q⟩ := h
  obtain ⟨es, n, kd⟩ := D.ex
  obtain ⟨r, g1, g2⟩ := D.get z
  refine op_notIn_kd kd pins s σ H _ _ v u Q I rx ry ⟨z, r, rfl, rfl, g1, ?_⟩
  cases e : L.lookup z with
  | none => rw [e] at g2 q; subst g2; exact q
  | some i => rw [e] at g2 q; obtain ⟨u', rfl, _⟩ := g2; exact q
theorem ix_wd (D : WD X.K X.w d L) : IxR X (fun x y H Q => ∃ (z : Str) (i : Int), x = .ref d ∧ y = .str z ∧ L.lookup z = some i ∧ Q (.int i) H) := by
  intro value slice pins s σ H x y v u Q I rx ry h hs
  obtain ⟨z, i, rfl, rfl, e, q⟩ := h
  obtain ⟨es, n, kd⟩ := D.ex
  obtain ⟨r, g1, g2⟩ := D.get z
  rw [e] at g2
  obtain ⟨u', rfl, g2⟩ := g2
  exact ix_kdict value slice pins s σ H _ _ v u Q I rx ry ⟨d, z, .int i, rfl, rfl, ⟨es, n, u', kd.at_, kd.lit, g1, g2⟩, q⟩ hs
end
end L2
set_option Elab.async false
set_option linter.all false
set_option maxRecDepth 100000
set_option maxHeartbeats 1000000
/-! methods with a star parameter -/
namespace L2
open PySem PySem.Spec PyProof.Rows StX
section
variable {X : Cx} {CX : CXT} {k : Nat} {f C : Addr} {sp : Sp} {E : St → XK} {m : Str} {pos apos : Pos} {e o : Expr} {es : List Expr} {ta : TE} {t : TA}
theorem run_fnRS {pins : List (Addr × Obj)} {σ : St} {H : Hp} {s : Shared} {Q : VK} {us : List Value} {vs : List V} (F : FnR X.prog X.w X.K X.mg X.base CX k f sp) (hr : Room k X.A) (hx : PassesAt CX X σ (E σ))
    (I : Inv X pins σ H s) (r : Vals vs us) (h : sp vs H Q (E σ)) : wpAny (model X.prog X.w) X.A (call (.ref f) us) (EP X pins σ Q) X.xe s := by
  refine wpAny_call (codeAny_mono (F X.A X.stack s H us vs Q (E σ) hr I.env0 r h) fun r s' hq => ?_)
  cases r with
  | error e => exact hx pins H s e s' I hq
  | ok fl =>
    cases fl with
    | ret u => exact I.after hq
    | next => exact False.elim hq
    | brk => exact False.elim hq
    | cont => exact False.elim hq
/-- the class at C has the method m, its promise told of the values as they are written -/
def CalS (P : Program) (w : World) (K : PySem.W.Frag) (mg : Str → Option Value) (base : Heap) (CX : CXT) (k : Nat) (C : Addr) (m : Str) (sp : Sp) : Prop := ∃ f, FnR P w K mg base CX k f sp ∧ Meth K C m f
def tMethX (C : Addr) (m : Str) (sp : Sp) (E : St → XK) (ta : TE) (t : TA) : TE := fun σ H Q => ta σ H fun x H1 => ∃ a dx fs, x = .ref a ∧ H1 a = some (.ins C dx fs) ∧ fs.lookup m = none ∧
  t σ H1 fun vs H2 => sp (x :: vs) H2 Q (E σ)
theorem pe_mthR {pl : Sem Bool} (cl : Cls X.K C) (c : CalS X.prog X.w X.K X.mg X.base CX k C m sp) (hr : Room k X.A) (ho : PE X o ta) (hx : ∀ σ, PassesAt CX X σ (E σ)) (ha : PA X (e :: es) t)
    (hst : starEach (e :: es) X.env = (false, eval e X.env) :: starEach es X.env := by rfl) (hpl : (backTo pos (starEach es X.env)).any (·.1) = false := by rfl)
    (ht : eval (.Call (.Attribute o m apos) (e :: es) [] pos) X.env = (do
      let v0 ← eval o X.env
      standAt apos.atName
      let (f1, first) ← holding [v0] (getMethod v0 m pl)
      callWith pos f1 first (backTo pos (starEach (e :: es) X.env)) (backToKw pos (keywordEach [] X.env))) := by rfl) :
    PE X (.Call (.Attribute o m apos) (e :: es) [] pos) (tMethX C m sp E ta t) := by
  obtain ⟨f, F, hm⟩ := c
  refine ⟨fun pins s σ H Q I h => PySem.W.methodCall_KW (pl := pl) (thn (ho.run pins s σ H _ I h) fun u s1 hh => ?_) ht⟩
  obtain ⟨x, H1, I1, rx, a, dx, fs, ex, ea, l, q⟩ := hh
  subst ex
  obtain rfl : u = Value.ref a := rx
  refine getmeth_ok I1 ea cl hm l (PySem.W.callWith_K (first := [.ref a]) (h₀ := X.base) I.ok.mod.kin hm.kp (thn (ha.run pos pins s1 σ H1 _ I1 q) fun us s2 hh2 => ?_) hst hpl)
  obtain ⟨vs, H2, I2, r, q2⟩ := hh2
  exact ⟨I2.kIn, run_fnRS (us := .ref a :: us) (vs := .ref a :: vs) F hr (hx σ) I2 (.cons rfl r) q2⟩
theorem pe_mthR0 {pl : Sem Bool} (cl : Cls X.K C) (c : CalS X.prog X.w X.K X.mg X.base CX k C m sp) (hr : Room k X.A) (ho : PE X o ta) (hx : ∀ σ, PassesAt CX X σ (E σ))
    (ht : eval (.Call (.Attribute o m apos) [] [] pos) X.env = (do
      let v0 ← eval o X.env
      standAt apos.atName
      let (f1, first) ← holding [v0] (getMethod v0 m pl)
      callWith pos f1 first (backTo pos (starEach [] X.env)) (backToKw pos (keywordEach [] X.env))) := by rfl) :
    PE X (.Call (.Attribute o m apos) [] [] pos) (tMethX C m sp E ta tNil) := by
  obtain ⟨f, F, hm⟩ := c
  refine ⟨fun pins s σ H Q I h => PySem.W.methodCall_KW (pl := pl) (thn (ho.run pins s σ H _ I h) fun u s1 hh => ?_) ht⟩
  obtain ⟨x, H1, I1, rx, a, dx, fs, ex, ea, l, q⟩ := hh
  subst ex
  obtain rfl : u = Value.ref a := rx
  exact getmeth_ok I1 ea cl hm l (PySem.W.callWith_K0 (first := [.ref a]) I1.kIn hm.kp (run_fnRS (us := [.ref a]) (vs := [.ref a]) F hr (hx σ) I1 (.cons rfl .nil) q))
end
theorem call_len_seqK {X : Cx} {K : PySem.W.Frag} (h : X.K = K) : CallR X (.builtin "len") (fun xs H Q => ∃ p ys, xs = [V.ref p] ∧ (SqL K H p ys ∨ SqT K H p ys) ∧ Q (V.int ys.length) H) := h ▸ call_len_seq
/-- a def with one parameter and a star -/
theorem Fun.star1 {P : Program} {w : World} {K : PySem.W.Frag} {mg : Str → Option Value} {base : Heap} {CX : CXT} {x qual : Str} {st : Stmt} {f : Addr} {fd : FuncData} {N : List Str} {p1 pv : Str} {k : Nat} {sp : Sp} (F : Fun K x qual st f fd) (S : FnScope N ([p1] ++ [pv]) (defScope st)) (hCX : CXUp CX)
    (h0 : ∀ (kV doc pm : Value) (an : Option Addr) (cdv ct : Value) a, bindArgs (PySem.W.fnOf x qual (defArgs st) (defBody st) (defScope st) .none kV doc pm an cdv ct) ⟨[a], []⟩ = (newTuple [] >>= fun t => pure [(p1, a), (pv, t)]))
    (h1 : ∀ (kV doc pm : Value) (an : Option Addr) (cdv ct : Value) a r rs, bindArgs (PySem.W.fnOf x qual (defArgs st) (defBody st) (defScope st) .none kV doc pm an cdv ct) ⟨a :: r :: rs, []⟩ = (newTuple (r :: rs) >>= fun t => pure [(p1, a), (pv, t)]))
    (hbody : ∀ (cdv : Value) (A : Around) (outer : List Env) (s : Shared) (H : Hp) (vs : List V) (Q : VK) (E : XK), Room k (A.deeper (envOfC qual (defScope st) s.heap.objs.size f cdv)) → sp vs H Q E →
      ∃ t, PSs (cxOf CX P w K mg base N qual (defScope st) f cdv A outer s H E) (defBody st) t ∧ t { nx := fun _ H' => Q .non H', rt := Q } (start N vs) H) :
    FnR P w K mg base CX (k + 1) f (fun vs H Q E => ∃ ws rest, vs = ws ++ rest ∧ ws.length = [p1].length ∧ rest.length ≤ sizeLine ∧ ∀ p, H p = Option.none → sp (ws ++ [V.ref p]) (upd H p (.tup rest)) Q E) := by
  obtain ⟨oc, od, kV, doc, pm, an, cdv, ct, osl, rfl, lk, hcd⟩ := F.ex
  exact fn_star lk hcd S hCX (bind_star1 (B := fun us => bindArgs (PySem.W.fnOf x qual (defArgs st) (defBody st) (defScope st) .none kV doc pm an cdv ct) ⟨us, []⟩) (h0 kV doc pm an cdv ct) (h1 kV doc pm an cdv ct)) (hbody cdv)
end L2
set_option Elab.async false
set_option linter.all false
set_option maxRecDepth 100000
set_option maxHeartbeats 1000000
/-! steps of a walk that keep the new heap opaque: what stood stands, and the new thing stands at its place -/
namespace Wp
open PySem L2 Dw
theorem new_ok {H H' : Hp} {p : Addr} {o : HO} (n : H p = none) (e : upd H p o = H') : Same H H' ∧ H' p = some o := e ▸ ⟨sNew n, upd_same⟩
theorem pe_fldK {X : Cx} {K : PySem.W.Frag} {e : Expr} {ta : TE} {f : Str} {pos : Pos} (hk : X.K = K) (he : PE X e ta) (hb : attributeBase e f X.env (eval e X.env) = eval e X.env) : PE X (.Attribute e f pos) (tFld K ta f) := hk ▸ pe_fld he hb
theorem op_eqDK {X : Cx} {K : PySem.W.Frag} (hk : X.K = K) (hu : X.A.units + 64 < cLine) : OpR X (compareOp .Eq) (rEqD K) := hk ▸ op_eqD hu
theorem op_neDK {X : Cx} {K : PySem.W.Frag} (hk : X.K = K) (hu : X.A.units + 64 < cLine) : OpR X (compareOp .NotEq) (rNeD K) := hk ▸ op_neD hu
theorem pe_app1K {X : Cx} {K : PySem.W.Frag} {o e : Expr} {to : TE} {t : TA} {apos cpos : Pos} (hk : X.K = K) (ho : PE X o to) (ha : PA X [e] t) (hbase : attributeBase o "append" X.env (eval o X.env) = eval o X.env := by rfl)
    (hfew : ((backTo cpos (starEach [e] X.env)).all (fun x => !x.1) && (backToKw cpos (keywordEach [] X.env)).all (fun x => x.1.isSome) && decide ([e].length + ([] : List Keyword).length + (if ([] : List Keyword).isEmpty then 0 else 1) < 30)) = true := by rfl)
    (hline : (apos.endLine == cpos.line) = true := by rfl) (hs : starEach [e] X.env = (false, eval e X.env) :: starEach [] X.env := by rfl) (hplain : (backTo cpos (starEach [] X.env)).any (·.1) = false := by rfl) :
    PE X (.Call (.Attribute o "append" apos) [e] [] cpos) (tBM K "list" rAppend to t) := hk ▸ pe_app1 ho ha hbase hfew hline hs hplain
theorem tup_of {xs : List V} {H : Hp} {Q : VK} (hl : xs.length ≤ 1000) (q : ∀ p H', Same H H' → H p = none → H' p = some (.tup xs) → Q (.ref p) H') : xs.length ≤ sizeLine ∧ ∀ p, H p = none → Q (.ref p) (upd H p (.tup xs)) :=
  ⟨Nat.le_of_lt (small1000 hl), fun p h => q p _ (sNew h) h upd_same⟩
theorem lst_of {xs : List V} {H : Hp} {Q : VK} (hl : xs.length ≤ 1000) (q : ∀ p H', Same H H' → H p = none → H' p = some (.lst xs) → Q (.ref p) H') : xs.length ≤ sizeLine ∧ ∀ p, H p = none → Q (.ref p) (upd H p (.lst xs)) :=
  ⟨Nat.le_of_lt (small1000 hl), fun p h => q p _ (sNew h) h upd_same⟩
theorem catT_of {K : PySem.W.Frag} {H : Hp} {a b : Addr} {xs ys : List V} {Q : VK} (ha : H a = some (.tup xs)) (hb : H b = some (.tup ys)) (nx : xs ≠ []) (ny : ys ≠ []) (hl : xs.length + ys.length ≤ 1000)
    (q : ∀ p H', Same H H' → H p = none → H' p = some (.tup (xs ++ ys)) → Q (.ref p) H') : rCatT K (.ref a) (.ref b) H Q :=
  ⟨a, b, xs, ys, rfl, rfl, SqT.of ha, SqT.of hb, nx, Nat.le_of_lt (small1000 hl), fun z => absurd z ny, fun _ p h => q p _ (sNew h) h upd_same⟩
theorem slT_of {K : PySem.W.Frag} {H : Hp} {a : Addr} {xs : List V} {lo hi : Option Int} {Q : VK} (ha : H a = some (.tup xs)) (nw : ¬ (HT.sIx xs.length 0 lo = 0 ∧ HT.sIx xs.length xs.length hi = xs.length))
    (q : ∀ p H', Same H H' → H p = none → H' p = some (.tup (cutV xs lo hi)) → Q (.ref p) H') : rSlT K (.ref a) lo hi H Q :=
  ⟨a, xs, rfl, SqT.of ha, nw, fun p h => q p _ (sNew h) h upd_same⟩
theorem cat_of {H : Hp} {a b : Addr} {xs ys : List V} {Q : VK} (ha : H a = some (.lst xs)) (hb : H b = some (.lst ys)) (hl : xs.length + ys.length ≤ 1000)
    (q : ∀ p H', Same H H' → H p = none → H' p = some (.lst (xs ++ ys)) → Q (.ref p) H') : rCat (.ref a) (.ref b) H Q :=
  ⟨a, b, xs, ys, rfl, rfl, ha, hb, Nat.le_of_lt (small1000 hl), fun p h => q p _ (sNew h) h upd_same⟩
theorem slL_of {K : PySem.W.Frag} {H : Hp} {a : Addr} {xs : List V} {lo hi : Option Int} {Q : VK} (ha : H a = some (.lst xs))
    (q : ∀ p H', Same H H' → H p = none → H' p = some (.lst (cutV xs lo hi)) → Q (.ref p) H') : rSlL K (.ref a) lo hi H Q :=
  ⟨a, xs, rfl, SqL.of ha, fun p h => q p _ (sNew h) h upd_same⟩
theorem ixL_of {K : PySem.W.Frag} {H : Hp} {a : Addr} {xs : List V} {i : Int} {n : Nat} {v : V} {Q : VK} (ha : H a = some (.lst xs)) (e : i = (n : Int)) (hv : xs[n]? = some v) (q : Q v H) : rIxL K (.ref a) (.int i) H Q :=
  ⟨a, xs, i, v, rfl, rfl, SqL.of ha, by rw [e]; exact atI_nat hv, q⟩
theorem ixT_of {K : PySem.W.Frag} {H : Hp} {a : Addr} {xs : List V} {i : Int} {n : Nat} {v : V} {Q : VK} (ha : H a = some (.tup xs)) (e : i = (n : Int)) (hv : xs[n]? = some v) (q : Q v H) : rIxT K (.ref a) (.int i) H Q :=
  ⟨a, xs, i, v, rfl, rfl, SqT.of ha, by rw [e]; exact atI_nat hv, q⟩
theorem next_of {H : Hp} {d c : Addr} {many : Int} {Q : VK} {E : XK} (D : Dr H d c) (h1 : 1 ≤ many) (h2 : many < 1073741824) (q : ∀ (m : Nat) H', (m : Int) < many → Dr H' d c → But d H H' → Q (.int (m : Int)) H') : spNext [.ref d, .int many] H Q E :=
  ⟨d, c, many, rfl, D, h1, h2, fun k H' k0 k1 D' B' => by
    obtain ⟨m, rfl⟩ : ∃ m : Nat, k = (m : Int) := ⟨k.toNat, by omega⟩
    exact q m H' k1 D' B'⟩
theorem lcopy_of {K : PySem.W.Frag} {H : Hp} {p : Addr} {ys : List V} {Q : VK} (hp : H p = some (.lst ys) ∨ H p = some (.tup ys)) (q : ∀ l H', Same H H' → H l = none → H' l = some (.lst ys) → Q (.ref l) H') :
    ∃ p' ys', [V.ref p] = [.ref p'] ∧ (SqL K H p' ys' ∨ SqT K H p' ys') ∧ ∀ l, H l = none → Q (.ref l) (upd H l (.lst ys')) :=
  ⟨p, ys, rfl, hp.imp SqL.of SqT.of, fun l h => q l _ (sNew h) h upd_same⟩
theorem dput_of {α : Type} {f : α → V} {H : Hp} {a : Addr} {L : List (Key × V)} {x : Key} {v : V} {Q : Hp → Prop} (h : H a = some (.dK L)) (hl : L.length ≤ 1000) (q : Q (upd H a (.dK (putK L x v)))) : ∃ a' H', V.ref a = .ref a' ∧ DPut H a' (kV x) v H' ∧ Q H' :=
  ⟨a, _, rfl, DPut.k h (small1000 hl), q⟩
end Wp
set_option Elab.async false
set_option linter.all false
set_option maxRecDepth 100000
set_option maxHeartbeats 4000000
/-! raise of errors whose maker is walked -/
namespace L2
open PySem PySem.Spec PyProof.Rows
section
variable {X : Cx} {C : Addr} {x : Str} {e : Expr} {es : List Expr} {ta : TA} {te : TE} {p pos pos2 : Pos} {W : WX}
/-- what gives a new error without a dict makes an exception -/
theorem pmk_retO (hx : X.ex = []) (he : PE X e te) :
    PMk X e (fun σ H Q => te σ H fun x H1 => ∃ a C, x = .ref a ∧ H1 a = some (exo a C none) ∧ Fr0 X.H_0 a ∧ Raises X (.ref C) ∧ Q (.ref C) none (delH H1 a)) := by
  intro pins s σ H Q I h
  refine wpAny_mono (he.run pins s σ H _ I h) (fun u s1 hu => ?_) fun _ _ x => x
  obtain ⟨v, H1, I1, r1, a, C, rfl, ha, h0, hr, q⟩ := hu
  obtain rfl : u = Value.ref a := r1
  obtain ⟨t1, ho⟩ := exo_at I1.hok ha
  obtain ⟨G, gs, ga, J⟩ := I1.untrack ha h0 hx
  exact ⟨a, _, _, { s1 with heap := G }, delH H1 a, .ref C, none, rfl, J, gs, ga, ho, ⟨rfl, rfl⟩, rfl, rfl, delH_same, rfl, I1.bare, hr, q⟩
/-- raise X(e, ..), X's maker walked, fields stored -/
theorem ps_raiseO {k : Nat} {ps : List Str} {sp : Sp} (hc : X.calm = true) (c : CalO X.prog X.w X.K X.mg X.base k C ps sp) (hm : X.mg x = some (.ref C)) (hr : Room (k + 1) X.A) (tk : Takes X W) (ha : PA X (e :: es) ta) (hx : Passes CX0 X (fun _ _ _ => False) := by first | exact pass0 | exact passL) (hg : Gl X x := by rfl)
    (hdb : (x == ("__debug__" : Str)) = false := by decide) (he : starEach (e :: es) X.env = (false, eval e X.env) :: starEach es X.env := by rfl) (hpl : (backTo pos (starEach es X.env)).any (·.1) = false := by rfl) :
    PS X (.Raise (some (.Call (.Name x p) (e :: es) [] pos)) none pos2) (fun _ σ H => tMkO C sp [] ta σ H fun cls d H' => W cls d σ H') := by
  obtain ⟨T, f, fd, h1, h2, h3, h4⟩ := c
  exact ps_raise hc tk (pmk_oex T h2 h3 h1 hr h4 .nil hx hg hm ha hdb he hpl)
/-- raise X(), X's maker walked, no field -/
theorem ps_raiseO0 {k : Nat} {ps : List Str} {sp : Sp} (hc : X.calm = true) (hex : X.ex = []) (c : CalO X.prog X.w X.K X.mg X.base k C ps sp) (hm : X.mg x = some (.ref C)) (hr : Room (k + 1) X.A) (tk : Takes X W) (hx : Passes CX0 X (fun _ _ _ => False) := by first | exact pass0 | exact passL) (hg : Gl X x := by rfl) (hdb : (x == ("__debug__" : Str)) = false := by decide) :
    PS X (.Raise (some (.Call (.Name x p) [] [] pos)) none pos2) (fun _ σ H => tOeV C sp [] tNil σ H fun x H1 => ∃ a C, x = .ref a ∧ H1 a = some (exo a C none) ∧ Fr0 X.H_0 a ∧ Raises X (.ref C) ∧ W (.ref C) none σ (delH H1 a)) :=
  ps_raise hc tk (pmk_retO hex (pe_calO0 c hm hr hx hg hdb))
end
end L2
set_option Elab.async false
set_option linter.all false
set_option maxRecDepth 100000
set_option maxHeartbeats 4000000
/-! != by an own __eq__ (no own __ne__) -/
namespace OwN
open PySem PySem.Spec PyProof.Rows
section
variable {prog : Program} {w : World} {A : Around} {E : Value → Shared → Prop} {s : Shared} {K : PySem.W.Frag} {x C L f : Addr} {h₀ : Heap} {m : Str → Option Value} {ox : Obj} {od : Option Obj} {b tb : Value}
def NeB (Q : Value → Shared → Prop) (v : Value) (s' : Shared) : Prop := ∃ k, v = .bool k ∧ Q (.bool (!k)) s'
theorem ne_entry {Q : Fin → Shared → Prop} (X : K.In s.heap) (I : PySem.W.InstAt s.heap x ox C od) (hs : PySem.W.findIn K (.ref C) "__eq__" = some (some (.ref f))) (hf : PySem.W.isFn K (.ref f) = true) (hu : A.units < cLine)
    (h : wpAny (model prog w) A (call (.ref f) [.ref x, b]) (fun v s' => ∃ k, v = .bool k ∧ Q (.done (.ret (.bool (!k)))) s') E s) : wpAny (model prog w) A (Builtin.«object.__ne__» ⟨[.ref x, b], []⟩) Q E s := by
  unfold Builtin.«object.__ne__»
  repeat (first
    | with_reducible refine wpAny_cRoomFor hu ?_
    | (refine wpAny_bind (m := callSpecialIfBound? (.ref x) (Str.ofString "__eq__") [b]) (PySem.W.ifBound_K X I hs hf (wpAny_mono h (fun r s' hr => by
        obtain ⟨k, rfl, hq⟩ := hr
        repeat (first | exact hq | exact wpAny_pure hq | exact wpAny_truthy_bool hq | (refine wpAny_bind (m := truthy (.bool _)) (wpAny_truthy_bool ?_)) | wp_step)) fun _ _ e => e)))
    | wp_step)
theorem call_ne {Q : Value → Shared → Prop} (X : K.In s.heap) (I : PySem.W.InstAt s.heap x ox C od) (hs : PySem.W.findIn K (.ref C) "__eq__" = some (some (.ref f))) (hf : PySem.W.isFn K (.ref f) = true) (hm : PySem.W.mroIn K C (.type "object") = some true) (hu : A.in1.units < cLine)
    (h : wpAny (model prog w) A.in1 (call (.ref f) [.ref x, b]) (NeB Q) E s) : wpAny (model prog w) A (call (.builtin "object.__ne__") [.ref x, b]) Q E s :=
  wpAny_call (codeAny_call_builtin F.cmp_object.ne.plain F.cmpEntry_ne (PySem.W.check_slot F.cmpKind_ne F.cmpSplit_ne (I.type.andThen (PySem.W.looks_mroIn X hm)) (F.cmpArgs_ne _ _) (ne_entry X I hs hf hu h)))
theorem ifBound_ne {M : Model} {args : List Value} {Q : Option Value → Shared → Prop} (X : K.In s.heap) (I : PySem.W.InstAt s.heap x ox C od) (hs : PySem.W.findIn K (.ref C) "__ne__" = some (some (.builtin "object.__ne__")))
    (h : wpAny M A (call (.builtin "object.__ne__") (.ref x :: args)) (fun v => Q (some v)) E s) : wpAny M A (callSpecialIfBound? (.ref x) "__ne__" args) Q E s := by
  simp only [callSpecialIfBound?, bindSpecialIfBound?]
  refine wpAny_holding (wpAny_bind (wpAny_bind (wpAny_bind (I.type.here ((PySem.W.looks_findIn X hs).here ?_)))))
  refine wpAny_bind (wpAny_askSetting (wpAny_ite ?_))
  have fin : wpAny M A (call (.builtin "object.__ne__") ([.ref x] ++ args) >>= fun v => pure (some v)) Q E s := wpAny_bind (wpAny_mono h (fun v s' h' => wpAny_pure h') fun _ _ h' => h')
  split
  · exact wpAny_bind (wpAny_of_eq (F.cmp_object.ne.bind _) (wpAny_pure (by exact fin)))
  · exact wpAny_tryCatch (wpAny_bind (wpAny_of_eq (F.cmp_object.ne.bind _) (wpAny_pure (by exact fin))))
theorem ne_K {Q : Value → Shared → Prop} (hu : A.in1.units < cLine) (F : Fr h₀ L s.heap m) (X₀ : K.In h₀) (I : PySem.W.InstAt s.heap x ox C od) (hb : PySem.W.Looks (model prog w) s.heap (typeOf b) tb) (hn : PySem.W.notFirst K C tb = true)
    (hs : PySem.W.findIn K (.ref C) "__eq__" = some (some (.ref f))) (hf : PySem.W.isFn K (.ref f) = true) (hm : PySem.W.mroIn K C (.type "object") = some true) (hne : PySem.W.findIn K (.ref C) "__ne__" = some (some (.builtin "object.__ne__")))
    (h : wpAny (model prog w) A.in1 (call (.ref f) [.ref x, b]) (NeB Q) E s) : wpAny (model prog w) A (richCompare .NotEq (.ref x) b) Q E s := by
  have X := X₀.keeps F.keep
  have hu0 : A.units < cLine := Nat.lt_of_le_of_lt (by show A.units ≤ A.units + 1; omega) hu
  have one : wpAny (model prog w) A (tryCompare (.ref x) "__ne__" b) (fun r s' => ∃ v, r = some v ∧ Q v s') E s := by
    unfold tryCompare
    refine wpAny_bind (ifBound_ne X I hne (call_ne X I hs hf hm hu (wpAny_mono h (fun v s' hv => ?_) fun _ _ e => e)))
    obtain ⟨k, rfl, hq⟩ := hv
    exact ⟨k, rfl, wpAny_pure ⟨_, rfl, hq⟩⟩
  unfold richCompare
  simp only [oneThing_ref]
  refine wpAny_holding (wpAny_bind (wpAny_cRoomFor hu0 ?_))
  refine wpAny_bind (I.type.here (wpAny_bind (hb.here ?_)))
  split
  · rename_i q
    have e : PySem.W.subIn K tb (.ref C) = some false := by
      rcases Bool.or_eq_true_iff.mp hn with e | e
      · rw [beq_iff_eq.mp e] at q; simp at q
      · exact beq_iff_eq.mp e
    refine wpAny_bind ((PySem.W.looks_subIn X e).here ?_)
    simp only [Bool.false_eq_true, if_false]
    refine wpAny_bind (wpAny_mono one (fun r s' z => ?_) fun _ _ e => e)
    obtain ⟨v, rfl, hq⟩ := z
    exact wpAny_pure hq
  · refine wpAny_bind (wpAny_pure ?_)
    simp only [Bool.false_eq_true, if_false]
    refine wpAny_bind (wpAny_mono one (fun r s' z => ?_) fun _ _ e => e)
    obtain ⟨v, rfl, hq⟩ := z
    exact wpAny_pure hq
end
end OwN
namespace L2
open PySem PySem.Spec PyProof.Rows
/-- what != asks of the class at C, besides its __eq__ -/
structure NeOf (K : PySem.W.Frag) (C : Addr) : Prop where
  ob : PySem.W.mroIn K C (.type "object") = some true
  ne : PySem.W.findIn K (.ref C) "__ne__" = some (some (.builtin "object.__ne__"))
theorem run_fn1 {X : Cx} {CX : CXT} {k : Nat} {f : Addr} {fd : FuncData} {ps : List Str} {sp : Sp} {E : XK} {pins : List (Addr × Obj)} {σ : St} {H : Hp} {s : Shared} {Q : VK} {us : List Value} {vs : List V} (F : FnOk X.prog X.w X.K X.mg X.base CX k f fd ps sp) (hr : Room (k + 1) X.A) (hb : Binds X.K fd ps []) (hx : Passes CX X E)
    (I : Inv X pins σ H s) (r : Vals vs us) (h : sp vs H Q E) : wpAny (model X.prog X.w) X.A.in1 (call (.ref f) us) (EP X pins σ Q) X.xe s := by
  have r2 : Vals (vs ++ []) (us ++ []) := r.append .nil
  rw [← List.append_nil vs] at h
  have hl : (us ++ []).length = ps.length := by rw [← r2.length]; exact F.len _ _ _ _ h
  refine wpAny_call (codeAny_mono (F.run X.A.in1 X.stack s H ⟨us, []⟩ (us ++ []) (vs ++ []) Q E hr.in1 I.env0.in1 (hb s us I.kIn hl) r2 h) fun r s' hq => ?_)
  cases r with
  | error e => exact hx pins σ H s e s' I hq
  | ok fl =>
    cases fl with
    | ret u => exact I.after hq
    | next => exact False.elim hq
    | brk => exact False.elim hq
    | cont => exact False.elim hq
def rOwnNe (K : PySem.W.Frag) (C : Addr) (sp : Sp) : R2 := fun x y H Q => ∃ (a dx : Addr) (fs : List (Str × V)) (t : Value), x = .ref a ∧ H a = some (.ins C dx fs) ∧ TyX K H y t ∧ PySem.W.notFirst K C t = true ∧ sp [x, y] H (fun v H' => ∃ b, v = .bl b ∧ Q (.bl (!b)) H') E0
theorem op_ownNe {X : Cx} {CX : CXT} {C : Addr} {k : Nat} {ps : List Str} {sp : Sp} (c : CalM X.prog X.w X.K X.mg X.base CX k C "__eq__" ps sp) (n : NeOf X.K C) (hr : Room (k + 1) X.A) (hx : Passes CX X E0 := by first | exact pass0 | exact passL) : OpR X (compareOp .NotEq) (rOwnNe X.K C sp) := by
  intro pins s σ H x y v u Q I rx ry h
  obtain ⟨f, fd, h1, h2, h4⟩ := c
  obtain ⟨a, dx, fs, t, rfl, ha, hy, hn, q⟩ := h
  obtain rfl : v = Value.ref a := rx
  obtain ⟨mA, J, _⟩ := ins_get I.hok ha
  obtain ⟨od, J, _⟩ := J.look
  obtain ⟨Pz, Z, pz, _⟩ := kit_of I ry hy
  obtain ⟨m, hF⟩ := I.fr
  show wpAny (model X.prog X.w) X.A (richCompare .NotEq (.ref a) u) (EP X pins σ Q) X.xe s
  refine OwN.ne_K (tb := t) hr.in1.units0 hF I.ok.mod.kin J (Z.ty _ _ I.kIn pz) hn h2.at_ h2.fn n.ob n.ne ?_
  refine wpAny_mono (run_fn1 (us := [.ref a, u]) (vs := [.ref a, y]) h1 hr h4 hx I (.cons (show RelV (.ref a) (.ref a) from rfl) (.cons ry .nil)) q) (fun r s' hq => ?_) fun _ _ z => z
  obtain ⟨v', H', I', rv, b, rfl, q'⟩ := hq
  obtain rfl : r = Value.bool b := rv
  exact ⟨b, rfl, .bl (!b), H', I', rfl, q'⟩
end L2
namespace L2
open PySem PySem.Spec PyProof.Rows
/-- a text times an int -/
def rRepS : R2 := fun x y H Q => ∃ (z : Str) (k : Int), x = .str z ∧ y = .int k ∧ MulOk z k ∧ Q (.str (PySem.Txt.mul z k)) H
theorem op_repS {X : Cx} : OpR X (binaryOp .Mult) rRepS := by
  intro pins s σ H x y v u Q I rx ry h
  obtain ⟨z, k, rfl, rfl, hok, q⟩ := h
  obtain ⟨t, rfl⟩ := rx
  obtain ⟨t2, rfl⟩ := ry
  exact SB.mul hok fun t' k' => ⟨.str _, H, I.tok k', ⟨t', rfl⟩, q⟩
theorem zero_mul {k : Int} (h1 : 1 ≤ k) (h2 : k ≤ 12) : MulOk "0" k ∧ (PySem.Txt.mul "0" k).length ≤ 1000 := by
  have h : k = 1 ∨ k = 2 ∨ k = 3 ∨ k = 4 ∨ k = 5 ∨ k = 6 ∨ k = 7 ∨ k = 8 ∨ k = 9 ∨ k = 10 ∨ k = 11 ∨ k = 12 := by omega
  rcases h with rfl | rfl | rfl | rfl | rfl | rfl | rfl | rfl | rfl | rfl | rfl | rfl <;> exact ⟨⟨by decide +kernel, fun _ _ => by decide +kernel, fun _ _ => by decide +kernel⟩, by decide +kernel⟩
end L2
namespace L2
open PySem PySem.Spec PyProof.Rows
theorem passN {X : Cx} (σ : St) : PassesAt (L2.CX X.prog X.w) X σ E0 := fun pins H s e s' I c => passL pins σ H s e s' I c
end L2
set_option Elab.async false
set_option linter.all false
set_option maxRecDepth 100000
set_option maxHeartbeats 1000000
/-! list(o): o with an own __iter__ over a tuple and an own __len__ -/
namespace L2
open PySem PySem.Spec PyProof.Rows
section
variable {X : Cx} {pins : List (Addr × Obj)} {σ : St} {A1 : Around} {H0 : Hp}
theorem tup_loop {it t q : Addr} {zs : List V} {Rs : Result → Shared → Prop} (hd : A1.handled = none) (hz : ∀ ys, SqT X.K (upd H0 q (.lst ys)) t zs) (hf : ∀ ys, FpOk X pins (upd H0 q (.lst ys)) it) (zl : zs.length ≤ sizeLine)
    (hdone : ∀ s', Inv X pins σ (upd H0 q (.lst zs)) s' → Rs (.ok (.ret .none)) s') :
    ∀ (k i : Nat) (s : Shared), zs.length = i + k → Inv X pins σ (upd H0 q (.lst (zs.take i))) s → s.heap.IsTupleIter it t i → codeAny (model X.prog X.w) A1 (.builtin "list.extend.loop" ⟨[.ref q, .ref it, .none], []⟩) Rs s := by
  intro k
  induction k with
  | zero =>
    intro i s hl I hit
    obtain ⟨its, rv, pl, _⟩ := I.tuple (hz _)
    refine codeAny_builtin PySem.F.entry_extend_loop ?_
    rw [Around.under_plainId PySem.F.plain_extend_loop _]
    show wpAny _ A1.in1 (pyNext (.ref it) >>= _) _ _ s
    have lr := rv.length
    refine wpAny_bind (wpAny_pyNext_tuple_end (items := its.toArray) (i := i) hd hit (show s.heap.IsTuple t its.toArray from pl) (by simp; omega) fun h' e => ?_)
    refine wpAny_pure (hdone _ ?_)
    have e0 : zs.take i = zs := List.take_of_length_le (by omega)
    rw [e0] at I
    exact I.turnedL (t' := s.toks) (ch := [it]) (fun b o hb q => (e b o (fun z => hb (by simp [z])) q)) fun b hb => (show b = it by simpa using hb) ▸ hf zs
  | succ k ih =>
    intro i s hl I hit
    obtain ⟨its, rv, pl, _⟩ := I.tuple (hz _)
    have lr := rv.length
    have hi : i < zs.length := by omega
    obtain ⟨u, eu, ru⟩ := rv.get (List.getElem?_eq_getElem hi)
    refine codeAny_builtin PySem.F.entry_extend_loop ?_
    rw [Around.under_plainId PySem.F.plain_extend_loop _]
    show wpAny _ A1.in1 (pyNext (.ref it) >>= _) _ _ s
    refine wpAny_bind (wpAny_pyNext_tuple_item (items := its.toArray) (i := i) (x := u) hit (show s.heap.IsTuple t its.toArray from pl) (by simpa using eu) fun h' hit' e => ?_)
    have I2 : Inv X pins σ (upd H0 q (.lst (zs.take i))) { s with heap := h' } := I.turnedL (t' := s.toks) (ch := [it]) (fun b o hb q => e.extBut b o (fun z => hb (by simp [z])) q) fun b hb => (show b = it by simpa using hb) ▸ hf _
    show wpAny _ A1.in1 (updateSeq q (·.push u) >>= _) _ _ _
    obtain ⟨z, its2, c, r2, hl2, e2⟩ := I2.lstM upd_same
    have lz : (zs.take i).length = i := by rw [List.length_take]; omega
    have I3 := I2.lset (f := (·.push u)) (its' := its2 ++ [u]) (ys := zs.take i ++ [zs[i]]) (t' := s.toks) upd_same e2 (by simp) (r2.append (.cons ru .nil)) (by rw [List.length_append, lz, List.length_singleton]; omega)
    have et : zs.take i ++ [zs[i]] = zs.take (i + 1) := by rw [List.take_succ, List.getElem?_eq_getElem hi]; rfl
    rw [upd_upd, et] at I3
    have ne : it ≠ q := by
      intro z
      have := (hf []).1
      rw [z, upd_same] at this
      cases this
    refine wpAny_bind (wpAny_updateSeq e2 rfl (wpAny_pure ⟨plainId_quiet PySem.F.plain_extend_loop _, ih (i + 1) _ (by omega) I3 ?_⟩) (by rw [List.size_toArray]; omega) (by show (its2.toArray.push u).size ≤ sizeLine + 1; rw [Array.size_push, List.size_toArray]; omega))
    exact hit'.at fun o e => (Heap.get?_update_other _ _ (Ne.symm ne)).trans e
/-- a call of a def below -/
theorem run_sub {CX : CXT} {k : Nat} {ps : List Str} {sp : Sp} {H : Hp} {s : Shared} {Q : VK} {A : Around} {f : Addr} {fd : FuncData} {us : List Value} {vs : List V} {E : Value → Shared → Prop} (F : FnOk X.prog X.w X.K X.mg X.base CX0 k f fd ps sp) (hr : Room k A) (e0 : Env0 X.prog X.w X.K X.mg X.base A X.stack s H) (hb : Binds X.K fd ps [])
    (I : Inv X pins σ H s) (r : Vals vs us) (h : sp vs H Q E0) : wpAny (model X.prog X.w) A (call (.ref f) us) (EP X pins σ Q) E s := by
  have hl : (us ++ []).length = ps.length := by
    rw [List.append_nil, ← r.length]
    exact F.len _ _ _ _ h
  have hb' := hb s us I.kIn hl
  rw [List.append_nil] at hb'
  refine wpAny_call (codeAny_mono (F.run A X.stack s H ⟨us, []⟩ us vs Q E0 hr e0 hb' r h) fun z s' hq => ?_)
  match z, hq with
  | .error e, hq => exact hq.elim
  | .ok (.ret u), hq => exact I.after hq
/-- a promise of a length: the memory stays -/
def LenIs (sp : Sp) (H : Hp) (a : Addr) : Prop := sp [.ref a] H (fun v H' => ∃ n : Nat, v = .int n ∧ n < 1000000 ∧ H' = H) E0
theorem hint_len {C : Addr} {k : Nat} {ps : List Str} {sp : Sp} {H : Hp} {s : Shared} {A : Around} {a dx : Addr} {fs : List (Str × V)} {Q : Bool → Shared → Prop} {E : Value → Shared → Prop} (c : CalM X.prog X.w X.K X.mg X.base CX0 k C "__len__" ps sp) (hr : Room k A.in1) (e0 : Env0 X.prog X.w X.K X.mg X.base A.in1 X.stack s H)
    (I : Inv X pins σ H s) (ha : H a = some (.ins C dx fs)) (hl : LenIs sp H a) (q : ∀ b s', Inv X pins σ H s' → Q b s') : wpAny (model X.prog X.w) A (Builtin.List.listLengthHint (.ref a)) Q E s := by
  obtain ⟨f, fd, h1, h2, h4⟩ := c
  obtain ⟨mA, J, _⟩ := ins_get I.hok ha
  obtain ⟨od, J, _⟩ := J.look
  unfold Builtin.List.listLengthHint
  refine wpAny_bind (wpAny_bind (J.type.here ((PySem.W.looks_findIn I.kIn h2.at_).here ?_)))
  refine PySem.W.KFB.if_not rfl ?_
  refine PySem.W.KFB.if_so rfl ?_
  refine wpAny_bind (wpAny_rule ?_)
  refine wpAny_bind (wpAny_attempt (Calls.call_function_entry kind_len plain_len entry_len (args_len1 _) ?_))
  unfold Builtin.«len»
  refine wpAny_bind (m := oneArg "len" _) (wpAny_pure ?_)
  refine wpAny_bind (m := callSpecial? (.ref a) (Str.ofString "__len__")) (PySem.W.special_fn I.kIn J h2.at_ (beq_iff_eq.mp h2.fn) (wpAny_mono (run_sub (CX := CX0) h1 hr e0 h4 I (show Vals [V.ref a] [Value.ref a] from .cons rfl .nil) hl) (fun v s' hv => ?_) fun _ _ z => z))
  obtain ⟨v', H', I', rv, n, rfl, hn, rfl⟩ := hv
  obtain ⟨t, rfl⟩ := rv
  refine wpAny_bind (wpAny_holding (wpAny_pure ?_))
  refine wpAny_bind (wpAny_letGo ?_)
  show wpAny _ _ (if (n : Int) < 0 then _ else _) _ _ _
  rw [if_neg (show ¬ ((n : Int) < 0) by omega)]
  show wpAny _ _ (if (n : Int) ≥ 2 ^ 63 then _ else _) _ _ _
  rw [if_neg (show ¬ ((n : Int) ≥ 2 ^ 63) by omega)]
  refine wpAny_bind (wpAny_mkInt (wpAny_pure ⟨_, rfl, ?_⟩))
  show wpAny _ _ (asInt? _ >>= _) _ _ _
  refine wpAny_bind (wpAny_of_eq (a := some (n : Int)) rfl ?_)
  have lt : Builtin.List.listTooLong (n : Int).toNat = false := by
    have : n ≤ sizeLine := by
      have : (1000000 : Nat) ≤ sizeLine := by decide
      omega
    simpa using notLongL this
  show wpAny _ _ (if Builtin.List.listTooLong (n : Int).toNat = true then _ else _) _ _ _
  rw [if_neg (by rw [lt]; exact Bool.false_ne_true)]
  exact wpAny_pure (q _ _ (I'.tok _))
def rListI (K : PySem.W.Frag) (C : Addr) (f : Str) (sp : Sp) : List V → Hp → VK → Prop := fun xs H Q => ∃ (a dx t : Addr) (fs : List (Str × V)) (zs : List V), xs = [.ref a] ∧ H a = some (.ins C dx fs) ∧ fs.lookup f = some (.ref t) ∧ H t = some (.tup zs) ∧ (∀ H', Same H H' → LenIs sp H' a) ∧ ∀ l, H l = none → Q (.ref l) (upd H l (.lst zs))
theorem call_listI {C : Addr} {f : Str} {k : Nat} {ps : List Str} {sp : Sp} (ci : CalI X.prog X.w X.K X.mg X.base k C f) (cn : CalM X.prog X.w X.K X.mg X.base CX0 k C "__len__" ps sp) (hr : Room (k + 3) X.A) : CallR X (.type "list") (rListI X.K C f sp) := by
  intro pins s σ H xs us Q I rv h
  obtain ⟨a, dx, t, fs, zs, rfl, ha, hft, ht, hln, hq⟩ := h
  obtain ⟨u, rfl, ru⟩ := rv.one
  cases ru
  obtain ⟨g, fd, h1, h2, h4⟩ := ci
  refine callType_codes (Q₁ := fun obj s₁ => obj = .ref s.heap.objs.size ∧ s₁ = { s with heap := s.heap.push { cls := .type "list", data := .seq #[] } }) PySem.F.called_list (PySem.F.typeCall_list_1 _) PySem.F.entry_list_init
    (code_list_new _ ⟨rfl, rfl⟩) fun obj s₁ h₁ => ?_
  obtain ⟨rfl, rfl⟩ := h₁
  have hS : (s.heap.push { cls := .type "list", data := .seq #[] }).get? s.heap.objs.size = some { cls := .type "list", data := .seq #[] } := Heap.get?_push_size _ rfl
  refine ⟨⟨_, hS, rfl⟩, PySem.F.args_list_init_2 _ _, ?_⟩
  have fr : H s.heap.objs.size = none := I.hok.fresh (Nat.le_refl _)
  have I1 : Inv X pins σ (upd H s.heap.objs.size (.lst [])) { s with heap := s.heap.push { cls := .type "list", data := .seq #[] } } := I.lnew (its := []) (t' := s.toks) .nil (Nat.zero_le _)
  show wpAny _ _ (do let old ← Builtin.List.listItems (.ref s.heap.objs.size); Builtin.List.listUpdate (.ref s.heap.objs.size) (fun _ => #[]); letGo old.toList.reverse; Builtin.List.listExtendWith (.ref s.heap.objs.size) (.ref a) .none) _ _ _
  refine wpAny_bind ?_
  unfold Builtin.List.listItems
  refine wpAny_bind (wpAny_seqItems hS rfl (wpAny_pure ?_))
  show wpAny _ _ (updateSeq s.heap.objs.size (fun _ => #[]) >>= fun _ => letGo (#[] : Array Value).toList.reverse >>= fun _ => Builtin.List.listExtendWith (.ref s.heap.objs.size) (.ref a) .none) _ _ _
  refine wpAny_bind (wpAny_updateSeq hS rfl ?_)
  have I2 := I1.lset (f := fun _ => #[]) (its := []) (its' := []) (ys := []) (t' := s.toks) upd_same hS rfl .nil (Nat.zero_le _)
  rw [upd_upd] at I2
  refine wpAny_bind (wpAny_letGo ?_)
  have S1 : Same H (upd H s.heap.objs.size (.lst [])) := sNew fr
  have ha2 := S1 _ _ ha
  have hfin := hq _ fr
  have hqq : (upd H s.heap.objs.size (.lst [])) s.heap.objs.size = some (.lst []) := upd_same
  have nta : s.heap.objs.size ≠ a := Ne.symm (ne_of_none ha fr)
  have ntt : t ≠ s.heap.objs.size := ne_of_none ht fr
  generalize eq : s.heap.objs.size = q at *
  obtain ⟨mA, J, _⟩ := ins_get I2.hok ha2
  obtain ⟨od, J, _⟩ := J.look
  obtain ⟨m0, hF⟩ := I2.fr
  unfold Builtin.List.listExtendWith
  refine wpAny_bind (J.type.here ?_)
  have e1 : Builtin.List.listSameRef (.ref q) (.ref a) = false := by simp [Builtin.List.listSameRef, nta]
  have e2 : (Value.ref C == Value.type "list") = false := rfl
  have e3 : (Value.ref C == Value.type "tuple") = false := rfl
  simp only [e1, e2, e3, Bool.or_false, Bool.false_eq_true, if_false]
  refine wpAny_bind (PySem.W.owit_iter hF I2.ok.mod.kin J h2.at_ h2.fn ?_)
  have hb' := fun s1 (kin : X.K.In s1.heap) => h4 s1 [.ref a] kin rfl
  have hr2 : Room k X.A.in1.in1 := (show Room (k + 2) X.A from hr.mono (by omega)).in1.in1
  have hr3 : Room k X.A.in1.in1.in1 := hr.in1.in1.in1
  refine wpAny_call (codeAny_mono (h1.run X.A.in1.in1 X.stack _ (upd H q (.lst [])) [.ref a] [.ref a] (fun v H' => ∃ it, v = .ref it ∧ (upd H q (.lst [])) it = none ∧ X.s_0.heap.objs.size ≤ it ∧ H' = upd (upd H q (.lst [])) it (ItT t it)) E0 hr2 I2.env0.in1.in1 (by
    have := hb' _ I2.kIn
    rw [List.append_nil] at this
    exact this) (.cons rfl .nil) ⟨a, dx, t, fs, zs, rfl, ha2, hft, SqT.of (S1 _ _ ht), fun it n1 n2 => ⟨it, rfl, n1, Nat.le_trans I2.sz n2, rfl⟩⟩) fun z s' hq' => ?_)
  match z, hq' with
  | .error e, hq' => exact hq'.elim
  | .ok (.ret u), hq' =>
    obtain ⟨v, H', I', rv, it, rfl, n1, n2, rfl⟩ := I2.after hq'
    obtain rfl : u = Value.ref it := rv
    have eo := (I'.hok it _ upd_same).1
    unfold PySem.W.OwitIt
    refine looks_next eo fun _ => ?_
    have S2 : Same (upd H q (.lst [])) (upd (upd H q (.lst [])) it (ItT t it)) := sNew n1
    refine wpAny_bind (wpAny_holding (hint_len cn hr3 I'.env0.in1.in1.in1 I' (S2 _ _ ha2) (hln _ (S1.trans S2)) fun b s2 I4 => ?_))
    have eo := (I4.hok it _ upd_same).1
    have nqi : q ≠ it := ne_of_none hqq n1
    have h4q : (upd (upd H q (.lst [])) it (ItT t it)) q = some (.lst []) := S2 _ _ hqq
    have fin : ∀ s3, Inv X pins σ (upd (upd H q (.lst [])) it (ItT t it)) s3 → s3.heap.get? it = some { cls := .type "tuple_iterator", data := .fields #[.ref t, .int 0 0] } →
        codeAny (model X.prog X.w) X.A.in1 (.builtin "list.extend.loop" ⟨[.ref q, .ref it, .none], []⟩) (wants (fun r s₂ => r = .none ∧ EP X pins σ Q (.ref q) s₂) X.xe) s3 := fun s3 I5 eo => by
      have I6 := ItX.inv_drop I5 (a := it) (φ := fun h => h.get? it = some { cls := .type "tuple_iterator", data := .fields #[.ref t, .int 0 0] }) upd_same
      have fp := ItX.inv_fp I5 (a := it) (u := ItT t it) upd_same n2
      rw [ItX.dropH_upd n1] at I6 fp
      have hi0 : H it = none := by rw [upd_ne (Ne.symm nqi)] at n1; exact n1
      have hzt := I.tuple (SqT.of ht)
      obtain ⟨itsz, rvz, _, hzl⟩ := hzt
      have hzl2 := rvz.length
      refine tup_loop (H0 := H) (zs := zs) (t := t) (q := q) (it := it) (A1 := X.A.in1) hr.hd (fun ys => SqT.of (by rw [upd_ne ntt]; exact ht)) (fun ys => ⟨by rw [upd_ne (Ne.symm nqi)]; exact hi0, fp.2⟩) ?_ (fun s' J => ?_) zs.length 0 s3 (by omega) I6 ⟨_, eo, rfl, rfl⟩
      · first | exact hzl | omega
      · exact ⟨rfl, .ref q, _, J, rfl, hfin⟩
    refine wpAny_ite_split (fun _ => ?_) (fun _ => wpAny_pure ⟨plainId_quiet PySem.F.plain_extend_loop _, fin s2 I4 eo⟩)
    refine wpAny_bind (wpAny_rule ?_)
    refine wpAny_bind ?_
    show wpAny _ _ (updateSeq q (·.push .none) >>= fun _ => updateSeq q (·.pop)) _ _ _
    obtain ⟨z3, its3, k3, r3, hl3, e3⟩ := I4.lstM h4q
    cases r3
    refine wpAny_bind (wpAny_updateSeq e3 rfl ?_)
    have I5 := I4.lset (f := (·.push Value.none)) (its' := [Value.none]) (ys := [.non]) (t' := s2.toks) h4q e3 (by simp) (.cons rfl .nil) (by rw [List.length_singleton, sizeLine_eq]; decide)
    obtain ⟨z4, its4, k4, r4, hl4, e4⟩ := I5.lstM upd_same
    obtain ⟨u4, rfl, ru4⟩ := r4.one
    refine wpAny_updateSeq e4 rfl ?_ (by show 1 ≤ sizeLine; rw [sizeLine_eq]; decide) (by show 0 ≤ sizeLine + 1; exact Nat.zero_le _)
    have I6 := I5.lset (f := (·.pop)) (its := [u4]) (its' := []) (ys := []) (t' := s2.toks) upd_same e4 (by rfl) .nil (Nat.zero_le _)
    rw [upd_upd] at I6
    have hH : upd (upd (upd H q (.lst [])) it (ItT t it)) q (.lst []) = upd (upd H q (.lst [])) it (ItT t it) := by
      funext b
      by_cases hb : b = q
      · rw [hb, upd_same, h4q]
      · rw [upd_ne hb]
    rw [hH] at I6
    exact wpAny_pure ⟨plainId_quiet PySem.F.plain_extend_loop _, fin _ I6 (I6.hok it _ upd_same).1⟩
end
end L2
set_option Elab.async false
set_option linter.all false
set_option maxRecDepth 100000
set_option maxHeartbeats 1000000
/-! enumerate over a tuple of the module; a class made with its defaults -/
namespace L2
open PySem PySem.Spec PyProof.Rows
def iEnuK (K : PySem.W.Frag) (ta : TA) : TI := fun σ H R => ta σ H fun vs H1 => ∃ (a : Addr) (xs : List V), vs = [.ref a] ∧ SqT K H1 a xs ∧ ∀ J, Walk J xs.length (fun H' => SqT K H' a xs) (YPair (fun i => some (.int (i : Nat))) (fun i => xs[i]?)) → R J H1
theorem pi_enuK {X : Cx} {e : Expr} {ta : TA} {p pos tpos : Pos} {elts : List Expr} {kk : Nat} (hg : Gl X "enumerate") (hm : X.mg "enumerate" = none) (ha : PA X [e] ta) (hs : starEach [e] X.env = [(false, eval e X.env)] := by rfl) :
    PI X (.Tuple elts kk tpos) (.Call (.Name "enumerate" p) [e] [] pos) (iEnuK X.K ta) := by
  refine ⟨fun pins s σ H R I h => ?_⟩
  refine Call_ (ld_blt I hg hm boot_enumerate (PyProof.Rows.callWith_type1 (thn (ha.run pos pins s σ H _ I h) fun us s1 ⟨vs, H1, I1, r1, q1⟩ => ?_) hs rfl))
  obtain ⟨a, xs, rfl, ho, q⟩ := q1
  obtain ⟨u, rfl, ru⟩ := vals1 r1
  obtain rfl : u = Value.ref a := ru
  have fresh : ∀ b ∈ [s1.heap.objs.size + 1, s1.heap.objs.size], s1.heap.objs.size ≤ b := fun b hb => by
    rcases (show b = s1.heap.objs.size + 1 ∨ b = s1.heap.objs.size by simpa using hb) with rfl | rfl
    · exact Nat.le_add_right _ _
    · exact Nat.le_refl _
  obtain ⟨its, rv, p', hz⟩ := I1.tuple ho
  refine EnT.call_enumT (show s1.heap.IsTuple a its.toArray from p') fun h' he hit hk => wpAny_pyIter_enum he ?_
  exact ⟨s1.heap.objs.size + 1, [s1.heap.objs.size + 1, s1.heap.objs.size], _, _, H1, rfl, I1.kept (t' := s1.toks) hk, turn_enumT a _ _, ⟨⟨.none, he⟩, hit, Nat.succ_ne_self _⟩, fun b hb => I1.fpOk (fresh b hb) (I1.hok.fresh (fresh b hb)), q _ walk_enumT⟩
/-- the class at C makes its instances by sp, its last parameters by their defaults -/
def CalCD (P : Program) (w : World) (K : PySem.W.Frag) (mg : Str → Option Value) (base : Heap) (CX : CXT) (k : Nat) (C : Addr) (ps : List Str) (sp : Sp) (dvs : List V) : Prop :=
  ∃ (f : Addr) (fd : FuncData) (ds : List Value), FnOk P w K mg base CX k f fd ps sp ∧ Mk K C f ∧ Vals dvs ds ∧ Binds K fd ps ds
theorem pe_mkD {X : Cx} {CX : CXT} {k : Nat} {ps : List Str} {sp : Sp} {dvs : List V} {x : Str} {p pos : Pos} {e : Expr} {es : List Expr} {t : TA} {C : Addr} (c : CalCD X.prog X.w X.K X.mg X.base CX k C ps sp dvs) (hm : X.mg x = some (.ref C)) (hr : Room (k + 1) X.A) (ha : PA X (e :: es) t) (hx : Passes CX X E0 := by first | exact pass0 | exact passL) (hg : Gl X x := by rfl) (hdb : (x == ("__debug__" : Str)) = false := by decide) (he : starEach (e :: es) X.env = (false, eval e X.env) :: starEach es X.env := by rfl)
    (hpl : (backTo pos (starEach es X.env)).any (·.1) = false := by rfl) : PE X (.Call (.Name x p) (e :: es) [] pos) (tMake C sp dvs E0 t) := by
  obtain ⟨f, fd, ds, h1, h2, h3, h4⟩ := c
  exact pe_make h2 h1 hr hg hm h4 h3 hx ha hdb he hpl
/-- a tuple that stands in the frame -/
theorem tyK0 {K : PySem.W.Frag} {a : Addr} {xs : List V} (h : ∀ H, SqT K H a xs) (H : Hp) : TyX K H (.ref a) (.type "tuple") := by
  rcases h (fun _ => none) with h | ⟨o, its, n, h1, h2, _⟩
  · rcases h with h | ⟨o, h⟩ <;> cases h
  · exact .kTuple h1 h2
end L2
set_option Elab.async false
set_option linter.all false
set_option maxRecDepth 100000
set_option maxHeartbeats 1000000
namespace My
open PySem L2 Dw Wp
open C8 (pss_cut tCut)
def top (i : Nat) : Stmt := PySem.Challenge.pw_lastlife_k34_systems_and_their_paths.main.body.getD i (.Pass ⟨0, 0, 0, 0⟩)
abbrev s_BadSystem_init : Stmt := inClass (top 2) 0
theorem sc_BadSystem_init : FnScope ["self", "index", "what"] ["self", "index", "what"] (defScope s_BadSystem_init) := ⟨rfl, rfl, rfl, by decide +kernel, rfl, by decide +kernel, by decide +kernel⟩
abbrev s_BadTimes_init : Stmt := inClass (top 3) 0
theorem sc_BadTimes_init : FnScope ["self"] ["self"] (defScope s_BadTimes_init) := ⟨rfl, rfl, rfl, by decide +kernel, rfl, by decide +kernel, by decide +kernel⟩
abbrev s_is_integer : Stmt := top 7
theorem sc_is_integer : FnScope ["thing"] ["thing"] (defScope s_is_integer) := ⟨rfl, rfl, rfl, by decide +kernel, rfl, by decide +kernel, by decide +kernel⟩
abbrev s_is_instant : Stmt := top 8
theorem sc_is_instant : FnScope ["thing", "count"] ["thing", "count"] (defScope s_is_instant) := ⟨rfl, rfl, rfl, by decide +kernel, rfl, by decide +kernel, by decide +kernel⟩
abbrev s_are_times : Stmt := top 9
theorem sc_are_times : FnScope ["thing", "count", "time"] ["thing", "count"] (defScope s_are_times) := ⟨rfl, rfl, rfl, by decide +kernel, rfl, by decide +kernel, by decide +kernel⟩
abbrev s_link_fault : Stmt := top 10
theorem sc_link_fault : FnScope ["link", "count", "part"] ["link", "count"] (defScope s_link_fault) := ⟨rfl, rfl, rfl, by decide +kernel, rfl, by decide +kernel, by decide +kernel⟩
abbrev s_keeps_link : Stmt := top 11
theorem sc_keeps_link : FnScope ["times", "link", "one", "other", "amount"] ["times", "link"] (defScope s_keeps_link) := ⟨rfl, rfl, rfl, by decide +kernel, rfl, by decide +kernel, by decide +kernel⟩
abbrev s_System_init : Stmt := inClass (top 12) 0
theorem sc_System_init : FnScope ["self", "count", "links", "index", "link", "word"] ["self", "count", "links"] (defScope s_System_init) := ⟨rfl, rfl, rfl, by decide +kernel, rfl, by decide +kernel, by decide +kernel⟩
abbrev s_System_broken : Stmt := inClass (top 12) 1
theorem sc_System_broken : FnScope ["self", "times", "index", "link"] ["self", "times"] (defScope s_System_broken) := ⟨rfl, rfl, rfl, by decide +kernel, rfl, by decide +kernel, by decide +kernel⟩
abbrev s_System_keeps : Stmt := inClass (top 12) 2
theorem sc_System_keeps : FnScope ["self", "times"] ["self", "times"] (defScope s_System_keeps) := ⟨rfl, rfl, rfl, by decide +kernel, rfl, by decide +kernel, by decide +kernel⟩
abbrev s_System_with_links : Stmt := inClass (top 12) 3
theorem sc_System_with_links : FnScope ["self", "links"] ["self", "links"] (defScope s_System_with_links) := ⟨rfl, rfl, rfl, by decide +kernel, rfl, by decide +kernel, by decide +kernel⟩
abbrev s_System_eq : Stmt := inClass (top 12) 4
theorem sc_System_eq : FnScope ["self", "other"] ["self", "other"] (defScope s_System_eq) := ⟨rfl, rfl, rfl, by decide +kernel, rfl, by decide +kernel, by decide +kernel⟩
abbrev s_System_len : Stmt := inClass (top 12) 5
theorem sc_System_len : FnScope ["self"] ["self"] (defScope s_System_len) := ⟨rfl, rfl, rfl, by decide +kernel, rfl, by decide +kernel, by decide +kernel⟩
abbrev s_System_iter : Stmt := inClass (top 12) 6
theorem sc_System_iter : FnScope ["self"] ["self"] (defScope s_System_iter) := ⟨rfl, rfl, rfl, by decide +kernel, rfl, by decide +kernel, by decide +kernel⟩
abbrev s_are_indexes : Stmt := top 13
theorem sc_are_indexes : FnScope ["links", "path", "index"] ["links", "path"] (defScope s_are_indexes) := ⟨rfl, rfl, rfl, by decide +kernel, rfl, by decide +kernel, by decide +kernel⟩
abbrev s_has_joints : Stmt := top 14
theorem sc_has_joints : FnScope ["links", "path", "place"] ["links", "path"] (defScope s_has_joints) := ⟨rfl, rfl, rfl, by decide +kernel, rfl, by decide +kernel, by decide +kernel⟩
abbrev s_sum_of : Stmt := top 15
theorem sc_sum_of : FnScope ["links", "path", "index"] ["links", "path"] (defScope s_sum_of) := ⟨rfl, rfl, rfl, by decide +kernel, rfl, by decide +kernel, by decide +kernel⟩
abbrev s_path_fault : Stmt := top 16
theorem sc_path_fault : FnScope ["system", "path", "start", "end", "links"] ["system", "path", "start", "end"] (defScope s_path_fault) := ⟨rfl, rfl, rfl, by decide +kernel, rfl, by decide +kernel, by decide +kernel⟩
abbrev s_ring_fault : Stmt := top 17
theorem sc_ring_fault : FnScope ["links", "path"] ["links", "path"] (defScope s_ring_fault) := ⟨rfl, rfl, rfl, by decide +kernel, rfl, by decide +kernel, by decide +kernel⟩
abbrev s_times_fault : Stmt := top 18
theorem sc_times_fault : FnScope ["system", "times"] ["system", "times"] (defScope s_times_fault) := ⟨rfl, rfl, rfl, by decide +kernel, rfl, by decide +kernel, by decide +kernel⟩
abbrev s_Kept_init : Stmt := inClass (top 20) 0
theorem sc_Kept_init : FnScope ["self", "times"] ["self", "times"] (defScope s_Kept_init) := ⟨rfl, rfl, rfl, by decide +kernel, rfl, by decide +kernel, by decide +kernel⟩
abbrev s_Ring_init : Stmt := inClass (top 21) 0
theorem sc_Ring_init : FnScope ["self", "path"] ["self", "path"] (defScope s_Ring_init) := ⟨rfl, rfl, rfl, by decide +kernel, rfl, by decide +kernel, by decide +kernel⟩
abbrev s_solved_fault : Stmt := top 22
theorem sc_solved_fault : FnScope ["system", "answer"] ["system", "answer"] (defScope s_solved_fault) := ⟨rfl, rfl, rfl, by decide +kernel, rfl, by decide +kernel, by decide +kernel⟩
abbrev s_bag : Stmt := top 24
theorem sc_bag : FnScope ["_law_script", "_law_at", "_law_cell", "_law_seed", "_law_k"] ["_law_script", "_law_at"] (defScope s_bag) := ⟨rfl, rfl, rfl, by decide +kernel, rfl, by decide +kernel, by decide +kernel⟩
abbrev s_take : Stmt := top 25
theorem sc_take : FnScope ["_law_bag_here", "_law_many", "_law_digit"] ["_law_bag_here", "_law_many"] (defScope s_take) := ⟨rfl, rfl, rfl, by decide +kernel, rfl, by decide +kernel, by decide +kernel⟩
abbrev s_of : Stmt := top 26
theorem sc_of : FnScope ["_law_bag_here", "_law_some"] ["_law_bag_here", "_law_some"] (defScope s_of) := ⟨rfl, rfl, rfl, by decide +kernel, rfl, by decide +kernel, by decide +kernel⟩
abbrev s_amount : Stmt := top 27
theorem sc_amount : FnScope ["_law_bag_here", "_law_kind", "_law_worth"] ["_law_bag_here"] (defScope s_amount) := ⟨rfl, rfl, rfl, by decide +kernel, rfl, by decide +kernel, by decide +kernel⟩
abbrev s_times : Stmt := top 28
theorem sc_times : FnScope ["_law_bag_here", "_law_count", "_law_wide", "_law_found", "_law_k"] ["_law_bag_here", "_law_count"] (defScope s_times) := ⟨rfl, rfl, rfl, by decide +kernel, rfl, by decide +kernel, by decide +kernel⟩
abbrev s_links : Stmt := top 29
theorem sc_links : FnScope ["_law_bag_here", "_law_count", "_law_many", "_law_times_here", "_law_found", "_law_k", "_law_one", "_law_other"] ["_law_bag_here", "_law_count", "_law_many", "_law_times_here"] (defScope s_links) := ⟨rfl, rfl, rfl, by decide +kernel, rfl, by decide +kernel, by decide +kernel⟩
abbrev s_is_whole : Stmt := top 30
theorem sc_is_whole : FnScope ["_law_thing"] ["_law_thing"] (defScope s_is_whole) := ⟨rfl, rfl, rfl, by decide +kernel, rfl, by decide +kernel, by decide +kernel⟩
abbrev s_word : Stmt := top 31
theorem sc_word : FnScope ["_law_link", "_law_count", "_law_x"] ["_law_link", "_law_count"] (defScope s_word) := ⟨rfl, rfl, rfl, by decide +kernel, rfl, by decide +kernel, by decide +kernel⟩
abbrev s_due : Stmt := top 32
theorem sc_due : FnScope ["_law_count", "_law_links_here", "_law_k"] ["_law_count", "_law_links_here"] (defScope s_due) := ⟨rfl, rfl, rfl, by decide +kernel, rfl, by decide +kernel, by decide +kernel⟩
abbrev s_made : Stmt := top 33
theorem sc_made : FnScope ["_law_count", "_law_links_here", "_law_made_here", "e"] ["_law_count", "_law_links_here"] (defScope s_made) := ⟨rfl, rfl, rfl, by decide +kernel, rfl, by decide +kernel, by decide +kernel⟩
abbrev s_spoilt : Stmt := top 34
theorem sc_spoilt : FnScope ["_law_bag_here", "_law_link", "_law_count", "_law_one", "_law_other", "_law_amount_here", "_law_table"] ["_law_bag_here", "_law_link", "_law_count"] (defScope s_spoilt) := ⟨rfl, rfl, rfl, by decide +kernel, rfl, by decide +kernel, by decide +kernel⟩
abbrev s_refused : Stmt := top 35
theorem sc_refused : FnScope ["_law_bag_here", "_law_count", "_law_links_here", "_law_drawn", "_law_k", "_law_at", "_law_odd", "_law_strange", "_law_many", "_law_x"] ["_law_bag_here", "_law_count", "_law_links_here"] (defScope s_refused) := ⟨rfl, rfl, rfl, by decide +kernel, rfl, by decide +kernel, by decide +kernel⟩
abbrev s_is_told : Stmt := top 36
theorem sc_is_told : FnScope ["_law_system", "_law_count", "_law_links_here", "_law_x"] ["_law_system", "_law_count", "_law_links_here"] (defScope s_is_told) := ⟨rfl, rfl, rfl, by decide +kernel, rfl, by decide +kernel, by decide +kernel⟩
abbrev s_alike : Stmt := top 37
theorem sc_alike : FnScope ["_law_bag_here", "_law_system", "_law_count", "_law_links_here", "_law_extra", "_law_k", "_law_more", "_law_wrong", "_law_due_here", "_law_found", "e"] ["_law_bag_here", "_law_system", "_law_count", "_law_links_here"] (defScope s_alike) := ⟨rfl, rfl, rfl, by decide +kernel, rfl, by decide +kernel, by decide +kernel⟩
abbrev s_told_broken : Stmt := top 38
theorem sc_told_broken : FnScope ["_law_system", "_law_times_here", "_law_first", "_law_second"] ["_law_system", "_law_times_here"] (defScope s_told_broken) := ⟨rfl, rfl, rfl, by decide +kernel, rfl, by decide +kernel, by decide +kernel⟩
abbrev s_kept : Stmt := top 39
theorem sc_kept : FnScope ["_law_bag_here", "_law_system", "_law_count", "_law_links_here", "_law_times_here", "_law_turn", "_law_some", "_law_due_here", "_law_first", "_law_second", "_law_at", "_law_other", "_law_x", "_law_k"] ["_law_bag_here", "_law_system", "_law_count", "_law_links_here", "_law_times_here"] (defScope s_kept) := ⟨rfl, rfl, rfl, by decide +kernel, rfl, by decide +kernel, by decide +kernel⟩
abbrev s_walk : Stmt := top 40
theorem sc_walk : FnScope ["_law_bag_here", "_law_links_here", "_law_start", "_law_many", "_law_path", "_law_here", "_law_k", "_law_left", "_law_x"] ["_law_bag_here", "_law_links_here", "_law_start", "_law_many"] (defScope s_walk) := ⟨rfl, rfl, rfl, by decide +kernel, rfl, by decide +kernel, by decide +kernel⟩
abbrev s_fits : Stmt := top 41
theorem sc_fits : FnScope ["_law_links_here", "_law_path", "_law_k"] ["_law_links_here", "_law_path"] (defScope s_fits) := ⟨rfl, rfl, rfl, by decide +kernel, rfl, by decide +kernel, by decide +kernel⟩
abbrev s_path_due : Stmt := top 42
theorem sc_path_due : FnScope ["_law_links_here", "_law_path", "_law_start", "_law_end", "_law_x"] ["_law_links_here", "_law_path", "_law_start", "_law_end"] (defScope s_path_due) := ⟨rfl, rfl, rfl, by decide +kernel, rfl, by decide +kernel, by decide +kernel⟩
abbrev s_ring_due : Stmt := top 43
theorem sc_ring_due : FnScope ["_law_links_here", "_law_path", "_law_x"] ["_law_links_here", "_law_path"] (defScope s_ring_due) := ⟨rfl, rfl, rfl, by decide +kernel, rfl, by decide +kernel, by decide +kernel⟩
abbrev s_paths : Stmt := top 44
theorem sc_paths : FnScope ["_law_bag_here", "_law_system", "_law_count", "_law_links_here", "_law_turn", "_law_start", "_law_path", "_law_end", "_law_k"] ["_law_bag_here", "_law_system", "_law_count", "_law_links_here"] (defScope s_paths) := ⟨rfl, rfl, rfl, by decide +kernel, rfl, by decide +kernel, by decide +kernel⟩
abbrev s_judged : Stmt := top 45
theorem sc_judged : FnScope ["_law_bag_here", "_law_system", "_law_count", "_law_links_here", "_law_times_here", "_law_some", "_law_due_here", "_law_x"] ["_law_bag_here", "_law_system", "_law_count", "_law_links_here", "_law_times_here"] (defScope s_judged) := ⟨rfl, rfl, rfl, by decide +kernel, rfl, by decide +kernel, by decide +kernel⟩
abbrev s_law : Stmt := top 46
theorem sc_law : FnScope ["_law_script", "_law_at", "_law_bag_here", "_law_is_large", "_law_count", "_law_times_here", "_law_fitting", "_law_links_here", "_law_given", "_law_system", "_law_spoilt_here", "_law_x"] ["_law_script"] (defScope s_law) := ⟨rfl, rfl, rfl, by decide +kernel, rfl, by decide +kernel, by decide +kernel⟩
/-- what the top has written -/
structure Txt (P : Program) (w : World) (K : PySem.W.Frag) (mg : Str → Option Value) (cl : String → Addr) : Prop where
  n_len : mg "len" = none
  n_int : mg "int" = none
  n_bool : mg "bool" = none
  n_list : mg "list" = none
  n_tuple : mg "tuple" = none
  n_isinstance : mg "isinstance" = none
  n_range : mg "range" = none
  n_ValueError : mg "ValueError" = none
  n_abs : mg "abs" = none
  n_min : mg "min" = none
  n_max : mg "max" = none
  n_sum : mg "sum" = none
  n_iter : mg "iter" = none
  n_enumerate : mg "enumerate" = none
  c_MOST_INSTANTS : ∃ u, mg "MOST_INSTANTS" = some u ∧ RelV (.int 12) u
  c_MOST_LINKS : ∃ u, mg "MOST_LINKS" = some u ∧ RelV (.int 200) u
  m_DeedError : mg "DeedError" = some (.ref (cl "DeedError"))
  m_BadSystem : mg "BadSystem" = some (.ref (cl "BadSystem"))
  m_BadTimes : mg "BadTimes" = some (.ref (cl "BadTimes"))
  m_System : mg "System" = some (.ref (cl "System"))
  m_Kept : mg "Kept" = some (.ref (cl "Kept"))
  m_Ring : mg "Ring" = some (.ref (cl "Ring"))
  o_BadSystem : OexC K (cl "BadSystem")
  i_BadSystem : ∃ (f : Addr) (fd : FuncData), Fun K "__init__" "BadSystem.__init__" s_BadSystem_init f fd ∧ PySem.W.findIn K (.ref (cl "BadSystem")) "__init__" = some (some (.ref f)) ∧ PySem.W.typeIn K (.ref f) = some (.type "function")
  o_BadTimes : OexC K (cl "BadTimes")
  i_BadTimes : ∃ (f : Addr) (fd : FuncData), Fun K "__init__" "BadTimes.__init__" s_BadTimes_init f fd ∧ PySem.W.findIn K (.ref (cl "BadTimes")) "__init__" = some (some (.ref f)) ∧ PySem.W.typeIn K (.ref f) = some (.type "function")
  xf_BadSystem_index : PySem.W.findIn K (.ref (cl "BadSystem")) "index" = some none
  xf_BadSystem_what : PySem.W.findIn K (.ref (cl "BadSystem")) "what" = some none
  cr : ClX.CRead K (cl "DeedError") (.type "type")
  vi : PySem.W.findCls K (.ref (cl "DeedError")) (.type "type") "__init__" = some (.val (.builtin "ValueError.__init__"))
  x_BadSystem : ExcC K (cl "BadSystem")
  x_BadTimes : ExcC K (cl "BadTimes")
  is_BadSystem : PySem.W.exmOne K (.ref (cl "BadSystem")) (.ref (cl "BadSystem")) = some true
  is_BadTimes : PySem.W.exmOne K (.ref (cl "BadTimes")) (.ref (cl "BadTimes")) = some true
  bs_de : PySem.W.exmOne K (.ref (cl "BadSystem")) (.ref (cl "DeedError")) = some true
  bs_bt : PySem.W.exmOne K (.ref (cl "BadSystem")) (.ref (cl "BadTimes")) = some false
  ne_System : NeOf K (cl "System")
  cl_System : Cls K (cl "System")
  na_System : ∀ f : Str, f ∈ (["count", "links"] : List Str) → NoAttr K (cl "System") f
  y_System : PySem.W.findIn K (.ref (cl "System")) "__class__" = some (some (.builtin "object.__class__"))
  z3_System : PySem.W.mroIn K (cl "System") (.type "object") = some true
  cl_Kept : Cls K (cl "Kept")
  na_Kept : ∀ f : Str, f ∈ (["times"] : List Str) → NoAttr K (cl "Kept") f
  y_Kept : PySem.W.findIn K (.ref (cl "Kept")) "__class__" = some (some (.builtin "object.__class__"))
  z3_Kept : PySem.W.mroIn K (cl "Kept") (.type "object") = some true
  cl_Ring : Cls K (cl "Ring")
  na_Ring : ∀ f : Str, f ∈ (["path"] : List Str) → NoAttr K (cl "Ring") f
  y_Ring : PySem.W.findIn K (.ref (cl "Ring")) "__class__" = some (some (.builtin "object.__class__"))
  z3_Ring : PySem.W.mroIn K (cl "Ring") (.type "object") = some true
  kb_bs : PySem.W.kitOne K (.ref (cl "BadSystem")) (.ref (cl "BadSystem")) = some true
  kb_bt : PySem.W.kitOne K (.ref (cl "BadSystem")) (.ref (cl "BadTimes")) = some false
  k_in_Sy : ∀ n : String, n ∈ (["NoneType", "bool", "int", "str", "list", "tuple"] : List String) → PySem.W.kitOne K (.type n) (.ref (cl "System")) = some false
  nf_System : ∀ n : String, n ∈ (["NoneType", "bool", "int", "str", "list", "tuple"] : List String) → PySem.W.notFirst K (cl "System") (.type n) = true
  nf2_System : PySem.W.notFirst K (cl "System") (.ref (cl "System")) = true
  k_Sy_Sy : PySem.W.kitOne K (.ref (cl "System")) (.ref (cl "System")) = some true
  k_Ri_Ri : PySem.W.kitOne K (.ref (cl "Ring")) (.ref (cl "Ring")) = some true
  k_Ke_Ri : PySem.W.kitOne K (.ref (cl "Kept")) (.ref (cl "Ring")) = some false
  i_System : ∃ (f : Addr) (fd : FuncData), HeM.FunV K "__init__" "System.__init__" s_System_init f fd ∧ Mk K (cl "System") f
  i_Kept : DefC K (cl "Kept") "Kept.__init__" s_Kept_init
  i_Ring : DefC K (cl "Ring") "Ring.__init__" s_Ring_init
  d_System_broken : DefM K (cl "System") "broken" "System.broken" s_System_broken
  d_System_keeps : DefM K (cl "System") "keeps" "System.keeps" s_System_keeps
  d_System_eq : DefM K (cl "System") "__eq__" "System.__eq__" s_System_eq
  d_System_len : DefM K (cl "System") "__len__" "System.__len__" s_System_len
  d_System_iter : DefM K (cl "System") "__iter__" "System.__iter__" s_System_iter
  d_System_with_links : DefM K (cl "System") "with_links" "System.with_links" s_System_with_links
  d_is_integer : Def K mg "is_integer" s_is_integer
  d_is_instant : Def K mg "is_instant" s_is_instant
  d_are_times : Def K mg "are_times" s_are_times
  d_link_fault : Def K mg "link_fault" s_link_fault
  d_keeps_link : Def K mg "keeps_link" s_keeps_link
  d_are_indexes : Def K mg "are_indexes" s_are_indexes
  d_has_joints : Def K mg "has_joints" s_has_joints
  d_sum_of : Def K mg "sum_of" s_sum_of
  d_path_fault : Def K mg "path_fault" s_path_fault
  d_ring_fault : Def K mg "ring_fault" s_ring_fault
  d_times_fault : Def K mg "times_fault" s_times_fault
  d_solved_fault : Def K mg "solved_fault" s_solved_fault
  d_bag : Def K mg "_law_bag" s_bag
  d_take : Def K mg "_law_take" s_take
  d_of : Def K mg "_law_of" s_of
  d_amount : Def K mg "_law_amount" s_amount
  d_times : Def K mg "_law_times" s_times
  d_links : Def K mg "_law_links" s_links
  d_is_whole : Def K mg "_law_is_whole" s_is_whole
  d_word : Def K mg "_law_word" s_word
  d_due : Def K mg "_law_due" s_due
  d_made : Def K mg "_law_made" s_made
  d_spoilt : Def K mg "_law_spoilt" s_spoilt
  d_refused : Def K mg "_law_refused" s_refused
  d_is_told : Def K mg "_law_is_told" s_is_told
  d_alike : Def K mg "_law_alike" s_alike
  d_told_broken : Def K mg "_law_told_broken" s_told_broken
  d_kept : Def K mg "_law_kept" s_kept
  d_walk : Def K mg "_law_walk" s_walk
  d_fits : Def K mg "_law_fits" s_fits
  d_path_due : Def K mg "_law_path_due" s_path_due
  d_ring_due : Def K mg "_law_ring_due" s_ring_due
  d_paths : Def K mg "_law_paths" s_paths
  d_judged : Def K mg "_law_judged" s_judged
  d_law : Def K mg "law" s_law
  z1 : PySem.W.specialIn K (.builtin "object.__class__") "__get__" = some (some (.builtin "getset_descriptor.__get__"))
  z2 : PySem.W.takesIn K (.builtin "object.__class__") = some true
end My
set_option Elab.async false
set_option linter.all false
set_option maxRecDepth 100000
set_option maxHeartbeats 8000000
namespace My
open PySem L2 Dw He
def faL : List He.Fa := [.free "len", .free "int", .free "bool", .free "list", .free "tuple", .free "isinstance", .free "range", .free "ValueError", .free "abs", .free "min", .free "max", .free "sum", .free "iter", .free "enumerate", .int "MOST_INSTANTS" (12), .int "MOST_LINKS" (200), .glo "DeedError", .glo "BadSystem", .glo "BadTimes", .glo "System", .glo "Kept", .glo "Ring", .cls "System", .cls "Kept", .cls "Ring", .mkr "System", .mkr "Kept", .mkr "Ring", .meth "System" "broken", .meth "System" "keeps", .meth "System" "__eq__", .meth "System" "__len__", .meth "System" "__iter__", .meth "System" "with_links", .glo "is_integer", .glo "is_instant", .glo "are_times", .glo "link_fault", .glo "keeps_link", .glo "are_indexes", .glo "has_joints", .glo "sum_of", .glo "path_fault", .glo "ring_fault", .glo "times_fault", .glo "solved_fault", .glo "_law_bag", .glo "_law_take", .glo "_law_of", .glo "_law_amount", .glo "_law_times", .glo "_law_links", .glo "_law_is_whole", .glo "_law_word", .glo "_law_due", .glo "_law_made", .glo "_law_spoilt", .glo "_law_refused", .glo "_law_is_told", .glo "_law_alike", .glo "_law_told_broken", .glo "_law_kept", .glo "_law_walk", .glo "_law_fits", .glo "_law_path_due", .glo "_law_ring_due", .glo "_law_paths", .glo "_law_judged", .glo "law"]
def fnL : List He.DefD := [⟨("BadSystem", some "__init__"), "__init__", "BadSystem.__init__", defArgs s_BadSystem_init, defBody s_BadSystem_init, defScope s_BadSystem_init, [], []⟩,
  ⟨("BadTimes", some "__init__"), "__init__", "BadTimes.__init__", defArgs s_BadTimes_init, defBody s_BadTimes_init, defScope s_BadTimes_init, [], []⟩,
  ⟨("Kept", some "__init__"), "__init__", "Kept.__init__", defArgs s_Kept_init, defBody s_Kept_init, defScope s_Kept_init, [], []⟩,
  ⟨("Ring", some "__init__"), "__init__", "Ring.__init__", defArgs s_Ring_init, defBody s_Ring_init, defScope s_Ring_init, [], []⟩,
  ⟨("System", some "broken"), "broken", "System.broken", defArgs s_System_broken, defBody s_System_broken, defScope s_System_broken, [], []⟩,
  ⟨("System", some "keeps"), "keeps", "System.keeps", defArgs s_System_keeps, defBody s_System_keeps, defScope s_System_keeps, [], []⟩,
  ⟨("System", some "__eq__"), "__eq__", "System.__eq__", defArgs s_System_eq, defBody s_System_eq, defScope s_System_eq, [], []⟩,
  ⟨("System", some "__len__"), "__len__", "System.__len__", defArgs s_System_len, defBody s_System_len, defScope s_System_len, [], []⟩,
  ⟨("System", some "__iter__"), "__iter__", "System.__iter__", defArgs s_System_iter, defBody s_System_iter, defScope s_System_iter, [], []⟩,
  ⟨("System", some "with_links"), "with_links", "System.with_links", defArgs s_System_with_links, defBody s_System_with_links, defScope s_System_with_links, [], []⟩,
  ⟨("is_integer", none), "is_integer", "is_integer", defArgs s_is_integer, defBody s_is_integer, defScope s_is_integer, [], []⟩,
  ⟨("is_instant", none), "is_instant", "is_instant", defArgs s_is_instant, defBody s_is_instant, defScope s_is_instant, [], []⟩,
  ⟨("are_times", none), "are_times", "are_times", defArgs s_are_times, defBody s_are_times, defScope s_are_times, [], []⟩,
  ⟨("link_fault", none), "link_fault", "link_fault", defArgs s_link_fault, defBody s_link_fault, defScope s_link_fault, [], []⟩,
  ⟨("keeps_link", none), "keeps_link", "keeps_link", defArgs s_keeps_link, defBody s_keeps_link, defScope s_keeps_link, [], []⟩,
  ⟨("are_indexes", none), "are_indexes", "are_indexes", defArgs s_are_indexes, defBody s_are_indexes, defScope s_are_indexes, [], []⟩,
  ⟨("has_joints", none), "has_joints", "has_joints", defArgs s_has_joints, defBody s_has_joints, defScope s_has_joints, [], []⟩,
  ⟨("sum_of", none), "sum_of", "sum_of", defArgs s_sum_of, defBody s_sum_of, defScope s_sum_of, [], []⟩,
  ⟨("path_fault", none), "path_fault", "path_fault", defArgs s_path_fault, defBody s_path_fault, defScope s_path_fault, [], []⟩,
  ⟨("ring_fault", none), "ring_fault", "ring_fault", defArgs s_ring_fault, defBody s_ring_fault, defScope s_ring_fault, [], []⟩,
  ⟨("times_fault", none), "times_fault", "times_fault", defArgs s_times_fault, defBody s_times_fault, defScope s_times_fault, [], []⟩,
  ⟨("solved_fault", none), "solved_fault", "solved_fault", defArgs s_solved_fault, defBody s_solved_fault, defScope s_solved_fault, [], []⟩,
  ⟨("_law_bag", none), "_law_bag", "_law_bag", defArgs s_bag, defBody s_bag, defScope s_bag, [], []⟩,
  ⟨("_law_take", none), "_law_take", "_law_take", defArgs s_take, defBody s_take, defScope s_take, [], []⟩,
  ⟨("_law_of", none), "_law_of", "_law_of", defArgs s_of, defBody s_of, defScope s_of, [], []⟩,
  ⟨("_law_amount", none), "_law_amount", "_law_amount", defArgs s_amount, defBody s_amount, defScope s_amount, [], []⟩,
  ⟨("_law_times", none), "_law_times", "_law_times", defArgs s_times, defBody s_times, defScope s_times, [], []⟩,
  ⟨("_law_links", none), "_law_links", "_law_links", defArgs s_links, defBody s_links, defScope s_links, [], []⟩,
  ⟨("_law_is_whole", none), "_law_is_whole", "_law_is_whole", defArgs s_is_whole, defBody s_is_whole, defScope s_is_whole, [], []⟩,
  ⟨("_law_word", none), "_law_word", "_law_word", defArgs s_word, defBody s_word, defScope s_word, [], []⟩,
  ⟨("_law_due", none), "_law_due", "_law_due", defArgs s_due, defBody s_due, defScope s_due, [], []⟩,
  ⟨("_law_made", none), "_law_made", "_law_made", defArgs s_made, defBody s_made, defScope s_made, [], []⟩,
  ⟨("_law_spoilt", none), "_law_spoilt", "_law_spoilt", defArgs s_spoilt, defBody s_spoilt, defScope s_spoilt, [], []⟩,
  ⟨("_law_refused", none), "_law_refused", "_law_refused", defArgs s_refused, defBody s_refused, defScope s_refused, [], []⟩,
  ⟨("_law_is_told", none), "_law_is_told", "_law_is_told", defArgs s_is_told, defBody s_is_told, defScope s_is_told, [], []⟩,
  ⟨("_law_alike", none), "_law_alike", "_law_alike", defArgs s_alike, defBody s_alike, defScope s_alike, [], []⟩,
  ⟨("_law_told_broken", none), "_law_told_broken", "_law_told_broken", defArgs s_told_broken, defBody s_told_broken, defScope s_told_broken, [], []⟩,
  ⟨("_law_kept", none), "_law_kept", "_law_kept", defArgs s_kept, defBody s_kept, defScope s_kept, [], []⟩,
  ⟨("_law_walk", none), "_law_walk", "_law_walk", defArgs s_walk, defBody s_walk, defScope s_walk, [], []⟩,
  ⟨("_law_fits", none), "_law_fits", "_law_fits", defArgs s_fits, defBody s_fits, defScope s_fits, [], []⟩,
  ⟨("_law_path_due", none), "_law_path_due", "_law_path_due", defArgs s_path_due, defBody s_path_due, defScope s_path_due, [], []⟩,
  ⟨("_law_ring_due", none), "_law_ring_due", "_law_ring_due", defArgs s_ring_due, defBody s_ring_due, defScope s_ring_due, [], []⟩,
  ⟨("_law_paths", none), "_law_paths", "_law_paths", defArgs s_paths, defBody s_paths, defScope s_paths, [], []⟩,
  ⟨("_law_judged", none), "_law_judged", "_law_judged", defArgs s_judged, defBody s_judged, defScope s_judged, [], []⟩,
  ⟨("law", none), "law", "law", defArgs s_law, defBody s_law, defScope s_law, [], []⟩]
def iniL : List HeM.IniD := []
def prpL : List He.DefD := []
def tsL : HeM.TabM := ([], [⟨("System", some "__init__"), "__init__", "System.__init__", defArgs s_System_init, defBody s_System_init, defScope s_System_init, [], []⟩])
def exL : List (PySem.W.Frag → Bool) := [fun K => HeM.zB K,
  fun K => eqO (PySem.W.nsIn K cStatics "thirdparty.any") (some none),
  fun K => HeM.oxB K (ga K "BadSystem"),
  fun K => HeM.inB K "BadSystem",
  fun K => HeM.oxB K (ga K "BadTimes"),
  fun K => HeM.inB K "BadTimes",
  fun K => eqO (PySem.W.findIn K (.ref (ga K "BadSystem")) "index") (some none),
  fun K => eqO (PySem.W.findIn K (.ref (ga K "BadSystem")) "what") (some none),
  fun K => PySem.W.readsIn K (ga K "DeedError") (.type "type"),
  fun K => eqO (PySem.W.specialIn K (.ref (ga K "DeedError")) "__getattribute__") (some (some (.builtin "type.__getattribute__"))),
  fun K => HeM.valIs (PySem.W.findCls K (.ref (ga K "DeedError")) (.type "type") "__init__") (.builtin "ValueError.__init__"),
  fun K => HeM.xcB K (ga K "BadSystem"),
  fun K => HeM.xcB K (ga K "BadTimes"),
  fun K => decide (PySem.W.exmOne K (.ref (ga K "BadSystem")) (.ref (ga K "BadSystem")) = some true),
  fun K => decide (PySem.W.exmOne K (.ref (ga K "BadTimes")) (.ref (ga K "BadTimes")) = some true),
  fun K => decide (PySem.W.exmOne K (.ref (ga K "BadSystem")) (.ref (ga K "DeedError")) = some true),
  fun K => decide (PySem.W.exmOne K (.ref (ga K "BadSystem")) (.ref (ga K "BadTimes")) = some false),
  fun K => decide (PySem.W.mroIn K (ga K "System") (.type "object") = some true),
  fun K => eqO (PySem.W.findIn K (.ref (ga K "System")) "__ne__") (some (some (.builtin "object.__ne__"))),
  fun K => (["count", "links"] : List Str).all fun f => eqO (PySem.W.findIn K (.ref (ga K "System")) f) (some none),
  fun K => eqO (PySem.W.findIn K (.ref (ga K "System")) "__class__") (some (some (.builtin "object.__class__"))),
  fun K => (["times"] : List Str).all fun f => eqO (PySem.W.findIn K (.ref (ga K "Kept")) f) (some none),
  fun K => eqO (PySem.W.findIn K (.ref (ga K "Kept")) "__class__") (some (some (.builtin "object.__class__"))),
  fun K => decide (PySem.W.mroIn K (ga K "Kept") (.type "object") = some true),
  fun K => (["path"] : List Str).all fun f => eqO (PySem.W.findIn K (.ref (ga K "Ring")) f) (some none),
  fun K => eqO (PySem.W.findIn K (.ref (ga K "Ring")) "__class__") (some (some (.builtin "object.__class__"))),
  fun K => decide (PySem.W.mroIn K (ga K "Ring") (.type "object") = some true),
  fun K => decide (PySem.W.kitOne K (.ref (ga K "BadSystem")) (.ref (ga K "BadSystem")) = some true),
  fun K => decide (PySem.W.kitOne K (.ref (ga K "BadSystem")) (.ref (ga K "BadTimes")) = some false),
  fun K => (["NoneType", "bool", "int", "str", "list", "tuple"] : List String).all fun n => decide (PySem.W.kitOne K (.type n) (.ref (ga K "System")) = some false),
  fun K => (["NoneType", "bool", "int", "str", "list", "tuple"] : List String).all fun n => PySem.W.notFirst K (ga K "System") (.type n),
  fun K => PySem.W.notFirst K (ga K "System") (.ref (ga K "System")),
  fun K => decide (PySem.W.kitOne K (.ref (ga K "System")) (.ref (ga K "System")) = some true),
  fun K => decide (PySem.W.kitOne K (.ref (ga K "Ring")) (.ref (ga K "Ring")) = some true),
  fun K => decide (PySem.W.kitOne K (.ref (ga K "Kept")) (.ref (ga K "Ring")) = some false)]
def exB (K : PySem.W.Frag) : Bool := exL.all fun b => b K
abbrev Rw : PySem.W.OpenRow := PySem.W.OpenLaw.row PySem.Challenge.rw_lastlife_k34_systems_and_their_paths
def lawFile : Str := Rw.prog.main.file
abbrev hkM : PySem.W.Hook := HeM.hookM lawFile 5 faL fnL iniL prpL tsL exB
def obM (s : PySem.W.SharedT) : HeM.AlM := HeM.obsMG lawFile 5 faL fnL iniL prpL tsL exB (HandSHeadRun.getT s)
theorem obM_eq (s : PySem.W.SharedT) : obM s = hkM.obs s.abs := HeM.obsMG_eq (HandSHeadRun.getT_eq s)
def looseL : List PySem.Str := (["DeedError", "BadSystem", "BadTimes", "MOST_INSTANTS", "MOST_LINKS", "is_integer", "is_instant", "are_times", "link_fault", "keeps_link", "System", "are_indexes", "has_joints", "sum_of", "path_fault", "ring_fault", "times_fault", "Kept", "Ring", "solved_fault", "_law_bag", "_law_take", "_law_of", "_law_amount", "_law_times", "_law_links", "_law_is_whole", "_law_word", "_law_due", "_law_made"] : List PySem.Str) ++ (["_law_spoilt", "_law_refused", "_law_is_told", "_law_alike", "_law_told_broken", "_law_kept", "_law_walk", "_law_fits", "_law_path_due", "_law_ring_due", "_law_paths", "_law_judged"] : List PySem.Str)
theorem runM (w : World) : HandSHeadRun.RunEq Rw (PySem.W.view Rw.prog [46]) hkM obM 12000 looseL w := by
  intro os
  kernel_rfl

end My
set_option Elab.async false
set_option linter.all false
set_option maxRecDepth 100000
set_option maxHeartbeats 1000000
namespace My
open PySem L2 Dw Wp
open C8 (pss_cut tCut)
set_option pp.maxSteps 600
theorem isLT {K : PySem.W.Frag} {H : Hp} {v : V} {n : String} (dm : Dm K H v n) : PySem.W.kitAny K (.type n) [.type "list", .type "tuple"] = some (decide (n = "list") || decide (n = "tuple")) := by
  cases dm <;> first | (exact kitAny_cons (b := false) (kit_ty (by decide +kernel)) (fun _ => kitAny_cons (b := false) (kit_ty (by decide +kernel)) (fun _ => kitAny_nil) (fun h => nomatch h)) (fun h => nomatch h)) | (exact kitAny_cons (b := true) (kit_ty (by decide +kernel)) (fun h => nomatch h) (fun _ => rfl)) | (exact kitAny_cons (b := false) (kit_ty (by decide +kernel)) (fun _ => kitAny_cons (b := true) (kit_ty (by decide +kernel)) (fun h => nomatch h) (fun _ => rfl)) (fun h => nomatch h))
theorem gOr {K : PySem.W.Frag} {n : Nat} {t : TGs} {b : Addr} {xs : List V} {σ : St} {H : Hp} {Q : St → Hp → Prop} (hb : H b = some (.lst xs) ∨ H b = some (.tup xs)) (hl : xs.length = n) (k : t xs σ H Q) : gTup K n t (.ref b) σ H Q ∨ gLst K n t (.ref b) σ H Q :=
  hb.elim (fun h => .inr ⟨b, xs, rfl, SqL.of h, hl, k⟩) fun h => .inl ⟨b, xs, rfl, SqT.of h, hl, k⟩
/-- a row handed in: a list or tuple of plain things, or a plain thing -/
inductive Rd where
  | sq (xs : List V)
  | pl (v : V)
/-- plain -/
def Sr : V → Prop
  | .non => True
  | .bl _ => True
  | .int _ => True
  | .str x => x.length ≤ 1000 ∧ PyData.strOk x = true
  | _ => False
theorem Sr.ok {v : V} (h : Sr v) : okV v = true := by
  cases v with
  | str x => exact h.2
  | _ => first | rfl | exact h.elim
theorem Sr.dm {K : PySem.W.Frag} {H : Hp} {v : V} (h : Sr v) : ∃ n, Dm K H v n ∧ n ≠ "list" ∧ n ≠ "tuple" := by
  cases v with
  | non => exact ⟨_, .non, by decide, by decide⟩
  | bl b => exact ⟨_, .bl b, by decide, by decide⟩
  | int i => exact ⟨_, .int i, by decide, by decide⟩
  | str x => exact ⟨_, .str x (Nat.le_of_lt (small1000 h.1)), by decide, by decide⟩
  | _ => exact h.elim
def RdOk : Rd → Prop
  | .sq xs => xs.length ≤ 6 ∧ ∀ x ∈ xs, Sr x
  | .pl v => Sr v
def RdAt (H : Hp) (v : V) : Rd → Prop
  | .sq xs => ∃ b, v = .ref b ∧ (H b = some (.lst xs) ∨ H b = some (.tup xs))
  | .pl x => v = x
theorem RdAt.same {H H' : Hp} {v : V} {r : Rd} (h : RdAt H v r) (S : Same H H') : RdAt H' v r := by
  cases r with
  | sq xs =>
    obtain ⟨b, e, hb⟩ := h
    exact ⟨b, e, hb.imp (S _ _) (S _ _)⟩
  | pl x => exact h
def isSqR : Rd → Bool
  | .sq _ => true
  | .pl _ => false
theorem isLT_rd {K : PySem.W.Frag} {H : Hp} {v : V} {r : Rd} (h : RdAt H v r) (ok : RdOk r) : ∃ n, Dm K H v n ∧ PySem.W.kitAny K (.type n) [.type "list", .type "tuple"] = some (isSqR r) := by
  cases r with
  | sq xs =>
    obtain ⟨b, rfl, hb | hb⟩ := h
    · exact ⟨_, .lst hb, isLT (K := K) (H := H) (.lst hb)⟩
    · exact ⟨_, .tup hb, isLT (K := K) (H := H) (.tup hb)⟩
  | pl x =>
    obtain rfl : v = x := h
    obtain ⟨n, d, h1, h2⟩ := Sr.dm (K := K) (H := H) (show Sr v from ok)
    refine ⟨n, d, ?_⟩
    rw [isLT d, decide_eq_false h1, decide_eq_false h2]
    rfl

/-! whole numbers, instants -/
def isI : V → Bool
  | .int _ => true
  | _ => false
def isT (c : Int) : V → Bool
  | .int i => decide (0 ≤ i) && decide (i < c)
  | _ => false
def spIsI (K : PySem.W.Frag) : Sp := fun vs H Q _ => ∃ (v : V) (n : String), vs = [v] ∧ Dm K H v n ∧ Q (.bl (isI v)) H
def spInst (K : PySem.W.Frag) : Sp := fun vs H Q _ => ∃ (v : V) (n : String) (c : Int), vs = [v, .int c] ∧ Dm K H v n ∧ Q (.bl (isT c v)) H
section
variable {P : Program} {w : World} {K : PySem.W.Frag} {mg : Str → Option Value} {base : Heap} {cl : String → Addr}
theorem ok_is_integer {f : Addr} {fd : FuncData} (F : Fun K "is_integer" "is_integer" s_is_integer f fd) (T : Txt P w K mg cl) : FnOk P w K mg base CX0 1 f fd ["thing"] (spIsI K) := by
  refine F.ok sc_is_integer (fun vs H Q E h => ?_) (fun cdv A outer s H vs Q E hr h => ?_)
  · obtain ⟨v, n, rfl, _⟩ := h
    rfl
  · obtain ⟨v, n, rfl, d, k⟩ := h
    refine ⟨_, (pss_one (ps_ret (pe_and (pe_callB call_isi (by rfl) T.n_isinstance (by decide +kernel) (pa_cons (pv 0) (pa_cons (pe_ty "int" T.n_int) pa_nil))) (pe_one (pe_not (pe_callB call_isi (by rfl) T.n_isinstance (by decide +kernel) (pa_cons (pv 0) (pa_cons (pe_ty "bool" T.n_bool) pa_nil)))))))), ?_⟩
    cases d with
    | int i =>
      refine ⟨_, rfl, _, _, _, _, _, rfl, .ty "int", .base (.int i), kit_ty (by decide +kernel), true, rfl, iteT ?_⟩
      exact ⟨_, rfl, _, _, _, _, _, rfl, .ty "bool", .base (.int i), kit_ty (by decide +kernel), false, rfl, k⟩
    | bl b =>
      refine ⟨_, rfl, _, _, _, _, _, rfl, .ty "int", .base (.bl b), kit_ty (by decide +kernel), true, rfl, iteT ?_⟩
      exact ⟨_, rfl, _, _, _, _, _, rfl, .ty "bool", .base (.bl b), kit_ty (by decide +kernel), true, rfl, k⟩
    | non => exact ⟨_, rfl, _, _, _, _, _, rfl, .ty "int", .base .non, kit_ty (by decide +kernel), false, rfl, iteF k⟩
    | str x hx => exact ⟨_, rfl, _, _, _, _, _, rfl, .ty "int", .base (.str x), kit_ty (by decide +kernel), false, rfl, iteF k⟩
    | lst e => exact ⟨_, rfl, _, _, _, _, _, rfl, .ty "int", .base (.lst e), kit_ty (by decide +kernel), false, rfl, iteF k⟩
    | tup e => exact ⟨_, rfl, _, _, _, _, _, rfl, .ty "int", .base (.tup e), kit_ty (by decide +kernel), false, rfl, iteF k⟩
theorem cal_is_integer (T : Txt P w K mg cl) : Cal P w K mg base CX0 1 "is_integer" ["thing"] (spIsI K) := by
  obtain ⟨f, fd, F, m⟩ := T.d_is_integer
  exact ⟨f, fd, ok_is_integer F T, m, F.kp, F.binds fun _ _ _ _ _ _ us hl => match us, hl with | [_], _ => rfl⟩
theorem ok_is_whole {f : Addr} {fd : FuncData} (F : Fun K "_law_is_whole" "_law_is_whole" s_is_whole f fd) (T : Txt P w K mg cl) : FnOk P w K mg base CX0 1 f fd ["_law_thing"] (spIsI K) := by
  refine F.ok sc_is_whole (fun vs H Q E h => ?_) (fun cdv A outer s H vs Q E hr h => ?_)
  · obtain ⟨v, n, rfl, _⟩ := h
    rfl
  · obtain ⟨v, n, rfl, d, k⟩ := h
    refine ⟨_, (pss_one (ps_ret (pe_and (pe_callB call_isi (by rfl) T.n_isinstance (by decide +kernel) (pa_cons (pv 0) (pa_cons (pe_ty "int" T.n_int) pa_nil))) (pe_one (pe_not (pe_callB call_isi (by rfl) T.n_isinstance (by decide +kernel) (pa_cons (pv 0) (pa_cons (pe_ty "bool" T.n_bool) pa_nil)))))))), ?_⟩
    cases d with
    | int i =>
      refine ⟨_, rfl, _, _, _, _, _, rfl, .ty "int", .base (.int i), kit_ty (by decide +kernel), true, rfl, iteT ?_⟩
      exact ⟨_, rfl, _, _, _, _, _, rfl, .ty "bool", .base (.int i), kit_ty (by decide +kernel), false, rfl, k⟩
    | bl b =>
      refine ⟨_, rfl, _, _, _, _, _, rfl, .ty "int", .base (.bl b), kit_ty (by decide +kernel), true, rfl, iteT ?_⟩
      exact ⟨_, rfl, _, _, _, _, _, rfl, .ty "bool", .base (.bl b), kit_ty (by decide +kernel), true, rfl, k⟩
    | non => exact ⟨_, rfl, _, _, _, _, _, rfl, .ty "int", .base .non, kit_ty (by decide +kernel), false, rfl, iteF k⟩
    | str x hx => exact ⟨_, rfl, _, _, _, _, _, rfl, .ty "int", .base (.str x), kit_ty (by decide +kernel), false, rfl, iteF k⟩
    | lst e => exact ⟨_, rfl, _, _, _, _, _, rfl, .ty "int", .base (.lst e), kit_ty (by decide +kernel), false, rfl, iteF k⟩
    | tup e => exact ⟨_, rfl, _, _, _, _, _, rfl, .ty "int", .base (.tup e), kit_ty (by decide +kernel), false, rfl, iteF k⟩
theorem cal_is_whole (T : Txt P w K mg cl) : Cal P w K mg base CX0 1 "_law_is_whole" ["_law_thing"] (spIsI K) := by
  obtain ⟨f, fd, F, m⟩ := T.d_is_whole
  exact ⟨f, fd, ok_is_whole F T, m, F.kp, F.binds fun _ _ _ _ _ _ us hl => match us, hl with | [_], _ => rfl⟩
theorem ok_is_instant {f : Addr} {fd : FuncData} (F : Fun K "is_instant" "is_instant" s_is_instant f fd) (T : Txt P w K mg cl) : FnOk P w K mg base CX0 2 f fd ["thing", "count"] (spInst K) := by
  refine F.ok sc_is_instant (fun vs H Q E h => ?_) (fun cdv A outer s H vs Q E hr h => ?_)
  · obtain ⟨v, n, c, rfl, _⟩ := h
    rfl
  · obtain ⟨v, n, c, rfl, d, k⟩ := h
    have C_is_integer : Cal P w K mg base CX0 1 "is_integer" _ (spIsI K) := cal_is_integer T
    refine ⟨_, (pss_one (ps_ret (pe_and (pe_cal C_is_integer (hr.mono (by decide)) (pa_cons (pv 0) pa_nil)) (pe_one (pe_chain op_le op_lt pe_int (pv 0) (pv 1)))))), ?_⟩
    refine ⟨_, rfl, v, n, rfl, d, _, rfl, ?_⟩
    cases d with
    | int i =>
      refine iteT ⟨_, rfl, _, _, rfl, rfl, _, rfl, ?_⟩
      have k : Q (.bl (decide (0 ≤ i) && decide (i < c))) H := k
      refine ite2 (fun h => ?_) (fun h => ?_)
      · rw [h] at k
        exact ⟨_, rfl, _, _, rfl, rfl, k⟩
      · rw [Bool.eq_false_iff.mpr h] at k
        exact k
    | bl b => exact iteF k
    | non => exact iteF k
    | str x hx => exact iteF k
    | lst e => exact iteF k
    | tup e => exact iteF k
theorem cal_is_instant (T : Txt P w K mg cl) : Cal P w K mg base CX0 2 "is_instant" ["thing", "count"] (spInst K) := by
  obtain ⟨f, fd, F, m⟩ := T.d_is_instant
  exact ⟨f, fd, ok_is_instant F T, m, F.kp, F.binds fun _ _ _ _ _ _ us hl => match us, hl with | [_, _], _ => rfl⟩
end
end My
set_option Elab.async false
set_option linter.all false
set_option maxRecDepth 100000
set_option maxHeartbeats 1000000
namespace My
open PySem L2 Dw Wp
open C8 (pss_cut tCut)
set_option pp.maxSteps 600
def optV : Option Str → V
  | some s => .str s
  | none => .non
theorem ixOr {K : PySem.W.Frag} {H : Hp} {b : Addr} {xs : List V} {j : Nat} {v : V} {Q : VK} (hb : H b = some (.lst xs) ∨ H b = some (.tup xs)) (ha : xs[j]? = some v) (q : Q v H) : rIxL K (.ref b) (.int (j : Int)) H Q ∨ rIxT K (.ref b) (.int (j : Int)) H Q :=
  hb.imp (fun h => ⟨b, xs, j, v, rfl, rfl, SqL.of h, atI_nat ha, q⟩) fun h => ⟨b, xs, j, v, rfl, rfl, SqT.of h, atI_nat ha, q⟩
/-! the first word of a link -/
def linkV (c : Int) (xs : List V) : Option Str := if xs.all isI = false then some "link" else if (isT c (xs[0]?.getD .non) && isT c (xs[1]?.getD .non)) = true then none else some "instant"
def linkW (c : Int) : Rd → Option Str
  | .pl _ => some "link"
  | .sq xs => if xs.length = 3 then linkV c xs else some "link"
def oddF (v : V) : Option V := if isI v = true then none else some v
theorem odd_all : ∀ xs : List V, (xs.filterMap oddF).isEmpty = xs.all isI
  | [] => rfl
  | x :: xs => by
    have ih := odd_all xs
    cases h : isI x with
    | true => rw [List.filterMap_cons_none (show oddF x = none from if_pos h), List.all_cons, h, Bool.true_and]; exact ih
    | false => rw [List.filterMap_cons_some (show oddF x = some x from if_neg (by rw [h]; decide)), List.all_cons, h]; rfl
def spLkF (K : PySem.W.Frag) : Sp := fun vs H Q _ => ∃ (v : V) (r : Rd) (c : Int), vs = [v, .int c] ∧ RdAt H v r ∧ RdOk r ∧ ∀ H', Same H H' → Q (optV (linkW c r)) H'
section
variable {P : Program} {w : World} {K : PySem.W.Frag} {mg : Str → Option Value} {base : Heap} {cl : String → Addr}
theorem ok_link_fault {f : Addr} {fd : FuncData} (F : Fun K "link_fault" "link_fault" s_link_fault f fd) (T : Txt P w K mg cl) : FnOk P w K mg base CX0 3 f fd ["link", "count"] (spLkF K) := by
  refine F.ok sc_link_fault (fun vs H Q E h => ?_) (fun cdv A outer s H vs Q E hr h => ?_)
  · obtain ⟨v, r, c, rfl, _⟩ := h
    rfl
  · obtain ⟨v, r, c, rfl, hv, ok, k⟩ := h
    have C_is_integer : Cal P w K mg base CX0 1 "is_integer" _ (spIsI K) := cal_is_integer T
    have C_is_instant : Cal P w K mg base CX0 2 "is_instant" _ (spInst K) := cal_is_instant T
    refine ⟨_, (pss_cons (ps_if (PW.pt (pw_or (pt_not (pt_val (pe_callB call_isiT (by rfl) T.n_isinstance (by decide +kernel) (pa_cons (pv 0) (pa_cons (pe_tup (pa_cons (pe_ty "list" T.n_list) (pa_cons (pe_ty "tuple" T.n_tuple) pa_nil))) pa_nil))))) (pw_or1 (pt_cmpR op_ne (pe_callB call_len_seq (by rfl) T.n_len PySem.boot_len (pa_cons (pv 0) pa_nil)) pe_int (nomark _)))))
          (pss_one (ps_ret pe_str)) pss_nil)
        (pss_cons (ps_if (pt_truth (pe_lc (own := [("part", 2)]) (g := gName 2)  rfl sc_link_fault.nd (pi_seq (pv 0)) (blkOk_by (own := [("part", 2)]) (N := ["link", "count", "part"]) (sc := defScope s_link_fault) (by decide +kernel)) (fun _ _ _ _ _ => pg_name (i := 2) sc_link_fault.nd rfl (Or.inl rfl)) (fun _ _ _ _ _ => pts_one (pt_not (pt_val (pe_cal C_is_integer (hr.mono (by decide)) (pa_cons (pv 2) pa_nil))))) (fun _ _ _ _ _ => (pv 2))) (by intro _; rfl))
          (pss_one (ps_ret pe_str)) pss_nil)
        (pss_cons (ps_if (PW.pt (pw_or (pt_not (pt_val (pe_cal C_is_instant (hr.mono (by decide)) (pa_cons (pe_ix ix_either (pv 0) pe_int (fun _ _ => rfl)) (pa_cons (pv 1) pa_nil))))) (pw_or1 (pt_not (pt_val (pe_cal C_is_instant (hr.mono (by decide)) (pa_cons (pe_ix ix_either (pv 0) pe_int (fun _ _ => rfl)) (pa_cons (pv 1) pa_nil))))))))
          (pss_one (ps_ret pe_str)) pss_nil)
        (pss_one (ps_ret pe_non))))), ?_⟩
    refine ⟨_, rfl, by show 2 ≤ sizeLine; decide, fun tp htp => ?_⟩
    have S0 := sNew (o := .tup [.ty "list", .ty "tuple"]) htp
    obtain ⟨nv, dv, ka⟩ := isLT_rd (K := K) (hv.same S0) ok
    refine ⟨v, tp, _, .type nv, _, _, rfl, upd_same, .cons (.ty "list") (.cons (.ty "tuple") .nil), dv.ty, ka, _, rfl, ?_⟩
    cases r with
    | pl x => exact iteT (iteT (k _ S0))
    | sq xs =>
      refine iteF ?_
      obtain ⟨b, rfl, hb⟩ := hv.same S0
      generalize upd H tp (.tup [.ty "list", .ty "tuple"]) = H1 at S0 hb
      refine ⟨_, rfl, b, xs, rfl, hb.imp SqL.of SqT.of, rfl, _, rfl, ?_⟩
      refine ite2 (fun g => ?_) (fun g => ?_)
      · have k := k _ S0
        have g : ¬ xs.length = 3 := fun e => by rw [e] at g; exact absurd g (by decide)
        rw [show linkW c (.sq xs) = some "link" from if_neg g] at k
        exact k
      have g : xs.length = 3 := by
        simp only [Bool.not_eq_true', decide_eq_false_iff_not, Decidable.not_not] at g
        exact Int.ofNat.inj (V.int.inj g)
      have keep : ∀ {D : Addr} {o : HO}, H1 D = none → upd H1 D o b = H1 b := fun {D o} nD => by
        rcases hb with h | h <;> exact upd_ne (ne_of_none h nD)
      refine ⟨_, rfl, b, xs, rfl, hb, fun J wk D nD => lc_it wk (PvF H1 D xs oddF) rfl (fun i H'' _ q => by rw [q]; exact keep nD) ?_ ?_⟩
      · rintro i x H2 H3 hi rfl ⟨rfl, hx⟩
        obtain ⟨tn, dn, _⟩ := (ok.2 x (List.mem_of_getElem? hx)).dm (K := K) (H := upd H1 D (.lst ((xs.take i).filterMap oddF)))
        refine ⟨rfl, _, rfl, x, tn, rfl, dn, _, rfl, ?_⟩
        refine ite2 (fun h => ?_) (fun h => ?_)
        · exact ⟨_, rfl, fm_put hx (if_neg (by simpa using h)) (small1000 (by have := ok.1; omega))⟩
        · exact fm_skip hx (if_pos (by simpa using h))
      · intro H' q
        obtain rfl := fm_end q
        have S1 := S0.trans (sNew (o := .lst (xs.filterMap oddF)) nD)
        have oa := odd_all xs
        have k := k _ S1
        rw [show linkW c (.sq xs) = linkV c xs from if_pos g] at k
        unfold linkV at k
        refine ⟨_, .inl ⟨_, SqL.of upd_same, rfl⟩, ?_⟩
        rw [oa]
        cases ha : xs.all isI with
        | false =>
          rw [if_pos ha] at k
          exact iteT k
        | true =>
          rw [if_neg (by rw [ha]; decide)] at k
          refine iteF ?_
          obtain ⟨x0, x1, x2, rfl⟩ : ∃ x0 x1 x2, xs = [x0, x1, x2] := by
            match xs, g with
            | [x0, x1, x2], _ => exact ⟨_, _, _, rfl⟩
          have hb2 := hb.imp (sNew (o := .lst ([x0, x1, x2].filterMap oddF)) nD _ _) (sNew (o := .lst ([x0, x1, x2].filterMap oddF)) nD _ _)
          generalize upd H1 D (.lst ([x0, x1, x2].filterMap oddF)) = H2 at hb2 k
          obtain ⟨t0, d0, _⟩ := (ok.2 x0 (by simp)).dm (K := K) (H := H2)
          obtain ⟨t1, d1, _⟩ := (ok.2 x1 (by simp)).dm (K := K) (H := H2)
          have k : Q (optV (if (isT c x0 && isT c x1) = true then (none : Option Str) else some ("instant" : Str))) H2 := k
          refine ⟨_, rfl, ixOr hb2 (j := 0) rfl ?_⟩
          refine ⟨_, rfl, x0, t0, c, rfl, d0, _, rfl, ?_⟩
          cases h0 : isT c x0 with
          | false =>
            rw [h0] at k
            exact iteT k
          | true =>
            rw [h0] at k
            refine iteF ⟨_, rfl, ixOr hb2 (j := 1) rfl ⟨_, rfl, x1, t1, c, rfl, d1, _, rfl, ?_⟩⟩
            cases h1 : isT c x1 with
            | false =>
              rw [h1] at k
              exact iteT k
            | true =>
              rw [h1] at k
              exact iteF k
theorem cal_link_fault (T : Txt P w K mg cl) : Cal P w K mg base CX0 3 "link_fault" ["link", "count"] (spLkF K) := by
  obtain ⟨f, fd, F, m⟩ := T.d_link_fault
  exact ⟨f, fd, ok_link_fault F T, m, F.kp, F.binds fun _ _ _ _ _ _ us hl => match us, hl with | [_, _], _ => rfl⟩
end
end My
set_option Elab.async false
set_option linter.all false
set_option maxRecDepth 100000
set_option maxHeartbeats 1000000
namespace My
open PySem L2 Dw Wp
open C8 (pss_cut tCut)
set_option pp.maxSteps 600
section
variable {P : Program} {w : World} {K : PySem.W.Frag} {mg : Str → Option Value} {base : Heap} {cl : String → Addr}
theorem oki_BadSystem {f : Addr} {fd : FuncData} (F : Fun K "__init__" "BadSystem.__init__" s_BadSystem_init f fd) (T : Txt P w K mg cl) : FnOk P w K mg base CX0 1 f fd ["self", "index", "what"] (spIni (cl "BadSystem") ["index", "what"]) := by
  refine F.ok sc_BadSystem_init (fun vs H Q E h => ?_) (fun cdv A outer s H vs Q E hr h => ?_)
  · obtain ⟨a, us, rfl, hl, _⟩ := h
    rw [List.length_cons, hl]
    rfl
  · obtain ⟨a, us, rfl, hl, ha, h0, k⟩ := h
    match us, hl with
    | [u0, u1], _ =>
      refine ⟨_, (pss_cons (ps_expr (pe_deinit T.cr T.vi T.m_DeedError (pa_cons (pv 0) (pa_cons pe_str pa_nil))))
        (pss_cons (ps_ost (pv 0) (pv 1))
        (pss_one (ps_ost (pv 0) (pv 2))))), ?_⟩
      refine ⟨_, rfl, a, cl "BadSystem", [.str _], rfl, by decide, T.o_BadSystem, ha, ?_⟩
      refine ⟨_, rfl, _, rfl, a, cl "BadSystem", rfl, T.o_BadSystem, T.xf_BadSystem_index, .inl ⟨ha, fun dx nd ne => ?_⟩⟩
      refine ⟨_, rfl, _, rfl, a, cl "BadSystem", rfl, T.o_BadSystem, T.xf_BadSystem_what, .inr ⟨dx, _, upd_same, by rw [upd_ne ne]; exact upd_same, by show 1 ≤ 900; decide, ?_⟩⟩
      exact k dx _ nd ne (fun b o q nb => by rw [upd_ne (ne_of_none q nd), upd_ne nb, upd_ne (ne_of_none q nd)]; exact q) (by rw [upd_ne (Ne.symm ne)]; exact upd_same) upd_same
theorem ini_BadSystem (T : Txt P w K mg cl) : CalO P w K mg base 1 (cl "BadSystem") ["self", "index", "what"] (spIni (cl "BadSystem") ["index", "what"]) := by
  obtain ⟨f, fd, F, h1, h2⟩ := T.i_BadSystem
  exact ⟨T.o_BadSystem, f, fd, oki_BadSystem F T, h1, h2, F.binds fun _ _ _ _ _ _ us hl => match us, hl with | [_, _, _], _ => rfl⟩
theorem oki_BadTimes {f : Addr} {fd : FuncData} (F : Fun K "__init__" "BadTimes.__init__" s_BadTimes_init f fd) (T : Txt P w K mg cl) : FnOk P w K mg base CX0 1 f fd ["self"] (spIni (cl "BadTimes") []) := by
  refine F.ok sc_BadTimes_init (fun vs H Q E h => ?_) (fun cdv A outer s H vs Q E hr h => ?_)
  · obtain ⟨a, us, rfl, hl, _⟩ := h
    rw [List.length_cons, hl]
    rfl
  · obtain ⟨a, us, rfl, hl, ha, h0, k⟩ := h
    match us, hl with
    | [], _ =>
      refine ⟨_, (pss_one (ps_expr (pe_deinit T.cr T.vi T.m_DeedError (pa_cons (pv 0) (pa_cons pe_str pa_nil))))), ?_⟩
      refine ⟨_, rfl, a, cl "BadTimes", [.str _], rfl, by decide, T.o_BadTimes, ha, ?_⟩
      exact h0 rfl
theorem ini_BadTimes (T : Txt P w K mg cl) : CalO P w K mg base 1 (cl "BadTimes") ["self"] (spIni (cl "BadTimes") []) := by
  obtain ⟨f, fd, F, h1, h2⟩ := T.i_BadTimes
  exact ⟨T.o_BadTimes, f, fd, oki_BadTimes F T, h1, h2, F.binds fun _ _ _ _ _ _ us hl => match us, hl with | [_], _ => rfl⟩
end
end My
set_option Elab.async false
set_option linter.all false
set_option maxRecDepth 100000
set_option maxHeartbeats 1000000
namespace My
open PySem L2 Dw Wp
open C8 (pss_cut tCut)
set_option pp.maxSteps 600
/-! a system in the memory -/
abbrev Lk := Int × Int × Int
def lkV (l : Lk) : List V := [.int l.1, .int l.2.1, .int l.2.2]
def lkR (l : Lk) : Rd := .sq (lkV l)
def LkT (H : Hp) (v : V) (l : Lk) : Prop := ∃ b, v = .ref b ∧ H b = some (.tup (lkV l))
def syF (c : Int) (t : Addr) : List (Str × V) := [("count", .int c), ("links", .ref t)]
structure SyAt (C : Addr) (H : Hp) (p : Addr) (c : Int) (t : Addr) (us : List V) (ls : List Lk) : Prop where
  self : ∃ dx, H p = some (.ins C dx (syF c t))
  rows : H t = some (.tup us)
  each : Paired (LkT H) us ls
theorem Paired.impP {α β : Type} {F G : α → β → Prop} (h : ∀ a b, F a b → G a b) : ∀ {xs : List α} {ys : List β}, Paired F xs ys → Paired G xs ys
  | _, _, .nil => .nil
  | _, _, .cons a t => .cons (h _ _ a) (Paired.impP h t)
theorem SyAt.same {C : Addr} {H H' : Hp} {p t : Addr} {c : Int} {us : List V} {ls : List Lk} (h : SyAt C H p c t us ls) (S : Same H H') : SyAt C H' p c t us ls := by
  obtain ⟨⟨dx, h1⟩, h2, h3⟩ := h
  exact ⟨⟨dx, S _ _ h1⟩, S _ _ h2, Paired.impP (fun _ _ ⟨b, q1, q2⟩ => ⟨b, q1, S _ _ q2⟩) h3⟩
/-- the first word of links -/
def linksW (c : Int) : Nat → List Rd → Option (V × Str)
  | _, [] => none
  | i, r :: rs => match linkW c r with
    | some w => some (.int (i : Nat), w)
    | none => linksW c (i + 1) rs
def isCt : V → Bool
  | .int c => decide (1 ≤ c) && decide (c ≤ 12)
  | _ => false
def ctI : V → Int
  | .int c => c
  | _ => 0
def sysW (cv : V) (ro : Option (List Rd)) : Option (V × Str) :=
  if isCt cv = false then some (.non, "count") else match ro with
    | none => some (.non, "links")
    | some rs => if 200 < rs.length then some (.non, "links") else linksW (ctI cv) 0 rs
/-- a thing that is neither list nor tuple -/
def NotLT (K : PySem.W.Frag) (H : Hp) (v : V) : Prop := ∀ H', Same H H' → ∃ t, TyX K H' v t ∧ PySem.W.kitAny K t [.type "list", .type "tuple"] = some false
def LsAt (K : PySem.W.Frag) (H : Hp) (v : V) : Option (List Rd) → Prop
  | some rs => ∃ r ws, v = .ref r ∧ (H r = some (.lst ws) ∨ H r = some (.tup ws)) ∧ Paired (RdAt H) ws rs ∧ (∀ x ∈ rs, RdOk x) ∧ rs.length ≤ 300
  | none => NotLT K H v
theorem LsAt.same {K : PySem.W.Frag} {H H' : Hp} {v : V} {ro : Option (List Rd)} (h : LsAt K H v ro) (S : Same H H') : LsAt K H' v ro := by
  cases ro with
  | none => exact fun H2 S2 => h H2 (S.trans S2)
  | some rs =>
    obtain ⟨r, ws, e, h1, h2, h3, h4⟩ := h
    exact ⟨r, ws, e, h1.imp (S _ _) (S _ _), Paired.impP (fun _ _ q => q.same S) h2, h3, h4⟩
def spSys (K : PySem.W.Frag) (C CB : Addr) : Sp := fun vs H Q E => ∃ (p dx : Addr) (cv lv : V) (n : String) (ro : Option (List Rd)), vs = [.ref p, cv, lv] ∧ H p = some (.ins C dx []) ∧ Dm K H cv n ∧ LsAt K H lv ro ∧
  (∀ i w G e, sysW cv ro = some (i, w) → Same H G → H e = none → E (.ref CB) (some e) (upd G e (.xd [("what", .str w), ("index", i)]))) ∧
  (∀ c ls t us H', cv = .int c → ro = some (ls.map lkR) → sysW cv ro = none → But p H H' → SyAt C H' p c t us ls → Q .non H')
theorem sysW_n {c : Int} (h : (decide (1 ≤ c) && decide (c ≤ 12)) = true) : sysW (.int c) none = some (V.non, ("links" : Str)) := by
  have h : isCt (.int c) = true := h
  unfold sysW
  rw [if_neg (by rw [h]; decide)]
theorem sysW_s {c : Int} {rs : List Rd} (h : (decide (1 ≤ c) && decide (c ≤ 12)) = true) : sysW (.int c) (some rs) = if 200 < rs.length then some (V.non, ("links" : Str)) else linksW c 0 rs := by
  have h : isCt (.int c) = true := h
  unfold sysW
  rw [if_neg (by rw [h]; decide)]
  rfl
/-- an error with its two fields is made and raised -/
theorem raise2 {H H1 : Hp} {C : Addr} {i w : V} {E : XK} (S : Same H H1) (k : ∀ G e, Same H G → H e = none → E (.ref C) (some e) (upd G e (.xd [("what", w), ("index", i)]))) :
    ([i, w] : List V).length ≤ 1000 ∧ ∀ a, H1 a = none → spIni C ["index", "what"] (.ref a :: ([i, w] ++ [])) (upd H1 a (exo a C none)) (fun v H2 => v = .non ∧ ∃ (d : Addr) (fs : List (Str × V)), H2 a = some (exo a C (some d)) ∧ H2 d = some (exd d fs) ∧ H1 d = none ∧ E (.ref C) (some d) (upd (del H2 a) d (.xd fs))) (fun _ _ _ => False) := by
  refine ⟨by show 2 ≤ 1000; decide, fun a na => ⟨a, [i, w], rfl, rfl, upd_same, (fun z => by cases z), fun d H' nd ne kp h1 h2 => ⟨rfl, d, _, h1, h2, ?_, k (del H' a) d (fun b o q => ?_) ?_⟩⟩⟩
  · rw [upd_ne ne] at nd
    exact nd
  · have nb : b ≠ a := ne_of_none (S _ _ q) na
    rw [del_ne nb]
    exact kp b o (by rw [upd_ne nb]; exact S _ _ q) nb
  · rw [upd_ne ne] at nd
    cases q : H d with
    | none => rfl
    | some o => rw [S _ _ q] at nd; cases nd
theorem take_drop_at {α : Type} {xs : List α} {i : Nat} {x : α} (h : xs[i]? = some x) : xs.drop i = x :: xs.drop (i + 1) := by
  obtain ⟨h1, h2⟩ := List.getElem?_eq_some_iff.mp h
  rw [List.drop_eq_getElem_cons h1, h2]
theorem linkW_good {c : Int} {r : Rd} (h : linkW c r = none) : ∃ l : Lk, r = lkR l ∧ (0 ≤ l.1 ∧ l.1 < c) ∧ (0 ≤ l.2.1 ∧ l.2.1 < c) := by
  cases r with
  | pl v => cases h
  | sq xs =>
    have h : (if xs.length = 3 then linkV c xs else some "link") = none := h
    split at h
    · rename_i g
      obtain ⟨x0, x1, x2, rfl⟩ : ∃ x0 x1 x2, xs = [x0, x1, x2] := by
        match xs, g with
        | [x0, x1, x2], _ => exact ⟨_, _, _, rfl⟩
      unfold linkV at h
      split at h
      · cases h
      · rename_i ha
        split at h
        · rename_i hb
          have ha : [x0, x1, x2].all isI = true := by simpa using ha
          simp only [List.all_cons, List.all_nil, Bool.and_true, Bool.and_eq_true] at ha
          obtain ⟨a0, a1, a2⟩ := ha
          obtain ⟨i0, rfl⟩ : ∃ i, x0 = .int i := by cases x0 with
            | int i => exact ⟨i, rfl⟩
            | _ => cases a0
          obtain ⟨i1, rfl⟩ : ∃ i, x1 = .int i := by cases x1 with
            | int i => exact ⟨i, rfl⟩
            | _ => cases a1
          obtain ⟨i2, rfl⟩ : ∃ i, x2 = .int i := by cases x2 with
            | int i => exact ⟨i, rfl⟩
            | _ => cases a2
          have hb : ((decide (0 ≤ i0) && decide (i0 < c)) && (decide (0 ≤ i1) && decide (i1 < c))) = true := hb
          simp only [Bool.and_eq_true, decide_eq_true_eq] at hb
          exact ⟨(i0, i1, i2), rfl, hb.1, hb.2⟩
        · cases h
    · cases h
def LkOk (c : Int) (l : Lk) : Prop := (0 ≤ l.1 ∧ l.1 < c) ∧ (0 ≤ l.2.1 ∧ l.2.1 < c)
theorem linksW_good {c : Int} : ∀ {rs : List Rd} {i : Nat}, linksW c i rs = none → ∃ ls : List Lk, rs = ls.map lkR ∧ ∀ l ∈ ls, LkOk c l
  | [], _, _ => ⟨[], rfl, fun l h => by cases h⟩
  | r :: rs, i, h => by
    have st0 : linksW c i (r :: rs) = (match linkW c r with
      | some w => some (V.int (i : Nat), w)
      | none => linksW c (i + 1) rs) := rfl
    cases e : linkW c r with
    | some w => rw [st0, e] at h; cases h
    | none =>
      rw [st0, e] at h
      have h : linksW c (i + 1) rs = none := h
      obtain ⟨l, e1, hl⟩ := linkW_good e
      rw [e1]
      obtain ⟨ls, e2, hls⟩ := linksW_good h
      exact ⟨l :: ls, by rw [e2]; rfl, fun x hx => by
        rcases List.mem_cons.mp hx with rfl | hx
        · exact hl
        · exact hls x hx⟩
section
variable {P : Program} {w : World} {K : PySem.W.Frag} {mg : Str → Option Value} {base : Heap} {cl : String → Addr}
theorem ok_System_init {f : Addr} {fd : FuncData} (F : HeM.FunV K "__init__" "System.__init__" s_System_init f fd) (T : Txt P w K mg cl) : FnOk P w K mg base (L2.CX P w) 4 f fd ["self", "count", "links"] (spSys K (cl "System") (cl "BadSystem")) := by
  refine HeM.FunV.ok F sc_System_init (fun vs H Q E h => ?_) (fun cdv A outer s H vs Q E hr h => ?_)
  · obtain ⟨p, dx, cv, lv, n, ro, rfl, _⟩ := h
    rfl
  · obtain ⟨p, dx, cv, lv, n, ro, rfl, hp, dc, hl, bad, good⟩ := h
    have C_is_integer : Cal P w K mg base CX0 1 "is_integer" _ (spIsI K) := cal_is_integer T
    have C_link_fault : Cal P w K mg base CX0 3 "link_fault" _ (spLkF K) := cal_link_fault T
    refine ⟨_, (pss_cons (ps_if (PW.pt (pw_or (pt_not (pt_val (pe_cal C_is_integer (hr.mono (by decide)) (pa_cons (pv 1) pa_nil)))) (pw_or1 (pt_not (pt_chain op_le op_le pe_int (pv 1) (pe_gl T.c_MOST_INSTANTS))))))
          (pss_one (ps_raiseO rfl (ini_BadSystem (base := base) T) T.m_BadSystem (hr.mono (by decide)) (takes_of rfl rfl rfl rfl) (by exact (pa_cons pe_non (pa_cons pe_str pa_nil))))) pss_nil)
        (pss_cons (ps_if (PW.pt (pw_or (pt_not (pt_val (pe_callB call_isiT (by rfl) T.n_isinstance (by decide +kernel) (pa_cons (pv 2) (pa_cons (pe_tup (pa_cons (pe_ty "list" T.n_list) (pa_cons (pe_ty "tuple" T.n_tuple) pa_nil))) pa_nil))))) (pw_or1 (pt_cmpR op_gt (pe_callB call_len_seq (by rfl) T.n_len PySem.boot_len (pa_cons (pv 2) pa_nil)) (pe_gl T.c_MOST_LINKS) (nomark _)))))
          (pss_one (ps_raiseO rfl (ini_BadSystem (base := base) T) T.m_BadSystem (hr.mono (by decide)) (takes_of rfl rfl rfl rfl) (by exact (pa_cons pe_non (pa_cons pe_str pa_nil))))) pss_nil)
        (pss_cons (ps_for (passes_of rfl) rfl (pi_enu2 (by rfl) T.n_enumerate (pa_cons (pv 2) pa_nil)) (pg_tup rfl (pgs_cons (pg_name (i := 3) sc_System_init.nd rfl (Or.inl rfl)) (pgs_cons (pg_name (i := 4) sc_System_init.nd rfl (Or.inl rfl)) pgs_nil)))
          (pss_cons (ps_set (i := 5) sc_System_init.nd rfl (Or.inl rfl) (pe_cal C_link_fault (hr.mono (by decide)) (pa_cons (pv 4) (pa_cons (pv 1) pa_nil))))
            (pss_one (ps_if (pt_cmpR op_notN (pv 5) pe_non (nomark _))
              (pss_one (ps_raiseO rfl (ini_BadSystem (base := base) T) T.m_BadSystem (hr.mono (by decide)) (takes_of rfl rfl rfl rfl) (by exact (pa_cons (pv 3) (pa_cons (pv 5) pa_nil))))) pss_nil))))
        (pss_cons (ps_fld (pv 0) (pv 1) rfl)
        (pss_one (ps_fld (pv 0) (pe_callTy call_tuple_of (by rfl) T.n_tuple (by decide +kernel) (pa_cons (pe_lc (own := [("link", 4)]) (g := gName 4) (tt := tYes) rfl sc_System_init.nd (pi_seq (pv 2)) (blkOk_by (own := [("link", 4)]) (N := ["self", "count", "links", "index", "link", "word"]) (sc := defScope s_System_init) (by decide +kernel)) (fun _ _ _ _ _ => pg_name (i := 4) sc_System_init.nd rfl (Or.inl rfl)) (fun _ _ _ _ _ => pts_nil) (fun _ _ _ _ _ => (pe_callTy (call_tuple_ofK (K := K) rfl) (by rfl) T.n_tuple (by decide +kernel) (pa_cons (pv 4) pa_nil)))) pa_nil)) rfl)))))), ?_⟩
    refine ⟨_, rfl, cv, n, rfl, dc, _, rfl, ?_⟩
    have bad0 : ∀ {i : V} {w : Str} {H1 : Hp}, sysW cv ro = some (i, w) → Same H H1 → ∀ G e, Same H G → H e = none → E (.ref (cl "BadSystem")) (some e) (upd G e (.xd [("what", .str w), ("index", i)])) := fun h _ G e S q => bad _ _ G e h S q
    by_cases hc : isCt cv = true
    rotate_left
    · have hs : sysW cv ro = some (V.non, ("count" : Str)) := by
        unfold sysW
        exact if_pos (by simpa using hc)
      have fin := raise2 (C := cl "BadSystem") (E := E) (Same.refl H) (fun G e => bad _ _ G e hs)
      cases dc with
      | int c =>
        have hc : ¬ (decide (1 ≤ c) && decide (c ≤ 12)) = true := hc
        refine iteF ⟨_, rfl, _, _, rfl, rfl, _, rfl, ?_⟩
        refine ite2 (fun h1 => ?_) (fun h1 => ?_)
        · have h2 : decide (c ≤ 12) = false := by
            rw [h1, Bool.true_and] at hc
            exact Bool.eq_false_iff.mpr hc
          refine ⟨_, _, rfl, rfl, _, rfl, ?_⟩
          rw [h2]
          exact iteT fin
        · exact ⟨_, rfl, iteT fin⟩
      | bl b => exact iteT (iteT fin)
      | non => exact iteT (iteT fin)
      | str x hx => exact iteT (iteT fin)
      | lst e => exact iteT (iteT fin)
      | tup e => exact iteT (iteT fin)
    obtain ⟨c, rfl⟩ : ∃ c, cv = .int c := by
      cases cv with
      | int c => exact ⟨c, rfl⟩
      | _ => cases hc
    have hc : (decide (1 ≤ c) && decide (c ≤ 12)) = true := hc
    obtain ⟨c1, c2⟩ := Bool.and_eq_true_iff.mp hc
    cases dc
    refine iteF ⟨_, rfl, _, _, rfl, rfl, _, rfl, ?_⟩
    rw [c1]
    refine iteT ⟨_, _, rfl, rfl, _, rfl, ?_⟩
    rw [c2]
    refine iteF ?_
    refine ⟨_, rfl, by show 2 ≤ sizeLine; decide, fun tp htp => ?_⟩
    have S0 := sNew (o := .tup [.ty "list", .ty "tuple"]) htp
    cases ro with
    | none =>
      obtain ⟨ty, d1, d2⟩ := hl _ S0
      refine ⟨lv, tp, _, ty, _, _, rfl, upd_same, .cons (.ty "list") (.cons (.ty "tuple") .nil), d1, d2, _, rfl, iteT (iteT ?_)⟩
      exact raise2 S0 (fun G e => bad _ _ G e (sysW_n hc))
    | some rs =>
      obtain ⟨r, ws, rfl, hr0, hpw0, _, _⟩ := id hl
      obtain ⟨r', ws', e', hr1, hpw, rok, rl⟩ := hl.same S0
      have er : r = r' := V.ref.inj e'
      subst er
      have ew : ws = ws' := by
        rcases hr0 with h | h <;> rcases hr1 with h' | h' <;> (have h'' := S0 _ _ h; rw [h''] at h'; cases h' <;> rfl)
      subst ew
      have lw := hpw.length
      obtain ⟨ty, d1, d2⟩ : ∃ t, TyX K (upd H tp (.tup [.ty "list", .ty "tuple"])) (.ref r) t ∧ PySem.W.kitAny K t [.type "list", .type "tuple"] = some true := by
        rcases hr1 with h | h
        · exact ⟨_, (Dm.lst h : Dm K _ (.ref r) "list").ty, isLT (.lst h)⟩
        · exact ⟨_, (Dm.tup h : Dm K _ (.ref r) "tuple").ty, isLT (.tup h)⟩
      refine ⟨_, tp, _, ty, _, _, rfl, upd_same, .cons (.ty "list") (.cons (.ty "tuple") .nil), d1, d2, _, rfl, iteF ?_⟩
      refine ⟨_, rfl, r, ws, rfl, hr1.imp SqL.of SqT.of, _, _, rfl, rfl, _, rfl, ?_⟩
      generalize upd H tp (.tup [.ty "list", .ty "tuple"]) = H1 at S0 hr1 hpw d1
      have us := sysW_s (rs := rs) hc
      refine ite2 (fun g => ?_) (fun g => ?_)
      · have g : (200 : Int) < ws.length := of_decide_eq_true g
        rw [if_pos (by omega)] at us
        exact raise2 S0 (fun G e => bad _ _ G e us)
      have g : ¬ (200 : Int) < ws.length := fun z => g (decide_eq_true z)
      rw [if_neg (by omega)] at us
      refine ⟨_, rfl, r, ws, rfl, hr1, fun J wk => for_it wk (fun i σ H' => Same H1 H' ∧ linksW c 0 rs = linksW c i (rs.drop i) ∧ ∃ (v3 v4 v5 : Option V), σ = [some (.ref p), some (.int c), some (.ref r), v3, v4, v5]) ⟨Same.refl _, rfl, _, _, _, rfl⟩ (fun i σ H' _ q => ?_) ?_ ?_⟩
      · rcases hr1 with h | h
        · rw [h, q.1 _ _ h]
        · rw [h, q.1 _ _ h]
      · rintro i xv σ H3 H4 hi ⟨S3, hg, v3, v4, v5, rfl⟩ ⟨Tt, x1, y1, rfl, hT, rfl, e1, e2⟩
        cases e1
        obtain ⟨x, hx, hvx⟩ := Paired.at hpw e2
        have S4 := S3.trans (sNew (o := .tup [.int (i : Nat), y1]) hT)
        refine ⟨Tt, _, rfl, SqT.of upd_same, rfl, _, _, rfl, _, _, rfl, rfl, ?_⟩
        refine ⟨_, rfl, _, rfl, y1, x, c, rfl, hvx.same S4, rok x (List.mem_of_getElem? hx), fun H5 S5 => ?_⟩
        have S6 := S4.trans S5
        rw [take_drop_at hx] at hg
        have st : linksW c i (x :: rs.drop (i + 1)) = (match linkW c x with
          | some w => some (.int (i : Nat), w)
          | none => linksW c (i + 1) (rs.drop (i + 1))) := rfl
        rw [st] at hg
        cases e : linkW c x with
        | some w =>
          rw [e] at hg
          refine ⟨_, rfl, rfl, _, rfl, iteT ⟨_, rfl, _, rfl, ?_⟩⟩
          exact raise2 (S0.trans S6) (fun G e => bad _ _ G e (us.trans hg))
        | none =>
          rw [e] at hg
          exact ⟨_, rfl, rfl, _, rfl, iteF ⟨S6, hg, _, _, _, rfl⟩⟩
      · rintro σ H3 ⟨S3, hg, v3, v4, v5, rfl⟩
        rw [List.drop_of_length_le (Nat.le_of_eq lw.symm)] at hg
        have un : sysW (.int c) (some rs) = none := us.trans hg
        obtain ⟨ls, rfl, lsok⟩ := linksW_good hg
        have S3 := S0.trans S3
        have hw : H r = some (.lst ws) ∨ H r = some (.tup ws) := hr0
        have hself := S3 _ _ hp
        refine ⟨_, rfl, _, rfl, p, _, dx, _, rfl, hself, T.cl_System, T.na_System _ (by decide), (by show 0 < 1000; decide), ?_⟩
        have npr : r ≠ p := by rcases hw with h | h <;> exact ne_of h hp (fun z => nomatch z)
        have ws3 := hw.imp (S3 _ _) (S3 _ _)
        have hw4 : ∀ o, (upd H3 p o) r = some (.lst ws) ∨ (upd H3 p o) r = some (.tup ws) := fun o => ws3.imp (fun h => (upd_ne npr).trans h) fun h => (upd_ne npr).trans h
        have B4 : ∀ o, But p H (upd H3 p o) := fun o b u e n => (upd_ne n).trans (S3 _ _ e)
        have self4 : ∀ o, (upd H3 p o) p = some o := fun o => upd_same
        have hpw4 : ∀ o, Paired (RdAt (upd H3 p o)) ws (ls.map lkR) := fun o => Paired.impP (fun v x h => by
          cases x with
          | sq xs =>
            obtain ⟨b, e, hb⟩ := h
            have nb : b ≠ p := by rcases hb with h | h <;> exact ne_of h hp (fun z => nomatch z)
            exact ⟨b, e, hb.imp (fun h => (upd_ne nb).trans (S3 _ _ h)) fun h => (upd_ne nb).trans (S3 _ _ h)⟩
          | pl x => exact h) hpw0
        refine ⟨_, rfl, r, ws, rfl, hw4 _, fun J wk D hD => lc_it wk (fun i H' => ∃ us, H' D = some (.lst us) ∧ us.length = i ∧ Paired (LkT H') us (ls.take i) ∧ Same (upd H3 p (.ins (cl "System") dx [("count", .int c)])) H') ⟨[], upd_same, rfl, .nil, sNew hD⟩ (fun i H' _ ⟨us, _, _, _, S⟩ => ?_) ?_ ?_⟩
        · rcases hw4 (.ins (cl "System") dx [("count", .int c)]) with h | h
          · exact (S _ _ h).trans h.symm
          · exact (S _ _ h).trans h.symm
        · rintro i v H5 H6 hi ⟨us, hD5, hlen, hp5, S5⟩ ⟨rfl, hv⟩
          obtain ⟨x, hx, hvx⟩ := Paired.at (hpw4 (.ins (cl "System") dx [("count", .int c)])) hv
          rw [List.getElem?_map] at hx
          obtain ⟨l, hl0, rfl⟩ : ∃ l, ls[i]? = some l ∧ lkR l = x := by
            cases e : ls[i]? with
            | none => rw [e] at hx; cases hx
            | some l => rw [e] at hx; exact ⟨l, rfl, Option.some.inj hx⟩
          obtain ⟨b, rfl, hb⟩ := hvx.same S5
          have hlz : us.length < sizeLine := small1000 (by rw [List.length_map] at rl; omega)
          refine ⟨rfl, _, rfl, b, lkV l, rfl, ?_⟩
          rcases hb with hb | hb
          · refine .inl ⟨SqL.of hb, fun q hq => ⟨us, by rw [upd_ne (ne_of_none hD5 hq)]; exact hD5, hlz, us ++ [.ref q], upd_same, by simp [hlen], ?_, fun b' o e => ?_⟩⟩
            · rw [take_snoc hl0]
              have nlD : q ≠ D := Ne.symm (ne_of_none hD5 hq)
              refine Paired.appendP (Paired.impP (fun _ _ ⟨b', e1, e2⟩ => ⟨b', e1, ?_⟩) hp5) (.cons ⟨q, rfl, by rw [upd_ne nlD]; exact upd_same⟩ .nil)
              rw [upd_ne (ne_of e2 hD5 (fun z => nomatch z)), upd_ne (ne_of_none e2 hq)]
              exact e2
            · rw [upd_ne (ne_of_none e hD), upd_ne (ne_of_none (S5 _ _ e) hq)]
              exact S5 _ _ e
          · refine .inr ⟨SqT.of hb, us, hD5, hlz, us ++ [.ref b], upd_same, by simp [hlen], ?_, fun b' o e => ?_⟩
            · rw [take_snoc hl0]
              have nbD : b ≠ D := ne_of hb hD5 (fun z => nomatch z)
              refine Paired.appendP (Paired.impP (fun _ _ ⟨b', e1, e2⟩ => ⟨b', e1, ?_⟩) hp5) (.cons ⟨b, rfl, by rw [upd_ne nbD]; exact hb⟩ .nil)
              rw [upd_ne (ne_of e2 hD5 (fun z => nomatch z))]
              exact e2
            · rw [upd_ne (ne_of_none e hD)]
              exact S5 _ _ e
        · rintro H5 ⟨us, hD5, hlen, hp5, S5⟩
          rw [List.take_of_length_le (by rw [lw, List.length_map]; exact Nat.le_refl _)] at hp5
          refine ⟨D, us, rfl, .inl ⟨SqL.of hD5, fun t ht => ?_⟩⟩
          have hs5 := S5 _ _ (self4 (.ins (cl "System") dx [("count", .int c)]))
          have npt : p ≠ t := ne_of_none hs5 ht
          refine ⟨_, rfl, p, _, dx, _, rfl, (upd_ne npt).trans hs5, T.cl_System, T.na_System _ (by decide), (by show 1 < 1000; decide), ?_⟩
          have stay : ∀ b u, H5 b = some u → b ≠ p → ∀ o, (upd (upd H5 t (.tup us)) p o) b = some u := fun b u e n o => (upd_ne n).trans ((upd_ne (ne_of_none e ht)).trans e)
          exact good c ls t us _ rfl rfl un (fun b u e n => stay _ _ (S5 _ _ (B4 _ _ _ e n)) n _) ⟨⟨dx, upd_same⟩, (upd_ne (Ne.symm npt)).trans upd_same, Paired.impP (fun _ _ ⟨b', e1, e2⟩ => ⟨b', e1, stay _ _ e2 (ne_of e2 hs5 (fun z => nomatch z)) _⟩) hp5⟩
theorem cal_System_init (T : Txt P w K mg cl) : CalC P w K mg base (L2.CX P w) 4 (cl "System") ["self", "count", "links"] (spSys K (cl "System") (cl "BadSystem")) := by
  obtain ⟨f, fd, F, m⟩ := T.i_System
  exact ⟨f, fd, ok_System_init F T, m, HeM.FunV.binds F fun _ _ _ _ _ _ _ us its hl hi => match us, its, hl, hi with | [_, _, _], [_], _, _ => ⟨_, rfl, rfl⟩⟩
end
end My
set_option Elab.async false
set_option linter.all false
set_option maxRecDepth 100000
set_option maxHeartbeats 1000000
namespace My
open PySem L2 Dw Wp
open C8 (pss_cut tCut)
set_option pp.maxSteps 600
/-! whole numbers in a list or tuple; links in a tuple -/
def IsAt (H : Hp) (a : Addr) (ns : List Int) : Prop := H a = some (.lst (ns.map V.int)) ∨ H a = some (.tup (ns.map V.int))
theorem IsAt.same {H H' : Hp} {a : Addr} {ns : List Int} (h : IsAt H a ns) (S : Same H H') : IsAt H' a ns := h.imp (S _ _) (S _ _)
def LsT (H : Hp) (t : Addr) (us : List V) (ls : List Lk) : Prop := H t = some (.tup us) ∧ Paired (LkT H) us ls
theorem LsT.same {H H' : Hp} {t : Addr} {us : List V} {ls : List Lk} (h : LsT H t us ls) (S : Same H H') : LsT H' t us ls := ⟨S _ _ h.1, Paired.impP (fun _ _ ⟨b, q1, q2⟩ => ⟨b, q1, S _ _ q2⟩) h.2⟩
theorem is_at {ns : List Int} {j : Nat} {x : Int} (h : ns[j]? = some x) : (ns.map V.int)[j]? = some (.int x) := by rw [List.getElem?_map, h]; rfl
def spKeep : Sp := fun vs H Q _ => ∃ (a b : Addr) (ns : List Int) (i j : Nat) (x y m : Int), vs = [.ref a, .ref b] ∧ IsAt H a ns ∧ H b = some (.tup (lkV ((i : Int), (j : Int), m))) ∧ ns[i]? = some x ∧ ns[j]? = some y ∧ Q (.bl (decide (x - y ≤ m))) H
section
variable {P : Program} {w : World} {K : PySem.W.Frag} {mg : Str → Option Value} {base : Heap} {cl : String → Addr}
theorem ok_keeps_link {f : Addr} {fd : FuncData} (F : Fun K "keeps_link" "keeps_link" s_keeps_link f fd) (T : Txt P w K mg cl) : FnOk P w K mg base CX0 1 f fd ["times", "link"] spKeep := by
  refine F.ok sc_keeps_link (fun vs H Q E h => ?_) (fun cdv A outer s H vs Q E hr h => ?_)
  · obtain ⟨a, b, ns, i, j, x, y, m, rfl, _⟩ := h
    rfl
  · obtain ⟨a, b, ns, i, j, x, y, m, rfl, ha, hb, hx, hy, k⟩ := h
    refine ⟨_, (pss_cons (ps_asg (pv 1) (pg_tup rfl (pgs_cons (pg_name (i := 2) sc_keeps_link.nd rfl (Or.inl rfl)) (pgs_cons (pg_name (i := 3) sc_keeps_link.nd rfl (Or.inl rfl)) (pgs_cons (pg_name (i := 4) sc_keeps_link.nd rfl (Or.inl rfl)) pgs_nil)))))
        (pss_one (ps_ret (pe_cmpR op_le (pe_op op_sub (pe_ix ix_either (pv 0) (pv 2) (fun _ _ => rfl)) (pe_ix ix_either (pv 0) (pv 3) (fun _ _ => rfl))) (pv 4) (nomark _))))), ?_⟩
    refine ⟨_, rfl, b, _, rfl, SqT.of hb, rfl, _, _, rfl, _, _, rfl, _, _, rfl, rfl, ?_⟩
    refine ⟨_, rfl, _, rfl, ixOr ha (j := i) (is_at hx) ⟨_, rfl, _, rfl, ixOr ha (j := j) (is_at hy) ⟨_, _, rfl, rfl, _, rfl, _, _, rfl, rfl, k⟩⟩⟩
theorem cal_keeps_link (T : Txt P w K mg cl) : Cal P w K mg base CX0 1 "keeps_link" ["times", "link"] (spKeep) := by
  obtain ⟨f, fd, F, m⟩ := T.d_keeps_link
  exact ⟨f, fd, ok_keeps_link F T, m, F.kp, F.binds fun _ _ _ _ _ _ us hl => match us, hl with | [_, _], _ => rfl⟩
end
end My
set_option Elab.async false
set_option linter.all false
set_option maxRecDepth 100000
set_option maxHeartbeats 1000000
namespace My
open PySem L2 Dw Wp
open C8 (pss_cut tCut)
set_option pp.maxSteps 600
def isIx (n : Nat) (i : Int) : Bool := decide (0 ≤ i) && decide (i < (n : Int))
def ixF (n : Nat) : V → Option V
  | .int i => if isIx n i = true then none else some (.int i)
  | _ => none
theorem ix_all (n : Nat) : ∀ is : List Int, ((is.map V.int).filterMap (ixF n)).isEmpty = is.all (isIx n)
  | [] => rfl
  | i :: is => by
    have ih := ix_all n is
    rw [List.map_cons]
    cases h : isIx n i with
    | true => rw [List.filterMap_cons_none (show ixF n (.int i) = none from if_pos h), List.all_cons, h, Bool.true_and]; exact ih
    | false => rw [List.filterMap_cons_some (show ixF n (.int i) = some (.int i) from if_neg (by rw [h]; decide)), List.all_cons, h]; rfl
def spAre : Sp := fun vs H Q _ => ∃ (t a : Addr) (us : List V) (ls : List Lk) (is : List Int), vs = [.ref t, .ref a] ∧ LsT H t us ls ∧ ls.length ≤ 900 ∧ IsAt H a is ∧ is.length ≤ 900 ∧ ∀ H', Same H H' → Q (.bl (is.all (isIx ls.length))) H'
def sumO (ls : List Lk) (is : List Nat) : Int := (is.map fun i => (ls[i]?.map fun l => l.2.2).getD 0).sum
def spSum : Sp := fun vs H Q _ => ∃ (t a : Addr) (us : List V) (ls : List Lk) (is : List Nat), vs = [.ref t, .ref a] ∧ LsT H t us ls ∧ IsAt H a (is.map fun (i : Nat) => (i : Int)) ∧ is.length ≤ 900 ∧ (∀ i ∈ is, i < ls.length) ∧ ∀ H', Same H H' → Q (.int (sumO ls is)) H'
section
variable {P : Program} {w : World} {K : PySem.W.Frag} {mg : Str → Option Value} {base : Heap} {cl : String → Addr}
theorem ok_are_indexes {f : Addr} {fd : FuncData} (F : Fun K "are_indexes" "are_indexes" s_are_indexes f fd) (T : Txt P w K mg cl) : FnOk P w K mg base CX0 2 f fd ["links", "path"] spAre := by
  refine F.ok sc_are_indexes (fun vs H Q E h => ?_) (fun cdv A outer s H vs Q E hr h => ?_)
  · obtain ⟨t, a, us, ls, is, rfl, _⟩ := h
    rfl
  · obtain ⟨t, a, us, ls, is, rfl, hL, ln, ha, le, k⟩ := h
    have C_is_integer : Cal P w K mg base CX0 1 "is_integer" _ (spIsI K) := cal_is_integer T
    refine ⟨_, (pss_one (ps_ret (pe_notT (pe_lc (own := [("index", 2)]) (g := gName 2)  rfl sc_are_indexes.nd (pi_seq (pv 1)) (blkOk_by (own := [("index", 2)]) (N := ["links", "path", "index"]) (sc := defScope s_are_indexes) (by decide +kernel)) (fun _ _ _ _ _ => pg_name (i := 2) sc_are_indexes.nd rfl (Or.inl rfl)) (fun _ _ _ _ _ => pts_one (PW.pt (pw_or (pt_not (pt_val (pe_cal C_is_integer (hr.mono (by decide)) (pa_cons (pv 2) pa_nil)))) (pw_or1 (pt_not (pt_chain op_le op_lt pe_int (pv 2) (pe_callB (call_len_seqK (K := K) rfl) (by rfl) T.n_len PySem.boot_len (pa_cons (pv 0) pa_nil)))))))) (fun _ _ _ _ _ => (pv 2)))))), ?_⟩
    have keep : ∀ {D : Addr} {o : HO}, H D = none → upd H D o a = H a := fun {D o} nD => by
      rcases ha with h | h <;> exact upd_ne (ne_of_none h nD)
    have lu := hL.2.length
    refine ⟨_, rfl, a, is.map V.int, rfl, ha, fun J wk D nD => lc_it wk (PvF H D (is.map V.int) (ixF ls.length)) rfl (fun i H'' _ q => by rw [q]; exact keep nD) ?_ ?_⟩
    · rintro j x H2 H3 hi rfl ⟨rfl, hx⟩
      rw [List.getElem?_map] at hx
      obtain ⟨i, hi2, rfl⟩ : ∃ i, is[j]? = some i ∧ V.int i = x := by
        cases e : is[j]? with
        | none => rw [e] at hx; cases hx
        | some i => rw [e] at hx; exact ⟨i, rfl, Option.some.inj hx⟩
      have hx2 : (is.map V.int)[j]? = some (.int i) := is_at hi2
      have hz : (is.map V.int).length < sizeLine := small1000 (by rw [List.length_map]; omega)
      have hL := hL.same (sNew (o := .lst (((is.map V.int).take j).filterMap (ixF ls.length))) nD)
      refine ⟨rfl, _, rfl, _, _, rfl, (.int i : Dm K _ (.int i) "int"), _, rfl, iteF ?_⟩
      refine ⟨_, rfl, _, _, rfl, rfl, _, rfl, ?_⟩
      refine ite2 (fun h1 => ?_) (fun h1 => ?_)
      · refine ⟨_, rfl, t, us, rfl, .inr (SqT.of hL.1), _, _, rfl, rfl, _, rfl, ?_⟩
        rw [lu]
        cases h2 : decide (i < (ls.length : Int)) with
        | true => exact iteF (fm_skip hx2 (show (if isIx ls.length i = true then none else some (V.int i)) = none from if_pos (by unfold isIx; rw [h1, h2]; rfl)))
        | false => exact iteT ⟨_, rfl, fm_put hx2 (show (if isIx ls.length i = true then none else some (V.int i)) = some (V.int i) from if_neg (by unfold isIx; rw [h1, h2]; decide)) hz⟩
      · exact ⟨_, rfl, iteT ⟨_, rfl, fm_put hx2 (show (if isIx ls.length i = true then none else some (V.int i)) = some (V.int i) from if_neg (by unfold isIx; rw [Bool.eq_false_iff.mpr h1]; simp)) hz⟩⟩
    · intro H' q
      obtain rfl := fm_end q
      have k := k _ (sNew (o := .lst ((is.map V.int).filterMap (ixF ls.length))) nD)
      rw [← ix_all] at k
      refine ⟨_, .inl ⟨_, SqL.of upd_same, rfl⟩, ?_⟩
      rw [Bool.not_not]
      exact k
theorem cal_are_indexes (T : Txt P w K mg cl) : Cal P w K mg base CX0 2 "are_indexes" ["links", "path"] (spAre) := by
  obtain ⟨f, fd, F, m⟩ := T.d_are_indexes
  exact ⟨f, fd, ok_are_indexes F T, m, F.kp, F.binds fun _ _ _ _ _ _ us hl => match us, hl with | [_, _], _ => rfl⟩
theorem ok_sum_of {f : Addr} {fd : FuncData} (F : Fun K "sum_of" "sum_of" s_sum_of f fd) (T : Txt P w K mg cl) : FnOk P w K mg base CX0 1 f fd ["links", "path"] spSum := by
  refine F.ok sc_sum_of (fun vs H Q E h => ?_) (fun cdv A outer s H vs Q E hr h => ?_)
  · obtain ⟨t, a, us, ls, is, rfl, _⟩ := h
    rfl
  · obtain ⟨t, a, us, ls, is, rfl, hL, ha, le, hix, k⟩ := h
    refine ⟨_, (pss_one (ps_ret (pe_callB (cr_sum rfl) (by rfl) T.n_sum (by decide +kernel) (pa_cons (pe_lc (own := [("index", 2)]) (g := gName 2) (tt := tYes) rfl sc_sum_of.nd (pi_seq (pv 1)) (blkOk_by (own := [("index", 2)]) (N := ["links", "path", "index"]) (sc := defScope s_sum_of) (by decide +kernel)) (fun _ _ _ _ _ => pg_name (i := 2) sc_sum_of.nd rfl (Or.inl rfl)) (fun _ _ _ _ _ => pts_nil) (fun _ _ _ _ _ => (pe_ix (ix_tupK (K := K) rfl) (pe_ix (ix_tupK (K := K) rfl) (pv 0) (pv 2) (fun _ _ => rfl)) pe_int (fun _ _ => rfl)))) pa_nil)))), ?_⟩
    have keep : ∀ {D : Addr} {o : HO}, H D = none → upd H D o a = H a := fun {D o} nD => by
      rcases ha with h | h <;> exact upd_ne (ne_of_none h nD)
    let g : Nat → Int := fun i => (ls[i]?.map fun l => l.2.2).getD 0
    refine ⟨_, rfl, a, (is.map fun (i : Nat) => (i : Int)).map V.int, rfl, ha, fun J wk D nD => lc_it wk (fun j H' => H' = upd H D (.lst (((is.take j).map g).map V.int))) rfl (fun i H'' _ q => by rw [q]; exact keep nD) ?_ ?_⟩
    · rintro j x H2 H3 hi rfl ⟨rfl, hx⟩
      rw [List.getElem?_map, List.getElem?_map] at hx
      obtain ⟨i, hi2, rfl⟩ : ∃ i, is[j]? = some i ∧ V.int (i : Nat) = x := by
        cases e : is[j]? with
        | none => rw [e] at hx; cases hx
        | some i => rw [e] at hx; exact ⟨i, rfl, Option.some.inj hx⟩
      have hl := hix i (List.mem_of_getElem? hi2)
      have hL := hL.same (sNew (o := .lst (((is.take j).map g).map V.int)) nD)
      obtain ⟨v, hv, b, rfl, hb⟩ := Paired.at' (i := i) (y := ls[i]) hL.2 (List.getElem?_eq_getElem hl)
      refine ⟨rfl, _, rfl, _, rfl, t, _, _, _, rfl, rfl, SqT.of hL.1, atI_nat hv, b, _, _, _, rfl, rfl, SqT.of hb, atI_nat (j := 2) rfl, ?_⟩
      refine ⟨_, upd_same, small1000 (by rw [List.length_map, List.length_map, List.length_take]; omega), ?_⟩
      rw [upd_upd, take_snoc hi2, List.map_append, List.map_append]
      show _ = upd H D (.lst (_ ++ [V.int (g i)]))
      rw [show g i = ls[i].2.2 by show (ls[i]?.map fun l => l.2.2).getD 0 = _; rw [List.getElem?_eq_getElem hl]; rfl]
    · intro H' q
      rw [List.length_map, List.length_map, List.take_length] at q
      subst q
      exact ⟨D, is.map g, rfl, SqL.of upd_same, k _ (sNew nD)⟩
theorem cal_sum_of (T : Txt P w K mg cl) : Cal P w K mg base CX0 1 "sum_of" ["links", "path"] (spSum) := by
  obtain ⟨f, fd, F, m⟩ := T.d_sum_of
  exact ⟨f, fd, ok_sum_of F T, m, F.kp, F.binds fun _ _ _ _ _ _ us hl => match us, hl with | [_, _], _ => rfl⟩
end
end My
set_option Elab.async false
set_option linter.all false
set_option maxRecDepth 100000
set_option maxHeartbeats 1000000
namespace My
open PySem L2 Dw Wp
open C8 (pss_cut tCut)
set_option pp.maxSteps 600
/-- a maker without a field -/
def spIni0 (C : Addr) : Sp := fun vs H Q _ => ∃ a : Addr, vs = [.ref a] ∧ H a = some (exo a C none) ∧ Q .non H
/-- a thing handed in as times -/
def TsAt (K : PySem.W.Frag) (H : Hp) (v : V) : Option (List V) → Prop
  | some xs => ∃ r, v = .ref r ∧ (H r = some (.lst xs) ∨ H r = some (.tup xs)) ∧ (∀ x ∈ xs, ∃ n, Dm K H x n) ∧ xs.length ≤ 900
  | none => NotLT K H v
theorem TsAt.same {K : PySem.W.Frag} {H H' : Hp} {v : V} {to : Option (List V)} (h : TsAt K H v to) (S : Same H H') : TsAt K H' v to := by
  cases to with
  | none => exact fun H2 S2 => h H2 (S.trans S2)
  | some xs =>
    obtain ⟨r, e, h1, h2, h3⟩ := h
    exact ⟨r, e, h1.imp (S _ _) (S _ _), fun x hx => (h2 x hx).imp fun n d => d.same S, h3⟩
def tmsB (c : Int) : Option (List V) → Bool
  | none => false
  | some xs => decide ((xs.length : Int) = c) && xs.all isI
def spTms (K : PySem.W.Frag) : Sp := fun vs H Q _ => ∃ (v : V) (to : Option (List V)) (c : Int), vs = [v, .int c] ∧ TsAt K H v to ∧ ∀ H', Same H H' → Q (.bl (tmsB c to)) H'
section
variable {P : Program} {w : World} {K : PySem.W.Frag} {mg : Str → Option Value} {base : Heap} {cl : String → Addr}
theorem oki0_BadTimes {f : Addr} {fd : FuncData} (F : Fun K "__init__" "BadTimes.__init__" s_BadTimes_init f fd) (T : Txt P w K mg cl) : FnOk P w K mg base CX0 1 f fd ["self"] (spIni0 (cl "BadTimes")) := by
  refine F.ok sc_BadTimes_init (fun vs H Q E h => ?_) (fun cdv A outer s H vs Q E hr h => ?_)
  · obtain ⟨a, rfl, _⟩ := h
    rfl
  · obtain ⟨a, rfl, ha, k⟩ := h
    refine ⟨_, (pss_one (ps_expr (pe_deinit T.cr T.vi T.m_DeedError (pa_cons (pv 0) (pa_cons pe_str pa_nil))))), ?_⟩
    exact ⟨_, rfl, a, cl "BadTimes", [.str _], rfl, by decide, T.o_BadTimes, ha, k⟩
theorem ini0_BadTimes (T : Txt P w K mg cl) : CalO P w K mg base 1 (cl "BadTimes") ["self"] (spIni0 (cl "BadTimes")) := by
  obtain ⟨f, fd, F, h1, h2⟩ := T.i_BadTimes
  exact ⟨T.o_BadTimes, f, fd, oki0_BadTimes F T, h1, h2, F.binds fun _ _ _ _ _ _ us hl => match us, hl with | [_], _ => rfl⟩
theorem ok_are_times {f : Addr} {fd : FuncData} (F : Fun K "are_times" "are_times" s_are_times f fd) (T : Txt P w K mg cl) : FnOk P w K mg base CX0 2 f fd ["thing", "count"] (spTms K) := by
  refine F.ok sc_are_times (fun vs H Q E h => ?_) (fun cdv A outer s H vs Q E hr h => ?_)
  · obtain ⟨v, to, c, rfl, _⟩ := h
    rfl
  · obtain ⟨v, to, c, rfl, hv, k⟩ := h
    have C_is_integer : Cal P w K mg base CX0 1 "is_integer" _ (spIsI K) := cal_is_integer T
    refine ⟨_, (pss_cons (ps_if (PW.pt (pw_or (pt_not (pt_val (pe_callB call_isiT (by rfl) T.n_isinstance (by decide +kernel) (pa_cons (pv 0) (pa_cons (pe_tup (pa_cons (pe_ty "list" T.n_list) (pa_cons (pe_ty "tuple" T.n_tuple) pa_nil))) pa_nil))))) (pw_or1 (pt_cmpR op_ne (pe_callB call_len_seq (by rfl) T.n_len PySem.boot_len (pa_cons (pv 0) pa_nil)) (pv 1) (nomark _)))))
          (pss_one (ps_ret pe_bl)) pss_nil)
        (pss_one (ps_ret (pe_notT (pe_lc (own := [("time", 2)]) (g := gName 2)  rfl sc_are_times.nd (pi_seq (pv 0)) (blkOk_by (own := [("time", 2)]) (N := ["thing", "count", "time"]) (sc := defScope s_are_times) (by decide +kernel)) (fun _ _ _ _ _ => pg_name (i := 2) sc_are_times.nd rfl (Or.inl rfl)) (fun _ _ _ _ _ => pts_one (pt_not (pt_val (pe_cal C_is_integer (hr.mono (by decide)) (pa_cons (pv 2) pa_nil))))) (fun _ _ _ _ _ => (pv 2))))))), ?_⟩
    refine ⟨_, rfl, by show 2 ≤ sizeLine; decide, fun tp htp => ?_⟩
    have S0 := sNew (o := .tup [.ty "list", .ty "tuple"]) htp
    cases to with
    | none =>
      obtain ⟨ty, d1, d2⟩ := hv _ S0
      exact ⟨v, tp, _, ty, _, _, rfl, upd_same, .cons (.ty "list") (.cons (.ty "tuple") .nil), d1, d2, _, rfl, iteT (iteT (k _ S0))⟩
    | some xs =>
      obtain ⟨r, rfl, hb, dm, le⟩ := hv.same S0
      obtain ⟨ty, d1, d2⟩ : ∃ t, TyX K (upd H tp (.tup [.ty "list", .ty "tuple"])) (.ref r) t ∧ PySem.W.kitAny K t [.type "list", .type "tuple"] = some true := by
        rcases hb with h | h
        · exact ⟨_, (Dm.lst h : Dm K _ (.ref r) "list").ty, isLT (.lst h)⟩
        · exact ⟨_, (Dm.tup h : Dm K _ (.ref r) "tuple").ty, isLT (.tup h)⟩
      refine ⟨_, tp, _, ty, _, _, rfl, upd_same, .cons (.ty "list") (.cons (.ty "tuple") .nil), d1, d2, _, rfl, iteF ?_⟩
      generalize upd H tp (.tup [.ty "list", .ty "tuple"]) = H1 at S0 hb dm d1
      refine ⟨_, rfl, r, xs, rfl, hb.imp SqL.of SqT.of, _, rfl, rfl, _, rfl, ?_⟩
      have e0 : tmsB c (some xs) = (decide ((xs.length : Int) = c) && xs.all isI) := rfl
      rw [e0] at k
      refine ite2 (fun g => ?_) (fun g => ?_)
      · have g : ¬ (xs.length : Int) = c := fun e => by rw [e] at g; simp at g
        rw [decide_eq_false g] at k
        exact k _ S0
      have g : (xs.length : Int) = c := by
        simp only [Bool.not_eq_true', decide_eq_false_iff_not, Decidable.not_not] at g
        exact V.int.inj g
      rw [decide_eq_true g, Bool.true_and] at k
      have keep : ∀ {D : Addr} {o : HO}, H1 D = none → upd H1 D o r = H1 r := fun {D o} nD => by
        rcases hb with h | h <;> exact upd_ne (ne_of_none h nD)
      refine ⟨_, rfl, r, xs, rfl, hb, fun J wk D nD => lc_it wk (PvF H1 D xs oddF) rfl (fun i H'' _ q => by rw [q]; exact keep nD) ?_ ?_⟩
      · rintro i x H2 H3 hi rfl ⟨rfl, hx⟩
        obtain ⟨tn, dn⟩ := dm x (List.mem_of_getElem? hx)
        refine ⟨rfl, _, rfl, x, tn, rfl, dn.same (sNew nD), _, rfl, ?_⟩
        refine ite2 (fun h => ?_) (fun h => ?_)
        · exact ⟨_, rfl, fm_put hx (if_neg (by simpa using h)) (small1000 (by omega))⟩
        · exact fm_skip hx (if_pos (by simpa using h))
      · intro H' q
        obtain rfl := fm_end q
        have k := k _ (S0.trans (sNew (o := .lst (xs.filterMap oddF)) nD))
        rw [← odd_all] at k
        refine ⟨_, .inl ⟨_, SqL.of upd_same, rfl⟩, ?_⟩
        rw [Bool.not_not]
        exact k
theorem cal_are_times (T : Txt P w K mg cl) : Cal P w K mg base CX0 2 "are_times" ["thing", "count"] (spTms K) := by
  obtain ⟨f, fd, F, m⟩ := T.d_are_times
  exact ⟨f, fd, ok_are_times F T, m, F.kp, F.binds fun _ _ _ _ _ _ us hl => match us, hl with | [_, _], _ => rfl⟩
end
end My
set_option Elab.async false
set_option linter.all false
set_option maxRecDepth 100000
set_option maxHeartbeats 1000000
namespace My
open PySem L2 Dw Wp
open C8 (pss_cut tCut)
set_option pp.maxSteps 600
theorem same_upd {H H' : Hp} {a : Addr} {o : HO} (S : Same H H') (h : H a = none) : Same H (upd H' a o) := fun b u e => by rw [upd_ne (ne_of_none e h)]; exact S _ _ e
def keepB (ts : List Int) (l : Lk) : Bool := decide ((ts[l.1.toNat]?.getD 0) - (ts[l.2.1.toNat]?.getD 0) ≤ l.2.2)
def brkTo (ls : List Lk) (ts : List Int) (n : Nat) : List Nat := (List.range n).filter fun i => !((ls[i]?.map (keepB ts)).getD true)
theorem brkTo_succ {ls : List Lk} {ts : List Int} {i : Nat} {l : Lk} (h : ls[i]? = some l) : brkTo ls ts (i + 1) = brkTo ls ts i ++ (if keepB ts l = true then [] else [i]) := by
  unfold brkTo
  rw [List.range_succ, List.filter_append]
  congr 1
  cases e : keepB ts l <;> simp [h, e]
def brk (ls : List Lk) (ts : List Int) : List Nat := brkTo ls ts ls.length
def spBrk (K : PySem.W.Frag) (C CT : Addr) : Sp := fun vs H Q E => ∃ (p t : Addr) (c : Int) (us : List V) (ls : List Lk) (v : V) (to : Option (List V)), vs = [.ref p, v] ∧ SyAt C H p c t us ls ∧ (∀ l ∈ ls, LkOk c l) ∧ ls.length ≤ 900 ∧ TsAt K H v to ∧
  (tmsB c to = false → ∀ G, Same H G → E (.ref CT) none G) ∧
  (∀ ts : List Int, to = some (ts.map V.int) → (ts.length : Int) = c → ∀ t' H', Same H H' → H' t' = some (.tup ((brk ls ts).map fun (i : Nat) => V.int i)) → Q (.ref t') H')
theorem tms_ints {c : Int} {to : Option (List V)} (h : tmsB c to = true) : ∃ ts : List Int, to = some (ts.map V.int) ∧ (ts.length : Int) = c := by
  cases to with
  | none => cases h
  | some xs =>
    have h : (decide ((xs.length : Int) = c) && xs.all isI) = true := h
    obtain ⟨h1, h2⟩ := Bool.and_eq_true_iff.mp h
    have go : ∀ xs : List V, xs.all isI = true → ∃ ts : List Int, xs = ts.map V.int := fun xs => by
      induction xs with
      | nil => exact fun _ => ⟨[], rfl⟩
      | cons x xs ih =>
        intro h
        rw [List.all_cons] at h
        obtain ⟨a, b⟩ := Bool.and_eq_true_iff.mp h
        obtain ⟨ts, e⟩ := ih b
        cases x with
        | int i => exact ⟨i :: ts, by rw [e]; rfl⟩
        | _ => cases a
    obtain ⟨ts, rfl⟩ := go xs h2
    refine ⟨ts, rfl, ?_⟩
    have := of_decide_eq_true h1
    rw [List.length_map] at this
    exact this
theorem raise0 {H H1 H0 : Hp} {C : Addr} {E : XK} {X : Cx} (S : Same H H1) (e0 : X.H_0 = H) (R : Raises X (.ref C)) (k : ∀ G, Same H G → E (.ref C) none G) :
    ([] : List V).length ≤ 1000 ∧ ∀ a, H1 a = none → spIni0 C (.ref a :: ([] ++ [])) (upd H1 a (exo a C none)) (fun v H2 => v = .non ∧ ∃ b C', V.ref a = .ref b ∧ H2 b = some (exo b C' none) ∧ Fr0 X.H_0 b ∧ Raises X (.ref C') ∧ E (.ref C') none (delH H2 b)) (fun _ _ _ => False) := by
  refine ⟨by decide, fun a na => ⟨a, rfl, upd_same, rfl, a, C, rfl, upd_same, fun u e => ?_, R, k _ fun b o q => ?_⟩⟩
  · rw [e0] at e
    rw [S _ _ e] at na
    cases na
  · have nb : b ≠ a := ne_of_none (S _ _ q) na
    rw [delH_ne nb, upd_ne nb]
    exact S _ _ q
section
variable {P : Program} {w : World} {K : PySem.W.Frag} {mg : Str → Option Value} {base : Heap} {cl : String → Addr}
theorem ok_System_broken {f : Addr} {fd : FuncData} (F : Fun K "broken" "System.broken" s_System_broken f fd) (T : Txt P w K mg cl) : FnOk P w K mg base (L2.CX P w) 3 f fd ["self", "times"] (spBrk K (cl "System") (cl "BadTimes")) := by
  refine F.okX sc_System_broken (fun vs H Q E h => ?_) (fun cdv A outer s H vs Q E hr h => ?_)
  · obtain ⟨p, t, c, us, ls, v, to, rfl, _⟩ := h
    rfl
  · obtain ⟨p, t, c, us, ls, v, to, rfl, X, lok, le, hv, bad, good⟩ := h
    have C_are_times : Cal P w K mg base CX0 2 "are_times" _ (spTms K) := cal_are_times T
    have C_keeps_link : Cal P w K mg base CX0 1 "keeps_link" _ spKeep := cal_keeps_link T
    refine ⟨_, (pss_cons (ps_if (pt_not (pt_val (pe_cal C_are_times (hr.mono (by decide)) (pa_cons (pv 1) (pa_cons (pe_fld (pv 0) rfl) pa_nil)))))
          (pss_one (ps_raiseO0 rfl rfl (ini0_BadTimes (base := base) T) T.m_BadTimes (hr.mono (by decide)) (takes_of rfl rfl rfl rfl))) pss_nil)
        (pss_one (ps_ret (pe_callTy call_tuple_of (by rfl) T.n_tuple (by decide +kernel) (pa_cons (pe_lc (own := [("index", 2), ("link", 3)]) (g := gTup K 2 (gCons (gName 2) (gCons (gName 3) gNil)))  rfl sc_System_broken.nd (pi_enu2 (by rfl) T.n_enumerate (pa_cons (pe_fld (pv 0) rfl) pa_nil)) (blkOk_by (own := [("index", 2), ("link", 3)]) (N := ["self", "times", "index", "link"]) (sc := defScope s_System_broken) (by decide +kernel)) (fun _ _ _ _ _ => (pg_tup rfl (pgs_cons (pg_name (i := 2) sc_System_broken.nd rfl (Or.inl rfl)) (pgs_cons (pg_name (i := 3) sc_System_broken.nd rfl (Or.inl rfl)) pgs_nil)))) (fun _ _ _ _ _ => pts_one (pt_not (pt_val (pe_cal C_keeps_link (hr.mono (by decide)) (pa_cons (pv 1) (pa_cons (pv 3) pa_nil)))))) (fun _ _ _ _ _ => (pv 2))) pa_nil))))), ?_⟩
    obtain ⟨dx, hself⟩ := X.self
    refine ⟨_, rfl, _, rfl, p, _, _, _, _, rfl, hself, T.cl_System, T.na_System _ (by decide), rfl, v, to, c, rfl, hv, fun H1 S1 => ⟨_, rfl, ?_⟩⟩
    cases hb : tmsB c to with
    | false => exact iteT (raise0 (H0 := H) S1 rfl (raises_own T.o_BadTimes.exC T.o_BadTimes.tyC) (bad hb))
    | true =>
      obtain ⟨ts, rfl, lt⟩ := tms_ints hb
      refine iteF ?_
      have X := X.same S1
      have hself := S1 _ _ hself
      have hv := hv.same S1
      obtain ⟨r, rfl, hr2, _, _⟩ := hv
      refine ⟨_, rfl, p, _, _, _, _, rfl, hself, T.cl_System, T.na_System _ (by decide), rfl, t, us, rfl, .inr X.rows, fun J wk D nD => lc_it wk (fun i H' => H' D = some (.lst ((brkTo ls ts i).map fun (i : Nat) => V.int i)) ∧ Same H1 H') ⟨upd_same, sNew nD⟩ (fun i H' _ q => by rw [q.2 _ _ X.rows]; exact X.rows.symm) ?_ ?_⟩
      · rintro i x H2 H3 hi ⟨hD, S2⟩ ⟨Tt, x1, y1, rfl, hT, rfl, e1, e2⟩
        cases e1
        obtain ⟨l, hl, b, rfl, hb⟩ := Paired.at X.each e2
        have ST := sNew (o := .tup [.int (i : Nat), .ref b]) hT
        have S3 := S2.trans ST
        obtain ⟨⟨a1, a2⟩, a3, a4⟩ := lok l (List.mem_of_getElem? hl)
        have j1 : l.1.toNat < ts.length := by omega
        have j2 : l.2.1.toNat < ts.length := by omega
        have el : lkV ((l.1.toNat : Int), (l.2.1.toNat : Int), l.2.2) = lkV l := by
          unfold lkV
          rw [Int.toNat_of_nonneg a1, Int.toNat_of_nonneg a3]
        have bs := brkTo_succ (ts := ts) hl
        have kb : keepB ts l = decide (ts[l.1.toNat] - ts[l.2.1.toNat] ≤ l.2.2) := by
          unfold keepB
          rw [List.getElem?_eq_getElem j1, List.getElem?_eq_getElem j2]
          rfl
        have li : i < ls.length := (List.getElem?_eq_some_iff.mp hl).1
        refine ⟨Tt, _, rfl, SqT.of upd_same, rfl, _, _, rfl, _, _, rfl, rfl, rfl, _, rfl, _, rfl, r, b, ts, l.1.toNat, l.2.1.toNat, _, _, l.2.2, rfl, (IsAt.same hr2 S3), by rw [el]; exact S3 _ _ hb, List.getElem?_eq_getElem j1, List.getElem?_eq_getElem j2, _, rfl, ?_⟩
        rw [← kb]
        refine ite2 (fun h => ?_) (fun h => ?_)
        · have h : keepB ts l = false := by simpa using h
          rw [h] at bs
          refine ⟨_, rfl, _, ST _ _ hD, small1000 ?_, ?_⟩
          · rw [List.length_map]
            have := List.length_filter_le (fun i => !((ls[i]?.map (keepB ts)).getD true)) (List.range i)
            rw [List.length_range] at this
            unfold brkTo
            omega
          · refine ⟨?_, same_upd S3 nD⟩
            rw [bs, List.map_append]
            exact upd_same
        · have h : keepB ts l = true := by simpa using h
          rw [h] at bs
          refine ⟨?_, S3⟩
          rw [bs]
          simpa using ST _ _ hD
      · rintro H2 ⟨hD, S2⟩
        rw [X.each.length] at hD
        refine ⟨D, _, rfl, .inl ⟨SqL.of hD, fun t' nt => good ts rfl lt t' _ (S1.trans (S2.trans (sNew nt))) upd_same⟩⟩
theorem cal_System_broken (T : Txt P w K mg cl) : CalM P w K mg base (L2.CX P w) 3 (cl "System") "broken" ["self", "times"] (spBrk K (cl "System") (cl "BadTimes")) := by
  obtain ⟨f, fd, F, m⟩ := T.d_System_broken
  exact ⟨f, fd, ok_System_broken F T, m, F.binds fun _ _ _ _ _ _ us hl => match us, hl with | [_, _], _ => rfl⟩
end
end My
set_option Elab.async false
set_option linter.all false
set_option maxRecDepth 100000
set_option maxHeartbeats 1000000
namespace My
open PySem L2 Dw Wp
open C8 (pss_cut tCut)
set_option pp.maxSteps 600
def lkD (l : Lk) : PyData := sqD false ((lkV l).map vD)
def lksD (ls : List Lk) : PyData := sqD false (ls.map lkD)
theorem lk_okV (l : Lk) : ∀ x ∈ lkV l, okV x = true := fun x hx => by
  rcases (show x = .int l.1 ∨ x = .int l.2.1 ∨ x = .int l.2.2 by simpa [lkV] using hx) with rfl | rfl | rfl <;> rfl
theorem lks_dp {K : PySem.W.Frag} {H : Hp} : ∀ {us : List V} {ls : List Lk}, Paired (LkT H) us ls → DpAll K H us (ls.map lkD)
  | _, _, .nil => .nil
  | _, _, .cons ⟨b, e, hb⟩ t => by
    subst e
    exact .cons (dp_tup (SqT.of hb) (dpvs fun x hx => okV.flat (lk_okV _ x hx))) (lks_dp t)
theorem lks_fl (ls : List Lk) : ∀ d ∈ ls.map lkD, Fl1 d := fun d hd => by
  obtain ⟨l, _, rfl⟩ := List.mem_map.mp hd
  exact fl_row false (lk_okV l)
theorem lksD_self (ls : List Lk) : PyData.eqv (lksD ls) (lksD ls) = true := sqD_self false fun d hd => by
  obtain ⟨l, _, rfl⟩ := List.mem_map.mp hd
  exact row_self false _
theorem eqv_nilV (xs : List V) : PyData.eqv (sqD false (xs.map vD)) (sqD false []) = xs.isEmpty := by
  cases xs <;> simp [sqD, PyData.eqv, PyData.eqvAll]
def spKps (K : PySem.W.Frag) (C CT : Addr) : Sp := fun vs H Q E => ∃ (p t : Addr) (c : Int) (us : List V) (ls : List Lk) (v : V) (to : Option (List V)), vs = [.ref p, v] ∧ SyAt C H p c t us ls ∧ (∀ l ∈ ls, LkOk c l) ∧ ls.length ≤ 900 ∧ TsAt K H v to ∧
  (tmsB c to = false → ∀ G, Same H G → E (.ref CT) none G) ∧
  (∀ ts : List Int, to = some (ts.map V.int) → (ts.length : Int) = c → ∀ H', Same H H' → Q (.bl (brk ls ts).isEmpty) H')
def spLenS (C : Addr) : Sp := fun vs H Q _ => ∃ (p t : Addr) (c : Int) (us : List V) (ls : List Lk), vs = [.ref p] ∧ SyAt C H p c t us ls ∧ Q (.int ls.length) H
def spSyEq (K : PySem.W.Frag) (C : Addr) : Sp := fun vs H Q _ => ∃ (p t : Addr) (c : Int) (us : List V) (ls : List Lk) (o : V), vs = [.ref p, o] ∧ SyAt C H p c t us ls ∧
  ((∃ (q t' : Addr) (c' : Int) (us' : List V) (ls' : List Lk), o = .ref q ∧ SyAt C H q c' t' us' ls' ∧ Q (.bl (decide (c = c') && PyData.eqv (lksD ls) (lksD ls'))) H) ∨ ((∃ n, Dm K H o n) ∧ Q (.bl false) H))
section
variable {P : Program} {w : World} {K : PySem.W.Frag} {mg : Str → Option Value} {base : Heap} {cl : String → Addr}
theorem ok_System_keeps {f : Addr} {fd : FuncData} (F : Fun K "keeps" "System.keeps" s_System_keeps f fd) (T : Txt P w K mg cl) : FnOk P w K mg base (L2.CX P w) 4 f fd ["self", "times"] (spKps K (cl "System") (cl "BadTimes")) := by
  refine F.okX sc_System_keeps (fun vs H Q E h => ?_) (fun cdv A outer s H vs Q E hr h => ?_)
  · obtain ⟨p, t, c, us, ls, v, to, rfl, _⟩ := h
    rfl
  · obtain ⟨p, t, c, us, ls, v, to, rfl, X, lok, le, hv, bad, good⟩ := h
    have C_System_broken : CalM P w K mg base (L2.CX P w) 3 (cl "System") "broken" _ (spBrk K (cl "System") (cl "BadTimes")) := cal_System_broken T
    refine ⟨_, (pss_one (ps_ret (pe_cmpR (op_eqD hr.units) (pe_mthS T.cl_System C_System_broken (hr.mono (by decide)) (pv 0) (fun σ => passAt (takes_of rfl rfl rfl rfl) σ) (pa_cons (pv 1) pa_nil)) (pe_tup pa_nil) (nomark _)))), ?_⟩
    obtain ⟨dx, hself⟩ := X.self
    refine ⟨_, rfl, p, _, _, rfl, hself, rfl, _, rfl, p, t, c, us, ls, v, to, rfl, X, lok, le, hv, bad, fun ts e lt t' H1 S1 ht => ?_⟩
    have okI : ∀ x ∈ (brk ls ts).map fun (i : Nat) => V.int i, okV x = true := fun x hx => by
      obtain ⟨i, _, rfl⟩ := List.mem_map.mp hx
      rfl
    refine ⟨by show 0 ≤ sizeLine; exact Nat.zero_le _, fun q nq => ?_⟩
    have S2 := sNew (o := .tup []) nq
    refine ⟨_, _, dp_tup (SqT.of (S2 _ _ ht)) (dpvs fun x hx => okV.flat (okI x hx)), dp_tup (SqT.of upd_same) .nil, row_shaped false okI, row_shaped (xs := []) false (by simp), ?_⟩
    rw [eqv_nilV, show ((brk ls ts).map fun (i : Nat) => V.int i).isEmpty = (brk ls ts).isEmpty by cases brk ls ts <;> rfl]
    exact good ts e lt _ (S1.trans S2)
theorem cal_System_keeps (T : Txt P w K mg cl) : CalM P w K mg base (L2.CX P w) 4 (cl "System") "keeps" ["self", "times"] (spKps K (cl "System") (cl "BadTimes")) := by
  obtain ⟨f, fd, F, m⟩ := T.d_System_keeps
  exact ⟨f, fd, ok_System_keeps F T, m, F.binds fun _ _ _ _ _ _ us hl => match us, hl with | [_, _], _ => rfl⟩
theorem ok_System_len {f : Addr} {fd : FuncData} (F : Fun K "__len__" "System.__len__" s_System_len f fd) (T : Txt P w K mg cl) : FnOk P w K mg base CX0 1 f fd ["self"] (spLenS (cl "System")) := by
  refine F.ok sc_System_len (fun vs H Q E h => ?_) (fun cdv A outer s H vs Q E hr h => ?_)
  · obtain ⟨p, t, c, us, ls, rfl, _⟩ := h
    rfl
  · obtain ⟨p, t, c, us, ls, rfl, X, k⟩ := h
    refine ⟨_, (pss_one (ps_ret (pe_callB call_len_seq (by rfl) T.n_len PySem.boot_len (pa_cons (pe_fld (pv 0) rfl) pa_nil)))), ?_⟩
    obtain ⟨dx, hself⟩ := X.self
    rw [← X.each.length] at k
    exact ⟨_, rfl, p, _, _, _, _, rfl, hself, T.cl_System, T.na_System _ (by decide), rfl, t, us, rfl, .inr (SqT.of X.rows), k⟩
theorem cal_System_len (T : Txt P w K mg cl) : CalM P w K mg base CX0 1 (cl "System") "__len__" ["self"] (spLenS (cl "System")) := by
  obtain ⟨f, fd, F, m⟩ := T.d_System_len
  exact ⟨f, fd, ok_System_len F T, m, F.binds fun _ _ _ _ _ _ us hl => match us, hl with | [_], _ => rfl⟩
theorem ok_System_iter {f : Addr} {fd : FuncData} (F : Fun K "__iter__" "System.__iter__" s_System_iter f fd) (T : Txt P w K mg cl) : FnN P w K mg base CX0 1 f fd ["self"] (spItT K (cl "System") "links") := by
  refine F.okN sc_System_iter (fun n vs H Q E h => ?_) (fun cdv A outer s H vs Q E hr h => ?_)
  · obtain ⟨a, dx, t, fs, zs, rfl, _⟩ := h
    rfl
  · obtain ⟨a, dx, t, fs, zs, rfl, h1, h2, h3, k⟩ := h
    refine ⟨_, (pss_one (ps_ret (pe_callB call_iterT (by rfl) T.n_iter (by decide +kernel) (pa_cons (pe_fld (pv 0) rfl) pa_nil)))), ?_⟩
    exact ⟨_, rfl, a, _, dx, _, _, rfl, h1, T.cl_System, T.na_System _ (by decide), h2, t, zs, rfl, h3, k⟩
theorem cal_System_iter (T : Txt P w K mg cl) : CalI P w K mg base 1 (cl "System") "links" := by
  obtain ⟨f, fd, F, m⟩ := T.d_System_iter
  exact ⟨f, fd, ok_System_iter F T, m, F.binds fun _ _ _ _ _ _ us hl => match us, hl with | [_], _ => rfl⟩
theorem ok_System_eq {f : Addr} {fd : FuncData} (F : Fun K "__eq__" "System.__eq__" s_System_eq f fd) (T : Txt P w K mg cl) : FnOk P w K mg base CX0 1 f fd ["self", "other"] (spSyEq K (cl "System")) := by
  refine F.ok sc_System_eq (fun vs H Q E h => ?_) (fun cdv A outer s H vs Q E hr h => ?_)
  · obtain ⟨p, t, c, us, ls, o, rfl, _⟩ := h
    rfl
  · obtain ⟨p, t, c, us, ls, o, rfl, X, h⟩ := h
    refine ⟨_, (pss_one (ps_ret (pe_and (pe_callB call_isi (by rfl) T.n_isinstance (by decide +kernel) (pa_cons (pv 1) (pa_cons (pe_cls T.m_System) pa_nil))) (pe_and (pe_cmpR op_eq (pe_fld (pv 0) rfl) (pe_fld (pv 1) rfl) (nomark _)) (pe_one (pe_cmpR (op_eqD hr.units) (pe_fld (pv 0) rfl) (pe_fld (pv 1) rfl) (nomark _))))))), ?_⟩
    obtain ⟨dx, hself⟩ := X.self
    rcases h with ⟨q, t', c', us', ls', rfl, X', k⟩ | ⟨⟨n, dn⟩, k⟩
    · obtain ⟨dx', hself'⟩ := X'.self
      refine ⟨_, rfl, _, _, _, _, _, rfl, .own (cl "System"), .base (.ins hself' T.cl_System T.y_System T.z1 T.z2 T.z3_System), T.k_Sy_Sy, _, rfl, iteT ?_⟩
      refine ⟨_, rfl, p, _, _, _, _, rfl, hself, T.cl_System, T.na_System _ (by decide), rfl, _, rfl, q, _, _, _, _, rfl, hself', T.cl_System, T.na_System _ (by decide), rfl, rfl, ?_⟩
      rw [show decide (V.int c = V.int c') = decide (c = c') from decide_eq_decide.mpr ⟨V.int.inj, congrArg V.int⟩]
      refine ⟨_, rfl, ite2 (fun g => ?_) (fun g => ?_)⟩
      · refine ⟨_, rfl, p, _, _, _, _, rfl, hself, T.cl_System, T.na_System _ (by decide), rfl, _, rfl, q, _, _, _, _, rfl, hself', T.cl_System, T.na_System _ (by decide), rfl, lksD ls, lksD ls', dp_tup (SqT.of X.rows) (lks_dp X.each), dp_tup (SqT.of X'.rows) (lks_dp X'.each), fls_shaped false (lks_fl ls), fls_shaped false (lks_fl ls'), ?_⟩
        rw [g, Bool.true_and] at k
        exact k
      · rw [Bool.eq_false_iff.mpr g, Bool.false_and] at k
        exact k
    · have kt : ∀ m, Dm K H o m → m ∈ ["NoneType", "bool", "int", "str", "list", "tuple"] := fun m x => by cases x <;> decide
      exact ⟨_, rfl, _, _, _, _, _, rfl, .own (cl "System"), dn.ty, T.k_in_Sy n (kt n dn), _, rfl, iteF k⟩
theorem cal_System_eq (T : Txt P w K mg cl) : CalM P w K mg base CX0 1 (cl "System") "__eq__" ["self", "other"] (spSyEq K (cl "System")) := by
  obtain ⟨f, fd, F, m⟩ := T.d_System_eq
  exact ⟨f, fd, ok_System_eq F T, m, F.binds fun _ _ _ _ _ _ us hl => match us, hl with | [_, _], _ => rfl⟩
end
end My
set_option Elab.async false
set_option linter.all false
set_option maxRecDepth 100000
set_option maxHeartbeats 1000000
namespace My
open PySem L2 Dw Wp
open C8 (pss_cut tCut)
set_option pp.maxSteps 600
theorem lks_rd {H : Hp} : ∀ {us : List V} {ls : List Lk}, Paired (LkT H) us ls → Paired (RdAt H) us (ls.map lkR)
  | _, _, .nil => .nil
  | _, _, .cons ⟨b, e, hb⟩ t => .cons ⟨b, e, .inr hb⟩ (lks_rd t)
theorem lkR_ok (l : Lk) : RdOk (lkR l) := ⟨by show 3 ≤ 6; decide, fun x hx => by
  rcases (show x = .int l.1 ∨ x = .int l.2.1 ∨ x = .int l.2.2 by simpa [lkV] using hx) with rfl | rfl | rfl <;> trivial⟩
def spWithI (K : PySem.W.Frag) (C CB : Addr) : Sp := fun vs H Q E => ∃ (p q t : Addr) (c : Int) (us ws : List V) (ls : List Lk) (rs : List Rd), vs = [.ref p, .ref q] ∧ SyAt C H p c t us ls ∧ H q = some (.tup ws) ∧ Paired (RdAt H) ws rs ∧ (∀ x ∈ rs, RdOk x) ∧ ls.length + rs.length ≤ 300 ∧
  (∀ i w G e, sysW (.int c) (some (ls.map lkR ++ rs)) = some (i, w) → Same H G → H e = none → E (.ref CB) (some e) (upd G e (.xd [("what", .str w), ("index", i)]))) ∧
  (∀ p' ls' t' us' H', ls.map lkR ++ rs = ls'.map lkR → sysW (.int c) (some (ls.map lkR ++ rs)) = none → Same H H' → SyAt C H' p' c t' us' ls' → Q (.ref p') H')
def spWith (K : PySem.W.Frag) (C CB : Addr) : Sp := fun vs H Q E => ∃ (p : Addr) (rest : List V), vs = [.ref p] ++ rest ∧ rest.length ≤ sizeLine ∧ ∀ q, H q = none → spWithI K C CB [.ref p, .ref q] (upd H q (.tup rest)) Q E
/-- a system is made -/
theorem mkSys {K : PySem.W.Frag} {H : Hp} {C CB : Addr} {cv lv : V} {n : String} {ro : Option (List Rd)} {E : XK} {Q : Addr → Hp → Prop} (dc : Dm K H cv n) (hl : LsAt K H lv ro)
    (bad : ∀ i w G e, sysW cv ro = some (i, w) → Same H G → H e = none → E (.ref CB) (some e) (upd G e (.xd [("what", .str w), ("index", i)])))
    (good : ∀ c ls p t us H', cv = .int c → ro = some (ls.map lkR) → sysW cv ro = none → Same H H' → SyAt C H' p c t us ls → Q p H') :
    ∀ x dx, H x = none → H dx = none → dx ≠ x → spSys K C CB [.ref x, cv, lv] (upd (upd H dx (.own x)) x (.ins C dx [])) (fun v H3 => v = .non ∧ Q x H3) E := fun x dx nx ndx nex => by
  have S2 : Same H (upd (upd H dx (.own x)) x (.ins C dx [])) := (sNew ndx).trans (sNew (by rw [upd_ne (Ne.symm nex)]; exact nx))
  refine ⟨x, dx, cv, lv, n, ro, rfl, upd_same, dc.same S2, hl.same S2, fun i w G e h1 h2 h3 => bad i w G e h1 (S2.trans h2) ?_, fun c ls t us H' h1 h2 h3 h4 h5 => ⟨rfl, good c ls x t us H' h1 h2 h3 (fun b o e => h4 _ _ (S2 _ _ e) (ne_of_none e nx)) h5⟩⟩
  cases q : H e with
  | none => rfl
  | some o => rw [S2 _ _ q] at h3; cases h3
section
variable {P : Program} {w : World} {K : PySem.W.Frag} {mg : Str → Option Value} {base : Heap} {cl : String → Addr}
theorem ok_with_links {f : Addr} {fd : FuncData} (F : Fun K "with_links" "System.with_links" s_System_with_links f fd) (T : Txt P w K mg cl) : FnR P w K mg base (L2.CX P w) 6 f (spWith K (cl "System") (cl "BadSystem")) := by
  refine FnR.imp (Fun.star1 (N := ["self", "links"]) (p1 := "self") (pv := "links") (sp := spWithI K (cl "System") (cl "BadSystem")) F sc_System_with_links StX.cxUp (fun _ _ _ _ _ _ _ => rfl) (fun _ _ _ _ _ _ _ _ _ => rfl) (fun cdv A outer s H vs Q E hr h => ?_)) fun vs H Q E ⟨r, rest, e, hl, k⟩ => ⟨[.ref r], rest, e, rfl, hl, k⟩
  obtain ⟨p, q, t, c, us, ws, ls, rs, rfl, X, hq, hp, rok, hz, bad, good⟩ := h
  have I_System : CalC P w K mg base (L2.CX P w) 4 (cl "System") _ (spSys K (cl "System") (cl "BadSystem")) := cal_System_init T
  refine ⟨_, (pss_one (ps_ret (pe_mkS I_System T.m_System (hr.mono (by decide)) (fun σ => passAt (takes_of rfl rfl rfl rfl) σ) (pa_cons (pe_fld (pv 0) rfl) (pa_cons (pe_op op_catA (pe_fld (pv 0) rfl) (pv 1)) pa_nil))))), ?_⟩
  obtain ⟨dx, hself⟩ := X.self
  have hts := X.each.length
  have hws := hp.length
  have fin : ∀ (z : Addr) (H' : Hp), Same H H' → LsAt K H' (.ref z) (some (ls.map lkR ++ rs)) → ∀ x dx, H' x = none → H' dx = none → dx ≠ x → spSys K (cl "System") (cl "BadSystem") [.ref x, .int c, .ref z] (upd (upd H' dx (.own x)) x (.ins (cl "System") dx [])) (fun v H2 => v = .non ∧ Q (.ref x) H2) E := fun z H' S hz => mkSys (.int c) hz (fun i w G e h1 h2 h3 => bad i w G e h1 (S.trans h2) (by
      cases q : H e with
      | none => rfl
      | some o => rw [S _ _ q] at h3; cases h3)) (fun c' ls' p' t' us' H3 h1 h2 h3 h4 h5 => by
      cases h1
      exact good p' ls' t' us' H3 (Option.some.inj h2) h3 (S.trans h4) h5)
  have lo : ∀ x ∈ ls.map lkR ++ rs, RdOk x := fun x hx => by
    rcases List.mem_append.mp hx with hx | hx
    · obtain ⟨l, _, rfl⟩ := List.mem_map.mp hx
      exact lkR_ok l
    · exact rok x hx
  have ll : (ls.map lkR ++ rs).length ≤ 300 := by rw [List.length_append, List.length_map]; exact hz
  refine ⟨_, rfl, p, _, _, _, _, rfl, hself, T.cl_System, T.na_System _ (by decide), rfl, _, rfl, p, _, _, _, _, rfl, hself, T.cl_System, T.na_System _ (by decide), rfl, _, rfl, t, q, us, ws, rfl, rfl, SqT.of X.rows, SqT.of hq, Nat.le_of_lt (small1000 (by omega)), fun e => ?_, fun e1 e2 => ?_, fun e1 e2 z hz2 => ?_⟩
  · subst e
    cases ls with
    | cons _ _ => simp at hts
    | nil => exact fin q H (Same.refl H) ⟨q, ws, rfl, .inr hq, hp, lo, ll⟩
  · subst e2
    cases rs with
    | cons _ _ => simp at hws
    | nil => exact fin t H (Same.refl H) ⟨t, us, rfl, .inr X.rows, by rw [List.append_nil]; exact lks_rd X.each, lo, ll⟩
  · have S := sNew (o := .tup (us ++ ws)) hz2
    exact fin z _ S ⟨z, us ++ ws, rfl, .inr upd_same, Paired.appendP (Paired.impP (fun _ _ h => h.same S) (lks_rd X.each)) (Paired.impP (fun _ _ h => h.same S) hp), lo, ll⟩
theorem cal_with_links (T : Txt P w K mg cl) : CalS P w K mg base (L2.CX P w) 6 (cl "System") "with_links" (spWith K (cl "System") (cl "BadSystem")) := by
  obtain ⟨f, fd, F, m⟩ := T.d_System_with_links
  exact ⟨f, ok_with_links F T, m⟩
end
end My
set_option Elab.async false
set_option linter.all false
set_option maxRecDepth 100000
set_option maxHeartbeats 1000000
namespace My
open PySem L2 Dw Wp
open C8 (pss_cut tCut)
set_option pp.maxSteps 600
def e1 (ls : List Lk) (i : Nat) : Int := (ls[i]?.map fun l => l.1).getD 0
def e2 (ls : List Lk) (i : Nat) : Int := (ls[i]?.map fun l => l.2.1).getD 0
def jo (ls : List Lk) (is : List Nat) (k : Nat) : Bool := decide (e2 ls (is[k + 1]?.getD 0) = e1 ls (is[k]?.getD 0))
def fits (ls : List Lk) (is : List Nat) : Bool := (List.range (is.length - 1)).all (jo ls is)
theorem lk_at {H : Hp} {t : Addr} {us : List V} {ls : List Lk} {i : Nat} (hL : LsT H t us ls) (h : i < ls.length) : ∃ b, us[i]? = some (.ref b) ∧ H b = some (.tup (lkV ls[i])) := by
  obtain ⟨v, hv, b, rfl, hb⟩ := Paired.at' (i := i) (y := ls[i]) hL.2 (List.getElem?_eq_getElem h)
  exact ⟨b, hv, hb⟩
theorem e1_at {ls : List Lk} {i : Nat} (h : i < ls.length) : ls[i].1 = e1 ls i := by unfold e1; rw [List.getElem?_eq_getElem h]; rfl
theorem e2_at {ls : List Lk} {i : Nat} (h : i < ls.length) : ls[i].2.1 = e2 ls i := by unfold e2; rw [List.getElem?_eq_getElem h]; rfl
theorem is_atN {is : List Nat} {j x : Nat} (h : is[j]? = some x) : ((is.map fun (i : Nat) => (i : Int)).map V.int)[j]? = some (.int x) := by rw [List.getElem?_map, List.getElem?_map, h]; rfl
theorem ixOrE {K : PySem.W.Frag} {H : Hp} {b : Addr} {xs : List V} {z : Int} {j : Nat} {v : V} {Q : VK} (e : z = (j : Int)) (hb : H b = some (.lst xs) ∨ H b = some (.tup xs)) (ha : xs[j]? = some v) (q : Q v H) : rIxL K (.ref b) (.int z) H Q ∨ rIxT K (.ref b) (.int z) H Q := by
  subst e
  exact ixOr hb ha q
def spJo : Sp := fun vs H Q _ => ∃ (t a : Addr) (us : List V) (ls : List Lk) (is : List Nat), vs = [.ref t, .ref a] ∧ LsT H t us ls ∧ IsAt H a (is.map fun (i : Nat) => (i : Int)) ∧ is.length ≤ 900 ∧ (∀ i ∈ is, i < ls.length) ∧ Q (.bl (fits ls is)) H
section
variable {P : Program} {w : World} {K : PySem.W.Frag} {mg : Str → Option Value} {base : Heap} {cl : String → Addr}
theorem ok_has_joints {f : Addr} {fd : FuncData} (F : Fun K "has_joints" "has_joints" s_has_joints f fd) (T : Txt P w K mg cl) : FnOk P w K mg base CX0 1 f fd ["links", "path"] spJo := by
  refine F.ok sc_has_joints (fun vs H Q E h => ?_) (fun cdv A outer s H vs Q E hr h => ?_)
  · obtain ⟨t, a, us, ls, is, rfl, _⟩ := h
    rfl
  · obtain ⟨t, a, us, ls, is, rfl, hL, ha, le, hix, k⟩ := h
    refine ⟨_, (pss_cons (ps_for PassesOwn.never rfl (pi_range2 rfl T.n_range (pa_cons pe_int (pa_cons (pe_callB call_len_seq (by rfl) T.n_len PySem.boot_len (pa_cons (pv 1) pa_nil)) pa_nil))) (pg_name (i := 2) sc_has_joints.nd rfl (Or.inl rfl))
          (pss_one (ps_if (pt_cmpR op_ne (pe_ix ix_tup (pe_ix ix_tup (pv 0) (pe_ix ix_either (pv 1) (pv 2) (fun _ _ => rfl)) (fun _ _ => rfl)) pe_int (fun _ _ => rfl)) (pe_ix ix_tup (pe_ix ix_tup (pv 0) (pe_ix ix_either (pv 1) (pe_op op_sub (pv 2) pe_int) (fun _ _ => rfl)) (fun _ _ => rfl)) pe_int (fun _ _ => rfl)) (nomark _))
              (pss_one (ps_ret pe_bl)) pss_nil)))
        (pss_one (ps_ret pe_bl))), ?_⟩
    have lm : ((is.map fun (i : Nat) => (i : Int)).map V.int).length = is.length := by rw [List.length_map, List.length_map]
    refine ⟨_, rfl, a, _, rfl, ha.imp SqL.of SqT.of, _, _, rfl, ⟨by decide, by decide, by rw [lm]; omega, by rw [lm]; omega⟩, ?_⟩
    refine for_range (fun i σ H' => H' = H ∧ (List.range i).all (jo ls is) = true ∧ ∃ v2, σ = [some (.ref t), some (.ref a), v2]) ⟨rfl, rfl, _, rfl⟩ ?_ ?_
    · rintro i σ H' hi ⟨rfl, hj, v2, rfl⟩
      rw [lm] at hi
      have i1 : i + 1 < is.length := by omega
      have i0 : i < is.length := by omega
      have l1 := hix _ (List.getElem_mem i1)
      have l0 := hix _ (List.getElem_mem i0)
      obtain ⟨b1, hb1, hc1⟩ := lk_at hL l1
      obtain ⟨b0, hb0, hc0⟩ := lk_at hL l0
      rw [show (1 : Int) + (i : Nat) = ((i + 1 : Nat) : Int) by omega]
      refine ⟨_, rfl, _, rfl, _, rfl, ixOr ha (j := i + 1) (is_atN (List.getElem?_eq_getElem i1)) ⟨t, _, _, _, rfl, rfl, SqT.of hL.1, atI_nat hb1, b1, _, _, _, rfl, rfl, SqT.of hc1, atI_nat (j := 1) rfl, _, rfl, _, rfl, _, rfl, _, _, rfl, rfl, ?_⟩⟩
      refine ixOrE (j := i) (by omega) ha (is_atN (List.getElem?_eq_getElem i0)) ⟨t, _, _, _, rfl, rfl, SqT.of hL.1, atI_nat hb0, b0, _, _, _, rfl, rfl, SqT.of hc0, atI_nat (j := 0) rfl, rfl, _, rfl, ?_⟩
      have ej : jo ls is i = decide (ls[is[i + 1]].2.1 = ls[is[i]].1) := by
        unfold jo
        rw [List.getElem?_eq_getElem i1, List.getElem?_eq_getElem i0]
        show decide (e2 ls is[i + 1] = e1 ls is[i]) = _
        rw [e1_at l0, e2_at l1]
      refine ite2 (fun g => ?_) (fun g => ?_)
      · have fb : fits ls is = false := by
          unfold fits
          refine List.all_eq_false.mpr ⟨i, List.mem_range.mpr (by omega), ?_⟩
          rw [ej]
          intro z
          have z := of_decide_eq_true z
          simp [z] at g
        rw [fb] at k
        exact k
      · refine ⟨rfl, ?_, _, rfl⟩
        rw [List.range_succ, List.all_append, hj, Bool.true_and]
        show (jo ls is i && true) = true
        rw [Bool.and_true, ej]
        refine decide_eq_true ?_
        by_cases z : ls[is[i + 1]].2.1 = ls[is[i]].1
        · exact z
        · exfalso
          refine g ?_
          show (!decide (V.int _ = V.int _)) = true
          rw [decide_eq_false fun q => z (V.int.inj q)]
          rfl
    · rintro σ H' ⟨rfl, hj, v2, rfl⟩
      rw [lm] at hj
      rw [show ((is.length : Int) - 1).toNat = is.length - 1 by omega] at hj
      have fb : fits ls is = true := hj
      rw [fb] at k
      exact k
theorem cal_has_joints (T : Txt P w K mg cl) : Cal P w K mg base CX0 1 "has_joints" ["links", "path"] (spJo) := by
  obtain ⟨f, fd, F, m⟩ := T.d_has_joints
  exact ⟨f, fd, ok_has_joints F T, m, F.kp, F.binds fun _ _ _ _ _ _ us hl => match us, hl with | [_, _], _ => rfl⟩
end
end My
set_option Elab.async false
set_option linter.all false
set_option maxRecDepth 100000
set_option maxHeartbeats 1000000
namespace My
open PySem L2 Dw Wp
open C8 (pss_cut tCut)
set_option pp.maxSteps 600
theorem ix_nat {n : Nat} : ∀ {is : List Int}, is.all (isIx n) = true → ∃ js : List Nat, is = (js.map fun (i : Nat) => (i : Int)) ∧ ∀ j ∈ js, j < n
  | [], _ => ⟨[], rfl, fun j h => by cases h⟩
  | i :: is, h => by
    rw [List.all_cons] at h
    obtain ⟨h1, h2⟩ := Bool.and_eq_true_iff.mp h
    obtain ⟨js, e, hj⟩ := ix_nat h2
    have h1 : (decide (0 ≤ i) && decide (i < (n : Int))) = true := h1
    simp only [Bool.and_eq_true, decide_eq_true_eq] at h1
    refine ⟨i.toNat :: js, ?_, fun j hj2 => ?_⟩
    · rw [e, List.map_cons, Int.toNat_of_nonneg h1.1]
    · rcases List.mem_cons.mp hj2 with rfl | hj2
      · omega
      · exact hj j hj2
/-- the first word of a path of indexes that are right -/
def pathN (ls : List Lk) (js : List Nat) (st en : Int) : Option Str :=
  if js = [] then (if st = en then none else some "end") else if e2 ls (js[0]?.getD 0) = st then (if fits ls js = true then (if e1 ls (js.getLast?.getD 0) = en then none else some "end") else some "joint") else some "start"
def spPF (C : Addr) : Sp := fun vs H Q _ => ∃ (p t a : Addr) (c : Int) (us : List V) (ls : List Lk) (is : List Int) (st en : Int), vs = [.ref p, .ref a, .int st, .int en] ∧ SyAt C H p c t us ls ∧ ls.length ≤ 900 ∧ H a = some (.lst (is.map V.int)) ∧ is.length ≤ 900 ∧
  (is.all (isIx ls.length) = false → ∀ H', Same H H' → Q (.str "index") H') ∧
  (∀ js : List Nat, is = (js.map fun (i : Nat) => (i : Int)) → (∀ j ∈ js, j < ls.length) → ∀ H', Same H H' → Q (optV (pathN ls js st en)) H')
section
variable {P : Program} {w : World} {K : PySem.W.Frag} {mg : Str → Option Value} {base : Heap} {cl : String → Addr}
theorem ok_path_fault {f : Addr} {fd : FuncData} (F : Fun K "path_fault" "path_fault" s_path_fault f fd) (T : Txt P w K mg cl) : FnOk P w K mg base CX0 3 f fd ["system", "path", "start", "end"] (spPF (cl "System")) := by
  refine F.ok sc_path_fault (fun vs H Q E h => ?_) (fun cdv A outer s H vs Q E hr h => ?_)
  · obtain ⟨p, t, a, c, us, ls, is, st, en, rfl, _⟩ := h
    rfl
  · obtain ⟨p, t, a, c, us, ls, is, st, en, rfl, X, ln, ha, le, kx, kg⟩ := h
    have C_are_indexes : Cal P w K mg base CX0 2 "are_indexes" _ spAre := cal_are_indexes T
    have C_has_joints : Cal P w K mg base CX0 1 "has_joints" _ spJo := cal_has_joints T
    refine ⟨_, (pss_cons (ps_set (i := 4) sc_path_fault.nd rfl (Or.inl rfl) (pe_fld (pv 0) rfl))
        (pss_cons (ps_if (pt_not (pt_val (pe_cal C_are_indexes (hr.mono (by decide)) (pa_cons (pv 4) (pa_cons (pv 1) pa_nil)))))
          (pss_one (ps_ret pe_str)) pss_nil)
        (pss_cons (ps_if (pt_cmpR op_eq (pe_callB call_len_seq (by rfl) T.n_len PySem.boot_len (pa_cons (pv 1) pa_nil)) pe_int (nomark _))
          (pss_one (ps_ret (pe_ifExp (pt_cmpR op_eq (pv 2) (pv 3) (nomark _)) pe_non pe_str))) pss_nil)
        (pss_cons (ps_if (pt_cmpR op_ne (pe_ix ix_tup (pe_ix ix_tup (pv 4) (pe_ix ix_list (pv 1) pe_int (fun _ _ => rfl)) (fun _ _ => rfl)) pe_int (fun _ _ => rfl)) (pv 2) (nomark _))
          (pss_one (ps_ret pe_str)) pss_nil)
        (pss_cons (ps_if (pt_not (pt_val (pe_cal C_has_joints (hr.mono (by decide)) (pa_cons (pv 4) (pa_cons (pv 1) pa_nil)))))
          (pss_one (ps_ret pe_str)) pss_nil)
        (pss_one (ps_ret (pe_ifExp (pt_cmpR op_eq (pe_ix ix_tup (pe_ix ix_tup (pv 4) (pe_ix ix_list (pv 1) (pe_un un_neg pe_int) (fun _ _ => rfl)) (fun _ _ => rfl)) pe_int (fun _ _ => rfl)) (pv 3) (nomark _)) pe_non pe_str)))))))), ?_⟩
    obtain ⟨dx, hself⟩ := X.self
    refine ⟨_, rfl, p, _, _, _, _, rfl, hself, T.cl_System, T.na_System _ (by decide), rfl, ?_⟩
    refine ⟨_, rfl, _, rfl, t, a, us, ls, is, rfl, ⟨X.rows, X.each⟩, ln, .inl ha, le, fun H1 S1 => ⟨_, rfl, ?_⟩⟩
    cases hx : is.all (isIx ls.length) with
    | false => exact iteT (kx hx _ S1)
    | true =>
      obtain ⟨js, rfl, hj⟩ := ix_nat hx
      have k := kg js rfl hj
      rw [List.length_map] at le
      have ha := S1 _ _ ha
      have hL : LsT H1 t us ls := ⟨S1 _ _ X.rows, (X.same S1).each⟩
      refine iteF ⟨_, rfl, a, _, rfl, .inl (SqL.of ha), rfl, _, rfl, ?_⟩
      cases js with
      | nil =>
        have k : ∀ H', Same H H' → Q (optV (if st = en then (none : Option Str) else some ("end" : Str))) H' := k
        refine iteT ⟨_, rfl, _, rfl, rfl, _, rfl, ?_⟩
        refine ite2 (fun g => ?_) (fun g => ?_)
        · have g : st = en := V.int.inj (of_decide_eq_true g)
          rw [if_pos g] at k
          exact k _ S1
        · rw [if_neg fun z => g (decide_eq_true (congrArg V.int z))] at k
          exact k _ S1
      | cons j0 js =>
        have un : pathN ls (j0 :: js) st en = (if e2 ls j0 = st then (if fits ls (j0 :: js) = true then (if e1 ls ((j0 :: js).getLast?.getD 0) = en then none else some ("end" : Str)) else some ("joint" : Str)) else some ("start" : Str)) := by
          unfold pathN
          rw [if_neg (by simp)]
          rfl
        rw [un] at k
        refine iteF ?_
        have l0 := hj j0 List.mem_cons_self
        obtain ⟨b0, hb0, hc0⟩ := lk_at hL l0
        refine ⟨_, rfl, _, rfl, a, _, _, _, rfl, rfl, SqL.of ha, atI_nat (j := 0) rfl, t, _, _, _, rfl, rfl, SqT.of hL.1, atI_nat hb0, b0, _, _, _, rfl, rfl, SqT.of hc0, atI_nat (j := 1) rfl, _, rfl, rfl, _, rfl, ?_⟩
        rw [e2_at l0]
        refine ite2 (fun g => ?_) (fun g => ?_)
        · have g : ¬ e2 ls j0 = st := fun z => by
            rw [z] at g
            simp at g
          rw [if_neg g] at k
          exact k _ S1
        have g : e2 ls j0 = st := by
          by_cases z : e2 ls j0 = st
          · exact z
          · exfalso
            refine g ?_
            rw [decide_eq_false fun q => z (V.int.inj q)]
            rfl
        rw [if_pos g] at k
        refine ⟨_, rfl, _, rfl, t, a, us, ls, j0 :: js, rfl, hL, .inl ha, le, hj, _, rfl, ?_⟩
        cases hf : fits ls (j0 :: js) with
        | false =>
          rw [if_neg (by rw [hf]; decide)] at k
          exact iteT (k _ S1)
        | true =>
          rw [if_pos hf] at k
          obtain ⟨ys, z, ez⟩ : ∃ ys z, j0 :: js = ys ++ [z] := by
            rcases List.eq_nil_or_concat (j0 :: js) with h | ⟨ys, z, h⟩
            · cases h
            · exact ⟨ys, z, by rw [h, List.concat_eq_append]⟩
          rw [ez] at k hj ha
          have lz := hj z (by simp)
          obtain ⟨bz, hbz, hcz⟩ := lk_at hL lz
          rw [List.map_append, List.map_append] at ha
          refine iteF ⟨_, rfl, _, rfl, _, rfl, a, _, _, _, rfl, rfl, SqL.of ha, atI_last _ _, t, _, _, _, rfl, rfl, SqT.of hL.1, atI_nat hbz, bz, _, _, _, rfl, rfl, SqT.of hcz, atI_nat (j := 0) rfl, _, rfl, rfl, _, rfl, ?_⟩
          rw [List.getLast?_append] at k
          have k : ∀ H', Same H H' → Q (optV (if e1 ls z = en then (none : Option Str) else some ("end" : Str))) H' := k
          rw [e1_at lz]
          refine ite2 (fun g => ?_) (fun g => ?_)
          · rw [if_pos (V.int.inj (of_decide_eq_true g))] at k
            exact k _ S1
          · rw [if_neg fun q => g (decide_eq_true (congrArg V.int q))] at k
            exact k _ S1
theorem cal_path_fault (T : Txt P w K mg cl) : Cal P w K mg base CX0 3 "path_fault" ["system", "path", "start", "end"] (spPF (cl "System")) := by
  obtain ⟨f, fd, F, m⟩ := T.d_path_fault
  exact ⟨f, fd, ok_path_fault F T, m, F.kp, F.binds fun _ _ _ _ _ _ us hl => match us, hl with | [_, _, _, _], _ => rfl⟩
end
end My
set_option Elab.async false
set_option linter.all false
set_option maxRecDepth 100000
set_option maxHeartbeats 1000000
namespace My
open PySem L2 Dw Wp
open C8 (pss_cut tCut)
set_option pp.maxSteps 600
/-- the first word of a ring of indexes that are right, one at least -/
def ringN (ls : List Lk) (js : List Nat) : Option Str :=
  if (fits ls js && decide (e2 ls (js[0]?.getD 0) = e1 ls (js.getLast?.getD 0))) = true then (if sumO ls js < 0 then none else some "sum") else some "joint"
def spRg : Sp := fun vs H Q _ => ∃ (t a : Addr) (us : List V) (ls : List Lk) (is : List Int), vs = [.ref t, .ref a] ∧ LsT H t us ls ∧ ls.length ≤ 900 ∧ H a = some (.tup (is.map V.int)) ∧ is.length ≤ 900 ∧
  (is = [] → ∀ H', Same H H' → Q (.str "empty") H') ∧ (is ≠ [] → is.all (isIx ls.length) = false → ∀ H', Same H H' → Q (.str "index") H') ∧
  (∀ js : List Nat, js ≠ [] → is = (js.map fun (i : Nat) => (i : Int)) → (∀ j ∈ js, j < ls.length) → ∀ H', Same H H' → Q (optV (ringN ls js)) H')
section
variable {P : Program} {w : World} {K : PySem.W.Frag} {mg : Str → Option Value} {base : Heap} {cl : String → Addr}
theorem ok_ring_fault {f : Addr} {fd : FuncData} (F : Fun K "ring_fault" "ring_fault" s_ring_fault f fd) (T : Txt P w K mg cl) : FnOk P w K mg base CX0 3 f fd ["links", "path"] spRg := by
  refine F.ok sc_ring_fault (fun vs H Q E h => ?_) (fun cdv A outer s H vs Q E hr h => ?_)
  · obtain ⟨t, a, us, ls, is, rfl, _⟩ := h
    rfl
  · obtain ⟨t, a, us, ls, is, rfl, hL, ln, ha, le, ke, kx, kg⟩ := h
    have C_are_indexes : Cal P w K mg base CX0 2 "are_indexes" _ spAre := cal_are_indexes T
    have C_has_joints : Cal P w K mg base CX0 1 "has_joints" _ spJo := cal_has_joints T
    have C_sum_of : Cal P w K mg base CX0 1 "sum_of" _ spSum := cal_sum_of T
    refine ⟨_, (pss_cons (ps_if (pt_cmpR op_eq (pe_callB call_len_seq (by rfl) T.n_len PySem.boot_len (pa_cons (pv 1) pa_nil)) pe_int (nomark _))
          (pss_one (ps_ret pe_str)) pss_nil)
        (pss_cons (ps_if (pt_not (pt_val (pe_cal C_are_indexes (hr.mono (by decide)) (pa_cons (pv 0) (pa_cons (pv 1) pa_nil)))))
          (pss_one (ps_ret pe_str)) pss_nil)
        (pss_cons (ps_if (PW.pt (pw_or (pt_not (pt_val (pe_cal C_has_joints (hr.mono (by decide)) (pa_cons (pv 0) (pa_cons (pv 1) pa_nil))))) (pw_or1 (pt_cmpR op_ne (pe_ix ix_tup (pe_ix ix_tup (pv 0) (pe_ix ix_tup (pv 1) pe_int (fun _ _ => rfl)) (fun _ _ => rfl)) pe_int (fun _ _ => rfl)) (pe_ix ix_tup (pe_ix ix_tup (pv 0) (pe_ix ix_tup (pv 1) (pe_un un_neg pe_int) (fun _ _ => rfl)) (fun _ _ => rfl)) pe_int (fun _ _ => rfl)) (nomark _)))))
          (pss_one (ps_ret pe_str)) pss_nil)
        (pss_one (ps_ret (pe_ifExp (pt_cmpR op_lt (pe_cal C_sum_of (hr.mono (by decide)) (pa_cons (pv 0) (pa_cons (pv 1) pa_nil))) pe_int (nomark _)) pe_non pe_str)))))), ?_⟩
    refine ⟨_, rfl, a, _, rfl, .inr (SqT.of ha), rfl, _, rfl, ?_⟩
    cases is with
    | nil => exact iteT (ke rfl _ (Same.refl H))
    | cons i0 is =>
      refine iteF ⟨_, rfl, _, rfl, t, a, us, ls, i0 :: is, rfl, hL, ln, .inr ha, le, fun H1 S1 => ⟨_, rfl, ?_⟩⟩
      cases hx : (i0 :: is).all (isIx ls.length) with
      | false => exact iteT (kx (by simp) hx _ S1)
      | true =>
        obtain ⟨js, ej, hj⟩ := ix_nat hx
        have nj : js ≠ [] := fun z => by rw [z] at ej; cases ej
        have k := kg js nj ej hj
        rw [ej, List.length_map] at le
        rw [ej] at ha
        have ha := S1 _ _ ha
        have hL := hL.same S1
        refine iteF ⟨_, rfl, _, rfl, t, a, us, ls, js, rfl, hL, .inr ha, le, hj, _, rfl, ?_⟩
        cases hf : fits ls js with
        | false =>
          rw [show ringN ls js = some ("joint" : Str) from if_neg (by rw [hf]; simp)] at k
          exact iteT (iteT (k _ S1))
        | true =>
          refine iteF ?_
          obtain ⟨j0, js', e0⟩ : ∃ j0 js', js = j0 :: js' := by
            cases js with
            | nil => exact absurd rfl nj
            | cons j0 js' => exact ⟨j0, js', rfl⟩
          obtain ⟨ys, z, ez⟩ : ∃ ys z, js = ys ++ [z] := by
            rcases List.eq_nil_or_concat js with h | ⟨ys, z, h⟩
            · exact absurd h nj
            · exact ⟨ys, z, by rw [h, List.concat_eq_append]⟩
          have l0 := hj j0 (by rw [e0]; exact List.mem_cons_self)
          have lz := hj z (by rw [ez]; simp)
          obtain ⟨b0, hb0, hc0⟩ := lk_at hL l0
          obtain ⟨bz, hbz, hcz⟩ := lk_at hL lz
          have a0 : ((js.map fun (i : Nat) => (i : Int)).map V.int)[0]? = some (.int (j0 : Nat)) := by rw [e0]; rfl
          have az : atI ((js.map fun (i : Nat) => (i : Int)).map V.int) (-1) = some (.int (z : Nat)) := by
            rw [ez, List.map_append, List.map_append]
            exact atI_last _ _
          have un : ringN ls js = (if decide (e2 ls j0 = e1 ls z) = true then (if sumO ls js < 0 then none else some ("sum" : Str)) else some ("joint" : Str)) := by
            unfold ringN
            rw [hf, Bool.true_and, show js[0]?.getD 0 = j0 by rw [e0]; rfl, show js.getLast?.getD 0 = z by rw [ez, List.getLast?_append]; rfl]
          rw [un] at k
          refine ⟨_, rfl, _, rfl, a, _, _, _, rfl, rfl, SqT.of ha, atI_nat (j := 0) a0, t, _, _, _, rfl, rfl, SqT.of hL.1, atI_nat hb0, b0, _, _, _, rfl, rfl, SqT.of hc0, atI_nat (j := 1) rfl, _, rfl, _, rfl, _, rfl, a, _, _, _, rfl, rfl, SqT.of ha, az, t, _, _, _, rfl, rfl, SqT.of hL.1, atI_nat hbz, bz, _, _, _, rfl, rfl, SqT.of hcz, atI_nat (j := 0) rfl, rfl, _, rfl, ?_⟩
          rw [e2_at l0, e1_at lz]
          by_cases g : e2 ls j0 = e1 ls z
          rotate_left
          · rw [if_neg fun q => g (of_decide_eq_true q)] at k
            rw [decide_eq_false fun q => g (V.int.inj q)]
            exact iteT (k _ S1)
          rw [if_pos (decide_eq_true g)] at k
          rw [decide_eq_true (congrArg V.int g)]
          refine iteF ⟨_, rfl, _, rfl, t, a, us, ls, js, rfl, hL, .inr ha, le, hj, fun H2 S2 => ⟨_, _, rfl, rfl, _, rfl, ?_⟩⟩
          refine ite2 (fun q => ?_) (fun q => ?_)
          · rw [if_pos (of_decide_eq_true q)] at k
            exact k _ (S1.trans S2)
          · rw [if_neg fun y => q (decide_eq_true y)] at k
            exact k _ (S1.trans S2)
theorem cal_ring_fault (T : Txt P w K mg cl) : Cal P w K mg base CX0 3 "ring_fault" ["links", "path"] (spRg) := by
  obtain ⟨f, fd, F, m⟩ := T.d_ring_fault
  exact ⟨f, fd, ok_ring_fault F T, m, F.kp, F.binds fun _ _ _ _ _ _ us hl => match us, hl with | [_, _], _ => rfl⟩
end
end My
set_option Elab.async false
set_option linter.all false
set_option maxRecDepth 100000
set_option maxHeartbeats 1000000
namespace My
open PySem L2 Dw Wp
open C8 (pss_cut tCut)
set_option pp.maxSteps 600
def spFld1 (C : Addr) (f : Str) : Sp := fun vs H Q _ => ∃ (p dx : Addr) (v : V), vs = [.ref p, v] ∧ H p = some (.ins C dx []) ∧ Q .non (upd H p (.ins C dx [(f, v)]))
def spTF (K : PySem.W.Frag) (C : Addr) : Sp := fun vs H Q _ => ∃ (p t a : Addr) (c : Int) (us : List V) (ls : List Lk) (ts : List Int), vs = [.ref p, .ref a] ∧ SyAt C H p c t us ls ∧ (∀ l ∈ ls, LkOk c l) ∧ ls.length ≤ 900 ∧ H a = some (.tup (ts.map V.int)) ∧ ts.length ≤ 900 ∧
  (¬ (ts.length : Int) = c → ∀ H', Same H H' → Q (.str "count") H') ∧ ((ts.length : Int) = c → ∀ H', Same H H' → Q (if (brk ls ts).isEmpty = true then .non else .str "link") H')
section
variable {P : Program} {w : World} {K : PySem.W.Frag} {mg : Str → Option Value} {base : Heap} {cl : String → Addr}
theorem ok_Kept_init {f : Addr} {fd : FuncData} (F : Fun K "__init__" "Kept.__init__" s_Kept_init f fd) (T : Txt P w K mg cl) : FnOk P w K mg base CX0 1 f fd ["self", "times"] (spFld1 (cl "Kept") "times") := by
  refine F.ok sc_Kept_init (fun vs H Q E h => ?_) (fun cdv A outer s H vs Q E hr h => ?_)
  · obtain ⟨p, dx, v, rfl, _⟩ := h
    rfl
  · obtain ⟨p, dx, v, rfl, hp, k⟩ := h
    refine ⟨_, (pss_one (ps_fld (pv 0) (pv 1) rfl)), ?_⟩
    exact ⟨_, rfl, _, rfl, p, _, dx, _, rfl, hp, T.cl_Kept, T.na_Kept _ (by decide), (by show 0 < 1000; decide), k⟩
theorem cal_Kept_init (T : Txt P w K mg cl) : CalC P w K mg base CX0 1 (cl "Kept") ["self", "times"] (spFld1 (cl "Kept") "times") := by
  obtain ⟨f, fd, F, m⟩ := T.i_Kept
  exact ⟨f, fd, ok_Kept_init F T, m, F.binds fun _ _ _ _ _ _ us hl => match us, hl with | [_, _], _ => rfl⟩
theorem ok_Ring_init {f : Addr} {fd : FuncData} (F : Fun K "__init__" "Ring.__init__" s_Ring_init f fd) (T : Txt P w K mg cl) : FnOk P w K mg base CX0 1 f fd ["self", "path"] (spFld1 (cl "Ring") "path") := by
  refine F.ok sc_Ring_init (fun vs H Q E h => ?_) (fun cdv A outer s H vs Q E hr h => ?_)
  · obtain ⟨p, dx, v, rfl, _⟩ := h
    rfl
  · obtain ⟨p, dx, v, rfl, hp, k⟩ := h
    refine ⟨_, (pss_one (ps_fld (pv 0) (pv 1) rfl)), ?_⟩
    exact ⟨_, rfl, _, rfl, p, _, dx, _, rfl, hp, T.cl_Ring, T.na_Ring _ (by decide), (by show 0 < 1000; decide), k⟩
theorem cal_Ring_init (T : Txt P w K mg cl) : CalC P w K mg base CX0 1 (cl "Ring") ["self", "path"] (spFld1 (cl "Ring") "path") := by
  obtain ⟨f, fd, F, m⟩ := T.i_Ring
  exact ⟨f, fd, ok_Ring_init F T, m, F.binds fun _ _ _ _ _ _ us hl => match us, hl with | [_, _], _ => rfl⟩
theorem ok_times_fault {f : Addr} {fd : FuncData} (F : Fun K "times_fault" "times_fault" s_times_fault f fd) (T : Txt P w K mg cl) : FnOk P w K mg base CX0 4 f fd ["system", "times"] (spTF K (cl "System")) := by
  refine F.ok sc_times_fault (fun vs H Q E h => ?_) (fun cdv A outer s H vs Q E hr h => ?_)
  · obtain ⟨p, t, a, c, us, ls, ts, rfl, _⟩ := h
    rfl
  · obtain ⟨p, t, a, c, us, ls, ts, rfl, X, lok, ln, ha, le, kc, kl⟩ := h
    have C_System_broken : CalM P w K mg base (L2.CX P w) 3 (cl "System") "broken" _ (spBrk K (cl "System") (cl "BadTimes")) := cal_System_broken T
    refine ⟨_, (pss_cons (ps_if (pt_cmpR op_ne (pe_callB call_len_seq (by rfl) T.n_len PySem.boot_len (pa_cons (pv 1) pa_nil)) (pe_fld (pv 0) rfl) (nomark _))
          (pss_one (ps_ret pe_str)) pss_nil)
        (pss_one (ps_ret (pe_ifExp (pt_cmpR (op_eqD hr.units) (pe_mth T.cl_System C_System_broken (hr.mono (by decide)) (pv 0) (pa_cons (pv 1) pa_nil)) (pe_tup pa_nil) (nomark _)) pe_non pe_str)))), ?_⟩
    obtain ⟨dx, hself⟩ := X.self
    refine ⟨_, rfl, a, _, rfl, .inr (SqT.of ha), _, rfl, p, _, _, _, _, rfl, hself, T.cl_System, T.na_System _ (by decide), rfl, rfl, _, rfl, ?_⟩
    rw [List.length_map]
    by_cases g : (ts.length : Int) = c
    rotate_left
    · rw [decide_eq_false fun q => g (V.int.inj q)]
      exact iteT (kc g _ (Same.refl H))
    rw [decide_eq_true (congrArg V.int g)]
    have k := kl g
    refine iteF ?_
    refine ⟨_, rfl, p, _, _, rfl, hself, rfl, _, rfl, p, t, c, us, ls, .ref a, some (ts.map V.int), rfl, X, lok, ln, ⟨a, rfl, .inr ha, fun x hx => by obtain ⟨i, _, rfl⟩ := List.mem_map.mp hx; exact ⟨_, .int i⟩, by rw [List.length_map]; exact le⟩, fun h => ?_, fun ts' e lt t' H1 S1 ht => ?_⟩
    · exfalso
      have h : (decide (((ts.map V.int).length : Int) = c) && (ts.map V.int).all isI) = false := h
      rw [List.length_map, decide_eq_true g, Bool.true_and, List.all_map] at h
      have h2 : ts.all (isI ∘ V.int) = true := List.all_eq_true.mpr fun _ _ => rfl
      rw [h2] at h
      cases h
    · have et : ts = ts' := by
        have e := Option.some.inj e
        have inj : ∀ as bs : List Int, as.map V.int = bs.map V.int → as = bs := fun as => by
          induction as with
          | nil => intro bs h; cases bs with
            | nil => rfl
            | cons _ _ => cases h
          | cons x as ih => intro bs h; cases bs with
            | nil => cases h
            | cons y bs =>
              rw [List.map_cons, List.map_cons] at h
              injection h with h1 h2
              rw [V.int.inj h1, ih bs h2]
        exact inj _ _ e
      subst et
      have okI : ∀ x ∈ (brk ls ts).map fun (i : Nat) => V.int i, okV x = true := fun x hx => by
        obtain ⟨i, _, rfl⟩ := List.mem_map.mp hx
        rfl
      refine ⟨by show 0 ≤ sizeLine; exact Nat.zero_le _, fun q nq => ?_⟩
      have S2 := sNew (o := .tup []) nq
      refine ⟨_, _, dp_tup (SqT.of (S2 _ _ ht)) (dpvs fun x hx => okV.flat (okI x hx)), dp_tup (SqT.of upd_same) .nil, row_shaped false okI, row_shaped (xs := []) false (by simp), _, rfl, ?_⟩
      rw [eqv_nilV, show ((brk ls ts).map fun (i : Nat) => V.int i).isEmpty = (brk ls ts).isEmpty by cases brk ls ts <;> rfl]
      have k := k _ (S1.trans S2)
      cases hb : (brk ls ts).isEmpty with
      | true => rw [hb] at k; exact iteT k
      | false => rw [hb] at k; exact iteF k
theorem cal_times_fault (T : Txt P w K mg cl) : Cal P w K mg base CX0 4 "times_fault" ["system", "times"] (spTF K (cl "System")) := by
  obtain ⟨f, fd, F, m⟩ := T.d_times_fault
  exact ⟨f, fd, ok_times_fault F T, m, F.kp, F.binds fun _ _ _ _ _ _ us hl => match us, hl with | [_, _], _ => rfl⟩
end
end My
set_option Elab.async false
set_option linter.all false
set_option maxRecDepth 100000
set_option maxHeartbeats 1000000
namespace My
open PySem L2 Dw Wp
open C8 (pss_cut tCut)
set_option pp.maxSteps 600
def RgAt (C : Addr) (H : Hp) (p : Addr) (f : Str) (a : Addr) : Prop := ∃ dx, H p = some (.ins C dx [(f, .ref a)])
def spSF (K : PySem.W.Frag) (C CR CK : Addr) : Sp := fun vs H Q _ => ∃ (p q t a : Addr) (c : Int) (us : List V) (ls : List Lk) (is : List Int), vs = [.ref p, .ref q] ∧ SyAt C H p c t us ls ∧ (∀ l ∈ ls, LkOk c l) ∧ ls.length ≤ 900 ∧ H a = some (.tup (is.map V.int)) ∧ is.length ≤ 900 ∧
  ((RgAt CR H q "path" a ∧ (is = [] → ∀ H', Same H H' → Q (.str "empty") H') ∧ (is ≠ [] → is.all (isIx ls.length) = false → ∀ H', Same H H' → Q (.str "index") H') ∧
    (∀ js : List Nat, js ≠ [] → is = (js.map fun (i : Nat) => (i : Int)) → (∀ j ∈ js, j < ls.length) → ∀ H', Same H H' → Q (optV (ringN ls js)) H')) ∨
   (RgAt CK H q "times" a ∧ (¬ (is.length : Int) = c → ∀ H', Same H H' → Q (.str "count") H') ∧ ((is.length : Int) = c → ∀ H', Same H H' → Q (if (brk ls is).isEmpty = true then .non else .str "link") H')))
section
variable {P : Program} {w : World} {K : PySem.W.Frag} {mg : Str → Option Value} {base : Heap} {cl : String → Addr}
theorem ok_solved_fault {f : Addr} {fd : FuncData} (F : Fun K "solved_fault" "solved_fault" s_solved_fault f fd) (T : Txt P w K mg cl) : FnOk P w K mg base CX0 5 f fd ["system", "answer"] (spSF K (cl "System") (cl "Ring") (cl "Kept")) := by
  refine F.ok sc_solved_fault (fun vs H Q E h => ?_) (fun cdv A outer s H vs Q E hr h => ?_)
  · obtain ⟨p, q, t, a, c, us, ls, is, rfl, _⟩ := h
    rfl
  · obtain ⟨p, q, t, a, c, us, ls, is, rfl, X, lok, ln, ha, le, h⟩ := h
    have C_ring_fault : Cal P w K mg base CX0 3 "ring_fault" _ spRg := cal_ring_fault T
    have C_times_fault : Cal P w K mg base CX0 4 "times_fault" _ (spTF K (cl "System")) := cal_times_fault T
    refine ⟨_, (pss_cons (ps_if (pt_val (pe_callB call_isi (by rfl) T.n_isinstance (by decide +kernel) (pa_cons (pv 1) (pa_cons (pe_cls T.m_Ring) pa_nil))))
          (pss_one (ps_ret (pe_cal C_ring_fault (hr.mono (by decide)) (pa_cons (pe_fld (pv 0) rfl) (pa_cons (pe_fld (pv 1) rfl) pa_nil))))) pss_nil)
        (pss_one (ps_ret (pe_cal C_times_fault (hr.mono (by decide)) (pa_cons (pv 0) (pa_cons (pe_fld (pv 1) rfl) pa_nil)))))), ?_⟩
    obtain ⟨dx, hself⟩ := X.self
    rcases h with ⟨⟨dq, hq⟩, k1, k2, k3⟩ | ⟨⟨dq, hq⟩, k1, k2⟩
    · refine ⟨_, rfl, _, _, _, _, _, rfl, .own (cl "Ring"), .base (.ins hq T.cl_Ring T.y_Ring T.z1 T.z2 T.z3_Ring), T.k_Ri_Ri, _, rfl, iteT ?_⟩
      exact ⟨_, rfl, p, _, _, _, _, rfl, hself, T.cl_System, T.na_System _ (by decide), rfl, _, rfl, q, _, _, _, _, rfl, hq, T.cl_Ring, T.na_Ring _ (by decide), rfl, t, a, us, ls, is, rfl, ⟨X.rows, X.each⟩, ln, ha, le, k1, k2, k3⟩
    · refine ⟨_, rfl, _, _, _, _, _, rfl, .own (cl "Ring"), .base (.ins hq T.cl_Kept T.y_Kept T.z1 T.z2 T.z3_Kept), T.k_Ke_Ri, _, rfl, iteF ?_⟩
      exact ⟨_, rfl, _, rfl, q, _, _, _, _, rfl, hq, T.cl_Kept, T.na_Kept _ (by decide), rfl, p, t, a, c, us, ls, is, rfl, X, lok, ln, ha, le, k1, k2⟩
theorem cal_solved_fault (T : Txt P w K mg cl) : Cal P w K mg base CX0 5 "solved_fault" ["system", "answer"] (spSF K (cl "System") (cl "Ring") (cl "Kept")) := by
  obtain ⟨f, fd, F, m⟩ := T.d_solved_fault
  exact ⟨f, fd, ok_solved_fault F T, m, F.kp, F.binds fun _ _ _ _ _ _ us hl => match us, hl with | [_, _], _ => rfl⟩
end
end My
set_option Elab.async false
set_option linter.all false
set_option maxRecDepth 100000
set_option maxHeartbeats 1000000
namespace My
open PySem L2 Dw Wp
open C8 (pss_cut tCut)
set_option pp.maxSteps 600
/-! the law's draws: a bag -/
def BgAt (H : Hp) (b : Addr) : Prop := ∃ c s : Int, H b = some (.lst [.int c, .int s]) ∧ 0 ≤ c ∧ 0 ≤ s ∧ s < 4294967296
def spTake : Sp := fun vs H Q _ => ∃ (b : Addr) (m : Int), vs = [.ref b, .int m] ∧ BgAt H b ∧ 1 ≤ m ∧ m < 1073741824 ∧ ∀ (k : Int) (H' : Hp), 0 ≤ k → k < m → BgAt H' b → But b H H' → Q (.int k) H'
section
variable {P : Program} {w : World} {K : PySem.W.Frag} {mg : Str → Option Value} {base : Heap} {cl : String → Addr}
theorem ok_take {f : Addr} {fd : FuncData} (F : Fun K "_law_take" "_law_take" s_take f fd) (T : Txt P w K mg cl) : FnOk P w K mg base CX0 1 f fd ["_law_bag_here", "_law_many"] spTake := by
  refine F.ok sc_take (fun vs H Q E h => ?_) (fun cdv A outer s H vs Q E hr h => ?_)
  · obtain ⟨b, m, rfl, _⟩ := h
    rfl
  · obtain ⟨b, m, rfl, ⟨c, s0, hb, c0, s1, s2⟩, m1, m2, k⟩ := h
    refine ⟨_, (pss_cons (ps_if (pt_cmpR op_gt (pe_ix ix_list (pv 0) pe_int (fun _ _ => rfl)) pe_int (nomark _))
          (pss_cons (ps_set (i := 2) sc_take.nd rfl (Or.inl rfl) (pe_op op_mod (pe_callTy call_int1 (by rfl) T.n_int (by decide +kernel) (pa_cons (pe_ix ix_list (pv 0) pe_int (fun _ _ => rfl)) pa_nil)) (pv 1)))
            (pss_cons (ps_asg (pe_op op_fdiv (pe_ix ix_list (pv 0) pe_int (fun _ _ => rfl)) (pv 1)) (pg_sub (pv 0) pe_int set_list))
            (pss_one (ps_ret (pv 2))))) pss_nil)
        (pss_cons (ps_asg (pe_op op_mod (pe_callTy call_int1 (by rfl) T.n_int (by decide +kernel) (pa_cons (pe_op op_add (pe_op op_mul (pe_ix ix_list (pv 0) pe_int (fun _ _ => rfl)) pe_int) pe_int) pa_nil)) pe_int) (pg_sub (pv 0) pe_int set_list))
        (pss_one (ps_ret (pe_op op_mod (pe_op op_fdiv (pe_op op_mod (pe_callTy call_int1 (by rfl) T.n_int (by decide +kernel) (pa_cons (pe_op op_mul (pe_op op_fdiv (pe_ix ix_list (pv 0) pe_int (fun _ _ => rfl)) pe_int) pe_int) pa_nil)) pe_int) pe_int) (pv 1)))))), ?_⟩
    refine ⟨_, rfl, b, _, _, _, rfl, rfl, SqL.of hb, atI_nat (j := 0) rfl, _, _, rfl, rfl, _, rfl, ?_⟩
    refine ite2 (fun g => ?_) (fun g => ?_)
    · refine ⟨_, rfl, b, _, _, _, rfl, rfl, SqL.of hb, atI_nat (j := 0) rfl, .inl ⟨_, rfl, _, rfl, _, _, rfl, rfl, by omega, ?_⟩⟩
      refine ⟨_, rfl, b, _, _, _, rfl, rfl, SqL.of hb, atI_nat (j := 0) rfl, _, rfl, _, _, rfl, rfl, by unfold CDiv; omega, ?_⟩
      refine ⟨_, rfl, b, _, 0, 0, rfl, rfl, hb, rfl, _, rfl, k _ _ (Int.emod_nonneg _ (by omega)) (Int.emod_lt_of_pos _ (by omega)) ⟨c / m, s0, upd_same, ?_, s1, s2⟩ fun x o e n => by rw [upd_ne n]; exact e⟩
      exact Int.ediv_nonneg c0 (by omega)
    · refine ⟨_, rfl, b, _, _, _, rfl, rfl, SqL.of hb, atI_nat (j := 1) rfl, _, _, rfl, rfl, .inr ⟨by decide, by decide⟩, _, _, rfl, rfl, .inl ⟨_, rfl, _, _, rfl, rfl, (by show (0 : Int) < 2147483563; decide), ?_⟩⟩
      refine ⟨_, rfl, b, _, 1, 1, rfl, rfl, hb, rfl, ?_⟩
      have n0 : (0 : Int) ≤ (s0 * 48271 + 20011) % 2147483563 := Int.emod_nonneg _ (by decide)
      have n1 : (s0 * 48271 + 20011) % 2147483563 < 2147483563 := Int.emod_lt_of_pos _ (by decide)
      have hb' : (upd H b (.lst ([V.int c, .int s0].set 1 ((fun i j : Int => V.int (i % j)) (s0 * 48271 + 20011) 2147483563)))) b = some (.lst [.int c, .int ((s0 * 48271 + 20011) % 2147483563)]) := upd_same
      refine ⟨_, rfl, b, _, _, _, rfl, rfl, SqL.of hb', atI_nat (j := 1) rfl, _, _, rfl, rfl, by unfold CDiv; omega, _, _, rfl, rfl, .inr ⟨by decide, by decide⟩, .inl ⟨_, rfl, _, _, rfl, rfl, (by show (0 : Int) < 2147483543; decide), _, _, rfl, rfl, by unfold CDiv; omega, _, rfl, _, _, rfl, rfl, by omega, ?_⟩⟩
      exact k _ _ (Int.emod_nonneg _ (by omega)) (Int.emod_lt_of_pos _ (by omega)) ⟨c, _, hb', c0, n0, by omega⟩ fun x o e n => by rw [upd_ne n]; exact e
theorem cal_take (T : Txt P w K mg cl) : Cal P w K mg base CX0 1 "_law_take" ["_law_bag_here", "_law_many"] spTake := by
  obtain ⟨f, fd, F, m⟩ := T.d_take
  exact ⟨f, fd, ok_take F T, m, F.kp, F.binds fun _ _ _ _ _ _ us hl => match us, hl with | [_, _], _ => rfl⟩
end
end My
set_option Elab.async false
set_option linter.all false
set_option maxRecDepth 100000
set_option maxHeartbeats 1000000
namespace My
open PySem L2 Dw Wp
open C8 (pss_cut tCut)
set_option pp.maxSteps 600
def spOf : Sp := fun vs H Q _ => ∃ (b a : Addr) (xs : List V), vs = [.ref b, .ref a] ∧ BgAt H b ∧ H a = some (.lst xs) ∧ a ≠ b ∧ 1 ≤ xs.length ∧ xs.length ≤ 900 ∧ ∀ (j : Nat) (x : V) (H' : Hp), xs[j]? = some x → BgAt H' b → But b H H' → Q x H'
section
variable {P : Program} {w : World} {K : PySem.W.Frag} {mg : Str → Option Value} {base : Heap} {cl : String → Addr}
theorem ok_of {f : Addr} {fd : FuncData} (F : Fun K "_law_of" "_law_of" s_of f fd) (T : Txt P w K mg cl) : FnOk P w K mg base CX0 2 f fd ["_law_bag_here", "_law_some"] spOf := by
  refine F.ok sc_of (fun vs H Q E h => ?_) (fun cdv A outer s H vs Q E hr h => ?_)
  · obtain ⟨b, a, xs, rfl, _⟩ := h
    rfl
  · obtain ⟨b, a, xs, rfl, B, ha, nab, l1, l2, k⟩ := h
    have C_take : Cal P w K mg base CX0 1 "_law_take" _ spTake := cal_take T
    refine ⟨_, (pss_one (ps_ret (pe_ix ix_list (pv 1) (pe_cal C_take (hr.mono (by decide)) (pa_cons (pv 0) (pa_cons (pe_callB call_len_seq (by rfl) T.n_len PySem.boot_len (pa_cons (pv 1) pa_nil)) pa_nil))) (fun _ _ => rfl)))), ?_⟩
    refine ⟨_, rfl, _, rfl, _, rfl, a, _, rfl, .inl (SqL.of ha), b, _, rfl, B, by omega, by omega, fun j H' j0 j1 B' D => ?_⟩
    obtain ⟨jn, rfl⟩ : ∃ jn : Nat, j = (jn : Int) := ⟨j.toNat, by omega⟩
    have hj : jn < xs.length := by omega
    exact ⟨a, _, _, _, rfl, rfl, SqL.of (D _ _ ha nab), atI_nat (j := jn) (List.getElem?_eq_getElem hj), k jn _ H' (List.getElem?_eq_getElem hj) B' D⟩
theorem cal_of (T : Txt P w K mg cl) : Cal P w K mg base CX0 2 "_law_of" ["_law_bag_here", "_law_some"] (spOf) := by
  obtain ⟨f, fd, F, m⟩ := T.d_of
  exact ⟨f, fd, ok_of F T, m, F.kp, F.binds fun _ _ _ _ _ _ us hl => match us, hl with | [_, _], _ => rfl⟩
end
end My
set_option Elab.async false
set_option linter.all false
set_option maxRecDepth 100000
set_option maxHeartbeats 1000000
namespace My
open PySem L2 Dw Wp
open C8 (pss_cut tCut)
set_option pp.maxSteps 600
theorem eqv_nilO (xs : List V) : PyData.eqv (sqD true (xs.map vD)) (sqD true []) = xs.isEmpty := by
  cases xs <;> simp [sqD, PyData.eqv, PyData.eqvAll]
theorem odd_ok {xs : List V} (h : ∀ x ∈ xs, Sr x) : ∀ x ∈ xs.filterMap oddF, okV x = true := fun x hx => by
  obtain ⟨y, hy, e⟩ := List.mem_filterMap.mp hx
  have e : (if isI y = true then none else some y) = some x := e
  split at e
  · cases e
  · cases e
    exact (h _ hy).ok
section
variable {P : Program} {w : World} {K : PySem.W.Frag} {mg : Str → Option Value} {base : Heap} {cl : String → Addr}
theorem ok_word {f : Addr} {fd : FuncData} (F : Fun K "_law_word" "_law_word" s_word f fd) (T : Txt P w K mg cl) : FnOk P w K mg base CX0 2 f fd ["_law_link", "_law_count"] (spLkF K) := by
  refine F.ok sc_word (fun vs H Q E h => ?_) (fun cdv A outer s H vs Q E hr h => ?_)
  · obtain ⟨v, r, c, rfl, _⟩ := h
    rfl
  · obtain ⟨v, r, c, rfl, hv, ok, k⟩ := h
    have C_is_whole : Cal P w K mg base CX0 1 "_law_is_whole" _ (spIsI K) := cal_is_whole T
    refine ⟨_, (pss_cons (ps_if (PW.pt (pw_or (pt_not (pt_val (pe_callB call_isiT (by rfl) T.n_isinstance (by decide +kernel) (pa_cons (pv 0) (pa_cons (pe_tup (pa_cons (pe_ty "list" T.n_list) (pa_cons (pe_ty "tuple" T.n_tuple) pa_nil))) pa_nil))))) (pw_or1 (pt_cmpR op_ne (pe_callB call_len_seq (by rfl) T.n_len PySem.boot_len (pa_cons (pv 0) pa_nil)) pe_int (nomark _)))))
          (pss_one (ps_ret pe_str)) pss_nil)
        (pss_cons (ps_if (pt_cmpR (op_neD hr.units) (pe_lc (own := [("_law_x", 2)]) (g := gName 2)  rfl sc_word.nd (pi_seq (pv 0)) (blkOk_by (own := [("_law_x", 2)]) (N := ["_law_link", "_law_count", "_law_x"]) (sc := defScope s_word) (by decide +kernel)) (fun _ _ _ _ _ => pg_name (i := 2) sc_word.nd rfl (Or.inl rfl)) (fun _ _ _ _ _ => pts_one (pt_not (pt_val (pe_cal C_is_whole (hr.mono (by decide)) (pa_cons (pv 2) pa_nil))))) (fun _ _ _ _ _ => (pv 2))) (pe_lst pa_nil) (nomark _))
          (pss_one (ps_ret pe_str)) pss_nil)
        (pss_cons (ps_if (PW.pt (pw_or (pt_not (pt_chain op_le op_lt pe_int (pe_ix ix_either (pv 0) pe_int (fun _ _ => rfl)) (pv 1))) (pw_or1 (pt_not (pt_chain op_le op_lt pe_int (pe_ix ix_either (pv 0) pe_int (fun _ _ => rfl)) (pv 1))))))
          (pss_one (ps_ret pe_str)) pss_nil)
        (pss_one (ps_ret pe_non))))), ?_⟩
    refine ⟨_, rfl, by show 2 ≤ sizeLine; decide, fun tp htp => ?_⟩
    have S0 := sNew (o := .tup [.ty "list", .ty "tuple"]) htp
    obtain ⟨nv, dv, ka⟩ := isLT_rd (K := K) (hv.same S0) ok
    refine ⟨v, tp, _, .type nv, _, _, rfl, upd_same, .cons (.ty "list") (.cons (.ty "tuple") .nil), dv.ty, ka, _, rfl, ?_⟩
    cases r with
    | pl x => exact iteT (iteT (k _ S0))
    | sq xs =>
      refine iteF ?_
      obtain ⟨b, rfl, hb⟩ := hv.same S0
      generalize upd H tp (.tup [.ty "list", .ty "tuple"]) = H1 at S0 hb
      refine ⟨_, rfl, b, xs, rfl, hb.imp SqL.of SqT.of, rfl, _, rfl, ?_⟩
      refine ite2 (fun g => ?_) (fun g => ?_)
      · have k := k _ S0
        have g : ¬ xs.length = 3 := fun e => by rw [e] at g; exact absurd g (by decide)
        rw [show linkW c (.sq xs) = some "link" from if_neg g] at k
        exact k
      have g : xs.length = 3 := by
        simp only [Bool.not_eq_true', decide_eq_false_iff_not, Decidable.not_not] at g
        exact Int.ofNat.inj (V.int.inj g)
      have keep : ∀ {D : Addr} {o : HO}, H1 D = none → upd H1 D o b = H1 b := fun {D o} nD => by
        rcases hb with h | h <;> exact upd_ne (ne_of_none h nD)
      refine ⟨_, rfl, b, xs, rfl, hb, fun J wk D nD => lc_it wk (PvF H1 D xs oddF) rfl (fun i H'' _ q => by rw [q]; exact keep nD) ?_ ?_⟩
      · rintro i x H2 H3 hi rfl ⟨rfl, hx⟩
        obtain ⟨tn, dn, _⟩ := (ok.2 x (List.mem_of_getElem? hx)).dm (K := K) (H := upd H1 D (.lst ((xs.take i).filterMap oddF)))
        refine ⟨rfl, _, rfl, x, tn, rfl, dn, _, rfl, ?_⟩
        refine ite2 (fun h => ?_) (fun h => ?_)
        · exact ⟨_, rfl, fm_put hx (if_neg (by simpa using h)) (small1000 (by have := ok.1; omega))⟩
        · exact fm_skip hx (if_pos (by simpa using h))
      · intro H' q
        obtain rfl := fm_end q
        have oa := odd_all xs
        have oo := odd_ok ok.2
        refine ⟨by show 0 ≤ sizeLine; exact Nat.zero_le _, fun qq nqq => ?_⟩
        have S1 := S0.trans ((sNew (o := .lst (xs.filterMap oddF)) nD).trans (sNew (o := .lst []) nqq))
        have k := k _ S1
        rw [show linkW c (.sq xs) = linkV c xs from if_pos g] at k
        unfold linkV at k
        refine ⟨_, _, dp_lst (SqL.of (sNew nqq _ _ upd_same)) (dpvs fun x hx => okV.flat (oo x hx)), dp_lst (SqL.of upd_same) .nil, row_shaped true oo, row_shaped (xs := []) true (by simp), _, rfl, ?_⟩
        rw [eqv_nilO, oa]
        cases ha : xs.all isI with
        | false =>
          rw [if_pos ha] at k
          exact iteT k
        | true =>
          rw [if_neg (by rw [ha]; decide)] at k
          obtain ⟨x0, x1, x2, rfl⟩ : ∃ x0 x1 x2, xs = [x0, x1, x2] := by
            match xs, g with
            | [x0, x1, x2], _ => exact ⟨_, _, _, rfl⟩
          have ha2 := ha
          simp only [List.all_cons, List.all_nil, Bool.and_true, Bool.and_eq_true] at ha2
          obtain ⟨a0, a1, _⟩ := ha2
          obtain ⟨i0, rfl⟩ : ∃ i, x0 = .int i := by cases x0 with
            | int i => exact ⟨i, rfl⟩
            | _ => cases a0
          obtain ⟨i1, rfl⟩ : ∃ i, x1 = .int i := by cases x1 with
            | int i => exact ⟨i, rfl⟩
            | _ => cases a1
          have hb2 := hb.imp (fun h => (sNew (o := .lst []) nqq) _ _ ((sNew (o := .lst ([V.int i0, .int i1, x2].filterMap oddF)) nD) _ _ h)) (fun h => (sNew (o := .lst []) nqq) _ _ ((sNew (o := .lst ([V.int i0, .int i1, x2].filterMap oddF)) nD) _ _ h))
          generalize upd (upd H1 D (.lst ([V.int i0, .int i1, x2].filterMap oddF))) qq (.lst []) = H2 at hb2 k
          have k : Q (optV (if ((decide (0 ≤ i0) && decide (i0 < c)) && (decide (0 ≤ i1) && decide (i1 < c))) = true then (none : Option Str) else some ("instant" : Str))) H2 := k
          have bad : ((decide (0 ≤ i0) && decide (i0 < c)) && (decide (0 ≤ i1) && decide (i1 < c))) = false → Q (.str "instant") H2 := fun h => by
            rw [if_neg (by rw [h]; decide)] at k
            exact k
          have fine : ((decide (0 ≤ i0) && decide (i0 < c)) && (decide (0 ≤ i1) && decide (i1 < c))) = true → Q .non H2 := fun h => by
            rw [if_pos h] at k
            exact k
          refine iteF ⟨_, rfl, ixOr hb2 (j := 0) rfl ⟨_, _, rfl, rfl, _, rfl, ?_⟩⟩
          refine ite2 (fun h1 => ?_) (fun h1 => ⟨_, rfl, iteT (bad (by rw [Bool.eq_false_iff.mpr h1]; rfl))⟩)
          refine ⟨_, rfl, _, _, rfl, rfl, _, rfl, ?_⟩
          cases h2 : decide (i0 < c) with
          | false => exact iteT (bad (by rw [h1, h2]; rfl))
          | true =>
            refine iteF ⟨_, rfl, ixOr hb2 (j := 1) rfl ⟨_, _, rfl, rfl, _, rfl, ?_⟩⟩
            refine ite2 (fun h3 => ?_) (fun h3 => ⟨_, rfl, iteT (bad (by rw [h1, h2, Bool.eq_false_iff.mpr h3]; rfl))⟩)
            refine ⟨_, rfl, _, _, rfl, rfl, _, rfl, ?_⟩
            cases h4 : decide (i1 < c) with
            | false => exact iteT (bad (by rw [h1, h2, h3, h4]; rfl))
            | true => exact iteF (fine (by rw [h1, h2, h3, h4]; rfl))
theorem cal_word (T : Txt P w K mg cl) : Cal P w K mg base CX0 2 "_law_word" ["_law_link", "_law_count"] (spLkF K) := by
  obtain ⟨f, fd, F, m⟩ := T.d_word
  exact ⟨f, fd, ok_word F T, m, F.kp, F.binds fun _ _ _ _ _ _ us hl => match us, hl with | [_, _], _ => rfl⟩
end
end My
set_option Elab.async false
set_option linter.all false
set_option maxRecDepth 100000
set_option maxHeartbeats 1000000
namespace My
open PySem L2 Dw Wp
open C8 (pss_cut tCut)
set_option pp.maxSteps 600
theorem but_upd {d a : Addr} {H H' : Hp} {o : HO} (k : But d H H') (h : H a = none) : But d H (upd H' a o) := fun b o e n => (upd_ne (ne_of_none e h)).trans (k _ _ e n)
theorem BgAt.same {H H' : Hp} {b : Addr} (h : BgAt H b) (S : Same H H') : BgAt H' b := by
  obtain ⟨c, s, h1, h2⟩ := h
  exact ⟨c, s, S _ _ h1, h2⟩
theorem BgAt.ne {H : Hp} {b a : Addr} (h : BgAt H b) (n : H a = none) : a ≠ b := by
  obtain ⟨c, s, h1, _⟩ := h
  exact Ne.symm (ne_of_none h1 n)
theorem BgAt.upd {H : Hp} {b a : Addr} {o : HO} (h : BgAt H b) (n : a ≠ b) : BgAt (L2.upd H a o) b := by
  obtain ⟨c, s, h1, h2⟩ := h
  exact ⟨c, s, by rw [upd_ne (Ne.symm n)]; exact h1, h2⟩
def spBag (K : PySem.W.Frag) : Sp := fun vs H Q _ => ∃ (a : Addr) (ns : List Int) (i : Nat), vs = [.ref a, .int (i : Nat)] ∧ SqL K H a (ns.map V.int) ∧ ns.length ≤ 63 ∧ i ≤ 3 ∧ ∀ b H', H b = none → BgAt H' b → Same H H' → Q (.ref b) H'
section
variable {P : Program} {w : World} {K : PySem.W.Frag} {mg : Str → Option Value} {base : Heap} {cl : String → Addr}
theorem ok_bag {f : Addr} {fd : FuncData} (F : Fun K "_law_bag" "_law_bag" s_bag f fd) (T : Txt P w K mg cl) : FnOk P w K mg base CX0 1 f fd ["_law_script", "_law_at"] (spBag K) := by
  refine F.ok sc_bag (fun vs H Q E h => ?_) (fun cdv A outer s H vs Q E hr h => ?_)
  · obtain ⟨a, ns, i, rfl, _⟩ := h
    rfl
  · obtain ⟨a, ns, i, rfl, hS, hl, i3, k⟩ := h
    refine ⟨_, (pss_cons (ps_set (i := 2) sc_bag.nd rfl (Or.inl rfl) (pe_cut (pe_ifExp (pt_cmpR op_lt (pv 1) (pe_callB call_len_seq (by rfl) T.n_len PySem.boot_len (pa_cons (pv 0) pa_nil)) (nomark _)) (pe_callTy call_int1 (by rfl) T.n_int (by decide +kernel) (pa_cons (pe_ix ix_list (pv 0) (pv 1) (fun _ _ => rfl)) pa_nil)) pe_int)))
        (pss_cons (ps_set (i := 3) sc_bag.nd rfl (Or.inl rfl) (pe_op op_add (pe_op op_mul pe_int (pv 1)) pe_int))
        (pss_cons (ps_for PassesOwn.never rfl (pi_range1 rfl T.n_range (pa_cons (pe_callB (call_min2 rfl) (by rfl) T.n_min (by decide +kernel) (pa_cons (pe_callB call_len_seq (by rfl) T.n_len PySem.boot_len (pa_cons (pv 0) pa_nil)) (pa_cons pe_int pa_nil))) pa_nil)) (pg_name (i := 4) sc_bag.nd rfl (Or.inl rfl))
          (pss_one (ps_set (i := 3) sc_bag.nd rfl (Or.inl rfl) (pe_op op_mod (pe_callTy call_int1 (by rfl) T.n_int (by decide +kernel) (pa_cons (pe_op op_add (pe_op op_add (pe_op op_add (pe_op op_mul (pv 3) pe_int) (pe_op op_mod (pe_callB call_abs (by rfl) T.n_abs (by decide +kernel) (pa_cons (pe_callTy call_int1 (by rfl) T.n_int (by decide +kernel) (pa_cons (pe_ix ix_list (pv 0) (pv 4) (fun _ _ => rfl)) pa_nil)) pa_nil)) pe_int)) (pe_op op_mul pe_int (pv 4))) (pe_callTy call_int1 (by rfl) T.n_int (by decide +kernel) (pa_cons (pe_cmpR op_lt (pe_ix ix_list (pv 0) (pv 4) (fun _ _ => rfl)) pe_int (nomark _)) pa_nil))) pa_nil)) pe_int))))
        (pss_one (ps_ret (pe_lst (pa_cons (pe_ifExp (pt_cmpR op_ge (pe_callB call_abs (by rfl) T.n_abs (by decide +kernel) (pa_cons (pv 2) pa_nil)) (pe_op op_pow pe_int pe_int) (nomark _)) (pe_op op_add (pe_op op_mul (pe_callB call_abs (by rfl) T.n_abs (by decide +kernel) (pa_cons (pv 2) pa_nil)) pe_int) (pe_callTy call_int1 (by rfl) T.n_int (by decide +kernel) (pa_cons (pe_cmpR op_lt (pv 2) pe_int (nomark _)) pa_nil))) pe_int) (pa_cons (pv 3) pa_nil)))))))), ?_⟩
    refine ⟨fun v H' => H' = H ∧ ∃ c0 : Int, v = .int c0, ?_, fun v H1 ⟨e, c0, hv⟩ => ?_⟩
    · refine ⟨_, rfl, _, rfl, a, _, rfl, .inl hS, _, _, rfl, rfl, _, rfl, ite2 (fun g => ?_) (fun g => ?_)⟩
      · have g : (i : Int) < ((ns.map V.int).length : Nat) := of_decide_eq_true g
        have hi : i < ns.length := by rw [List.length_map] at g; omega
        exact ⟨_, rfl, _, rfl, a, _, _, _, rfl, rfl, hS, atI_nat (j := i) (by rw [List.getElem?_map, List.getElem?_eq_getElem hi]; rfl), .inl ⟨_, rfl, rfl, _, rfl⟩⟩
      · exact ⟨rfl, _, rfl⟩
    subst e hv
    refine ⟨_, rfl, _, _, rfl, rfl, .inl ⟨by decide, by decide⟩, _, _, rfl, rfl, ?_⟩
    have lm : (ns.map V.int).length = ns.length := List.length_map _
    refine ⟨_, rfl, a, _, rfl, .inl hS, _, _, rfl, _, rfl, ?_⟩
    have mn : ∃ n : Nat, (if (63 : Int) < (((ns.map V.int).length : Nat) : Int) then (63 : Int) else (((ns.map V.int).length : Nat) : Int)) = (n : Int) ∧ n ≤ ns.length := by
      rw [lm]
      split
      · exact ⟨63, rfl, by omega⟩
      · exact ⟨ns.length, rfl, Nat.le_refl _⟩
    obtain ⟨n, en, hn⟩ := mn
    rw [en]
    refine ⟨by omega, by omega, ?_⟩
    refine for_range (fun j σ H' => H' = H1 ∧ ∃ (z : Int) (v4 : Option V), 0 ≤ z ∧ z < 4294967296 ∧ σ = [some (.ref a), some (.int (i : Nat)), some (.int c0), some (.int z), v4]) ⟨rfl, _, _, ?_, ?_, rfl⟩ ?_ ?_
    · omega
    · omega
    · rintro j σ H' hj ⟨rfl, z, v4, z0, z1, rfl⟩
      have hj : j < ns.length := by
        rw [Int.toNat_natCast] at hj
        omega
      have at_ : atI (ns.map V.int) ((0 : Int) + (j : Nat)) = some (.int ns[j]) := by
        rw [Int.zero_add]
        exact atI_nat (by rw [List.getElem?_map, List.getElem?_eq_getElem hj]; rfl)
      refine ⟨_, rfl, _, _, rfl, rfl, .inl ⟨by omega, by omega⟩, _, rfl, _, rfl, a, _, _, _, rfl, rfl, hS, at_, .inl ⟨_, rfl, _, rfl, _, _, rfl, rfl, (by show (0 : Int) < 2147483629; decide), _, _, rfl, rfl, _, rfl, _, _, rfl, rfl, .inl ⟨by decide, by decide⟩, _, _, rfl, rfl, _, rfl, _, rfl, a, _, _, _, rfl, rfl, hS, at_, _, _, rfl, rfl, .inr ⟨_, rfl, _, _, rfl, rfl, .inl ⟨_, rfl, _, _, rfl, rfl, (by show (0 : Int) < 2147483587; decide), ?_⟩⟩⟩⟩
      refine ⟨rfl, _, _, Int.emod_nonneg _ (by decide), ?_, rfl⟩
      exact Int.lt_trans (Int.emod_lt_of_pos _ (by decide)) (by decide)
    · rintro σ H' ⟨rfl, z, v4, z0, z1, rfl⟩
      refine ⟨_, rfl, _, rfl, _, _, rfl, rfl, ⟨by decide, by decide, by decide⟩, _, _, rfl, rfl, _, rfl, ite2 (fun _ => ?_) (fun _ => ?_)⟩
      · refine ⟨_, rfl, _, rfl, _, _, rfl, rfl, .inr ⟨by decide, by decide⟩, _, rfl, _, _, rfl, rfl, .inr ⟨_, rfl, _, _, rfl, rfl, _, rfl, by show 2 ≤ sizeLine; decide, fun b nb => k b _ nb ⟨_, _, upd_same, ?_, z0, z1⟩ (sNew nb)⟩⟩
        have : (0 : Int) ≤ (if c0 < 0 then -c0 else c0) := by split <;> omega
        split <;> omega
      · exact ⟨_, rfl, by show 2 ≤ sizeLine; decide, fun b nb => k b _ nb ⟨_, _, upd_same, Int.le_refl _, z0, z1⟩ (sNew nb)⟩
theorem cal_bag (T : Txt P w K mg cl) : Cal P w K mg base CX0 1 "_law_bag" ["_law_script", "_law_at"] (spBag K) := by
  obtain ⟨f, fd, F, m⟩ := T.d_bag
  exact ⟨f, fd, ok_bag F T, m, F.kp, F.binds fun _ _ _ _ _ _ us hl => match us, hl with | [_, _], _ => rfl⟩
end
end My
set_option Elab.async false
set_option linter.all false
set_option maxRecDepth 100000
set_option maxHeartbeats 1000000
namespace My
open PySem L2 Dw Wp
open C8 (pss_cut tCut)
set_option pp.maxSteps 600
def spAmt : Sp := fun vs H Q _ => ∃ (b : Addr), vs = [.ref b] ∧ BgAt H b ∧ ∀ (i : Int) (H' : Hp), BgAt H' b → But b H H' → Q (.int i) H'
def spTimes : Sp := fun vs H Q _ => ∃ (b : Addr) (c : Int), vs = [.ref b, .int c] ∧ BgAt H b ∧ 1 ≤ c ∧ c ≤ 12 ∧ ∀ (a : Addr) (ts : List Int) (H' : Hp), H a = none → H' a = some (.lst (ts.map V.int)) → (ts.length : Int) = c → BgAt H' b → But b H H' → Q (.ref a) H'
section
variable {P : Program} {w : World} {K : PySem.W.Frag} {mg : Str → Option Value} {base : Heap} {cl : String → Addr}
theorem ok_amount {f : Addr} {fd : FuncData} (F : Fun K "_law_amount" "_law_amount" s_amount f fd) (T : Txt P w K mg cl) : FnOk P w K mg base CX0 3 f fd ["_law_bag_here"] spAmt := by
  refine F.ok sc_amount (fun vs H Q E h => ?_) (fun cdv A outer s H vs Q E hr h => ?_)
  · obtain ⟨b, rfl, _⟩ := h
    rfl
  · obtain ⟨b, rfl, B, k⟩ := h
    have C_take : Cal P w K mg base CX0 1 "_law_take" _ spTake := cal_take T
    have C_of : Cal P w K mg base CX0 2 "_law_of" _ spOf := cal_of T
    refine ⟨_, (pss_cons (ps_set (i := 1) sc_amount.nd rfl (Or.inl rfl) (pe_cal C_take (hr.mono (by decide)) (pa_cons (pv 0) (pa_cons pe_int pa_nil))))
        (pss_cons (ps_if (pt_cmpR op_le (pv 1) pe_int (nomark _))
          (pss_one (ps_ret (pe_op op_sub (pe_cal C_take (hr.mono (by decide)) (pa_cons (pv 0) (pa_cons pe_int pa_nil))) pe_int))) pss_nil)
        (pss_cons (ps_set (i := 2) sc_amount.nd rfl (Or.inl rfl) (pe_op op_mulW (pe_cal C_of (hr.mono (by decide)) (pa_cons (pv 0) (pa_cons (pe_lst (pa_cons pe_int (pa_cons (pe_op op_pow pe_int pe_int) (pa_cons (pe_op op_pow pe_int pe_int) pa_nil)))) pa_nil))) (pe_cal C_of (hr.mono (by decide)) (pa_cons (pv 0) (pa_cons (pe_lst (pa_cons pe_int (pa_cons (pe_op op_pow pe_int pe_int) (pa_cons (pe_op op_mulW (pe_op op_pow pe_int pe_int) (pe_op op_pow pe_int pe_int)) pa_nil)))) pa_nil)))))
        (pss_cons (ps_set (i := 2) sc_amount.nd rfl (Or.inl rfl) (pe_op op_add (pv 2) (pe_cal C_take (hr.mono (by decide)) (pa_cons (pv 0) (pa_cons pe_int pa_nil)))))
        (pss_one (ps_ret (pe_ifExp (pt_cmpR op_eq (pe_cal C_take (hr.mono (by decide)) (pa_cons (pv 0) (pa_cons pe_int pa_nil))) pe_int (nomark _)) (pv 2) (pe_un un_neg (pv 2))))))))), ?_⟩
    refine ⟨_, rfl, b, _, rfl, B, by decide, by decide, fun j H1 _ _ B1 D1 => ⟨_, rfl, _, _, rfl, rfl, _, rfl, ite2 (fun _ => ?_) (fun _ => ?_)⟩⟩
    · exact ⟨_, rfl, b, _, rfl, B1, by decide, by decide, fun j H2 _ _ B2 D2 => ⟨_, _, rfl, rfl, k _ _ B2 (D1.trans D2)⟩⟩
    refine ⟨_, rfl, _, _, rfl, rfl, ⟨by decide, by decide, by decide⟩, _, _, rfl, rfl, ⟨by decide, by decide, by decide⟩, by show 3 ≤ sizeLine; decide, fun p np => ?_⟩
    refine ⟨b, p, _, rfl, B1.same (sNew np), upd_same, B1.ne np, by decide, by decide, fun jj x H2 hx B2 D2 => ?_⟩
    have hx := List.mem_of_getElem? hx
    obtain ⟨x, rfl, x0, x1⟩ : ∃ i : Int, x = .int i ∧ 0 ≤ i ∧ i < 2 ^ 200 := by
      simp only [List.mem_cons, List.not_mem_nil, or_false] at hx
      rcases hx with rfl | rfl | rfl <;> exact ⟨_, rfl, by decide, by decide⟩
    refine ⟨_, rfl, _, _, rfl, rfl, ⟨by decide, by decide, by decide⟩, _, _, rfl, rfl, ⟨by decide, by decide, by decide⟩, _, _, rfl, rfl, ⟨by decide, by decide, by decide⟩, _, _, rfl, rfl, (by unfold CMulW; decide +kernel), by show 3 ≤ sizeLine; decide, fun p2 np2 => ?_⟩
    refine ⟨b, p2, _, rfl, B2.same (sNew np2), upd_same, B2.ne np2, by decide, by decide, fun jj2 y H3 hy B3 D3 => ?_⟩
    have hy := List.mem_of_getElem? hy
    obtain ⟨y, rfl, y0, y1⟩ : ∃ i : Int, y = .int i ∧ 0 ≤ i ∧ i < 2 ^ 400 := by
      simp only [List.mem_cons, List.not_mem_nil, or_false] at hy
      rcases hy with rfl | rfl | rfl <;> exact ⟨_, rfl, by decide, by decide⟩
    have D : But b H H3 := D1.trans ((But.of (sNew np)).trans (D2.trans ((But.of (sNew np2)).trans D3)))
    refine ⟨_, _, rfl, rfl, wide_mul (a := 200) (b := 400) (by omega) (by omega) (by decide) (by decide) (by decide), ?_⟩
    refine ⟨_, rfl, _, rfl, b, _, rfl, B3, by decide, by decide, fun j H4 _ _ B4 D4 => ⟨_, _, rfl, rfl, ?_⟩⟩
    refine ⟨_, rfl, b, _, rfl, B4, by decide, by decide, fun j H5 _ _ B5 D5 => ⟨rfl, _, rfl, ite2 (fun _ => ?_) (fun _ => ?_)⟩⟩
    · exact ⟨_, rfl, k _ _ B5 (D.trans (D4.trans D5))⟩
    · exact ⟨_, rfl, _, rfl, k _ _ B5 (D.trans (D4.trans D5))⟩
theorem cal_amount (T : Txt P w K mg cl) : Cal P w K mg base CX0 3 "_law_amount" ["_law_bag_here"] (spAmt) := by
  obtain ⟨f, fd, F, m⟩ := T.d_amount
  exact ⟨f, fd, ok_amount F T, m, F.kp, F.binds fun _ _ _ _ _ _ us hl => match us, hl with | [_], _ => rfl⟩
end
end My
set_option Elab.async false
set_option linter.all false
set_option maxRecDepth 100000
set_option maxHeartbeats 1000000
namespace My
open PySem L2 Dw Wp
open C8 (pss_cut tCut)
set_option pp.maxSteps 600
theorem ints_of {xs : List V} : (∀ x ∈ xs, ∃ i : Int, x = .int i) → ∃ ts : List Int, xs = ts.map V.int := fun h => by
  induction xs with
  | nil => exact ⟨[], rfl⟩
  | cons x xs ih =>
    obtain ⟨i, rfl⟩ := h x List.mem_cons_self
    obtain ⟨ts, rfl⟩ := ih fun y hy => h y (List.mem_cons_of_mem _ hy)
    exact ⟨i :: ts, rfl⟩
section
variable {P : Program} {w : World} {K : PySem.W.Frag} {mg : Str → Option Value} {base : Heap} {cl : String → Addr}
theorem ok_times {f : Addr} {fd : FuncData} (F : Fun K "_law_times" "_law_times" s_times f fd) (T : Txt P w K mg cl) : FnOk P w K mg base CX0 4 f fd ["_law_bag_here", "_law_count"] spTimes := by
  refine F.ok sc_times (fun vs H Q E h => ?_) (fun cdv A outer s H vs Q E hr h => ?_)
  · obtain ⟨b, c, rfl, _⟩ := h
    rfl
  · obtain ⟨b, c, rfl, B, c1, c2, k⟩ := h
    have C_take : Cal P w K mg base CX0 1 "_law_take" _ spTake := cal_take T
    have C_of : Cal P w K mg base CX0 2 "_law_of" _ spOf := cal_of T
    have C_amount : Cal P w K mg base CX0 3 "_law_amount" _ spAmt := cal_amount T
    refine ⟨_, (pss_cons (ps_set (i := 2) sc_times.nd rfl (Or.inr rfl) (pe_cal C_of (hr.mono (by decide)) (pa_cons (pv 0) (pa_cons (pe_lst (pa_cons pe_int (pa_cons pe_int (pa_cons pe_int (pa_cons pe_int pa_nil))))) pa_nil))))
        (pss_cons (ps_setLc (i := 3) (own := [("_law_k", 4)]) (g := gName 4) (tt := tYes) rfl sc_times.nd rfl rfl (sw_true rfl rfl rfl (by decide +kernel)) (pi_range1 rfl T.n_range (pa_cons (pv 1) pa_nil)) (blkOk_by (own := [("_law_k", 4)]) (N := ["_law_bag_here", "_law_count", "_law_wide", "_law_found", "_law_k"]) (sc := defScope s_times) (by decide +kernel)) (fun _ _ _ _ _ => pg_name (i := 4) sc_times.nd rfl (Or.inl rfl)) (fun _ _ _ _ _ => pts_nil) (fun _ _ _ _ _ => (pe_op op_sub (pe_cal C_take (hr.mono (by decide)) (pa_cons (pv 0) (pa_cons (pv 2) pa_nil))) (pe_op op_fdiv (pv 2) pe_int))))
        (pss_cut (ps_if (pt_cmpR op_eq (pe_cal C_take (hr.mono (by decide)) (pa_cons (pv 0) (pa_cons pe_int pa_nil))) pe_int (nomark _))
          (pss_one (ps_asg (pe_cal C_amount (hr.mono (by decide)) (pa_cons (pv 0) pa_nil)) (pg_sub (pv 3) (pe_cal C_take (hr.mono (by decide)) (pa_cons (pv 0) (pa_cons (pv 1) pa_nil))) set_list))) pss_nil)
        (pss_one (ps_ret (pv 3)))))), ?_⟩
    refine ⟨_, rfl, by show 4 ≤ sizeLine; decide, fun p np => ?_⟩
    refine ⟨b, p, _, rfl, B.same (sNew np), upd_same, B.ne np, by decide, by decide, fun jj x H2 hx B2 D2 => ?_⟩
    have hx := List.mem_of_getElem? hx
    obtain ⟨x, rfl, x0, x1⟩ : ∃ i : Int, x = .int i ∧ 1 ≤ i ∧ i < 1073741824 := by
      simp only [List.mem_cons, List.not_mem_nil, or_false] at hx
      rcases hx with rfl | rfl | rfl | rfl <;> exact ⟨_, rfl, by decide, by decide⟩
    have D : But b H H2 := (But.of (sNew np)).trans D2
    clear D2
    refine ⟨_, rfl, c, rfl, by omega, by omega, fun D3 nD => lc_range (fun i H' => ∃ ts : List Int, H' D3 = some (.lst (ts.map V.int)) ∧ ts.length = i ∧ BgAt H' b ∧ But b H2 H') ⟨[], upd_same, rfl, B2.same (sNew nD), But.of (sNew nD)⟩ ?_ ?_⟩
    · rintro i H3 hi ⟨ts, h1, h2, B3, D4⟩
      refine ⟨rfl, _, rfl, _, rfl, b, _, rfl, B3, x0, x1, fun j H4 j0 j1 B4 D5 => ⟨_, rfl, _, _, rfl, rfl, by unfold CDiv; omega, _, _, rfl, rfl, ?_⟩⟩
      have nDb := B2.ne nD
      refine ⟨_, D5 _ _ h1 nDb, small1000 (by rw [List.length_map]; omega), ts ++ [j - x / 3], ?_, by rw [List.length_append, h2]; rfl, B4.upd nDb, but_upd (D4.trans D5) nD⟩
      rw [List.map_append]
      exact upd_same
    rintro H3 ⟨ts, h1, h2, B3, D4⟩
    have nDb := B2.ne nD
    have nD0 : H D3 = none := by
      cases q : H D3 with
      | none => rfl
      | some o => rw [D _ _ q nDb] at nD; cases nD
    have D := D.trans D4
    clear D4
    refine ⟨fun σ' H' => ∃ ts : List Int, H' D3 = some (.lst (ts.map V.int)) ∧ (ts.length : Int) = c ∧ BgAt H' b ∧ But b H H' ∧ ∃ v4 : Option V, σ' = [some (.ref b), some (.int c), some (.int x), some (.ref D3), v4], ?_, ?_⟩
    · refine ⟨_, rfl, b, _, rfl, B3, by decide, by decide, fun j H4 _ _ B4 D4 => ⟨rfl, _, rfl, ite2 (fun _ => ?_) (fun _ => ?_)⟩⟩
      · refine ⟨_, rfl, b, rfl, B4, fun z H5 B5 D5 => ?_⟩
        refine ⟨_, rfl, _, rfl, _, rfl, b, _, rfl, B5, c1, by omega, fun j H6 j0 j1 B6 D6 => ?_⟩
        have h1 := D6 _ _ (D5 _ _ (D4 _ _ h1 nDb) nDb) nDb
        obtain ⟨jn, rfl⟩ : ∃ jn : Nat, j = (jn : Int) := ⟨j.toNat, by omega⟩
        have ln : (ts.map V.int).length = c.toNat := by rw [List.length_map]; exact h2
        refine ⟨D3, _, jn, jn, rfl, rfl, h1, by unfold ixN; rw [if_pos (by omega), if_pos (by omega)]; rfl, ts.set jn z, ?_, ?_, B6.upd nDb, but_upd (D.trans (D4.trans (D5.trans D6))) nD0, _, rfl⟩
        · rw [List.map_set]
          exact upd_same
        · rw [List.length_set]
          omega
      · exact ⟨ts, D4 _ _ h1 nDb, by omega, B4, D.trans D4, _, rfl⟩
    · rintro σ' H4 ⟨ts, h1, h2, B4, D4, v4, rfl⟩
      exact ⟨_, rfl, k _ ts _ nD0 h1 h2 B4 D4⟩
theorem cal_times (T : Txt P w K mg cl) : Cal P w K mg base CX0 4 "_law_times" ["_law_bag_here", "_law_count"] (spTimes) := by
  obtain ⟨f, fd, F, m⟩ := T.d_times
  exact ⟨f, fd, ok_times F T, m, F.kp, F.binds fun _ _ _ _ _ _ us hl => match us, hl with | [_, _], _ => rfl⟩
end
end My
set_option Elab.async false
set_option linter.all false
set_option maxRecDepth 100000
set_option maxHeartbeats 1000000
namespace My
open PySem L2 Dw Wp
open C8 (pss_cut tCut)
set_option pp.maxSteps 600
theorem LkT.same {H H' : Hp} {v : V} {l : Lk} (h : LkT H v l) (S : Same H H') : LkT H' v l := let ⟨b, e, q⟩ := h; ⟨b, e, S _ _ q⟩
theorem BgAt.tup {H : Hp} {b a : Addr} {xs : List V} (h : BgAt H b) (t : H a = some (.tup xs)) : a ≠ b := by
  rintro rfl
  obtain ⟨c, s, h1, _⟩ := h
  rw [h1] at t
  cases t
theorem BgAt.ins {H : Hp} {b a C dx : Addr} {fs : List (Str × V)} (h : BgAt H b) (t : H a = some (.ins C dx fs)) : a ≠ b := by
  rintro rfl
  obtain ⟨c, s, h1, _⟩ := h
  rw [h1] at t
  cases t
theorem LkT.but {H H' : Hp} {b : Addr} {v : V} {l : Lk} (h : LkT H v l) (B : BgAt H b) (D : But b H H') : LkT H' v l := let ⟨a, e, q⟩ := h; ⟨a, e, D _ _ q (B.tup q)⟩
theorem LkT.upd {H : Hp} {a : Addr} {xs : List V} {o : HO} {v : V} {l : Lk} (h : LkT H v l) (e : H a = some (.lst xs)) : LkT (L2.upd H a o) v l := let ⟨b, q, t⟩ := h; ⟨b, q, by rw [upd_ne (ne_of t e (fun z => nomatch z))]; exact t⟩
/-- a list of links -/
def LlT (H : Hp) (a : Addr) (us : List V) (ls : List Lk) : Prop := H a = some (.lst us) ∧ Paired (LkT H) us ls
theorem LlT.same {H H' : Hp} {a : Addr} {us : List V} {ls : List Lk} (h : LlT H a us ls) (S : Same H H') : LlT H' a us ls := ⟨S _ _ h.1, Paired.impP (fun _ _ q => q.same S) h.2⟩
theorem LlT.but {H H' : Hp} {a b : Addr} {us : List V} {ls : List Lk} (h : LlT H a us ls) (n : a ≠ b) (B : BgAt H b) (D : But b H H') : LlT H' a us ls := ⟨D _ _ h.1 n, Paired.impP (fun _ _ q => q.but B D) h.2⟩
def TvAt (H : Hp) (b : Addr) (c : Int) (v : V) : Prop := v = .non ∨ ∃ (a : Addr) (ts : List Int), v = .ref a ∧ H a = some (.lst (ts.map V.int)) ∧ (ts.length : Int) = c ∧ a ≠ b
def spLinks : Sp := fun vs H Q _ => ∃ (b : Addr) (c m : Int) (tv : V), vs = [.ref b, .int c, .int m, tv] ∧ BgAt H b ∧ 1 ≤ c ∧ c ≤ 12 ∧ 0 ≤ m ∧ m ≤ 70 ∧ TvAt H b c tv ∧ ∀ (a : Addr) (us : List V) (ls : List Lk) (H' : Hp), H a = none → LlT H' a us ls → (∀ l ∈ ls, LkOk c l) → (ls.length : Int) = m → BgAt H' b → But b H H' → Q (.ref a) H'
theorem lk_put {H H1 H' : Hp} {b D q : Addr} {us : List V} {ls : List Lk} {x y z : Int} (hL : LlT H' D us ls) (nq : H' q = none) : LlT (upd (upd H' q (.tup [.int x, .int y, .int z])) D (.lst (us ++ [.ref q]))) D (us ++ [.ref q]) (ls ++ [(x, y, z)]) := by
  have nqD : D ≠ q := ne_of_none hL.1 nq
  refine ⟨upd_same, Paired.appendP (Paired.impP (fun _ _ h => ?_) hL.2) (.cons ⟨q, rfl, ?_⟩ .nil)⟩
  · exact LkT.upd (xs := us) (h.same (sNew nq)) (sNew nq _ _ hL.1)
  · rw [upd_ne (Ne.symm nqD)]
    exact upd_same
section
variable {P : Program} {w : World} {K : PySem.W.Frag} {mg : Str → Option Value} {base : Heap} {cl : String → Addr}
theorem ok_links {f : Addr} {fd : FuncData} (F : Fun K "_law_links" "_law_links" s_links f fd) (T : Txt P w K mg cl) : FnOk P w K mg base CX0 4 f fd ["_law_bag_here", "_law_count", "_law_many", "_law_times_here"] spLinks := by
  refine F.ok sc_links (fun vs H Q E h => ?_) (fun cdv A outer s H vs Q E hr h => ?_)
  · obtain ⟨b, c, m, tv, rfl, _⟩ := h
    rfl
  · obtain ⟨b, c, m, tv, rfl, B, c1, c2, m0, m1, htv, k⟩ := h
    have C_take : Cal P w K mg base CX0 1 "_law_take" _ spTake := cal_take T
    have C_amount : Cal P w K mg base CX0 3 "_law_amount" _ spAmt := cal_amount T
    refine ⟨_, (pss_cons (ps_set (i := 4) sc_links.nd rfl (Or.inl rfl) (pe_lst pa_nil))
        (pss_cons (ps_for PassesOwn.never rfl (pi_range1 rfl T.n_range (pa_cons (pv 2) pa_nil)) (pg_name (i := 5) sc_links.nd rfl (Or.inl rfl))
          (pss_cons (ps_par (i := 6) (j := 7) rfl sc_links.nd rfl rfl (by decide) rfl rfl (pa_cons (pe_cal C_take (hr.mono (by decide)) (pa_cons (pv 0) (pa_cons (pv 1) pa_nil))) (pa_cons (pe_cal C_take (hr.mono (by decide)) (pa_cons (pv 0) (pa_cons (pv 1) pa_nil))) pa_nil)) (by rfl))
            (pss_one (ps_if (PW.pt (pw_or (pt_cmpR op_isN (pv 3) pe_non (nomark _)) (pw_or1 (pt_cmpR op_eq (pe_cal C_take (hr.mono (by decide)) (pa_cons (pv 0) (pa_cons pe_int pa_nil))) pe_int (nomark _)))))
              (pss_one (ps_expr (pe_app1 (by exact (pv 4)) (by exact (pa_cons (pe_tup (pa_cons (pv 6) (pa_cons (pv 7) (pa_cons (pe_cal C_amount (hr.mono (by decide)) (pa_cons (pv 0) pa_nil)) pa_nil)))) pa_nil))))) (pss_one (ps_expr (pe_app1 (by exact (pv 4)) (by exact (pa_cons (pe_tup (pa_cons (pv 6) (pa_cons (pv 7) (pa_cons (pe_op op_add (pe_op op_sub (pe_ix ix_list (pv 3) (pv 6) (fun _ _ => rfl)) (pe_ix ix_list (pv 3) (pv 7) (fun _ _ => rfl))) (pe_callB (call_max2 rfl) (by rfl) T.n_max (by decide +kernel) (pa_cons pe_int (pa_cons (pe_op op_sub (pe_cal C_take (hr.mono (by decide)) (pa_cons (pv 0) (pa_cons pe_int pa_nil))) pe_int) pa_nil)))) pa_nil)))) pa_nil)))))))))
        (pss_one (ps_ret (pv 4))))), ?_⟩
    refine ⟨by show 0 ≤ sizeLine; exact Nat.zero_le _, fun D nD => ?_⟩
    have nDb := B.ne nD
    refine ⟨_, rfl, m, rfl, by omega, by omega, for_range (fun i σ H' => ∃ (us : List V) (ls : List Lk) (v5 v6 v7 : Option V), LlT H' D us ls ∧ (∀ l ∈ ls, LkOk c l) ∧ ls.length = i ∧ BgAt H' b ∧ But b H H' ∧ σ = [some (.ref b), some (.int c), some (.int m), some tv, some (.ref D), v5, v6, v7]) ⟨[], [], _, _, _, ⟨upd_same, .nil⟩, (fun l h => (by cases h)), rfl, B.same (sNew nD), But.of (sNew nD), rfl⟩ ?_ ?_⟩
    · rintro i σ H1 hi ⟨us, ls, v5, v6, v7, hL, lok, ll, B1, D1, rfl⟩
      refine ⟨_, rfl, _, rfl, b, _, rfl, B1, c1, by omega, fun o1 H2 o10 o11 B2 D2 => ⟨_, rfl, _, rfl, b, _, rfl, B2, c1, by omega, fun o2 H3 o20 o21 B3 D3 => ?_⟩⟩
      have D3 := D2.trans D3
      have hL3 := hL.but nDb B1 D3
      have D3 := D1.trans D3
      have fin : ∀ (z : Int) {H4 : Hp} {q : Addr}, LlT H4 D us ls → BgAt H4 b → But b H H4 → H4 q = none → ∃ (us' : List V) (ls' : List Lk) (v5 v6 v7 : Option V), LlT (upd (upd H4 q (.tup [.int o1, .int o2, .int z])) D (.lst (us ++ [.ref q]))) D us' ls' ∧ (∀ l ∈ ls', LkOk c l) ∧ ls'.length = i + 1 ∧ BgAt (upd (upd H4 q (.tup [.int o1, .int o2, .int z])) D (.lst (us ++ [.ref q]))) b ∧ But b H (upd (upd H4 q (.tup [.int o1, .int o2, .int z])) D (.lst (us ++ [.ref q]))) ∧ ([some (.ref b), some (.int c), some (.int m), some tv, some (.ref D), some (.int ((0 : Int) + (i : Nat))), some (.int o1), some (.int o2)] : List (Option V)) = [some (.ref b), some (.int c), some (.int m), some tv, some (.ref D), v5, v6, v7] := fun z H4 q h1 h2 h3 h4 => by
        refine ⟨_, _, _, _, _, lk_put (H := H) (H1 := H) (b := b) h1 h4, ?_, by rw [List.length_append, ll]; rfl, (h2.same (sNew h4)).upd nDb, but_upd (but_upd h3 (h3.free (fun _ _ => trivial) h4 (h2.ne h4))) nD, rfl⟩
        intro l hl
        rcases List.mem_append.mp hl with hl | hl
        · exact lok l hl
        · rw [show l = (o1, o2, z) by simpa using hl]
          exact ⟨⟨o10, o11⟩, o20, o21⟩
      have lu := hL.2.length
      have app : ∀ {H4 : Hp}, LlT H4 D us ls → us.length < sizeLine := fun _ => small1000 (by omega)
      have tm : ∀ {H4 : Hp}, BgAt H4 b → But b H3 H4 → LlT H4 D us ls := fun h1 h2 => hL3.but nDb B3 h2
      have old : TvAt H3 b c tv := by
        rcases htv with rfl | ⟨a, ts, rfl, h1, h2, h3⟩
        · exact .inl rfl
        · exact .inr ⟨a, ts, rfl, D3 _ _ h1 h3, h2, h3⟩
      rcases old with rfl | ⟨a, ts, rfl, h1, h2, h3⟩
      · refine ⟨_, _, rfl, _, rfl, rfl, _, rfl, iteT ?_⟩
        refine ⟨_, rfl, .inl ⟨rfl, _, SqL.of hL3.1⟩, _, rfl, _, rfl, _, rfl, b, rfl, B3, fun z H4 B4 D4 => ⟨by show 3 ≤ sizeLine; decide, fun q nq => ?_⟩⟩
        have hL4 := tm B4 D4
        refine ⟨D, _, _, rfl, rfl, sNew nq _ _ hL4.1, app hL4, fin z hL4 B4 (D3.trans D4) nq⟩
      · refine ⟨_, _, rfl, _, rfl, rfl, _, rfl, iteF ?_⟩
        refine ⟨_, rfl, b, _, rfl, B3, by decide, by decide, fun j H4 _ _ B4 D4 => ⟨rfl, _, rfl, ite2 (fun _ => ?_) (fun _ => ?_)⟩⟩
        · have hL4 := tm B4 D4
          refine ⟨_, rfl, .inl ⟨rfl, _, SqL.of hL4.1⟩, _, rfl, _, rfl, _, rfl, b, rfl, B4, fun z H5 B5 D5 => ⟨by show 3 ≤ sizeLine; decide, fun q nq => ?_⟩⟩
          have hL5 := tm B5 (D4.trans D5)
          refine ⟨D, _, _, rfl, rfl, sNew nq _ _ hL5.1, app hL5, fin z hL5 B5 (D3.trans (D4.trans D5)) nq⟩
        · have hL4 := tm B4 D4
          have g1 := D4 _ _ h1 h3
          obtain ⟨n1, rfl⟩ : ∃ n : Nat, o1 = (n : Int) := ⟨o1.toNat, by omega⟩
          obtain ⟨n2, rfl⟩ : ∃ n : Nat, o2 = (n : Int) := ⟨o2.toNat, by omega⟩
          have l1 : n1 < ts.length := by omega
          have l2 : n2 < ts.length := by omega
          have at_ : ∀ {n : Nat}, (h : n < ts.length) → atI (ts.map V.int) (n : Int) = some (.int ts[n]) := fun h => atI_nat (by rw [List.getElem?_map, List.getElem?_eq_getElem h]; rfl)
          refine ⟨_, rfl, .inl ⟨rfl, _, SqL.of hL4.1⟩, _, rfl, _, rfl, _, rfl, _, rfl, a, _, _, _, rfl, rfl, SqL.of g1, at_ l1, _, rfl, _, rfl, a, _, _, _, rfl, rfl, SqL.of g1, at_ l2, _, _, rfl, rfl, _, rfl, b, _, rfl, B4, by decide, by decide, fun j H5 _ _ B5 D5 => ⟨_, _, rfl, rfl, _, _, rfl, _, _, rfl, rfl, by show 3 ≤ sizeLine; decide, fun q nq => ?_⟩⟩
          have hL5 := tm B5 (D4.trans D5)
          refine ⟨D, _, _, rfl, rfl, sNew nq _ _ hL5.1, app hL5, fin _ hL5 B5 (D3.trans (D4.trans D5)) nq⟩
    · rintro σ H1 ⟨us, ls, v5, v6, v7, hL, lok, ll, B1, D1, rfl⟩
      exact ⟨_, rfl, k D us ls H1 nD hL lok (by omega) B1 D1⟩
theorem cal_links (T : Txt P w K mg cl) : Cal P w K mg base CX0 4 "_law_links" ["_law_bag_here", "_law_count", "_law_many", "_law_times_here"] (spLinks) := by
  obtain ⟨f, fd, F, m⟩ := T.d_links
  exact ⟨f, fd, ok_links F T, m, F.kp, F.binds fun _ _ _ _ _ _ us hl => match us, hl with | [_, _, _, _], _ => rfl⟩
end
end My
set_option Elab.async false
set_option linter.all false
set_option maxRecDepth 100000
set_option maxHeartbeats 1000000
namespace My
open PySem L2 Dw Wp
open C8 (pss_cut tCut)
set_option pp.maxSteps 600
def DueV (H : Hp) (v : V) : Option (V × Str) → Prop
  | none => v = .non
  | some (i, s) => ∃ t, v = .ref t ∧ H t = some (.tup [i, .str s])
def spDue (K : PySem.W.Frag) : Sp := fun vs H Q _ => ∃ (cv lv : V) (n : String) (ro : Option (List Rd)), vs = [cv, lv] ∧ Dm K H cv n ∧ LsAt K H lv ro ∧ ∀ v H', Same H H' → DueV H' v (sysW cv ro) → Q v H'
def ixV : Option (V × Str) → Prop
  | none => True
  | some (i, _) => ∃ z : Int, i = .int z ∨ i = .non
section
variable {P : Program} {w : World} {K : PySem.W.Frag} {mg : Str → Option Value} {base : Heap} {cl : String → Addr}
theorem ok_due {f : Addr} {fd : FuncData} (F : Fun K "_law_due" "_law_due" s_due f fd) (T : Txt P w K mg cl) : FnOk P w K mg base CX0 3 f fd ["_law_count", "_law_links_here"] (spDue K) := by
  refine F.ok sc_due (fun vs H Q E h => ?_) (fun cdv A outer s H vs Q E hr h => ?_)
  · obtain ⟨cv, lv, n, ro, rfl, _⟩ := h
    rfl
  · obtain ⟨cv, lv, n, ro, rfl, dc, hl, k⟩ := h
    have C_is_whole : Cal P w K mg base CX0 1 "_law_is_whole" _ (spIsI K) := cal_is_whole T
    have C_word : Cal P w K mg base CX0 2 "_law_word" _ (spLkF K) := cal_word T
    refine ⟨_, (pss_cons (ps_if (PW.pt (pw_or (pt_not (pt_val (pe_cal C_is_whole (hr.mono (by decide)) (pa_cons (pv 0) pa_nil)))) (pw_or1 (pt_not (pt_chain op_le op_le pe_int (pv 0) pe_int)))))
          (pss_one (ps_ret (pe_tup (pa_cons pe_non (pa_cons pe_str pa_nil))))) pss_nil)
        (pss_cons (ps_if (PW.pt (pw_or (pt_not (pt_val (pe_callB call_isiT (by rfl) T.n_isinstance (by decide +kernel) (pa_cons (pv 1) (pa_cons (pe_tup (pa_cons (pe_ty "list" T.n_list) (pa_cons (pe_ty "tuple" T.n_tuple) pa_nil))) pa_nil))))) (pw_or1 (pt_cmpR op_gt (pe_callB call_len_seq (by rfl) T.n_len PySem.boot_len (pa_cons (pv 1) pa_nil)) pe_int (nomark _)))))
          (pss_one (ps_ret (pe_tup (pa_cons pe_non (pa_cons pe_str pa_nil))))) pss_nil)
        (pss_cons (ps_for PassesOwn.never rfl (pi_range1 rfl T.n_range (pa_cons (pe_callB call_len_seq (by rfl) T.n_len PySem.boot_len (pa_cons (pv 1) pa_nil)) pa_nil)) (pg_name (i := 2) sc_due.nd rfl (Or.inl rfl))
          (pss_one (ps_if (pt_cmpR op_notN (pe_cal C_word (hr.mono (by decide)) (pa_cons (pe_ix ix_either (pv 1) (pv 2) (fun _ _ => rfl)) (pa_cons (pv 0) pa_nil))) pe_non (nomark _))
              (pss_one (ps_ret (pe_tup (pa_cons (pv 2) (pa_cons (pe_cal C_word (hr.mono (by decide)) (pa_cons (pe_ix ix_either (pv 1) (pv 2) (fun _ _ => rfl)) (pa_cons (pv 0) pa_nil))) pa_nil))))) pss_nil)))
        (pss_one (ps_ret pe_non))))), ?_⟩
    have ret : ∀ {i : V} {s : Str} {H1 : Hp}, sysW cv ro = some (i, s) → Same H H1 → ([i, .str s] : List V).length ≤ sizeLine ∧ ∀ p, H1 p = none → Q (.ref p) (upd H1 p (.tup [i, .str s])) := fun {i s H1} e S => ⟨by show 2 ≤ sizeLine; decide, fun p np => k _ _ (S.trans (sNew np)) (by rw [e]; exact ⟨p, rfl, upd_same⟩)⟩
    refine ⟨_, rfl, cv, n, rfl, dc, _, rfl, ?_⟩
    by_cases hc : isCt cv = true
    rotate_left
    · have hs : sysW cv ro = some (V.non, ("count" : Str)) := by
        unfold sysW
        exact if_pos (by simpa using hc)
      have fin := ret hs (Same.refl H)
      cases dc with
      | int c =>
        have hc : ¬ (decide (1 ≤ c) && decide (c ≤ 12)) = true := hc
        refine iteF ⟨_, rfl, _, _, rfl, rfl, _, rfl, ?_⟩
        refine ite2 (fun h1 => ?_) (fun h1 => ?_)
        · have h2 : decide (c ≤ 12) = false := by
            rw [h1, Bool.true_and] at hc
            exact Bool.eq_false_iff.mpr hc
          refine ⟨_, _, rfl, rfl, _, rfl, ?_⟩
          rw [h2]
          exact iteT fin
        · exact ⟨_, rfl, iteT fin⟩
      | bl b => exact iteT (iteT fin)
      | non => exact iteT (iteT fin)
      | str x hx => exact iteT (iteT fin)
      | lst e => exact iteT (iteT fin)
      | tup e => exact iteT (iteT fin)
    obtain ⟨c, rfl⟩ : ∃ c, cv = .int c := by
      cases cv with
      | int c => exact ⟨c, rfl⟩
      | _ => cases hc
    have hc : (decide (1 ≤ c) && decide (c ≤ 12)) = true := hc
    obtain ⟨c1, c2⟩ := Bool.and_eq_true_iff.mp hc
    cases dc
    refine iteF ⟨_, rfl, _, _, rfl, rfl, _, rfl, ?_⟩
    rw [c1]
    refine iteT ⟨_, _, rfl, rfl, _, rfl, ?_⟩
    rw [c2]
    refine iteF ?_
    refine ⟨_, rfl, by show 2 ≤ sizeLine; decide, fun tp htp => ?_⟩
    have S0 := sNew (o := .tup [.ty "list", .ty "tuple"]) htp
    cases ro with
    | none =>
      obtain ⟨ty, d1, d2⟩ := hl _ S0
      refine ⟨lv, tp, _, ty, _, _, rfl, upd_same, .cons (.ty "list") (.cons (.ty "tuple") .nil), d1, d2, _, rfl, iteT (iteT ?_)⟩
      exact ret (sysW_n hc) S0
    | some rs =>
      obtain ⟨r, ws, rfl, hr1, hpw, rok, rl⟩ := hl.same S0
      have lw := hpw.length
      obtain ⟨ty, d1, d2⟩ : ∃ t, TyX K (upd H tp (.tup [.ty "list", .ty "tuple"])) (.ref r) t ∧ PySem.W.kitAny K t [.type "list", .type "tuple"] = some true := by
        rcases hr1 with h | h
        · exact ⟨_, (Dm.lst h : Dm K _ (.ref r) "list").ty, isLT (.lst h)⟩
        · exact ⟨_, (Dm.tup h : Dm K _ (.ref r) "tuple").ty, isLT (.tup h)⟩
      refine ⟨_, tp, _, ty, _, _, rfl, upd_same, .cons (.ty "list") (.cons (.ty "tuple") .nil), d1, d2, _, rfl, iteF ?_⟩
      refine ⟨_, rfl, r, ws, rfl, hr1.imp SqL.of SqT.of, _, _, rfl, rfl, _, rfl, ?_⟩
      generalize upd H tp (.tup [.ty "list", .ty "tuple"]) = H1 at S0 hr1 hpw d1
      have us := sysW_s (rs := rs) hc
      refine ite2 (fun g => ?_) (fun g => ?_)
      · have g : (200 : Int) < ws.length := of_decide_eq_true g
        rw [if_pos (by omega)] at us
        exact ret us S0
      have g : ¬ (200 : Int) < ws.length := fun z => g (decide_eq_true z)
      rw [if_neg (by omega)] at us
      refine ⟨_, rfl, r, ws, rfl, hr1.imp SqL.of SqT.of, _, rfl, by omega, by omega, for_range (fun i σ H' => Same H1 H' ∧ linksW c 0 rs = linksW c i (rs.drop i) ∧ ∃ v2, σ = [some (.int c), some (.ref r), v2]) ⟨Same.refl _, rfl, _, rfl⟩ ?_ ?_⟩
      · rintro i σ H2 hi ⟨S2, hg, v2, rfl⟩
        rw [Int.toNat_natCast] at hi
        have hi2 : i < rs.length := by omega
        obtain ⟨v, hv, hvx⟩ := Paired.at' (i := i) (y := rs[i]) hpw (List.getElem?_eq_getElem hi2)
        have rx := rok rs[i] (List.getElem_mem hi2)
        have hg : linksW c 0 rs = (match linkW c rs[i] with
          | some w => some (.int (i : Nat), w)
          | none => linksW c (i + 1) (rs.drop (i + 1))) := by
          rw [take_drop_at (List.getElem?_eq_getElem hi2)] at hg
          exact hg
        rw [show (0 : Int) + (i : Nat) = ((i : Nat) : Int) from Int.zero_add _]
        refine ⟨_, rfl, _, rfl, ixOr (hr1.imp (S2 _ _) (S2 _ _)) hv ⟨_, rfl, v, rs[i], c, rfl, hvx.same S2, rx, fun H3 S3 => ?_⟩⟩
        have S3 := S2.trans S3
        cases e : linkW c rs[i] with
        | none =>
          rw [e] at hg
          exact ⟨rfl, _, rfl, iteF ⟨S3, hg, _, rfl⟩⟩
        | some wd =>
          rw [e] at hg
          refine ⟨rfl, _, rfl, iteT ⟨_, rfl, _, rfl, _, rfl, ixOr (hr1.imp (S3 _ _) (S3 _ _)) hv ⟨_, rfl, v, rs[i], c, rfl, hvx.same S3, rx, fun H4 S4 => ?_⟩⟩⟩
          rw [e]
          exact ret (us.trans hg) (S0.trans (S3.trans S4))
      · rintro σ H2 ⟨S2, hg, v2, rfl⟩
        rw [Int.toNat_natCast, List.drop_of_length_le (by omega)] at hg
        exact k _ _ (S0.trans S2) (by rw [us, hg]; exact rfl)
theorem cal_due (T : Txt P w K mg cl) : Cal P w K mg base CX0 3 "_law_due" ["_law_count", "_law_links_here"] (spDue K) := by
  obtain ⟨f, fd, F, m⟩ := T.d_due
  exact ⟨f, fd, ok_due F T, m, F.kp, F.binds fun _ _ _ _ _ _ us hl => match us, hl with | [_, _], _ => rfl⟩
theorem ok_made {f : Addr} {fd : FuncData} (F : Fun K "_law_made" "_law_made" s_made f fd) (T : Txt P w K mg cl) : FnOk P w K mg base CX0 6 f fd ["_law_count", "_law_links_here"] (spDue K) := by
  refine F.ok sc_made (fun vs H Q E h => ?_) (fun cdv A outer s H vs Q E hr h => ?_)
  · obtain ⟨cv, lv, n, ro, rfl, _⟩ := h
    rfl
  · obtain ⟨cv, lv, n, ro, rfl, dc, hl, k⟩ := h
    have I_System : CalC P w K mg base (L2.CX P w) 4 (cl "System") _ (spSys K (cl "System") (cl "BadSystem")) := cal_System_init T
    refine ⟨_, (pss_cut (ps_try_as (i := 3) (Wout := fun _ _ _ _ => False) rfl rfl sc_made.nd rfl rfl ⟨rfl, by decide, Or.inl T.m_BadSystem⟩ takes0
            (fun W pn xe tk po => (pss_one (ps_set (i := 2) sc_made.nd rfl (Or.inl rfl) (pe_mkS I_System T.m_System (hr.mono (by decide)) (fun σ => passAt tk σ) (pa_cons (pv 0) (pa_cons (pv 1) pa_nil))))))
            (fun a oe cls d pn hz hf => (pss_one (ps_ret (pe_tup (pa_cons (pe_xf (T.x_BadSystem).xf T.xf_BadSystem_index hz hf (pv 3)) (pa_cons (pe_xf (T.x_BadSystem).xf T.xf_BadSystem_what hz hf (pv 3)) pa_nil)))))))
        (pss_one (ps_ret (pe_ifExp (pt_cmpR op_eq (pe_fld (pv 2) rfl) (pv 0) (nomark _)) pe_non pe_str)))), ?_⟩
    refine ⟨fun σ' H' => ∃ (x t : Addr) (c : Int) (us : List V) (ls : List Lk), Same H H' ∧ sysW cv ro = none ∧ cv = .int c ∧ SyAt (cl "System") H' x c t us ls ∧ σ' = [some cv, some lv, some (.ref x), none], ?_, ?_⟩
    · refine ⟨_, rfl, _, rfl, mkSys dc hl (fun i w G e hd S2 he => ?_) (fun c ls p t us H2 h1 h2 h3 S2 X => ?_)⟩
      · refine ⟨true, T.is_BadSystem, fun _ a0 _ => ?_, fun q => Bool.noConfusion q⟩
        refine ⟨_, rfl, rfl, rfl, e, _, _, rfl, upd_same, rfl, _, rfl, rfl, rfl, e, _, _, rfl, upd_same, rfl, by show 2 ≤ sizeLine; decide, fun t ht => ?_⟩
        refine k _ _ ((same_upd S2 he).trans (sNew ht)) ?_
        rw [hd]
        exact ⟨t, rfl, upd_same⟩
      · exact ⟨p, t, c, us, ls, S2, h3, h1, X, rfl⟩
    · rintro σ' H2 ⟨x, t, c, us, ls, S2, hn, rfl, X, rfl⟩
      obtain ⟨dx, hself⟩ := X.self
      refine ⟨_, rfl, x, _, _, _, _, rfl, hself, T.cl_System, T.na_System _ (by decide), rfl, _, rfl, rfl, _, rfl, ?_⟩
      rw [decide_eq_true rfl]
      exact iteT (k _ _ S2 (by rw [hn]; exact rfl))
theorem cal_made (T : Txt P w K mg cl) : Cal P w K mg base CX0 6 "_law_made" ["_law_count", "_law_links_here"] (spDue K) := by
  obtain ⟨f, fd, F, m⟩ := T.d_made
  exact ⟨f, fd, ok_made F T, m, F.kp, F.binds fun _ _ _ _ _ _ us hl => match us, hl with | [_, _], _ => rfl⟩
end
end My
set_option Elab.async false
set_option linter.all false
set_option maxRecDepth 100000
set_option maxHeartbeats 1000000
namespace My
open PySem L2 Dw Wp
open C8 (pss_cut tCut)
set_option pp.maxSteps 600
def spTB (K : PySem.W.Frag) (C : Addr) : Sp := fun vs H Q _ => ∃ (p t : Addr) (c : Int) (us : List V) (ls : List Lk) (v : V) (to : Option (List V)), vs = [.ref p, v] ∧ SyAt C H p c t us ls ∧ (∀ l ∈ ls, LkOk c l) ∧ ls.length ≤ 900 ∧ TsAt K H v to ∧
  (tmsB c to = false → ∀ r H', Same H H' → H' r = some (.tup [.str "times", .str "times"]) → Q (.ref r) H') ∧
  (∀ ts : List Int, to = some (ts.map V.int) → (ts.length : Int) = c → ∀ r t' H', Same H H' → H' t' = some (.tup ((brk ls ts).map fun (i : Nat) => V.int i)) → H' r = some (.tup [.bl (brk ls ts).isEmpty, .ref t']) → Q (.ref r) H')
def spIsTold (C : Addr) : Sp := fun vs H Q _ => ∃ (p t a : Addr) (c : Int) (us us' : List V) (ls : List Lk), vs = [.ref p, .int c, .ref a] ∧ SyAt C H p c t us ls ∧ LlT H a us' ls ∧ ls.length ≤ 900 ∧ ∀ H', Same H H' → Q (.bl true) H'
theorem tms_true {c : Int} {ts : List Int} (h : (ts.length : Int) = c) : tmsB c (some (ts.map V.int)) = true := by
  show (decide (((ts.map V.int).length : Int) = c) && (ts.map V.int).all isI) = true
  rw [List.length_map, decide_eq_true h, Bool.true_and, List.all_map]
  exact List.all_eq_true.mpr fun _ _ => rfl
theorem ints_inj : ∀ as bs : List Int, as.map V.int = bs.map V.int → as = bs := fun as => by
  induction as with
  | nil => intro bs h; cases bs with
    | nil => rfl
    | cons _ _ => cases h
  | cons x as ih => intro bs h; cases bs with
    | nil => cases h
    | cons y bs =>
      rw [List.map_cons, List.map_cons] at h
      injection h with h1 h2
      rw [V.int.inj h1, ih bs h2]
section
variable {P : Program} {w : World} {K : PySem.W.Frag} {mg : Str → Option Value} {base : Heap} {cl : String → Addr}
theorem ok_told_broken {f : Addr} {fd : FuncData} (F : Fun K "_law_told_broken" "_law_told_broken" s_told_broken f fd) (T : Txt P w K mg cl) : FnOk P w K mg base CX0 6 f fd ["_law_system", "_law_times_here"] (spTB K (cl "System")) := by
  refine F.ok sc_told_broken (fun vs H Q E h => ?_) (fun cdv A outer s H vs Q E hr h => ?_)
  · obtain ⟨p, t, c, us, ls, v, to, rfl, _⟩ := h
    rfl
  · obtain ⟨p, t, c, us, ls, v, to, rfl, X, lok, le, hv, bad, good⟩ := h
    have C_System_broken : CalM P w K mg base (L2.CX P w) 3 (cl "System") "broken" _ (spBrk K (cl "System") (cl "BadTimes")) := cal_System_broken T
    have C_System_keeps : CalM P w K mg base (L2.CX P w) 4 (cl "System") "keeps" _ (spKps K (cl "System") (cl "BadTimes")) := cal_System_keeps T
    refine ⟨_, (pss_cut (ps_try_only (Wout := fun _ _ _ _ => False) rfl rfl ⟨rfl, by decide, Or.inl T.m_BadTimes⟩ takes0
            (fun W pn xe tk po => (pss_one (ps_set (i := 2) sc_told_broken.nd rfl (Or.inl rfl) (pe_mthS T.cl_System C_System_keeps (hr.mono (by decide)) (pv 0) (fun σ => passAt tk σ) (pa_cons (pv 1) pa_nil)))))
            (fun a oe cls d pn _ _ => (pss_one (ps_set (i := 2) sc_told_broken.nd rfl (Or.inl rfl) pe_str))))
        (pss_cut (ps_try_only (Wout := fun _ _ _ _ => False) rfl rfl ⟨rfl, by decide, Or.inl T.m_BadTimes⟩ takes0
            (fun W pn xe tk po => (pss_one (ps_set (i := 3) sc_told_broken.nd rfl (Or.inl rfl) (pe_mthS T.cl_System C_System_broken (hr.mono (by decide)) (pv 0) (fun σ => passAt tk σ) (pa_cons (pv 1) pa_nil)))))
            (fun a oe cls d pn _ _ => (pss_one (ps_set (i := 3) sc_told_broken.nd rfl (Or.inl rfl) pe_str))))
        (pss_one (ps_ret (pe_tup (pa_cons (pv 2) (pa_cons (pv 3) pa_nil))))))), ?_⟩
    obtain ⟨dx, hself⟩ := X.self
    cases hb : tmsB c to with
    | false =>
      have no : ∀ {ts : List Int} {P : Prop}, to = some (ts.map V.int) → (ts.length : Int) = c → P := fun e lt => by
        rw [e, tms_true lt] at hb
        cases hb
      refine ⟨fun σ' H' => Same H H' ∧ σ' = [some (.ref p), some v, some (.str "times"), none], ?_, ?_⟩
      · refine ⟨_, rfl, p, _, _, rfl, hself, rfl, _, rfl, p, t, c, us, ls, v, to, rfl, X, lok, le, hv, fun _ G S => ?_, fun ts e lt H' S => no e lt⟩
        exact ⟨true, T.is_BadTimes, fun _ _ _ => ⟨S, rfl⟩, fun q => Bool.noConfusion q⟩
      rintro σ' H1 ⟨S1, rfl⟩
      refine ⟨fun σ' H' => Same H H' ∧ σ' = [some (.ref p), some v, some (.str "times"), some (.str "times")], ?_, ?_⟩
      · refine ⟨_, rfl, p, _, _, rfl, S1 _ _ hself, rfl, _, rfl, p, t, c, us, ls, v, to, rfl, X.same S1, lok, le, hv.same S1, fun _ G S => ?_, fun ts e lt t' H' S => no e lt⟩
        exact ⟨true, T.is_BadTimes, fun _ _ _ => ⟨S1.trans S, rfl⟩, fun q => Bool.noConfusion q⟩
      rintro σ' H2 ⟨S2, rfl⟩
      exact ⟨_, rfl, _, rfl, by show 2 ≤ sizeLine; decide, fun r nr => bad hb r _ (S2.trans (sNew nr)) upd_same⟩
    | true =>
      obtain ⟨ts, rfl, lt⟩ := tms_ints hb
      refine ⟨fun σ' H' => Same H H' ∧ σ' = [some (.ref p), some v, some (.bl (brk ls ts).isEmpty), none], ?_, ?_⟩
      · refine ⟨_, rfl, p, _, _, rfl, hself, rfl, _, rfl, p, t, c, us, ls, v, _, rfl, X, lok, le, hv, fun z => (by rw [hb] at z; cases z), fun ts' e lt H' S => ?_⟩
        obtain rfl := ints_inj _ _ (Option.some.inj e)
        exact ⟨S, rfl⟩
      rintro σ' H1 ⟨S1, rfl⟩
      refine ⟨fun σ' H' => Same H H' ∧ ∃ t', H' t' = some (.tup ((brk ls ts).map fun (i : Nat) => V.int i)) ∧ σ' = [some (.ref p), some v, some (.bl (brk ls ts).isEmpty), some (.ref t')], ?_, ?_⟩
      · refine ⟨_, rfl, p, _, _, rfl, S1 _ _ hself, rfl, _, rfl, p, t, c, us, ls, v, _, rfl, X.same S1, lok, le, hv.same S1, fun z => (by rw [hb] at z; cases z), fun ts' e lt t' H' S ht => ?_⟩
        obtain rfl := ints_inj _ _ (Option.some.inj e)
        exact ⟨S1.trans S, t', ht, rfl⟩
      rintro σ' H2 ⟨S2, t', ht, rfl⟩
      exact ⟨_, rfl, _, rfl, by show 2 ≤ sizeLine; decide, fun r nr => good ts rfl lt r t' _ (S2.trans (sNew nr)) (sNew nr _ _ ht) upd_same⟩
theorem cal_told_broken (T : Txt P w K mg cl) : Cal P w K mg base CX0 6 "_law_told_broken" ["_law_system", "_law_times_here"] (spTB K (cl "System")) := by
  obtain ⟨f, fd, F, m⟩ := T.d_told_broken
  exact ⟨f, fd, ok_told_broken F T, m, F.kp, F.binds fun _ _ _ _ _ _ us hl => match us, hl with | [_, _], _ => rfl⟩
theorem ok_is_told {f : Addr} {fd : FuncData} (F : Fun K "_law_is_told" "_law_is_told" s_is_told f fd) (T : Txt P w K mg cl) : FnOk P w K mg base CX0 6 f fd ["_law_system", "_law_count", "_law_links_here"] (spIsTold (cl "System")) := by
  refine F.ok sc_is_told (fun vs H Q E h => ?_) (fun cdv A outer s H vs Q E hr h => ?_)
  · obtain ⟨p, t, a, c, us, us', ls, rfl, _⟩ := h
    rfl
  · obtain ⟨p, t, a, c, us, us', ls, rfl, X, L, le, k⟩ := h
    have C_is_whole : Cal P w K mg base CX0 1 "_law_is_whole" _ (spIsI K) := cal_is_whole T
    have C_System_len : CalM P w K mg base CX0 1 (cl "System") "__len__" _ (spLenS (cl "System")) := cal_System_len T
    have C_System_iter : CalI P w K mg base 1 (cl "System") "links" := cal_System_iter T
    refine ⟨_, (pss_cons (ps_if (PW.pt (pw_or (pt_cmpR op_ne (pe_fld (pv 0) rfl) (pv 1) (nomark _)) (pw_or (pt_not (pt_val (pe_cal C_is_whole (hr.mono (by decide)) (pa_cons (pe_fld (pv 0) rfl) pa_nil)))) (pw_or1 (pt_not (pt_val (pe_callB call_isi (by rfl) T.n_isinstance (by decide +kernel) (pa_cons (pe_fld (pv 0) rfl) (pa_cons (pe_ty "tuple" T.n_tuple) pa_nil)))))))))
          (pss_one (ps_ret pe_bl)) pss_nil)
        (pss_cons (ps_if (PW.pt (pw_or (pt_cmpR (op_neD hr.units) (pe_fld (pv 0) rfl) (pe_callTy call_tuple_of (by rfl) T.n_tuple (by decide +kernel) (pa_cons (pv 2) pa_nil)) (nomark _)) (pw_or1 (pt_cmpR (op_neD hr.units) (pe_lc (own := [("_law_x", 3)]) (g := gName 3)  rfl sc_is_told.nd (pi_tup (pe_fld (pv 0) rfl)) (blkOk_by (own := [("_law_x", 3)]) (N := ["_law_system", "_law_count", "_law_links_here", "_law_x"]) (sc := defScope s_is_told) (by decide +kernel)) (fun _ _ _ _ _ => pg_name (i := 3) sc_is_told.nd rfl (Or.inl rfl)) (fun _ _ _ _ _ => pts_one (pt_not (pt_val (pe_callB (call_isiK' (K := K) rfl) (by rfl) T.n_isinstance (by decide +kernel) (pa_cons (pv 3) (pa_cons (pe_ty "tuple" T.n_tuple) pa_nil)))))) (fun _ _ _ _ _ => (pv 3))) (pe_lst pa_nil) (nomark _)))))
          (pss_one (ps_ret pe_bl)) pss_nil)
        (pss_one (ps_ret (pe_and (pe_cmpR op_eq (pe_callB (call_lenOwn C_System_len (hr.mono (by decide))) (by rfl) T.n_len PySem.boot_len (pa_cons (pv 0) pa_nil)) (pe_callB call_len_seq (by rfl) T.n_len PySem.boot_len (pa_cons (pv 2) pa_nil)) (nomark _)) (pe_one (pe_cmpR (op_eqD hr.units) (pe_callTy (call_listI C_System_iter C_System_len (hr.mono (by decide))) (by rfl) T.n_list (by decide +kernel) (pa_cons (pv 0) pa_nil)) (pe_callTy call_list_of (by rfl) T.n_list (by decide +kernel) (pa_cons (pv 2) pa_nil)) (nomark _)))))))), ?_⟩
    obtain ⟨dx, hself⟩ := X.self
    have neI : ∀ {x : V}, ¬ (!decide (x = x)) = true := fun {x} => by simp
    refine ⟨_, rfl, p, _, _, _, _, rfl, hself, T.cl_System, T.na_System _ (by decide), rfl, _, rfl, rfl, _, rfl, ite2 (fun g => absurd g neI) (fun _ => ?_)⟩
    refine ⟨_, rfl, p, _, _, _, _, rfl, hself, T.cl_System, T.na_System _ (by decide), rfl, _, _, rfl, .int c, _, rfl, iteF ?_⟩
    have tt : ∀ {H' : Hp} {x : Addr} {xs : List V}, H' x = some (.tup xs) → Dm K H' (.ref x) "tuple" := fun h => .tup h
    refine ⟨_, rfl, p, _, _, _, _, rfl, hself, T.cl_System, T.na_System _ (by decide), rfl, _, _, _, _, _, rfl, .ty "tuple", (tt X.rows).ty, kit_ty (by decide +kernel), true, rfl, iteF ?_⟩
    have fl := lks_fl ls
    refine ⟨_, rfl, p, _, _, _, _, rfl, hself, T.cl_System, T.na_System _ (by decide), rfl, _, rfl, a, us', rfl, .inl ⟨SqL.of L.1, fun t1 nt1 => ?_⟩⟩
    have S1 := sNew (o := .tup us') nt1
    have X := X.same S1
    have L2 := L.same S1
    refine ⟨lksD ls, lksD ls, dp_tup (SqT.of X.rows) (lks_dp X.each), dp_tup (SqT.of upd_same) (lks_dp L2.2), fls_shaped false fl, fls_shaped false fl, _, rfl, ?_⟩
    rw [lksD_self]
    clear L
    have hself := S1 _ _ hself
    generalize upd H t1 (.tup us') = H1 at S1 X L2 hself
    refine iteF ⟨_, rfl, p, _, _, _, _, rfl, hself, T.cl_System, T.na_System _ (by decide), rfl, t, rfl, ⟨_, SqT.of X.rows⟩, fun D nD => lc_tup (K := K) (a := t) (xs := us) (PvF H1 D us (fun _ => none)) rfl (fun i H' _ q => by rw [q]; exact SqT.of (by rw [upd_ne (ne_of_none X.rows nD)]; exact X.rows)) ?_ ?_⟩
    · rintro i x H' hx rfl
      obtain ⟨l, hl, b, rfl, hb⟩ := Paired.at X.each hx
      refine ⟨rfl, _, rfl, _, _, _, _, _, rfl, .ty "tuple", (tt (sNew nD _ _ hb)).ty, kit_ty (by decide +kernel), true, rfl, ?_⟩
      exact fm_skip hx rfl
    intro H' q
    obtain rfl := fm_end q
    rw [show List.filterMap (fun _ => (none : Option V)) us = [] by simp]
    refine ⟨by show 0 ≤ sizeLine; exact Nat.zero_le _, fun qq nqq => ?_⟩
    have S2 := (sNew (o := .lst []) nD).trans (sNew (o := .lst []) nqq)
    refine ⟨sqD true [], sqD true [], dp_lst (SqL.of (sNew nqq _ _ upd_same)) .nil, dp_lst (SqL.of upd_same) .nil, row_shaped (xs := []) true (by simp), row_shaped (xs := []) true (by simp), _, rfl, ?_⟩
    have S1 := S1.trans S2
    have X := X.same S2
    have L2 := L2.same S2
    have hself := S2 _ _ hself
    generalize upd (upd H1 D (.lst [])) qq (.lst []) = H2 at S1 X L2 hself
    rw [show PyData.eqv (sqD true []) (sqD true []) = true from eqv_nilO []]
    refine iteF ?_
    refine ⟨_, rfl, p, _, _, rfl, hself, p, t, c, us, ls, rfl, X, _, rfl, by omega, _, rfl, a, us', rfl, .inl (SqL.of L2.1), ?_⟩
    rw [L2.2.length]
    refine ⟨rfl, _, rfl, ?_⟩
    rw [decide_eq_true rfl]
    refine iteT ⟨_, rfl, p, _, t, _, us, rfl, hself, rfl, X.rows, fun H' S => ⟨p, t, c, us, ls, rfl, X.same S, _, rfl, by omega, rfl⟩, fun D1 nD1 => ?_⟩
    refine ⟨_, rfl, a, us', rfl, .inl (SqL.of (sNew nD1 _ _ L2.1)), fun D2 nD2 => ?_⟩
    have S3 := (sNew (o := .lst us) nD1).trans (sNew (o := .lst us') nD2)
    have X := X.same S3
    have L2 := L2.same S3
    refine ⟨sqD true (ls.map lkD), sqD true (ls.map lkD), dp_lst (SqL.of (sNew nD2 _ _ upd_same)) (lks_dp X.each), dp_lst (SqL.of upd_same) (lks_dp L2.2), fls_shaped true fl, fls_shaped true fl, ?_⟩
    rw [sqD_self true fun d hd => by obtain ⟨l, _, rfl⟩ := List.mem_map.mp hd; exact row_self false _]
    exact k _ (S1.trans S3)
theorem cal_is_told (T : Txt P w K mg cl) : Cal P w K mg base CX0 6 "_law_is_told" ["_law_system", "_law_count", "_law_links_here"] (spIsTold (cl "System")) := by
  obtain ⟨f, fd, F, m⟩ := T.d_is_told
  exact ⟨f, fd, ok_is_told F T, m, F.kp, F.binds fun _ _ _ _ _ _ us hl => match us, hl with | [_, _, _], _ => rfl⟩
end
end My
set_option Elab.async false
set_option linter.all false
set_option maxRecDepth 100000
set_option maxHeartbeats 1000000
namespace My
open PySem L2 Dw Wp
open C8 (pss_cut tCut)
set_option pp.maxSteps 600
/-- each is a row handed in, made after H -/
def Good (H H' : Hp) (xs : List V) : Prop := ∀ x ∈ xs, ∃ r, RdAt H' x r ∧ RdOk r ∧ ∀ q, x = .ref q → H q = none
theorem Good.nil {H H' : Hp} : Good H H' [] := fun x h => by cases h
theorem Good.same {H H1 H2 : Hp} {xs : List V} (W : Good H H1 xs) (S : Same H1 H2) : Good H H2 xs := fun x h => let ⟨r, h1, h2, h3⟩ := W x h; ⟨r, h1.same S, h2, h3⟩
theorem Good.snoc {H H' : Hp} {xs : List V} {v : V} (W : Good H H' xs) (h : ∃ r, RdAt H' v r ∧ RdOk r ∧ ∀ q, v = .ref q → H q = none) : Good H H' (xs ++ [v]) := fun x hx => by
  rcases List.mem_append.mp hx with hx | hx
  · exact W x hx
  · rw [show x = v by simpa using hx]
    exact h
theorem Good.pl {H H' : Hp} {xs : List V} {v : V} (W : Good H H' xs) (s : Sr v) (n : ∀ q, v = .ref q → False) : Good H H' (xs ++ [v]) := W.snoc ⟨.pl v, rfl, s, fun q e => (n q e).elim⟩
theorem Good.putL {H H1 H2 : Hp} {xs ys : List V} {p : Addr} (W : Good H H2 xs) (S : Same H H1) (np : H1 p = none) (hp : H2 p = some (.lst ys)) (l : ys.length ≤ 6) (s : ∀ x ∈ ys, Sr x) : Good H H2 (xs ++ [.ref p]) := W.snoc ⟨.sq ys, ⟨p, rfl, .inl hp⟩, ⟨l, s⟩, fun q e => by cases e; exact S.free np⟩
theorem Good.putT {H H1 H2 : Hp} {xs ys : List V} {p : Addr} (W : Good H H2 xs) (S : Same H H1) (np : H1 p = none) (hp : H2 p = some (.tup ys)) (l : ys.length ≤ 6) (s : ∀ x ∈ ys, Sr x) : Good H H2 (xs ++ [.ref p]) := W.snoc ⟨.sq ys, ⟨p, rfl, .inr hp⟩, ⟨l, s⟩, fun q e => by cases e; exact S.free np⟩
theorem RdAt.but {H H' : Hp} {b : Addr} {v : V} {r : Rd} (h : RdAt H v r) (n : ∀ q, v = .ref q → q ≠ b) (D : But b H H') : RdAt H' v r := by
  cases r with
  | pl x => exact h
  | sq xs =>
    obtain ⟨q, e, hq⟩ := h
    exact ⟨q, e, hq.imp (fun z => D _ _ z (n q e)) fun z => D _ _ z (n q e)⟩
def spSpoilt : Sp := fun vs H Q _ => ∃ (b q : Addr) (c : Int) (l : Lk), vs = [.ref b, .ref q, .int c] ∧ BgAt H b ∧ H q = some (.tup (lkV l)) ∧ ∀ v r H', RdAt H' v r → RdOk r → (∀ x, v = .ref x → H x = none) → BgAt H' b → But b H H' → Q v H'
section
variable {P : Program} {w : World} {K : PySem.W.Frag} {mg : Str → Option Value} {base : Heap} {cl : String → Addr}
theorem ok_spoilt {f : Addr} {fd : FuncData} (F : Fun K "_law_spoilt" "_law_spoilt" s_spoilt f fd) (T : Txt P w K mg cl) : FnOk P w K mg base CX0 3 f fd ["_law_bag_here", "_law_link", "_law_count"] spSpoilt := by
  refine F.ok sc_spoilt (fun vs H Q E h => ?_) (fun cdv A outer s H vs Q E hr h => ?_)
  · obtain ⟨b, q, c, l, rfl, _⟩ := h
    rfl
  · obtain ⟨b, q, c, l, rfl, B, hq, k⟩ := h
    have C_of : Cal P w K mg base CX0 2 "_law_of" _ spOf := cal_of T
    refine ⟨_, (pss_cons (ps_asg (pv 1) (pg_tup rfl (pgs_cons (pg_name (i := 3) sc_spoilt.nd rfl (Or.inl rfl)) (pgs_cons (pg_name (i := 4) sc_spoilt.nd rfl (Or.inl rfl)) (pgs_cons (pg_name (i := 5) sc_spoilt.nd rfl (Or.inl rfl)) pgs_nil)))))
        (pss_cons (ps_set (i := 6) sc_spoilt.nd rfl (Or.inl rfl) (pe_lst (pa_cons (pe_tup (pa_cons (pv 3) (pa_cons (pv 4) pa_nil))) (pa_cons (pe_lst (pa_cons (pv 3) (pa_cons (pv 4) (pa_cons (pv 5) (pa_cons pe_int pa_nil))))) (pa_cons (pe_tup pa_nil) (pa_cons pe_non (pa_cons pe_str (pa_cons pe_int (pa_cons (pe_tup (pa_cons pe_bl (pa_cons (pv 4) (pa_cons (pv 5) pa_nil)))) (pa_cons (pe_tup (pa_cons (pv 3) (pa_cons pe_bl (pa_cons (pv 5) pa_nil)))) (pa_cons (pe_tup (pa_cons (pv 3) (pa_cons (pv 4) (pa_cons pe_bl pa_nil)))) (pa_cons (pe_tup (pa_cons (pv 3) (pa_cons (pv 4) (pa_cons pe_non pa_nil)))) (pa_cons (pe_tup (pa_cons (pv 3) (pa_cons (pv 4) (pa_cons pe_str pa_nil)))) (pa_cons (pe_tup (pa_cons (pv 2) (pa_cons (pv 4) (pa_cons (pv 5) pa_nil)))) (pa_cons (pe_tup (pa_cons (pv 3) (pa_cons (pe_un un_neg pe_int) (pa_cons (pv 5) pa_nil)))) (pa_cons (pe_tup (pa_cons (pv 3) (pa_cons (pe_op op_add (pv 2) (pe_op op_pow pe_int pe_int)) (pa_cons (pv 5) pa_nil)))) (pa_cons (pe_tup (pa_cons (pe_op op_sub (pe_un un_neg pe_int) (pe_op op_pow pe_int pe_int)) (pa_cons (pv 4) (pa_cons pe_str pa_nil)))) (pa_cons (pe_tup (pa_cons (pv 2) (pa_cons (pe_un un_neg pe_int) (pa_cons pe_non pa_nil)))) (pa_cons (pe_lst (pa_cons (pe_op op_sub (pv 2) pe_int) (pa_cons pe_int (pa_cons (pe_un un_neg (pv 5)) pa_nil)))) (pa_cons (pe_tup (pa_cons pe_int (pa_cons (pe_op op_sub (pv 2) pe_int) (pa_cons (pv 5) pa_nil)))) (pa_cons (pe_lst (pa_cons (pv 3) (pa_cons (pv 4) (pa_cons (pv 5) pa_nil)))) pa_nil)))))))))))))))))))))
        (pss_one (ps_ret (pe_cal C_of (hr.mono (by decide)) (pa_cons (pv 0) (pa_cons (pv 6) pa_nil))))))), ?_⟩
    refine ⟨_, rfl, q, _, rfl, SqT.of hq, rfl, _, _, rfl, _, _, rfl, _, _, rfl, rfl, ?_⟩
    have W : Good H H [] := Good.nil
    have S : Same H H := Same.refl H
    refine ⟨_, rfl, _, rfl, by show 2 ≤ sizeLine; decide, fun p1 n1 => ?_⟩
    have W := (W.same (sNew (o := (.tup [.int l.1, .int l.2.1])) n1)).putT (p := p1) (ys := [.int l.1, .int l.2.1]) S n1 upd_same (by show 2 ≤ 6; decide) (fun x hx => (by simp only [List.mem_cons, List.not_mem_nil, or_false] at hx; rcases hx with rfl | rfl <;> first | trivial | exact ⟨by decide, by decide +kernel⟩))
    have S := S.trans (sNew (o := (.tup [.int l.1, .int l.2.1])) n1)
    generalize upd H p1 (.tup [.int l.1, .int l.2.1]) = H1 at W S
    refine ⟨_, rfl, _, rfl, _, rfl, by show 4 ≤ sizeLine; decide, fun p2 n2 => ?_⟩
    have W := (W.same (sNew (o := (.lst [.int l.1, .int l.2.1, .int l.2.2, .int 0])) n2)).putL (p := p2) (ys := [.int l.1, .int l.2.1, .int l.2.2, .int 0]) S n2 upd_same (by show 4 ≤ 6; decide) (fun x hx => (by simp only [List.mem_cons, List.not_mem_nil, or_false] at hx; rcases hx with rfl | rfl | rfl | rfl <;> first | trivial | exact ⟨by decide, by decide +kernel⟩))
    have S := S.trans (sNew (o := (.lst [.int l.1, .int l.2.1, .int l.2.2, .int 0])) n2)
    generalize upd H1 p2 (.lst [.int l.1, .int l.2.1, .int l.2.2, .int 0]) = H2 at W S
    refine ⟨by show 0 ≤ sizeLine; exact Nat.zero_le _, fun p3 n3 => ?_⟩
    have W := (W.same (sNew (o := (.tup [])) n3)).putT (p := p3) (ys := []) S n3 upd_same (by show 0 ≤ 6; decide) (fun x h => (by cases h))
    have S := S.trans (sNew (o := (.tup [])) n3)
    generalize upd H2 p3 (.tup []) = H3 at W S
    have W := W.pl (v := .non) (by trivial) (fun q z => by cases z)
    have W := W.pl (v := .str "abc") (by exact ⟨by decide, by decide +kernel⟩) (fun q z => by cases z)
    have W := W.pl (v := .int 5) (by trivial) (fun q z => by cases z)
    refine ⟨_, rfl, _, rfl, by show 3 ≤ sizeLine; decide, fun p4 n4 => ?_⟩
    have W := (W.same (sNew (o := (.tup [.bl true, .int l.2.1, .int l.2.2])) n4)).putT (p := p4) (ys := [.bl true, .int l.2.1, .int l.2.2]) S n4 upd_same (by show 3 ≤ 6; decide) (fun x hx => (by simp only [List.mem_cons, List.not_mem_nil, or_false] at hx; rcases hx with rfl | rfl | rfl <;> first | trivial | exact ⟨by decide, by decide +kernel⟩))
    have S := S.trans (sNew (o := (.tup [.bl true, .int l.2.1, .int l.2.2])) n4)
    generalize upd H3 p4 (.tup [.bl true, .int l.2.1, .int l.2.2]) = H4 at W S
    refine ⟨_, rfl, _, rfl, by show 3 ≤ sizeLine; decide, fun p5 n5 => ?_⟩
    have W := (W.same (sNew (o := (.tup [.int l.1, .bl false, .int l.2.2])) n5)).putT (p := p5) (ys := [.int l.1, .bl false, .int l.2.2]) S n5 upd_same (by show 3 ≤ 6; decide) (fun x hx => (by simp only [List.mem_cons, List.not_mem_nil, or_false] at hx; rcases hx with rfl | rfl | rfl <;> first | trivial | exact ⟨by decide, by decide +kernel⟩))
    have S := S.trans (sNew (o := (.tup [.int l.1, .bl false, .int l.2.2])) n5)
    generalize upd H4 p5 (.tup [.int l.1, .bl false, .int l.2.2]) = H5 at W S
    refine ⟨_, rfl, _, rfl, by show 3 ≤ sizeLine; decide, fun p6 n6 => ?_⟩
    have W := (W.same (sNew (o := (.tup [.int l.1, .int l.2.1, .bl true])) n6)).putT (p := p6) (ys := [.int l.1, .int l.2.1, .bl true]) S n6 upd_same (by show 3 ≤ 6; decide) (fun x hx => (by simp only [List.mem_cons, List.not_mem_nil, or_false] at hx; rcases hx with rfl | rfl | rfl <;> first | trivial | exact ⟨by decide, by decide +kernel⟩))
    have S := S.trans (sNew (o := (.tup [.int l.1, .int l.2.1, .bl true])) n6)
    generalize upd H5 p6 (.tup [.int l.1, .int l.2.1, .bl true]) = H6 at W S
    refine ⟨_, rfl, _, rfl, by show 3 ≤ sizeLine; decide, fun p7 n7 => ?_⟩
    have W := (W.same (sNew (o := (.tup [.int l.1, .int l.2.1, .non])) n7)).putT (p := p7) (ys := [.int l.1, .int l.2.1, .non]) S n7 upd_same (by show 3 ≤ 6; decide) (fun x hx => (by simp only [List.mem_cons, List.not_mem_nil, or_false] at hx; rcases hx with rfl | rfl | rfl <;> first | trivial | exact ⟨by decide, by decide +kernel⟩))
    have S := S.trans (sNew (o := (.tup [.int l.1, .int l.2.1, .non])) n7)
    generalize upd H6 p7 (.tup [.int l.1, .int l.2.1, .non]) = H7 at W S
    refine ⟨_, rfl, _, rfl, by show 3 ≤ sizeLine; decide, fun p8 n8 => ?_⟩
    have W := (W.same (sNew (o := (.tup [.int l.1, .int l.2.1, .str "1"])) n8)).putT (p := p8) (ys := [.int l.1, .int l.2.1, .str "1"]) S n8 upd_same (by show 3 ≤ 6; decide) (fun x hx => (by simp only [List.mem_cons, List.not_mem_nil, or_false] at hx; rcases hx with rfl | rfl | rfl <;> first | trivial | exact ⟨by decide, by decide +kernel⟩))
    have S := S.trans (sNew (o := (.tup [.int l.1, .int l.2.1, .str "1"])) n8)
    generalize upd H7 p8 (.tup [.int l.1, .int l.2.1, .str "1"]) = H8 at W S
    refine ⟨_, rfl, _, rfl, _, rfl, by show 3 ≤ sizeLine; decide, fun p9 n9 => ?_⟩
    have W := (W.same (sNew (o := (.tup [.int c, .int l.2.1, .int l.2.2])) n9)).putT (p := p9) (ys := [.int c, .int l.2.1, .int l.2.2]) S n9 upd_same (by show 3 ≤ 6; decide) (fun x hx => (by simp only [List.mem_cons, List.not_mem_nil, or_false] at hx; rcases hx with rfl | rfl | rfl <;> first | trivial | exact ⟨by decide, by decide +kernel⟩))
    have S := S.trans (sNew (o := (.tup [.int c, .int l.2.1, .int l.2.2])) n9)
    generalize upd H8 p9 (.tup [.int c, .int l.2.1, .int l.2.2]) = H9 at W S
    refine ⟨_, rfl, _, rfl, _, rfl, by show 3 ≤ sizeLine; decide, fun p10 n10 => ?_⟩
    have W := (W.same (sNew (o := (.tup [.int l.1, .int (-1), .int l.2.2])) n10)).putT (p := p10) (ys := [.int l.1, .int (-1), .int l.2.2]) S n10 upd_same (by show 3 ≤ 6; decide) (fun x hx => (by simp only [List.mem_cons, List.not_mem_nil, or_false] at hx; rcases hx with rfl | rfl | rfl <;> first | trivial | exact ⟨by decide, by decide +kernel⟩))
    have S := S.trans (sNew (o := (.tup [.int l.1, .int (-1), .int l.2.2])) n10)
    generalize upd H9 p10 (.tup [.int l.1, .int (-1), .int l.2.2]) = H10 at W S
    refine ⟨_, rfl, _, rfl, _, _, rfl, rfl, ⟨by decide, by decide, by decide⟩, _, _, rfl, rfl, _, rfl, by show 3 ≤ sizeLine; decide, fun p11 n11 => ?_⟩
    have W := (W.same (sNew (o := (.tup [.int l.1, .int (c + 10 ^ (20 : Int).toNat), .int l.2.2])) n11)).putT (p := p11) (ys := [.int l.1, .int (c + 10 ^ (20 : Int).toNat), .int l.2.2]) S n11 upd_same (by show 3 ≤ 6; decide) (fun x hx => (by simp only [List.mem_cons, List.not_mem_nil, or_false] at hx; rcases hx with rfl | rfl | rfl <;> first | trivial | exact ⟨by decide, by decide +kernel⟩))
    have S := S.trans (sNew (o := (.tup [.int l.1, .int (c + 10 ^ (20 : Int).toNat), .int l.2.2])) n11)
    generalize upd H10 p11 (.tup [.int l.1, .int (c + 10 ^ (20 : Int).toNat), .int l.2.2]) = H11 at W S
    refine ⟨_, rfl, _, _, rfl, rfl, ⟨by decide, by decide, by decide⟩, _, _, rfl, rfl, _, rfl, by show 3 ≤ sizeLine; decide, fun p12 n12 => ?_⟩
    have W := (W.same (sNew (o := (.tup [.int (-1 - 10 ^ (20 : Int).toNat), .int l.2.1, .str "1"])) n12)).putT (p := p12) (ys := [.int (-1 - 10 ^ (20 : Int).toNat), .int l.2.1, .str "1"]) S n12 upd_same (by show 3 ≤ 6; decide) (fun x hx => (by simp only [List.mem_cons, List.not_mem_nil, or_false] at hx; rcases hx with rfl | rfl | rfl <;> first | trivial | exact ⟨by decide, by decide +kernel⟩))
    have S := S.trans (sNew (o := (.tup [.int (-1 - 10 ^ (20 : Int).toNat), .int l.2.1, .str "1"])) n12)
    generalize upd H11 p12 (.tup [.int (-1 - 10 ^ (20 : Int).toNat), .int l.2.1, .str "1"]) = H12 at W S
    refine ⟨_, rfl, _, rfl, by show 3 ≤ sizeLine; decide, fun p13 n13 => ?_⟩
    have W := (W.same (sNew (o := (.tup [.int c, .int (-1), .non])) n13)).putT (p := p13) (ys := [.int c, .int (-1), .non]) S n13 upd_same (by show 3 ≤ 6; decide) (fun x hx => (by simp only [List.mem_cons, List.not_mem_nil, or_false] at hx; rcases hx with rfl | rfl | rfl <;> first | trivial | exact ⟨by decide, by decide +kernel⟩))
    have S := S.trans (sNew (o := (.tup [.int c, .int (-1), .non])) n13)
    generalize upd H12 p13 (.tup [.int c, .int (-1), .non]) = H13 at W S
    refine ⟨_, rfl, _, _, rfl, rfl, _, rfl, _, rfl, by show 3 ≤ sizeLine; decide, fun p14 n14 => ?_⟩
    have W := (W.same (sNew (o := (.lst [.int (c - 1), .int 0, .int (-l.2.2)])) n14)).putL (p := p14) (ys := [.int (c - 1), .int 0, .int (-l.2.2)]) S n14 upd_same (by show 3 ≤ 6; decide) (fun x hx => (by simp only [List.mem_cons, List.not_mem_nil, or_false] at hx; rcases hx with rfl | rfl | rfl <;> first | trivial | exact ⟨by decide, by decide +kernel⟩))
    have S := S.trans (sNew (o := (.lst [.int (c - 1), .int 0, .int (-l.2.2)])) n14)
    generalize upd H13 p14 (.lst [.int (c - 1), .int 0, .int (-l.2.2)]) = H14 at W S
    refine ⟨_, rfl, _, _, rfl, rfl, _, rfl, by show 3 ≤ sizeLine; decide, fun p15 n15 => ?_⟩
    have W := (W.same (sNew (o := (.tup [.int 0, .int (c - 1), .int l.2.2])) n15)).putT (p := p15) (ys := [.int 0, .int (c - 1), .int l.2.2]) S n15 upd_same (by show 3 ≤ 6; decide) (fun x hx => (by simp only [List.mem_cons, List.not_mem_nil, or_false] at hx; rcases hx with rfl | rfl | rfl <;> first | trivial | exact ⟨by decide, by decide +kernel⟩))
    have S := S.trans (sNew (o := (.tup [.int 0, .int (c - 1), .int l.2.2])) n15)
    generalize upd H14 p15 (.tup [.int 0, .int (c - 1), .int l.2.2]) = H15 at W S
    refine ⟨_, rfl, _, rfl, _, rfl, by show 3 ≤ sizeLine; decide, fun p16 n16 => ?_⟩
    have W := (W.same (sNew (o := (.lst [.int l.1, .int l.2.1, .int l.2.2])) n16)).putL (p := p16) (ys := [.int l.1, .int l.2.1, .int l.2.2]) S n16 upd_same (by show 3 ≤ 6; decide) (fun x hx => (by simp only [List.mem_cons, List.not_mem_nil, or_false] at hx; rcases hx with rfl | rfl | rfl <;> first | trivial | exact ⟨by decide, by decide +kernel⟩))
    have S := S.trans (sNew (o := (.lst [.int l.1, .int l.2.1, .int l.2.2])) n16)
    generalize upd H15 p16 (.lst [.int l.1, .int l.2.1, .int l.2.2]) = H16 at W S
    refine ⟨by show 19 ≤ sizeLine; decide, fun p np => ?_⟩
    have S2 := sNew (o := .lst [.ref p1, .ref p2, .ref p3, .non, .str "abc", .int 5, .ref p4, .ref p5, .ref p6, .ref p7, .ref p8, .ref p9, .ref p10, .ref p11, .ref p12, .ref p13, .ref p14, .ref p15, .ref p16]) np
    refine ⟨_, rfl, _, rfl, b, p, _, rfl, (B.same S).same S2, upd_same, (B.same S).ne np, by show 1 ≤ 19; decide, by show 19 ≤ 900; decide, fun j x H2 hx B2 D2 => ?_⟩
    obtain ⟨r, h1, h2, h3⟩ := W x (List.mem_of_getElem? hx)
    exact k x r H2 (RdAt.but (h1.same S2) (fun q e => B.ne (h3 q e)) D2) h2 h3 B2 ((But.of (S.trans S2)).trans D2)
theorem cal_spoilt (T : Txt P w K mg cl) : Cal P w K mg base CX0 3 "_law_spoilt" ["_law_bag_here", "_law_link", "_law_count"] (spSpoilt) := by
  obtain ⟨f, fd, F, m⟩ := T.d_spoilt
  exact ⟨f, fd, ok_spoilt F T, m, F.kp, F.binds fun _ _ _ _ _ _ us hl => match us, hl with | [_, _, _], _ => rfl⟩
end
end My
set_option Elab.async false
set_option linter.all false
set_option maxRecDepth 100000
set_option maxHeartbeats 1000000
namespace My
open PySem L2 Dw Wp
open C8 (pss_cut tCut)
set_option pp.maxSteps 600
theorem eqv_nilI (is : List Int) : PyData.eqv (sqD true ((is.map V.int).map vD)) (sqD true []) = is.isEmpty := by
  rw [eqv_nilO]
  cases is <;> rfl
theorem okI (is : List Int) : ∀ x ∈ is.map V.int, okV x = true := fun x hx => by
  obtain ⟨i, _, rfl⟩ := List.mem_map.mp hx
  rfl
theorem dpI {K : PySem.W.Frag} {H : Hp} {q : Addr} {is : List Int} (h : H q = some (.lst (is.map V.int))) : Dp K H (.ref q) (sqD true ((is.map V.int).map vD)) := dp_lst (SqL.of h) (dpvs fun x hx => okV.flat (okI is x hx))
def misF (ls : List Lk) (is : List Nat) (k : Nat) : Option Int := if jo ls is k = true then none else some ((1 : Int) + (k : Nat))
theorem mis_all (ls : List Lk) (is : List Nat) : ∀ n, ((List.range n).filterMap (misF ls is)).isEmpty = (List.range n).all (jo ls is) := fun n => by
  induction n with
  | zero => rfl
  | succ n ih =>
    rw [List.range_succ, List.filterMap_append, List.all_append, ← ih]
    cases h : jo ls is n with
    | true => simp [misF, h]
    | false => simp [misF, h]
theorem ixF_ok {n : Nat} {is : List Int} : ∀ x ∈ (is.map V.int).filterMap (ixF n), okV x = true := fun x hx => by
  obtain ⟨y, hy, e⟩ := List.mem_filterMap.mp hx
  obtain ⟨i, _, rfl⟩ := List.mem_map.mp hy
  have e : (if isIx n i = true then none else some (V.int i)) = some x := e
  split at e
  · cases e
  · cases e
    rfl
def spFits : Sp := fun vs H Q _ => ∃ (a q : Addr) (us : List V) (ls : List Lk) (is : List Nat), vs = [.ref a, .ref q] ∧ LlT H a us ls ∧ H q = some (.lst ((is.map fun (i : Nat) => (i : Int)).map V.int)) ∧ is.length ≤ 900 ∧ (∀ i ∈ is, i < ls.length) ∧ ∀ H', Same H H' → Q (.bl (fits ls is)) H'
def spPD : Sp := fun vs H Q _ => ∃ (a q : Addr) (us : List V) (ls : List Lk) (is : List Int) (st en : Int), vs = [.ref a, .ref q, .int st, .int en] ∧ LlT H a us ls ∧ ls.length ≤ 900 ∧ H q = some (.lst (is.map V.int)) ∧ is.length ≤ 900 ∧
  (is.all (isIx ls.length) = false → ∀ H', Same H H' → Q (.str "index") H') ∧
  (∀ js : List Nat, is = (js.map fun (i : Nat) => (i : Int)) → (∀ j ∈ js, j < ls.length) → ∀ H', Same H H' → Q (optV (pathN ls js st en)) H')
def spRD : Sp := fun vs H Q _ => ∃ (a q : Addr) (us : List V) (ls : List Lk) (is : List Int), vs = [.ref a, .ref q] ∧ LlT H a us ls ∧ ls.length ≤ 900 ∧ H q = some (.lst (is.map V.int)) ∧ is.length ≤ 900 ∧
  (is = [] → ∀ H', Same H H' → Q (.str "empty") H') ∧ (is ≠ [] → is.all (isIx ls.length) = false → ∀ H', Same H H' → Q (.str "index") H') ∧
  (∀ js : List Nat, js ≠ [] → is = (js.map fun (i : Nat) => (i : Int)) → (∀ j ∈ js, j < ls.length) → ∀ H', Same H H' → Q (optV (ringN ls js)) H')
theorem ll_at {H : Hp} {t : Addr} {us : List V} {ls : List Lk} {i : Nat} (hL : LlT H t us ls) (h : i < ls.length) : ∃ b, us[i]? = some (.ref b) ∧ H b = some (.tup (lkV ls[i])) := by
  obtain ⟨v, hv, b, rfl, hb⟩ := Paired.at' (i := i) (y := ls[i]) hL.2 (List.getElem?_eq_getElem h)
  exact ⟨b, hv, hb⟩
section
variable {P : Program} {w : World} {K : PySem.W.Frag} {mg : Str → Option Value} {base : Heap} {cl : String → Addr}
theorem ok_fits {f : Addr} {fd : FuncData} (F : Fun K "_law_fits" "_law_fits" s_fits f fd) (T : Txt P w K mg cl) : FnOk P w K mg base CX0 1 f fd ["_law_links_here", "_law_path"] spFits := by
  refine F.ok sc_fits (fun vs H Q E h => ?_) (fun cdv A outer s H vs Q E hr h => ?_)
  · obtain ⟨a, q, us, ls, is, rfl, _⟩ := h
    rfl
  · obtain ⟨a, q, us, ls, is, rfl, hL, hq, le, hix, k⟩ := h
    refine ⟨_, (pss_one (ps_ret (pe_cmpR (op_eqD hr.units) (pe_lc (own := [("_law_k", 2)]) (g := gName 2)  rfl sc_fits.nd (pi_range2 rfl T.n_range (pa_cons pe_int (pa_cons (pe_callB call_len_seq (by rfl) T.n_len PySem.boot_len (pa_cons (pv 1) pa_nil)) pa_nil))) (blkOk_by (own := [("_law_k", 2)]) (N := ["_law_links_here", "_law_path", "_law_k"]) (sc := defScope s_fits) (by decide +kernel)) (fun _ _ _ _ _ => pg_name (i := 2) sc_fits.nd rfl (Or.inl rfl)) (fun _ _ _ _ _ => pts_one (pt_cmpR op_ne (pe_ix (ix_tupK (K := K) rfl) (pe_ix (ix_listK (K := K) rfl) (pv 0) (pe_ix (ix_listK (K := K) rfl) (pv 1) (pv 2) (fun _ _ => rfl)) (fun _ _ => rfl)) pe_int (fun _ _ => rfl)) (pe_ix (ix_tupK (K := K) rfl) (pe_ix (ix_listK (K := K) rfl) (pv 0) (pe_ix (ix_listK (K := K) rfl) (pv 1) (pe_op op_sub (pv 2) pe_int) (fun _ _ => rfl)) (fun _ _ => rfl)) pe_int (fun _ _ => rfl)) (nomark _))) (fun _ _ _ _ _ => (pv 2))) (pe_lst pa_nil) (nomark _)))), ?_⟩
    have lm : ((is.map fun (i : Nat) => (i : Int)).map V.int).length = is.length := by rw [List.length_map, List.length_map]
    refine ⟨_, rfl, q, _, rfl, .inl (SqL.of hq), _, _, rfl, ⟨by decide, by decide, by rw [lm]; omega, by rw [lm]; omega⟩, fun D nD => ?_⟩
    refine lc_range (fun i H' => H' = upd H D (.lst (((List.range i).filterMap (misF ls is)).map V.int))) rfl ?_ ?_
    · rintro i H' hi rfl
      rw [lm] at hi
      have i1 : i + 1 < is.length := by omega
      have i0 : i < is.length := by omega
      have l1 := hix _ (List.getElem_mem i1)
      have l0 := hix _ (List.getElem_mem i0)
      have SD := sNew (o := .lst (((List.range i).filterMap (misF ls is)).map V.int)) nD
      have hL := hL.same SD
      have hq := SD _ _ hq
      obtain ⟨b1, hb1, hc1⟩ := ll_at hL l1
      obtain ⟨b0, hb0, hc0⟩ := ll_at hL l0
      have at1 : atI ((is.map fun (i : Nat) => (i : Int)).map V.int) ((1 : Int) + (i : Nat)) = some (.int (is[i + 1] : Nat)) := by
        rw [show (1 : Int) + (i : Nat) = ((i + 1 : Nat) : Int) by omega]
        exact atI_nat (is_atN (List.getElem?_eq_getElem i1))
      have at0 : atI ((is.map fun (i : Nat) => (i : Int)).map V.int) ((1 : Int) + (i : Nat) - 1) = some (.int (is[i] : Nat)) := by
        rw [show (1 : Int) + (i : Nat) - 1 = ((i : Nat) : Int) by omega]
        exact atI_nat (is_atN (List.getElem?_eq_getElem i0))
      have ej : jo ls is i = decide (ls[is[i + 1]].2.1 = ls[is[i]].1) := by
        unfold jo
        rw [List.getElem?_eq_getElem i1, List.getElem?_eq_getElem i0]
        show decide (e2 ls is[i + 1] = e1 ls is[i]) = _
        rw [e1_at l0, e2_at l1]
      refine ⟨rfl, _, rfl, _, rfl, _, rfl, q, _, _, _, rfl, rfl, SqL.of hq, at1, a, _, _, _, rfl, rfl, SqL.of hL.1, atI_nat hb1, b1, _, _, _, rfl, rfl, SqT.of hc1, atI_nat (j := 1) rfl, _, rfl, _, rfl, _, rfl, _, _, rfl, rfl, q, _, _, _, rfl, rfl, SqL.of hq, at0, a, _, _, _, rfl, rfl, SqL.of hL.1, atI_nat hb0, b0, _, _, _, rfl, rfl, SqT.of hc0, atI_nat (j := 0) rfl, rfl, _, rfl, ?_⟩
      by_cases g : ls[is[i + 1]].2.1 = ls[is[i]].1
      · rw [decide_eq_true (congrArg V.int g)]
        refine iteF ?_
        rw [List.range_succ, List.filterMap_append, show [i].filterMap (misF ls is) = [] by simp [misF, ej, g], List.append_nil]
      · rw [decide_eq_false fun z => g (V.int.inj z)]
        refine iteT ⟨_, rfl, _, upd_same, small1000 ?_, ?_⟩
        · rw [List.length_map]
          have := List.length_filterMap_le (misF ls is) (List.range i)
          rw [List.length_range] at this
          omega
        · rw [upd_upd, List.range_succ, List.filterMap_append, show [i].filterMap (misF ls is) = [(1 : Int) + (i : Nat)] by simp [misF, ej, g], List.map_append]
          rfl
    · rintro H' rfl
      rw [lm, show ((is.length : Int) - 1).toNat = is.length - 1 by omega]
      refine ⟨by show 0 ≤ sizeLine; exact Nat.zero_le _, fun qq nqq => ?_⟩
      refine ⟨_, _, dpI (sNew nqq _ _ upd_same), dp_lst (SqL.of upd_same) .nil, row_shaped true (okI _), row_shaped (xs := []) true (by simp), ?_⟩
      rw [eqv_nilI, mis_all]
      exact k _ ((sNew nD).trans (sNew nqq))
theorem cal_fits (T : Txt P w K mg cl) : Cal P w K mg base CX0 1 "_law_fits" ["_law_links_here", "_law_path"] (spFits) := by
  obtain ⟨f, fd, F, m⟩ := T.d_fits
  exact ⟨f, fd, ok_fits F T, m, F.kp, F.binds fun _ _ _ _ _ _ us hl => match us, hl with | [_, _], _ => rfl⟩
end
end My
set_option Elab.async false
set_option linter.all false
set_option maxRecDepth 100000
set_option maxHeartbeats 1000000
namespace My
open PySem L2 Dw Wp
open C8 (pss_cut tCut)
set_option pp.maxSteps 600
section
variable {P : Program} {w : World} {K : PySem.W.Frag} {mg : Str → Option Value} {base : Heap} {cl : String → Addr}
theorem ok_path_due {f : Addr} {fd : FuncData} (F : Fun K "_law_path_due" "_law_path_due" s_path_due f fd) (T : Txt P w K mg cl) : FnOk P w K mg base CX0 2 f fd ["_law_links_here", "_law_path", "_law_start", "_law_end"] spPD := by
  refine F.ok sc_path_due (fun vs H Q E h => ?_) (fun cdv A outer s H vs Q E hr h => ?_)
  · obtain ⟨a, q, us, ls, is, st, en, rfl, _⟩ := h
    rfl
  · obtain ⟨a, q, us, ls, is, st, en, rfl, hL, ln, hq, le, kx, kg⟩ := h
    have C_fits : Cal P w K mg base CX0 1 "_law_fits" _ spFits := cal_fits T
    refine ⟨_, (pss_cons (ps_if (pt_cmpR (op_neD hr.units) (pe_lc (own := [("_law_x", 4)]) (g := gName 4)  rfl sc_path_due.nd (pi_list (pv 1)) (blkOk_by (own := [("_law_x", 4)]) (N := ["_law_links_here", "_law_path", "_law_start", "_law_end", "_law_x"]) (sc := defScope s_path_due) (by decide +kernel)) (fun _ _ _ _ _ => pg_name (i := 4) sc_path_due.nd rfl (Or.inl rfl)) (fun _ _ _ _ _ => pts_one (pt_not (pt_chain op_le op_lt pe_int (pv 4) (pe_callB (call_len_seqK (K := K) rfl) (by rfl) T.n_len PySem.boot_len (pa_cons (pv 0) pa_nil))))) (fun _ _ _ _ _ => (pv 4))) (pe_lst pa_nil) (nomark _))
          (pss_one (ps_ret pe_str)) pss_nil)
        (pss_cons (ps_if (pt_cmpR (op_eqD hr.units) (pv 1) (pe_lst pa_nil) (nomark _))
          (pss_one (ps_ret (pe_ifExp (pt_cmpR op_eq (pv 2) (pv 3) (nomark _)) pe_non pe_str))) pss_nil)
        (pss_cons (ps_if (pt_cmpR op_ne (pe_ix ix_tup (pe_ix ix_list (pv 0) (pe_ix ix_list (pv 1) pe_int (fun _ _ => rfl)) (fun _ _ => rfl)) pe_int (fun _ _ => rfl)) (pv 2) (nomark _))
          (pss_one (ps_ret pe_str)) pss_nil)
        (pss_cons (ps_if (pt_not (pt_val (pe_cal C_fits (hr.mono (by decide)) (pa_cons (pv 0) (pa_cons (pv 1) pa_nil)))))
          (pss_one (ps_ret pe_str)) pss_nil)
        (pss_one (ps_ret (pe_ifExp (pt_cmpR op_eq (pe_ix ix_tup (pe_ix ix_list (pv 0) (pe_ix ix_list (pv 1) (pe_un un_neg pe_int) (fun _ _ => rfl)) (fun _ _ => rfl)) pe_int (fun _ _ => rfl)) (pv 3) (nomark _)) pe_non pe_str))))))), ?_⟩
    have lu := hL.2.length
    refine ⟨_, rfl, q, rfl, ⟨_, SqL.of hq⟩, fun D nD => lc_list (K := K) (a := q) (xs := is.map V.int) (PvF H D (is.map V.int) (ixF ls.length)) rfl (fun i H' _ z => by rw [z]; exact SqL.of (by rw [upd_ne (ne_of_none hq nD)]; exact hq)) (fun j x H' hx hH => ?_) (fun H' z => ?_)⟩
    · subst hH
      rw [List.getElem?_map] at hx
      obtain ⟨i, hi2, rfl⟩ : ∃ i, is[j]? = some i ∧ V.int i = x := by
        cases e : is[j]? with
        | none => rw [e] at hx; cases hx
        | some i => rw [e] at hx; exact ⟨i, rfl, Option.some.inj hx⟩
      have hx2 : (is.map V.int)[j]? = some (.int i) := is_at hi2
      have hz : (is.map V.int).length < sizeLine := small1000 (by rw [List.length_map]; omega)
      have hL := hL.same (sNew (o := .lst (((is.map V.int).take j).filterMap (ixF ls.length))) nD)
      refine ⟨rfl, _, rfl, _, _, rfl, rfl, _, rfl, ?_⟩
      refine ite2 (fun h1 => ?_) (fun h1 => ?_)
      · refine ⟨_, rfl, a, us, rfl, .inl (SqL.of hL.1), _, _, rfl, rfl, _, rfl, ?_⟩
        rw [lu]
        cases h2 : decide (i < (ls.length : Int)) with
        | true => exact iteF (fm_skip hx2 (show (if isIx ls.length i = true then none else some (V.int i)) = none from if_pos (by unfold isIx; rw [h1, h2]; rfl)))
        | false => exact iteT ⟨_, rfl, fm_put hx2 (show (if isIx ls.length i = true then none else some (V.int i)) = some (V.int i) from if_neg (by unfold isIx; rw [h1, h2]; decide)) hz⟩
      · exact ⟨_, rfl, iteT ⟨_, rfl, fm_put hx2 (show (if isIx ls.length i = true then none else some (V.int i)) = some (V.int i) from if_neg (by unfold isIx; rw [Bool.eq_false_iff.mpr h1]; simp)) hz⟩⟩
    obtain rfl := fm_end z
    refine ⟨by show 0 ≤ sizeLine; exact Nat.zero_le _, fun qq nqq => ?_⟩
    have S1 := (sNew (o := .lst ((is.map V.int).filterMap (ixF ls.length))) nD).trans (sNew (o := .lst []) nqq)
    refine ⟨_, _, dp_lst (SqL.of (sNew nqq _ _ upd_same)) (dpvs fun x hx => okV.flat (ixF_ok x hx)), dp_lst (SqL.of upd_same) .nil, row_shaped true ixF_ok, row_shaped (xs := []) true (by simp), _, rfl, ?_⟩
    rw [eqv_nilO, ix_all]
    have hL := hL.same S1
    have hq := S1 _ _ hq
    generalize upd (upd H D (.lst ((is.map V.int).filterMap (ixF ls.length)))) qq (.lst []) = H1 at S1 hL hq
    cases hx : is.all (isIx ls.length) with
    | false => exact iteT (kx hx _ S1)
    | true =>
      obtain ⟨js, rfl, hj⟩ := ix_nat hx
      have k := kg js rfl hj
      rw [List.length_map] at le
      refine iteF ⟨_, rfl, by show 0 ≤ sizeLine; exact Nat.zero_le _, fun q2 nq2 => ?_⟩
      have S2 := sNew (o := .lst []) nq2
      refine ⟨_, _, dpI (S2 _ _ hq), dp_lst (SqL.of upd_same) .nil, row_shaped true (okI _), row_shaped (xs := []) true (by simp), _, rfl, ?_⟩
      rw [eqv_nilI]
      have hL := hL.same S2
      have hq := S2 _ _ hq
      have S1 := S1.trans S2
      generalize upd H1 q2 (.lst []) = H2 at S1 hL hq
      cases js with
      | nil =>
        have k : ∀ H', Same H H' → Q (optV (if st = en then (none : Option Str) else some ("end" : Str))) H' := k
        refine iteT ⟨_, rfl, _, rfl, rfl, _, rfl, ?_⟩
        refine ite2 (fun g => ?_) (fun g => ?_)
        · have g : st = en := V.int.inj (of_decide_eq_true g)
          rw [if_pos g] at k
          exact k _ S1
        · rw [if_neg fun z => g (decide_eq_true (congrArg V.int z))] at k
          exact k _ S1
      | cons j0 js =>
        have un : pathN ls (j0 :: js) st en = (if e2 ls j0 = st then (if fits ls (j0 :: js) = true then (if e1 ls ((j0 :: js).getLast?.getD 0) = en then none else some ("end" : Str)) else some ("joint" : Str)) else some ("start" : Str)) := by
          unfold pathN
          rw [if_neg (by simp)]
          rfl
        rw [un] at k
        refine iteF ?_
        have l0 := hj j0 List.mem_cons_self
        obtain ⟨b0, hb0, hc0⟩ := ll_at hL l0
        refine ⟨_, rfl, _, rfl, q, _, _, _, rfl, rfl, SqL.of hq, atI_nat (j := 0) rfl, a, _, _, _, rfl, rfl, SqL.of hL.1, atI_nat hb0, b0, _, _, _, rfl, rfl, SqT.of hc0, atI_nat (j := 1) rfl, _, rfl, rfl, _, rfl, ?_⟩
        rw [e2_at l0]
        refine ite2 (fun g => ?_) (fun g => ?_)
        · have g : ¬ e2 ls j0 = st := fun z => by
            rw [z] at g
            simp at g
          rw [if_neg g] at k
          exact k _ S1
        have g : e2 ls j0 = st := by
          by_cases z : e2 ls j0 = st
          · exact z
          · exfalso
            refine g ?_
            rw [decide_eq_false fun q => z (V.int.inj q)]
            rfl
        rw [if_pos g] at k
        refine ⟨_, rfl, _, rfl, a, q, us, ls, j0 :: js, rfl, hL, hq, le, hj, fun H3 S3 => ⟨_, rfl, ?_⟩⟩
        have S1 := S1.trans S3
        have hL := hL.same S3
        have hq := S3 _ _ hq
        cases hf : fits ls (j0 :: js) with
        | false =>
          rw [if_neg (by rw [hf]; decide)] at k
          exact iteT (k _ S1)
        | true =>
          rw [if_pos hf] at k
          obtain ⟨ys, z, ez⟩ : ∃ ys z, j0 :: js = ys ++ [z] := by
            rcases List.eq_nil_or_concat (j0 :: js) with h | ⟨ys, z, h⟩
            · cases h
            · exact ⟨ys, z, by rw [h, List.concat_eq_append]⟩
          rw [ez] at k hj hq
          have lz := hj z (by simp)
          obtain ⟨bz, hbz, hcz⟩ := ll_at hL lz
          rw [List.map_append, List.map_append] at hq
          refine iteF ⟨_, rfl, _, rfl, _, rfl, q, _, _, _, rfl, rfl, SqL.of hq, atI_last _ _, a, _, _, _, rfl, rfl, SqL.of hL.1, atI_nat hbz, bz, _, _, _, rfl, rfl, SqT.of hcz, atI_nat (j := 0) rfl, _, rfl, rfl, _, rfl, ?_⟩
          rw [List.getLast?_append] at k
          have k : ∀ H', Same H H' → Q (optV (if e1 ls z = en then (none : Option Str) else some ("end" : Str))) H' := k
          rw [e1_at lz]
          refine ite2 (fun g => ?_) (fun g => ?_)
          · rw [if_pos (V.int.inj (of_decide_eq_true g))] at k
            exact k _ S1
          · rw [if_neg fun q => g (decide_eq_true (congrArg V.int q))] at k
            exact k _ S1
theorem cal_path_due (T : Txt P w K mg cl) : Cal P w K mg base CX0 2 "_law_path_due" ["_law_links_here", "_law_path", "_law_start", "_law_end"] (spPD) := by
  obtain ⟨f, fd, F, m⟩ := T.d_path_due
  exact ⟨f, fd, ok_path_due F T, m, F.kp, F.binds fun _ _ _ _ _ _ us hl => match us, hl with | [_, _, _, _], _ => rfl⟩
theorem ok_ring_due {f : Addr} {fd : FuncData} (F : Fun K "_law_ring_due" "_law_ring_due" s_ring_due f fd) (T : Txt P w K mg cl) : FnOk P w K mg base CX0 2 f fd ["_law_links_here", "_law_path"] spRD := by
  refine F.ok sc_ring_due (fun vs H Q E h => ?_) (fun cdv A outer s H vs Q E hr h => ?_)
  · obtain ⟨a, q, us, ls, is, rfl, _⟩ := h
    rfl
  · obtain ⟨a, q, us, ls, is, rfl, hL, ln, hq, le, ke, kx, kg⟩ := h
    have C_fits : Cal P w K mg base CX0 1 "_law_fits" _ spFits := cal_fits T
    refine ⟨_, (pss_cons (ps_if (pt_cmpR (op_eqD hr.units) (pv 1) (pe_lst pa_nil) (nomark _))
          (pss_one (ps_ret pe_str)) pss_nil)
        (pss_cons (ps_if (pt_cmpR (op_neD hr.units) (pe_lc (own := [("_law_x", 2)]) (g := gName 2)  rfl sc_ring_due.nd (pi_list (pv 1)) (blkOk_by (own := [("_law_x", 2)]) (N := ["_law_links_here", "_law_path", "_law_x"]) (sc := defScope s_ring_due) (by decide +kernel)) (fun _ _ _ _ _ => pg_name (i := 2) sc_ring_due.nd rfl (Or.inl rfl)) (fun _ _ _ _ _ => pts_one (pt_not (pt_chain op_le op_lt pe_int (pv 2) (pe_callB (call_len_seqK (K := K) rfl) (by rfl) T.n_len PySem.boot_len (pa_cons (pv 0) pa_nil))))) (fun _ _ _ _ _ => (pv 2))) (pe_lst pa_nil) (nomark _))
          (pss_one (ps_ret pe_str)) pss_nil)
        (pss_cons (ps_if (PW.pt (pw_or (pt_not (pt_val (pe_cal C_fits (hr.mono (by decide)) (pa_cons (pv 0) (pa_cons (pv 1) pa_nil))))) (pw_or1 (pt_cmpR op_ne (pe_ix ix_tup (pe_ix ix_list (pv 0) (pe_ix ix_list (pv 1) pe_int (fun _ _ => rfl)) (fun _ _ => rfl)) pe_int (fun _ _ => rfl)) (pe_ix ix_tup (pe_ix ix_list (pv 0) (pe_ix ix_list (pv 1) (pe_un un_neg pe_int) (fun _ _ => rfl)) (fun _ _ => rfl)) pe_int (fun _ _ => rfl)) (nomark _)))))
          (pss_one (ps_ret pe_str)) pss_nil)
        (pss_one (ps_ret (pe_ifExp (pt_cmpR op_lt (pe_callB (cr_sum rfl) (by rfl) T.n_sum (by decide +kernel) (pa_cons (pe_lc (own := [("_law_x", 2)]) (g := gName 2) (tt := tYes) rfl sc_ring_due.nd (pi_list (pv 1)) (blkOk_by (own := [("_law_x", 2)]) (N := ["_law_links_here", "_law_path", "_law_x"]) (sc := defScope s_ring_due) (by decide +kernel)) (fun _ _ _ _ _ => pg_name (i := 2) sc_ring_due.nd rfl (Or.inl rfl)) (fun _ _ _ _ _ => pts_nil) (fun _ _ _ _ _ => (pe_ix (ix_tupK (K := K) rfl) (pe_ix (ix_listK (K := K) rfl) (pv 0) (pv 2) (fun _ _ => rfl)) pe_int (fun _ _ => rfl)))) pa_nil)) pe_int (nomark _)) pe_non pe_str)))))), ?_⟩
    have lu := hL.2.length
    refine ⟨_, rfl, by show 0 ≤ sizeLine; exact Nat.zero_le _, fun q2 nq2 => ?_⟩
    have S0 := sNew (o := .lst []) nq2
    refine ⟨_, _, dpI (S0 _ _ hq), dp_lst (SqL.of upd_same) .nil, row_shaped true (okI _), row_shaped (xs := []) true (by simp), _, rfl, ?_⟩
    rw [eqv_nilI]
    by_cases hne : is = []
    · subst hne
      exact iteT (ke rfl _ S0)
    have en : is.isEmpty = false := by cases is with
      | nil => exact absurd rfl hne
      | cons _ _ => rfl
    rw [en]
    refine iteF ?_
    have hL := hL.same S0
    have hq := S0 _ _ hq
    have kx : is.all (isIx ls.length) = false → ∀ H', Same (upd H q2 (.lst [])) H' → Q (.str "index") H' := fun h H' S => kx hne h H' (S0.trans S)
    have kg : ∀ js : List Nat, js ≠ [] → is = (js.map fun (i : Nat) => (i : Int)) → (∀ j ∈ js, j < ls.length) → ∀ H', Same (upd H q2 (.lst [])) H' → Q (optV (ringN ls js)) H' := fun js h1 h2 h3 H' S => kg js h1 h2 h3 H' (S0.trans S)
    clear ke
    generalize upd H q2 (.lst []) = H at hL hq kx kg
    refine ⟨_, rfl, q, rfl, ⟨_, SqL.of hq⟩, fun D nD => lc_list (K := K) (a := q) (xs := is.map V.int) (PvF H D (is.map V.int) (ixF ls.length)) rfl (fun i H' _ z => by rw [z]; exact SqL.of (by rw [upd_ne (ne_of_none hq nD)]; exact hq)) (fun j x H' hx hH => ?_) (fun H' z => ?_)⟩
    · subst hH
      rw [List.getElem?_map] at hx
      obtain ⟨i, hi2, rfl⟩ : ∃ i, is[j]? = some i ∧ V.int i = x := by
        cases e : is[j]? with
        | none => rw [e] at hx; cases hx
        | some i => rw [e] at hx; exact ⟨i, rfl, Option.some.inj hx⟩
      have hx2 : (is.map V.int)[j]? = some (.int i) := is_at hi2
      have hz : (is.map V.int).length < sizeLine := small1000 (by rw [List.length_map]; omega)
      have hL := hL.same (sNew (o := .lst (((is.map V.int).take j).filterMap (ixF ls.length))) nD)
      refine ⟨rfl, _, rfl, _, _, rfl, rfl, _, rfl, ?_⟩
      refine ite2 (fun h1 => ?_) (fun h1 => ?_)
      · refine ⟨_, rfl, a, us, rfl, .inl (SqL.of hL.1), _, _, rfl, rfl, _, rfl, ?_⟩
        rw [lu]
        cases h2 : decide (i < (ls.length : Int)) with
        | true => exact iteF (fm_skip hx2 (show (if isIx ls.length i = true then none else some (V.int i)) = none from if_pos (by unfold isIx; rw [h1, h2]; rfl)))
        | false => exact iteT ⟨_, rfl, fm_put hx2 (show (if isIx ls.length i = true then none else some (V.int i)) = some (V.int i) from if_neg (by unfold isIx; rw [h1, h2]; decide)) hz⟩
      · exact ⟨_, rfl, iteT ⟨_, rfl, fm_put hx2 (show (if isIx ls.length i = true then none else some (V.int i)) = some (V.int i) from if_neg (by unfold isIx; rw [Bool.eq_false_iff.mpr h1]; simp)) hz⟩⟩
    obtain rfl := fm_end z
    refine ⟨by show 0 ≤ sizeLine; exact Nat.zero_le _, fun qq nqq => ?_⟩
    have S1 := (sNew (o := .lst ((is.map V.int).filterMap (ixF ls.length))) nD).trans (sNew (o := .lst []) nqq)
    refine ⟨_, _, dp_lst (SqL.of (sNew nqq _ _ upd_same)) (dpvs fun x hx => okV.flat (ixF_ok x hx)), dp_lst (SqL.of upd_same) .nil, row_shaped true ixF_ok, row_shaped (xs := []) true (by simp), _, rfl, ?_⟩
    rw [eqv_nilO, ix_all]
    have hL := hL.same S1
    have hq := S1 _ _ hq
    generalize upd (upd H D (.lst ((is.map V.int).filterMap (ixF ls.length)))) qq (.lst []) = H1 at S1 hL hq
    cases hx : is.all (isIx ls.length) with
    | false => exact iteT (kx hx _ S1)
    | true =>
      obtain ⟨js, rfl, hj⟩ := ix_nat hx
      have nj : js ≠ [] := fun z => by rw [z] at hne; exact hne rfl
      have k := kg js nj rfl hj
      rw [List.length_map] at le
      refine iteF ⟨_, rfl, _, rfl, a, q, us, ls, js, rfl, hL, hq, le, hj, fun H3 S3 => ⟨_, rfl, ?_⟩⟩
      have S1 := S1.trans S3
      have hL := hL.same S3
      have hq := S3 _ _ hq
      cases hf : fits ls js with
      | false =>
        rw [show ringN ls js = some ("joint" : Str) from if_neg (by rw [hf]; simp)] at k
        exact iteT (iteT (k _ S1))
      | true =>
        refine iteF ?_
        obtain ⟨j0, js', e0⟩ : ∃ j0 js', js = j0 :: js' := by
          cases js with
          | nil => exact absurd rfl nj
          | cons j0 js' => exact ⟨j0, js', rfl⟩
        obtain ⟨ys, z, ez⟩ : ∃ ys z, js = ys ++ [z] := by
          rcases List.eq_nil_or_concat js with h | ⟨ys, z, h⟩
          · exact absurd h nj
          · exact ⟨ys, z, by rw [h, List.concat_eq_append]⟩
        have l0 := hj j0 (by rw [e0]; exact List.mem_cons_self)
        have lz := hj z (by rw [ez]; simp)
        obtain ⟨b0, hb0, hc0⟩ := ll_at hL l0
        obtain ⟨bz, hbz, hcz⟩ := ll_at hL lz
        have a0 : ((js.map fun (i : Nat) => (i : Int)).map V.int)[0]? = some (.int (j0 : Nat)) := by rw [e0]; rfl
        have az : atI ((js.map fun (i : Nat) => (i : Int)).map V.int) (-1) = some (.int (z : Nat)) := by
          rw [ez, List.map_append, List.map_append]
          exact atI_last _ _
        have un : ringN ls js = (if decide (e2 ls j0 = e1 ls z) = true then (if sumO ls js < 0 then none else some ("sum" : Str)) else some ("joint" : Str)) := by
          unfold ringN
          rw [hf, Bool.true_and, show js[0]?.getD 0 = j0 by rw [e0]; rfl, show js.getLast?.getD 0 = z by rw [ez, List.getLast?_append]; rfl]
        rw [un] at k
        refine ⟨_, rfl, _, rfl, q, _, _, _, rfl, rfl, SqL.of hq, atI_nat (j := 0) a0, a, _, _, _, rfl, rfl, SqL.of hL.1, atI_nat hb0, b0, _, _, _, rfl, rfl, SqT.of hc0, atI_nat (j := 1) rfl, _, rfl, _, rfl, _, rfl, q, _, _, _, rfl, rfl, SqL.of hq, az, a, _, _, _, rfl, rfl, SqL.of hL.1, atI_nat hbz, bz, _, _, _, rfl, rfl, SqT.of hcz, atI_nat (j := 0) rfl, rfl, _, rfl, ?_⟩
        rw [e2_at l0, e1_at lz]
        by_cases g : e2 ls j0 = e1 ls z
        rotate_left
        · rw [if_neg fun q => g (of_decide_eq_true q)] at k
          rw [decide_eq_false fun q => g (V.int.inj q)]
          exact iteT (k _ S1)
        rw [if_pos (decide_eq_true g)] at k
        rw [decide_eq_true (congrArg V.int g)]
        refine iteF ⟨_, rfl, q, rfl, ⟨_, SqL.of hq⟩, fun D nD => ?_⟩
        let g : Nat → Int := fun i => (ls[i]?.map fun l => l.2.2).getD 0
        refine lc_list (K := K) (a := q) (xs := (js.map fun (i : Nat) => (i : Int)).map V.int) (fun i H' => H' = upd H3 D (.lst (((js.take i).map g).map V.int))) rfl (fun i H' _ z => by rw [z]; exact SqL.of (by rw [upd_ne (ne_of_none hq nD)]; exact hq)) ?_ ?_
        · rintro j x H' hx rfl
          rw [List.getElem?_map, List.getElem?_map] at hx
          obtain ⟨i, hi2, rfl⟩ : ∃ i, js[j]? = some i ∧ V.int (i : Nat) = x := by
            cases e : js[j]? with
            | none => rw [e] at hx; cases hx
            | some i => rw [e] at hx; exact ⟨i, rfl, Option.some.inj hx⟩
          have hl := hj i (List.mem_of_getElem? hi2)
          have hL := hL.same (sNew (o := .lst (((js.take j).map g).map V.int)) nD)
          obtain ⟨b, hv, hb⟩ := ll_at hL hl
          refine ⟨rfl, _, rfl, _, rfl, a, _, _, _, rfl, rfl, SqL.of hL.1, atI_nat hv, b, _, _, _, rfl, rfl, SqT.of hb, atI_nat (j := 2) rfl, ?_⟩
          refine ⟨_, upd_same, small1000 (by rw [List.length_map, List.length_map, List.length_take]; omega), ?_⟩
          rw [upd_upd, take_snoc hi2, List.map_append, List.map_append]
          show _ = upd H3 D (.lst (_ ++ [V.int (g i)]))
          rw [show g i = ls[i].2.2 by show (ls[i]?.map fun l => l.2.2).getD 0 = _; rw [List.getElem?_eq_getElem hl]; rfl]
        intro H4 z4
        rw [List.length_map, List.length_map, List.take_length] at z4
        subst z4
        refine ⟨D, js.map g, rfl, SqL.of upd_same, _, _, rfl, rfl, _, rfl, ?_⟩
        have S1 := S1.trans (sNew (o := .lst ((js.map g).map V.int)) nD)
        rw [show sumO ls js = (js.map g).sum from rfl] at k
        refine ite2 (fun q => ?_) (fun q => ?_)
        · rw [if_pos (of_decide_eq_true q)] at k
          exact k _ S1
        · rw [if_neg fun y => q (decide_eq_true y)] at k
          exact k _ S1
theorem cal_ring_due (T : Txt P w K mg cl) : Cal P w K mg base CX0 2 "_law_ring_due" ["_law_links_here", "_law_path"] (spRD) := by
  obtain ⟨f, fd, F, m⟩ := T.d_ring_due
  exact ⟨f, fd, ok_ring_due F T, m, F.kp, F.binds fun _ _ _ _ _ _ us hl => match us, hl with | [_, _], _ => rfl⟩
end
end My
set_option Elab.async false
set_option linter.all false
set_option maxRecDepth 100000
set_option maxHeartbeats 1000000
namespace My
open PySem L2 Dw Wp
open C8 (pss_cut tCut)
set_option pp.maxSteps 600
theorem eqv_nilE (ds : List PyData) : PyData.eqv (sqD true ds) (sqD true []) = ds.isEmpty := by
  cases ds <;> simp [sqD, PyData.eqv, PyData.eqvAll]
def ntV (js : List Nat) : List V := (js.map fun (i : Nat) => (i : Int)).map V.int
theorem dpLl {K : PySem.W.Frag} {H : Hp} {a : Addr} {us : List V} {ls : List Lk} (h : LlT H a us ls) : Dp K H (.ref a) (sqD true (ls.map lkD)) := dp_lst (SqL.of h.1) (lks_dp h.2)
def spWalk : Sp := fun vs H Q _ => ∃ (b a : Addr) (st m : Int) (us : List V) (ls : List Lk), vs = [.ref b, .ref a, .int st, .int m] ∧ BgAt H b ∧ LlT H a us ls ∧ a ≠ b ∧ ls.length ≤ 900 ∧ 0 ≤ m ∧ m ≤ 10 ∧ ∀ (q : Addr) (is : List Int) (H' : Hp), H q = none → H' q = some (.lst (is.map V.int)) → (is.length : Int) ≤ m → BgAt H' b → But b H H' → Q (.ref q) H'
section
variable {P : Program} {w : World} {K : PySem.W.Frag} {mg : Str → Option Value} {base : Heap} {cl : String → Addr}
theorem ok_walk {f : Addr} {fd : FuncData} (F : Fun K "_law_walk" "_law_walk" s_walk f fd) (T : Txt P w K mg cl) : FnOk P w K mg base CX0 3 f fd ["_law_bag_here", "_law_links_here", "_law_start", "_law_many"] spWalk := by
  refine F.ok sc_walk (fun vs H Q E h => ?_) (fun cdv A outer s H vs Q E hr h => ?_)
  · obtain ⟨b, a, st, m, us, ls, rfl, _⟩ := h
    rfl
  · obtain ⟨b, a, st, m, us, ls, rfl, B, hL, nab, le, m0, m1, k⟩ := h
    have C_take : Cal P w K mg base CX0 1 "_law_take" _ spTake := cal_take T
    have C_of : Cal P w K mg base CX0 2 "_law_of" _ spOf := cal_of T
    refine ⟨_, (pss_cons (ps_asg (pe_tup (pa_cons (pe_lst pa_nil) (pa_cons (pv 2) pa_nil))) (pg_tup rfl (pgs_cons (pg_name (i := 4) sc_walk.nd rfl (Or.inl rfl)) (pgs_cons (pg_name (i := 5) sc_walk.nd rfl (Or.inr rfl)) pgs_nil))))
        (pss_cons (ps_for PassesOwn.never rfl (pi_range1 rfl T.n_range (pa_cons (pv 3) pa_nil)) (pg_name (i := 6) sc_walk.nd rfl (Or.inl rfl))
          (pss_cons (ps_setLc (i := 7) (own := [("_law_x", 8)]) (g := gName 8)  rfl sc_walk.nd rfl rfl (sw_true rfl rfl rfl (by decide +kernel)) (pi_range1 rfl T.n_range (pa_cons (pe_callB call_len_seq (by rfl) T.n_len PySem.boot_len (pa_cons (pv 1) pa_nil)) pa_nil)) (blkOk_by (own := [("_law_x", 8)]) (N := ["_law_bag_here", "_law_links_here", "_law_start", "_law_many", "_law_path", "_law_here", "_law_k", "_law_left", "_law_x"]) (sc := defScope s_walk) (by decide +kernel)) (fun _ _ _ _ _ => pg_name (i := 8) sc_walk.nd rfl (Or.inl rfl)) (fun _ _ _ _ _ => pts_one (pt_cmpR op_eq (pe_ix (ix_tupK (K := K) rfl) (pe_ix (ix_listK (K := K) rfl) (pv 1) (pv 8) (fun _ _ => rfl)) pe_int (fun _ _ => rfl)) (pv 5) (nomark _))) (fun _ _ _ _ _ => (pv 8)))
            (pss_one (ps_if (PW.pt (pw_and (pt_cmpR (op_neD hr.units) (pv 7) (pe_lst pa_nil) (nomark _)) (pw_and1 (pt_cmpR op_gt (pe_cal C_take (hr.mono (by decide)) (pa_cons (pv 0) (pa_cons pe_int pa_nil))) pe_int (nomark _)))))
              (pss_cons (ps_expr (pe_app1 (by exact (pv 4)) (by exact (pa_cons (pe_cal C_of (hr.mono (by decide)) (pa_cons (pv 0) (pa_cons (pv 7) pa_nil))) pa_nil))))
                (pss_one (ps_set (i := 5) sc_walk.nd rfl (Or.inr rfl) (pe_ix ix_tup (pe_ix ix_list (pv 1) (pe_ix ix_list (pv 4) (pe_un un_neg pe_int) (fun _ _ => rfl)) (fun _ _ => rfl)) pe_int (fun _ _ => rfl))))) (pss_one (ps_if (PW.pt (pw_and (pt_cmpR (op_neD hr.units) (pv 1) (pe_lst pa_nil) (nomark _)) (pw_and1 (pt_cmpR op_gt (pe_cal C_take (hr.mono (by decide)) (pa_cons (pv 0) (pa_cons pe_int pa_nil))) pe_int (nomark _)))))
                  (pss_one (ps_expr (pe_app1 (by exact (pv 4)) (by exact (pa_cons (pe_cal C_take (hr.mono (by decide)) (pa_cons (pv 0) (pa_cons (pe_callB call_len_seq (by rfl) T.n_len PySem.boot_len (pa_cons (pv 1) pa_nil)) pa_nil))) pa_nil))))) (pss_one (ps_if (pt_cmpR op_eq (pe_cal C_take (hr.mono (by decide)) (pa_cons (pv 0) (pa_cons pe_int pa_nil))) pe_int (nomark _))
                      (pss_one (ps_expr (pe_app1 (by exact (pv 4)) (by exact (pa_cons (pe_cal C_of (hr.mono (by decide)) (pa_cons (pv 0) (pa_cons (pe_lst (pa_cons (pe_un un_neg pe_int) (pa_cons (pe_callB call_len_seq (by rfl) T.n_len PySem.boot_len (pa_cons (pv 1) pa_nil)) (pa_cons (pe_op op_sub (pe_un un_neg (pe_callB call_len_seq (by rfl) T.n_len PySem.boot_len (pa_cons (pv 1) pa_nil))) pe_int) pa_nil)))) pa_nil))) pa_nil))))) pss_nil))))))))
        (pss_one (ps_ret (pv 4))))), ?_⟩
    have lu := hL.2.length
    refine ⟨by show 0 ≤ sizeLine; exact Nat.zero_le _, fun D nD => ⟨_, rfl, by show 2 ≤ sizeLine; decide, fun tp ntp => ⟨tp, _, rfl, SqT.of upd_same, rfl, _, _, rfl, _, _, rfl, rfl, ?_⟩⟩⟩
    have nDb := B.ne nD
    have S0 := (sNew (o := .lst []) nD).trans (sNew (o := .tup [.ref D, .int st]) ntp)
    have hD0 := sNew (o := .tup [.ref D, .int st]) ntp _ _ (upd_same (H := H) (a := D) (o := .lst []))
    generalize upd (upd H D (.lst [])) tp (.tup [.ref D, .int st]) = H0 at S0 hD0
    refine ⟨_, rfl, m, rfl, by omega, by omega, for_range (fun i σ H' => ∃ (is : List Int) (here : Int) (v6 v7 : Option V), H' D = some (.lst (is.map V.int)) ∧ is.length ≤ i ∧ BgAt H' b ∧ But b H H' ∧ σ = [some (.ref b), some (.ref a), some (.int st), some (.int m), some (.ref D), some (.int here), v6, v7, none]) ⟨[], st, _, _, hD0, Nat.le_refl _, B.same S0, But.of S0, rfl⟩ ?_ ?_⟩
    · rintro i σ H1 hi ⟨is, here, v6, v7, hD, li, B1, D1, rfl⟩
      have hL1 := hL.but nab B D1
      refine ⟨_, rfl, a, us, rfl, .inl (SqL.of hL1.1), _, rfl, by omega, by omega, fun L nL => ?_⟩
      have nLb := B1.ne nL
      refine lc_range (fun i H' => ∃ js : List Nat, H' = upd H1 L (.lst (ntV js)) ∧ js.length ≤ i ∧ ∀ j ∈ js, j < ls.length) ⟨[], rfl, Nat.le_refl _, fun j h => (by cases h)⟩ ?_ ?_
      · rintro j H2 hj ⟨js, rfl, lj, hjs⟩
        rw [Int.toNat_natCast] at hj
        have hj2 : j < ls.length := by omega
        have hL2 := hL1.same (sNew (o := .lst (ntV js)) nL)
        obtain ⟨c, hv, hc⟩ := ll_at hL2 hj2
        rw [show (0 : Int) + (j : Nat) = ((j : Nat) : Int) from Int.zero_add _]
        refine ⟨rfl, _, rfl, _, rfl, a, _, _, _, rfl, rfl, SqL.of hL2.1, atI_nat hv, c, _, _, _, rfl, rfl, SqT.of hc, atI_nat (j := 1) rfl, _, rfl, rfl, _, rfl, ?_⟩
        refine ite2 (fun _ => ?_) (fun _ => ⟨js, rfl, by omega, hjs⟩)
        refine ⟨_, rfl, _, upd_same, small1000 (by unfold ntV; rw [List.length_map, List.length_map]; omega), js ++ [j], ?_, by rw [List.length_append, List.length_singleton]; omega, fun x hx => ?_⟩
        · rw [upd_upd]
          unfold ntV
          rw [List.map_append, List.map_append]
          rfl
        · rcases List.mem_append.mp hx with hx | hx
          · exact hjs x hx
          · rw [show x = j by simpa using hx]
            exact hj2
      rintro H2 ⟨js, rfl, lj, hjs⟩
      have S1 := sNew (o := .lst (ntV js)) nL
      have hL2 := hL1.same S1
      have hD2 := S1 _ _ hD
      have B2 := B1.same S1
      have D2 := D1.trans (But.of S1)
      have hJ : (upd H1 L (.lst (ntV js))) L = some (.lst (ntV js)) := upd_same
      generalize upd H1 L (.lst (ntV js)) = H2 at hL2 hD2 B2 D2 hJ
      rw [Int.toNat_natCast] at lj
      have app : ∀ {H4 : Hp} (x here' : Int), H4 D = some (.lst (is.map V.int)) → BgAt H4 b → But b H H4 → ∃ (is' : List Int) (hr : Int) (v6 v7 : Option V), (upd H4 D (.lst (is.map V.int ++ [.int x]))) D = some (.lst (is'.map V.int)) ∧ is'.length ≤ i + 1 ∧ BgAt (upd H4 D (.lst (is.map V.int ++ [.int x]))) b ∧ But b H (upd H4 D (.lst (is.map V.int ++ [.int x]))) ∧ ([some (.ref b), some (.ref a), some (.int st), some (.int m), some (.ref D), some (.int here'), some (.int ((0 : Int) + (i : Nat))), some (.ref L), none] : List (Option V)) = [some (.ref b), some (.ref a), some (.int st), some (.int m), some (.ref D), some (.int hr), v6, v7, none] := fun {H4} x here' h1 h2 h3 => by
        refine ⟨is ++ [x], here', _, _, ?_, by rw [List.length_append, List.length_singleton]; omega, h2.upd nDb, but_upd h3 nD, rfl⟩
        rw [List.map_append]
        exact upd_same
      have stay : ∀ {H4 : Hp}, H4 D = some (.lst (is.map V.int)) → BgAt H4 b → But b H H4 → ∃ (is' : List Int) (hr : Int) (v6 v7 : Option V), H4 D = some (.lst (is'.map V.int)) ∧ is'.length ≤ i + 1 ∧ BgAt H4 b ∧ But b H H4 ∧ ([some (.ref b), some (.ref a), some (.int st), some (.int m), some (.ref D), some (.int here), some (.int ((0 : Int) + (i : Nat))), some (.ref L), none] : List (Option V)) = [some (.ref b), some (.ref a), some (.int st), some (.int m), some (.ref D), some (.int hr), v6, v7, none] := fun {H4} h1 h2 h3 => ⟨is, here, _, _, h1, by omega, h2, h3, rfl⟩
      have isl : (is.map V.int).length < sizeLine := small1000 (by rw [List.length_map]; omega)
      have other : ∀ {H4 : Hp}, H4 D = some (.lst (is.map V.int)) → BgAt H4 b → But b H H4 → _ := fun {H4} h1 h2 h3 => True.intro
      refine ⟨_, rfl, by show 0 ≤ sizeLine; exact Nat.zero_le _, fun q2 nq2 => ?_⟩
      have S2 := sNew (o := .lst []) nq2
      refine ⟨_, _, dpI (S2 _ _ hJ), dp_lst (SqL.of upd_same) .nil, row_shaped true (okI _), row_shaped (xs := []) true (by simp), _, rfl, ?_⟩
      rw [eqv_nilI]
      have hL2 := hL2.same S2
      have hD2 := S2 _ _ hD2
      have B3 := B2.same S2
      have D3 := D2.trans (But.of S2)
      have hJ := S2 _ _ hJ
      generalize upd H2 q2 (.lst []) = H3 at hL2 hD2 B3 D3 hJ
      cases js with
      | nil =>
        refine iteF ?_
        have hL3 := hL2
        have hD3 := hD2
        refine ⟨_, rfl, by show 0 ≤ sizeLine; exact Nat.zero_le _, fun q3 nq3 => ?_⟩
        have S4 := sNew (o := .lst []) nq3
        refine ⟨_, _, dpLl (hL3.same S4), dp_lst (SqL.of upd_same) .nil, fls_shaped true (lks_fl ls), row_shaped (xs := []) true (by simp), _, rfl, ?_⟩
        rw [eqv_nilE]
        have hL4 := hL3.same S4
        have hD4 := S4 _ _ hD3
        have B4 := B3.same S4
        have D4 := D3.trans (But.of S4)
        generalize upd H3 q3 (.lst []) = H4 at hL4 hD4 B4 D4
        by_cases hls : ls = []
        · rw [show (ls.map lkD).isEmpty = true by rw [hls]; rfl]
          refine iteF ?_
          refine ⟨_, rfl, b, _, rfl, B4, by decide, by decide, fun jt H5 _ _ B5 D5 => ⟨rfl, _, rfl, ite2 (fun _ => ?_) (fun _ => stay (D5 _ _ hD4 nDb) B5 (D4.trans D5))⟩⟩
          have hL5 := hL4.but nab B4 D5
          have hD5 := D5 _ _ hD4 nDb
          have D5 := D4.trans D5
          refine ⟨_, rfl, .inl ⟨rfl, _, SqL.of hD5⟩, _, rfl, _, rfl, _, rfl, a, us, rfl, .inl (SqL.of hL5.1), _, rfl, a, us, rfl, .inl (SqL.of hL5.1), _, rfl, _, _, rfl, rfl, by show 3 ≤ sizeLine; decide, fun q6 nq6 => ?_⟩
          refine ⟨b, q6, _, rfl, B5.same (sNew nq6), upd_same, B5.ne nq6, by show 1 ≤ 3; decide, by show 3 ≤ 900; decide, fun j6 x6 H6 hx6 B6 D6 => ?_⟩
          have hx6 := List.mem_of_getElem? hx6
          obtain ⟨x6, rfl⟩ : ∃ i : Int, x6 = .int i := by
            simp only [List.mem_cons, List.not_mem_nil, or_false] at hx6
            rcases hx6 with rfl | rfl | rfl <;> exact ⟨_, rfl⟩
          have hD6 := D6 _ _ (sNew nq6 _ _ hD5) nDb
          exact ⟨D, _, _, rfl, rfl, hD6, isl, app x6 here hD6 B6 (D5.trans ((But.of (sNew nq6)).trans D6))⟩
        · rw [show (ls.map lkD).isEmpty = false by cases ls with
            | nil => exact absurd rfl hls
            | cons _ _ => rfl]
          have ll1 : 1 ≤ ls.length := by cases ls with
            | nil => exact absurd rfl hls
            | cons _ _ => simp
          refine iteT ⟨_, rfl, b, _, rfl, B4, by decide, by decide, fun js5 H5 _ _ B5 D5 => ⟨_, _, rfl, rfl, _, rfl, ite2 (fun _ => ?_) (fun _ => ?_)⟩⟩
          · have hL5 := hL4.but nab B4 D5
            have hD5 := D5 _ _ hD4 nDb
            have D5 := D4.trans D5
            refine ⟨_, rfl, .inl ⟨rfl, _, SqL.of hD5⟩, _, rfl, _, rfl, a, us, rfl, .inl (SqL.of hL5.1), b, _, rfl, B5, by omega, by omega, fun j6 H6 _ _ B6 D6 => ?_⟩
            have hD6 := D6 _ _ hD5 nDb
            exact ⟨D, _, _, rfl, rfl, hD6, isl, app j6 here hD6 B6 (D5.trans D6)⟩
          · have hL4 := hL4.but nab B4 D5
            have hD4 := D5 _ _ hD4 nDb
            have D4 := D4.trans D5
            have B4 := B5
            refine ⟨_, rfl, b, _, rfl, B4, by decide, by decide, fun jt H5 _ _ B5 D5 => ⟨rfl, _, rfl, ite2 (fun _ => ?_) (fun _ => stay (D5 _ _ hD4 nDb) B5 (D4.trans D5))⟩⟩
            have hL5 := hL4.but nab B4 D5
            have hD5 := D5 _ _ hD4 nDb
            have D5 := D4.trans D5
            refine ⟨_, rfl, .inl ⟨rfl, _, SqL.of hD5⟩, _, rfl, _, rfl, _, rfl, a, us, rfl, .inl (SqL.of hL5.1), _, rfl, a, us, rfl, .inl (SqL.of hL5.1), _, rfl, _, _, rfl, rfl, by show 3 ≤ sizeLine; decide, fun q6 nq6 => ?_⟩
            refine ⟨b, q6, _, rfl, B5.same (sNew nq6), upd_same, B5.ne nq6, by show 1 ≤ 3; decide, by show 3 ≤ 900; decide, fun j6 x6 H6 hx6 B6 D6 => ?_⟩
            have hx6 := List.mem_of_getElem? hx6
            obtain ⟨x6, rfl⟩ : ∃ i : Int, x6 = .int i := by
              simp only [List.mem_cons, List.not_mem_nil, or_false] at hx6
              rcases hx6 with rfl | rfl | rfl <;> exact ⟨_, rfl⟩
            have hD6 := D6 _ _ (sNew nq6 _ _ hD5) nDb
            exact ⟨D, _, _, rfl, rfl, hD6, isl, app x6 here hD6 B6 (D5.trans ((But.of (sNew nq6)).trans D6))⟩
      | cons j0 js =>
        refine iteT ⟨_, rfl, b, _, rfl, B3, by decide, by decide, fun jt0 H4 _ _ B4 D4 => ⟨_, _, rfl, rfl, _, rfl, ite2 (fun _ => ?_) (fun _ => ?_)⟩⟩
        · have hL4 := hL2.but nab B3 D4
          have hD4 := D4 _ _ hD2 nDb
          have nLb : L ≠ b := nLb
          have hJ := D4 _ _ hJ nLb
          have D4 := D3.trans D4
          refine ⟨_, rfl, .inl ⟨rfl, _, SqL.of hD4⟩, _, rfl, _, rfl, b, L, _, rfl, B4, hJ, nLb, by unfold ntV; simp, by unfold ntV; rw [List.length_map, List.length_map]; omega, fun j6 x6 H6 hx6 B6 D6 => ?_⟩
          obtain ⟨y6, hy6, rfl⟩ : ∃ y : Nat, y ∈ j0 :: js ∧ x6 = .int y := by
            have := List.mem_of_getElem? hx6
            unfold ntV at this
            obtain ⟨z, hz, rfl⟩ := List.mem_map.mp this
            obtain ⟨y, hy, rfl⟩ := List.mem_map.mp hz
            exact ⟨y, hy, rfl⟩
          have y6l := hjs y6 hy6
          have hD6 := D6 _ _ hD4 nDb
          have hL6 := hL4.but nab B4 D6
          have D6 := D4.trans D6
          refine ⟨D, _, _, rfl, rfl, hD6, isl, ?_⟩
          have hL7 : LlT (upd H6 D (.lst (is.map V.int ++ [.int (y6 : Nat)]))) a us ls := ⟨by
            rw [upd_ne (show a ≠ D from fun e => by
              subst e
              have := hL.1
              rw [nD] at this
              cases this)]
            exact hL6.1, Paired.impP (fun _ _ h => h.upd hD6) hL6.2⟩
          obtain ⟨c6, hv6, hc6⟩ := ll_at hL7 y6l
          refine ⟨_, rfl, _, rfl, _, rfl, D, _, _, _, rfl, rfl, SqL.of upd_same, atI_last _ _, a, _, _, _, rfl, rfl, SqL.of hL7.1, atI_nat hv6, c6, _, _, _, rfl, rfl, SqT.of hc6, atI_nat (j := 0) rfl, ?_⟩
          exact app (y6 : Nat) _ hD6 B6 D6
        · have hL3 := hL2.but nab B3 D4
          have hD3 := D4 _ _ hD2 nDb
          have D3 := D3.trans D4
          have B3 := B4
          refine ⟨_, rfl, by show 0 ≤ sizeLine; exact Nat.zero_le _, fun q3 nq3 => ?_⟩
          have S4 := sNew (o := .lst []) nq3
          refine ⟨_, _, dpLl (hL3.same S4), dp_lst (SqL.of upd_same) .nil, fls_shaped true (lks_fl ls), row_shaped (xs := []) true (by simp), _, rfl, ?_⟩
          rw [eqv_nilE]
          have hL4 := hL3.same S4
          have hD4 := S4 _ _ hD3
          have B4 := B3.same S4
          have D4 := D3.trans (But.of S4)
          generalize upd H4 q3 (.lst []) = H4b at hL4 hD4 B4 D4
          by_cases hls : ls = []
          · rw [show (ls.map lkD).isEmpty = true by rw [hls]; rfl]
            refine iteF ?_
            refine ⟨_, rfl, b, _, rfl, B4, by decide, by decide, fun jt H5 _ _ B5 D5 => ⟨rfl, _, rfl, ite2 (fun _ => ?_) (fun _ => stay (D5 _ _ hD4 nDb) B5 (D4.trans D5))⟩⟩
            have hL5 := hL4.but nab B4 D5
            have hD5 := D5 _ _ hD4 nDb
            have D5 := D4.trans D5
            refine ⟨_, rfl, .inl ⟨rfl, _, SqL.of hD5⟩, _, rfl, _, rfl, _, rfl, a, us, rfl, .inl (SqL.of hL5.1), _, rfl, a, us, rfl, .inl (SqL.of hL5.1), _, rfl, _, _, rfl, rfl, by show 3 ≤ sizeLine; decide, fun q6 nq6 => ?_⟩
            refine ⟨b, q6, _, rfl, B5.same (sNew nq6), upd_same, B5.ne nq6, by show 1 ≤ 3; decide, by show 3 ≤ 900; decide, fun j6 x6 H6 hx6 B6 D6 => ?_⟩
            have hx6 := List.mem_of_getElem? hx6
            obtain ⟨x6, rfl⟩ : ∃ i : Int, x6 = .int i := by
              simp only [List.mem_cons, List.not_mem_nil, or_false] at hx6
              rcases hx6 with rfl | rfl | rfl <;> exact ⟨_, rfl⟩
            have hD6 := D6 _ _ (sNew nq6 _ _ hD5) nDb
            exact ⟨D, _, _, rfl, rfl, hD6, isl, app x6 here hD6 B6 (D5.trans ((But.of (sNew nq6)).trans D6))⟩
          · rw [show (ls.map lkD).isEmpty = false by cases ls with
              | nil => exact absurd rfl hls
              | cons _ _ => rfl]
            have ll1 : 1 ≤ ls.length := by cases ls with
              | nil => exact absurd rfl hls
              | cons _ _ => simp
            refine iteT ⟨_, rfl, b, _, rfl, B4, by decide, by decide, fun js5 H5 _ _ B5 D5 => ⟨_, _, rfl, rfl, _, rfl, ite2 (fun _ => ?_) (fun _ => ?_)⟩⟩
            · have hL5 := hL4.but nab B4 D5
              have hD5 := D5 _ _ hD4 nDb
              have D5 := D4.trans D5
              refine ⟨_, rfl, .inl ⟨rfl, _, SqL.of hD5⟩, _, rfl, _, rfl, a, us, rfl, .inl (SqL.of hL5.1), b, _, rfl, B5, by omega, by omega, fun j6 H6 _ _ B6 D6 => ?_⟩
              have hD6 := D6 _ _ hD5 nDb
              exact ⟨D, _, _, rfl, rfl, hD6, isl, app j6 here hD6 B6 (D5.trans D6)⟩
            · have hL4 := hL4.but nab B4 D5
              have hD4 := D5 _ _ hD4 nDb
              have D4 := D4.trans D5
              have B4 := B5
              refine ⟨_, rfl, b, _, rfl, B4, by decide, by decide, fun jt H5 _ _ B5 D5 => ⟨rfl, _, rfl, ite2 (fun _ => ?_) (fun _ => stay (D5 _ _ hD4 nDb) B5 (D4.trans D5))⟩⟩
              have hL5 := hL4.but nab B4 D5
              have hD5 := D5 _ _ hD4 nDb
              have D5 := D4.trans D5
              refine ⟨_, rfl, .inl ⟨rfl, _, SqL.of hD5⟩, _, rfl, _, rfl, _, rfl, a, us, rfl, .inl (SqL.of hL5.1), _, rfl, a, us, rfl, .inl (SqL.of hL5.1), _, rfl, _, _, rfl, rfl, by show 3 ≤ sizeLine; decide, fun q6 nq6 => ?_⟩
              refine ⟨b, q6, _, rfl, B5.same (sNew nq6), upd_same, B5.ne nq6, by show 1 ≤ 3; decide, by show 3 ≤ 900; decide, fun j6 x6 H6 hx6 B6 D6 => ?_⟩
              have hx6 := List.mem_of_getElem? hx6
              obtain ⟨x6, rfl⟩ : ∃ i : Int, x6 = .int i := by
                simp only [List.mem_cons, List.not_mem_nil, or_false] at hx6
                rcases hx6 with rfl | rfl | rfl <;> exact ⟨_, rfl⟩
              have hD6 := D6 _ _ (sNew nq6 _ _ hD5) nDb
              exact ⟨D, _, _, rfl, rfl, hD6, isl, app x6 here hD6 B6 (D5.trans ((But.of (sNew nq6)).trans D6))⟩
    · rintro σ H1 ⟨is, here, v6, v7, hD, li, B1, D1, rfl⟩
      exact ⟨_, rfl, k D is H1 nD hD (by omega) B1 D1⟩
theorem cal_walk (T : Txt P w K mg cl) : Cal P w K mg base CX0 3 "_law_walk" ["_law_bag_here", "_law_links_here", "_law_start", "_law_many"] (spWalk) := by
  obtain ⟨f, fd, F, m⟩ := T.d_walk
  exact ⟨f, fd, ok_walk F T, m, F.kp, F.binds fun _ _ _ _ _ _ us hl => match us, hl with | [_, _, _, _], _ => rfl⟩
end
end My
set_option Elab.async false
set_option linter.all false
set_option maxRecDepth 100000
set_option maxHeartbeats 1000000
namespace My
open PySem L2 Dw Wp
open C8 (pss_cut tCut)
set_option pp.maxSteps 600
theorem cut_take (xs : List V) (i : Nat) : cutV xs none (some (i : Int)) = xs.take i := by
  unfold cutV
  rw [HT.sIx_nat, HT.sIx_none, List.drop_zero, Nat.sub_zero]
  by_cases h : i ≤ xs.length
  · rw [Nat.min_eq_left h]
  · rw [Nat.min_eq_right (by omega), List.take_of_length_le (Nat.le_refl _), List.take_of_length_le (by omega)]
theorem SyAt.but {C : Addr} {H H' : Hp} {p t b : Addr} {c : Int} {us : List V} {ls : List Lk} (h : SyAt C H p c t us ls) (B : BgAt H b) (D : But b H H') : SyAt C H' p c t us ls := by
  obtain ⟨⟨dx, h1⟩, h2, h3⟩ := h
  exact ⟨⟨dx, D _ _ h1 (B.ins h1)⟩, D _ _ h2 (B.tup h2), Paired.impP (fun _ _ q => q.but B D) h3⟩
/-- the law's things in the memory -/
structure LwS (C : Addr) (H : Hp) (b p t a tl : Addr) (c : Int) (us lus : List V) (ls : List Lk) (ts : List Int) : Prop where
  B : BgAt H b
  X : SyAt C H p c t us ls
  L : LlT H a lus ls
  na : a ≠ b
  ht : H tl = some (.lst (ts.map V.int))
  nt : tl ≠ b
  lt : (ts.length : Int) = c
  lok : ∀ l ∈ ls, LkOk c l
  le : ls.length ≤ 70
  c1 : 1 ≤ c
  c2 : c ≤ 12
section
variable {C : Addr} {H H' : Hp} {b p t a tl : Addr} {c : Int} {us lus : List V} {ls : List Lk} {ts : List Int}
theorem LwS.but (h : LwS C H b p t a tl c us lus ls ts) (B : BgAt H' b) (D : But b H H') : LwS C H' b p t a tl c us lus ls ts :=
  ⟨B, h.X.but h.B D, h.L.but h.na h.B D, h.na, D _ _ h.ht h.nt, h.nt, h.lt, h.lok, h.le, h.c1, h.c2⟩
theorem LwS.same (h : LwS C H b p t a tl c us lus ls ts) (S : Same H H') : LwS C H' b p t a tl c us lus ls ts := h.but (h.B.same S) (But.of S)
end
/-- a thing that is no list of times -/
inductive OddK (b o : Addr) (H : Hp) (c : Int) : V → Prop where
  | pl {v : V} (s : Sr v) : OddK b o H c v
  | dict {d : Addr} {kvs : List (Key × V)} (e : H d = some (.dK kvs)) : OddK b o H c (.ref d)
  | lst {r : Addr} {xs : List V} (e : H r = some (.lst xs)) (n : r ≠ b) (n2 : r ≠ o) (k : ∀ x ∈ xs, Sr x ∨ ∃ t ys, x = .ref t ∧ H t = some (.tup ys)) (l : xs.length ≤ 900) (z : tmsB c (some xs) = false) : OddK b o H c (.ref r)
theorem OddK.but {b o : Addr} {H H' : Hp} {c : Int} {v : V} (h : OddK b o H c v) (B : BgAt H b) (D : But b H H') : OddK b o H' c v := by
  cases h with
  | pl s => exact .pl s
  | dict e => exact .dict (D _ _ e (by
      rintro rfl
      obtain ⟨_, _, h1, _⟩ := B
      rw [h1] at e
      cases e))
  | lst e n n2 k l z => exact .lst (D _ _ e n) n n2 (fun x hx => (k x hx).imp id fun ⟨t, ys, h1, h2⟩ => ⟨t, ys, h1, D _ _ h2 (B.tup h2)⟩) l z
theorem Sr.notLT {K : PySem.W.Frag} {H : Hp} {v : V} (s : Sr v) : NotLT K H v := fun H' _ => by
  obtain ⟨n, d, h1, h2⟩ := Sr.dm (K := K) (H := H') s
  refine ⟨_, d.ty, ?_⟩
  rw [isLT d, decide_eq_false h1, decide_eq_false h2]
  rfl
theorem dict_notLT {K : PySem.W.Frag} {H : Hp} {d : Addr} {kvs : List (Key × V)} (e : H d = some (.dK kvs)) : NotLT K H (.ref d) := fun H' S =>
  ⟨.type "dict", .base (.dK (S _ _ e)), kitAny_cons (b := false) (kit_ty (by decide +kernel)) (fun _ => kitAny_cons (b := false) (kit_ty (by decide +kernel)) (fun _ => kitAny_nil) (fun h => nomatch h)) (fun h => nomatch h)⟩
theorem OddK.ts {K : PySem.W.Frag} {b o : Addr} {H : Hp} {c : Int} {v : V} (h : OddK b o H c v) : ∃ to, TsAt K H v to ∧ tmsB c to = false := by
  cases h with
  | pl s => exact ⟨none, s.notLT, rfl⟩
  | dict e => exact ⟨none, dict_notLT e, rfl⟩
  | lst e n n2 k l z =>
    refine ⟨some _, ⟨_, rfl, .inl e, fun x hx => ?_, l⟩, z⟩
    rcases k x hx with s | ⟨t, ys, rfl, h2⟩
    · obtain ⟨n, d, _⟩ := Sr.dm (K := K) (H := H) s
      exact ⟨n, d⟩
    · exact ⟨_, .tup h2⟩
theorem OddK.behind {b o : Addr} {H : Hp} {c : Int} {v : V} (h : OddK b b H c v) (n : H o = none) : OddK b o H c v := by
  cases h with
  | pl s => exact .pl s
  | dict e => exact .dict e
  | lst e n1 _ k l z => exact .lst e n1 (ne_of_none e n) k l z
theorem OddK.updL {b o : Addr} {H : Hp} {c : Int} {v : V} {xs ys : List V} (h : OddK b o H c v) (e : H o = some (.lst xs)) : OddK b o (upd H o (.lst ys)) c v := by
  cases h with
  | pl s => exact .pl s
  | dict e1 => exact .dict ((upd_ne (ne_of e1 e (fun z => nomatch z))).trans e1)
  | lst e1 n n2 k l z => exact .lst ((upd_ne n2).trans e1) n n2 (fun x hx => (k x hx).imp id fun ⟨t, ys, h1, h2⟩ => ⟨t, ys, h1, (upd_ne (ne_of h2 e (fun z => nomatch z))).trans h2⟩) l z
theorem ts_at {K : PySem.W.Frag} {H : Hp} {r : Addr} {ts : List Int} (h : H r = some (.lst (ts.map V.int)) ∨ H r = some (.tup (ts.map V.int))) (l : ts.length ≤ 900) : TsAt K H (.ref r) (some (ts.map V.int)) :=
  ⟨r, rfl, h, fun x hx => by obtain ⟨i, _, rfl⟩ := List.mem_map.mp hx; exact ⟨_, .int i⟩, by rw [List.length_map]; exact l⟩
def spKept (C : Addr) : Sp := fun vs H Q _ => ∃ (b p t a tl : Addr) (c : Int) (us lus : List V) (ls : List Lk) (ts : List Int), vs = [.ref b, .ref p, .int c, .ref a, .ref tl] ∧ LwS C H b p t a tl c us lus ls ts ∧ ∀ H', BgAt H' b → But b H H' → Q (.bl true) H'
def OdL (b o : Addr) (H : Hp) (c : Int) (xs : List V) : Prop := ∀ x ∈ xs, OddK b o H c x
theorem OdL.but {b o : Addr} {H H' : Hp} {c : Int} {xs : List V} (h : OdL b o H c xs) (B : BgAt H b) (D : But b H H') : OdL b o H' c xs := fun x hx => (h x hx).but B D
theorem OdL.same {b o : Addr} {H H' : Hp} {c : Int} {xs : List V} (h : OdL b o H c xs) (B : BgAt H b) (S : Same H H') : OdL b o H' c xs := h.but B (But.of S)
theorem OdL.snoc {b o : Addr} {H : Hp} {c : Int} {xs : List V} {v : V} (h : OdL b o H c xs) (k : OddK b o H c v) : OdL b o H c (xs ++ [v]) := fun x hx => by
  rcases List.mem_append.mp hx with hx | hx
  · exact h x hx
  · rw [show x = v by simpa using hx]
    exact k
theorem OdL.behind {b o : Addr} {H : Hp} {c : Int} {xs : List V} (h : OdL b b H c xs) (n : H o = none) : OdL b o H c xs := fun x hx => (h x hx).behind n
theorem OdL.updL {b o : Addr} {H : Hp} {c : Int} {xs zs ys : List V} (h : OdL b o H c xs) (e : H o = some (.lst zs)) : OdL b o (upd H o (.lst ys)) c xs := fun x hx => (h x hx).updL e
theorem zsr {c : Int} (h1 : 1 ≤ c) (h2 : c ≤ 12) : Sr (.str (PySem.Txt.mul "0" c)) := by
  have h : c = 1 ∨ c = 2 ∨ c = 3 ∨ c = 4 ∨ c = 5 ∨ c = 6 ∨ c = 7 ∨ c = 8 ∨ c = 9 ∨ c = 10 ∨ c = 11 ∨ c = 12 := by omega
  rcases h with rfl | rfl | rfl | rfl | rfl | rfl | rfl | rfl | rfl | rfl | rfl | rfl <;> exact ⟨by decide +kernel, by decide +kernel⟩
theorem brk_len (ls : List Lk) (ts : List Int) (n : Nat) : (brkTo ls ts n).length ≤ n := by
  have := List.length_filter_le (fun i => !((ls[i]?.map (keepB ts)).getD true)) (List.range n)
  rw [List.length_range] at this
  exact this
section
variable {P : Program} {w : World} {K : PySem.W.Frag} {mg : Str → Option Value} {base : Heap} {cl : String → Addr}
theorem ok_kept {f : Addr} {fd : FuncData} (F : Fun K "_law_kept" "_law_kept" s_kept f fd) (T : Txt P w K mg cl) : FnOk P w K mg base CX0 7 f fd ["_law_bag_here", "_law_system", "_law_count", "_law_links_here", "_law_times_here"] (spKept (cl "System")) := by
  refine F.ok sc_kept (fun vs H Q E h => ?_) (fun cdv A outer s H vs Q E hr h => ?_)
  · obtain ⟨b, p, t, a, tl, c, us, lus, ls, ts, rfl, _⟩ := h
    rfl
  · obtain ⟨b, p, t, a, tl, c, us, lus, ls, ts, rfl, Z, k⟩ := h
    have ht0 := Z.ht
    have C_take : Cal P w K mg base CX0 1 "_law_take" _ spTake := cal_take T
    have C_of : Cal P w K mg base CX0 2 "_law_of" _ spOf := cal_of T
    have C_times : Cal P w K mg base CX0 4 "_law_times" _ spTimes := cal_times T
    have C_told_broken : Cal P w K mg base CX0 6 "_law_told_broken" _ (spTB K (cl "System")) := cal_told_broken T
    refine ⟨_, (pss_cons (ps_for PassesOwn.never rfl (pi_range1 rfl T.n_range (pa_cons pe_int pa_nil)) (pg_name (i := 5) sc_kept.nd rfl (Or.inl rfl))
          (pss_cons (ps_set (i := 6) sc_kept.nd rfl (Or.inr rfl) (pe_cut (pe_ifExp (pt_cmpR op_eq (pv 5) pe_int (nomark _)) (pv 4) (pe_cal C_times (hr.mono (by decide)) (pa_cons (pv 0) (pa_cons (pv 2) pa_nil))))))
            (pss_cons (ps_setLc (i := 7) (own := [("_law_k", 13)]) (g := gName 13)  rfl sc_kept.nd rfl rfl (sw_true rfl rfl rfl (by decide +kernel)) (pi_range1 rfl T.n_range (pa_cons (pe_callB call_len_seq (by rfl) T.n_len PySem.boot_len (pa_cons (pv 3) pa_nil)) pa_nil)) (blkOk_by (own := [("_law_k", 13)]) (N := ["_law_bag_here", "_law_system", "_law_count", "_law_links_here", "_law_times_here", "_law_turn", "_law_some", "_law_due_here", "_law_first", "_law_second", "_law_at", "_law_other", "_law_x", "_law_k"]) (sc := defScope s_kept) (by decide +kernel)) (fun _ _ _ _ _ => pg_name (i := 13) sc_kept.nd rfl (Or.inl rfl)) (fun _ _ _ _ _ => pts_one (pt_cmpR op_gt (pe_op op_sub (pe_ix (ix_listK (K := K) rfl) (pv 6) (pe_ix (ix_tupK (K := K) rfl) (pe_ix (ix_listK (K := K) rfl) (pv 3) (pv 13) (fun _ _ => rfl)) pe_int (fun _ _ => rfl)) (fun _ _ => rfl)) (pe_ix (ix_listK (K := K) rfl) (pv 6) (pe_ix (ix_tupK (K := K) rfl) (pe_ix (ix_listK (K := K) rfl) (pv 3) (pv 13) (fun _ _ => rfl)) pe_int (fun _ _ => rfl)) (fun _ _ => rfl))) (pe_ix (ix_tupK (K := K) rfl) (pe_ix (ix_listK (K := K) rfl) (pv 3) (pv 13) (fun _ _ => rfl)) pe_int (fun _ _ => rfl)) (nomark _))) (fun _ _ _ _ _ => (pv 13)))
            (pss_cons (ps_asg (pe_cal C_told_broken (hr.mono (by decide)) (pa_cons (pv 1) (pa_cons (pe_cut (pe_ifExp (pt_cmpR op_eq (pe_cal C_take (hr.mono (by decide)) (pa_cons (pv 0) (pa_cons pe_int pa_nil))) pe_int (nomark _)) (pv 6) (pe_callTy call_tuple_of (by rfl) T.n_tuple (by decide +kernel) (pa_cons (pv 6) pa_nil)))) pa_nil))) (pg_tup rfl (pgs_cons (pg_name (i := 8) sc_kept.nd rfl (Or.inl rfl)) (pgs_cons (pg_name (i := 9) sc_kept.nd rfl (Or.inl rfl)) pgs_nil))))
            (pss_cons (ps_if (PW.pt (pw_or (pt_not (pt_val (pe_callB call_isi (by rfl) T.n_isinstance (by decide +kernel) (pa_cons (pv 8) (pa_cons (pe_ty "bool" T.n_bool) pa_nil))))) (pw_or1 (pt_cmpR op_ne (pv 8) (pe_cmpR (op_eqD hr.units) (pv 7) (pe_lst pa_nil) (nomark _)) (nomark _)))))
              (pss_one (ps_ret pe_bl)) pss_nil)
            (pss_one (ps_if (PW.pt (pw_or (pt_not (pt_val (pe_callB call_isi (by rfl) T.n_isinstance (by decide +kernel) (pa_cons (pv 9) (pa_cons (pe_ty "tuple" T.n_tuple) pa_nil))))) (pw_or1 (pt_cmpR (op_neD hr.units) (pe_callTy call_list_of (by rfl) T.n_list (by decide +kernel) (pa_cons (pv 9) pa_nil)) (pv 7) (nomark _)))))
              (pss_one (ps_ret pe_bl)) pss_nil)))))))
        (pss_cons (ps_set (i := 10) sc_kept.nd rfl (Or.inl rfl) (pe_cal C_take (hr.mono (by decide)) (pa_cons (pv 0) (pa_cons (pv 2) pa_nil))))
        (pss_cons (ps_set (i := 11) sc_kept.nd rfl (Or.inl rfl) (pe_lst (pa_cons (pe_op op_cat (pe_slice sl_list (pv 4) po_none (po_some (pv 10))) (pe_slice sl_list (pv 4) (po_some (pe_op op_add (pv 10) pe_int)) po_none)) (pa_cons (pe_op op_cat (pv 4) (pe_lst (pa_cons pe_int pa_nil))) (pa_cons pe_non (pa_cons (pe_op op_repS pe_str (pv 2)) (pa_cons pe_dnewK (pa_cons pe_int pa_nil))))))))
        (pss_cons (ps_for PassesOwn.never rfl (pi_list (pe_lst (pa_cons pe_bl (pa_cons pe_non (pa_cons pe_str (pa_cons (pe_tup (pa_cons pe_int pa_nil)) pa_nil)))))) (pg_name (i := 12) sc_kept.nd rfl (Or.inl rfl))
          (pss_one (ps_expr (pe_app1 (by exact (pv 11)) (by exact (pa_cons (pe_op op_cat (pe_op op_cat (pe_slice sl_list (pv 4) po_none (po_some (pv 10))) (pe_lst (pa_cons (pv 12) pa_nil))) (pe_slice sl_list (pv 4) (po_some (pe_op op_add (pv 10) pe_int)) po_none)) pa_nil))))))
        (pss_one (ps_ret (pe_cmpR (op_eqD hr.units) (pe_cal C_told_broken (hr.mono (by decide)) (pa_cons (pv 1) (pa_cons (pe_cal C_of (hr.mono (by decide)) (pa_cons (pv 0) (pa_cons (pv 11) pa_nil))) pa_nil))) (pe_tup (pa_cons pe_str (pa_cons pe_str pa_nil))) (nomark _)))))))), ?_⟩
    refine ⟨_, rfl, by decide, by decide, for_range (fun i σ H' => BgAt H' b ∧ But b H H' ∧ ∃ (v5 v6 v7 v8 v9 : Option V), σ = [some (.ref b), some (.ref p), some (.int c), some (.ref a), some (.ref tl), v5, v6, v7, v8, v9, none, none, none, none]) ⟨Z.B, But.refl _ _, _, _, _, _, _, rfl⟩ ?_ ?_⟩
    · rintro i σ H1 hi ⟨B1, D1, v5, v6, v7, v8, v9, rfl⟩
      have Z := Z.but B1 D1
      refine ⟨fun v H' => ∃ (sm : Addr) (ss : List Int), v = .ref sm ∧ H' sm = some (.lst (ss.map V.int)) ∧ (ss.length : Int) = c ∧ sm ≠ b ∧ BgAt H' b ∧ But b H1 H', ?_, fun v H2 ⟨sm, ss, hv, hs, sl, sn, B2, D2⟩ => ?_⟩
      · refine ⟨_, rfl, rfl, _, rfl, ite2 (fun _ => ⟨_, rfl, tl, ts, rfl, Z.ht, Z.lt, Z.nt, B1, But.refl _ _⟩) (fun _ => ?_)⟩
        exact ⟨_, rfl, _, rfl, b, c, rfl, B1, Z.c1, Z.c2, fun sm ss H2 n1 h1 h2 B2 D2 => ⟨sm, ss, rfl, h1, h2, B1.ne n1, B2, D2⟩⟩
      subst hv
      have Z := Z.but B2 D2
      have D2 := D1.trans D2
      have lu := Z.L.2.length
      have le := Z.le
      refine ⟨_, rfl, a, lus, rfl, .inl (SqL.of Z.L.1), _, rfl, by omega, by omega, fun L nL => lc_range (fun i H' => H' = upd H2 L (.lst (ntV (brkTo ls ss i)))) rfl ?_ ?_⟩
      · rintro j H3 hj rfl
        rw [Int.toNat_natCast] at hj
        have hj2 : j < ls.length := by omega
        have S3 := sNew (o := .lst (ntV (brkTo ls ss j))) nL
        have Z := Z.same S3
        have hs := S3 _ _ hs
        obtain ⟨e, hv, he⟩ := ll_at Z.L hj2
        obtain ⟨⟨a1, a2⟩, a3, a4⟩ := Z.lok ls[j] (List.getElem_mem hj2)
        have j1 : ls[j].1.toNat < ss.length := by omega
        have j2 : ls[j].2.1.toNat < ss.length := by omega
        have kb : keepB ss ls[j] = decide (ss[ls[j].1.toNat] - ss[ls[j].2.1.toNat] ≤ ls[j].2.2) := by
          unfold keepB
          rw [List.getElem?_eq_getElem j1, List.getElem?_eq_getElem j2]
          rfl
        have at1 : atI (ss.map V.int) ls[j].1 = some (.int ss[ls[j].1.toNat]) := by
          have e0 : ((ls[j].1.toNat : Nat) : Int) = ls[j].1 := Int.toNat_of_nonneg a1
          have := atI_nat (xs := ss.map V.int) (j := ls[j].1.toNat) (v := .int ss[ls[j].1.toNat]) (by rw [List.getElem?_map, List.getElem?_eq_getElem j1]; rfl)
          rw [e0] at this
          exact this
        have at2 : atI (ss.map V.int) ls[j].2.1 = some (.int ss[ls[j].2.1.toNat]) := by
          have e0 : ((ls[j].2.1.toNat : Nat) : Int) = ls[j].2.1 := Int.toNat_of_nonneg a3
          have := atI_nat (xs := ss.map V.int) (j := ls[j].2.1.toNat) (v := .int ss[ls[j].2.1.toNat]) (by rw [List.getElem?_map, List.getElem?_eq_getElem j2]; rfl)
          rw [e0] at this
          exact this
        have bs := brkTo_succ (ls := ls) (ts := ss) (List.getElem?_eq_getElem hj2)
        rw [show (0 : Int) + (j : Nat) = ((j : Nat) : Int) from Int.zero_add _]
        have lk : ∀ (n : Nat) (v : V), (lkV ls[j])[n]? = some v → ∀ Q : V → Prop, Q v → ∃ (p : Addr) (xs : List V) (i : Int) (v : V), V.ref a = .ref p ∧ V.int (j : Nat) = .int i ∧ SqL K (upd H2 L (.lst (ntV (brkTo ls ss j)))) p xs ∧ atI xs i = some v ∧ ∃ (p2 : Addr) (ys : List V) (i2 : Int) (v2 : V), v = .ref p2 ∧ V.int (n : Nat) = .int i2 ∧ SqT K (upd H2 L (.lst (ntV (brkTo ls ss j)))) p2 ys ∧ atI ys i2 = some v2 ∧ Q v2 := fun n v hn Q q => ⟨a, _, _, _, rfl, rfl, SqL.of Z.L.1, atI_nat hv, e, _, _, _, rfl, rfl, SqT.of he, atI_nat hn, q⟩
        refine ⟨rfl, _, rfl, _, rfl, _, rfl, a, _, _, _, rfl, rfl, SqL.of Z.L.1, atI_nat hv, e, _, _, _, rfl, rfl, SqT.of he, atI_nat (j := 0) rfl, sm, _, _, _, rfl, rfl, SqL.of hs, at1, ?_⟩
        refine ⟨_, rfl, _, rfl, _, rfl, a, _, _, _, rfl, rfl, SqL.of Z.L.1, atI_nat hv, e, _, _, _, rfl, rfl, SqT.of he, atI_nat (j := 1) rfl, sm, _, _, _, rfl, rfl, SqL.of hs, at2, ?_⟩
        refine ⟨_, _, rfl, rfl, _, rfl, _, rfl, a, _, _, _, rfl, rfl, SqL.of Z.L.1, atI_nat hv, e, _, _, _, rfl, rfl, SqT.of he, atI_nat (j := 2) rfl, _, _, rfl, rfl, _, rfl, ?_⟩
        by_cases g : ss[ls[j].1.toNat] - ss[ls[j].2.1.toNat] ≤ ls[j].2.2
        · rw [decide_eq_false (show ¬ ls[j].2.2 < ss[ls[j].1.toNat] - ss[ls[j].2.1.toNat] by omega)]
          rw [decide_eq_true g] at kb
          refine iteF ?_
          rw [bs, if_pos kb, List.append_nil]
        · rw [decide_eq_true (show ls[j].2.2 < ss[ls[j].1.toNat] - ss[ls[j].2.1.toNat] by omega)]
          rw [decide_eq_false g] at kb
          refine iteT ⟨_, rfl, _, upd_same, small1000 (by have := brk_len ls ss j; unfold ntV; rw [List.length_map, List.length_map]; omega), ?_⟩
          rw [upd_upd, bs, if_neg (by rw [kb]; exact Bool.false_ne_true)]
          unfold ntV
          rw [List.map_append, List.map_append]
          rfl
      rintro H3 rfl
      rw [Int.toNat_natCast, lu]
      have S3 := sNew (o := .lst (ntV (brkTo ls ss ls.length))) nL
      have Z := Z.same S3
      have hs := S3 _ _ hs
      have D3 := D2.trans (But.of S3)
      have hJ : (upd H2 L (.lst (ntV (brkTo ls ss ls.length)))) L = some (.lst (ntV (brk ls ss))) := upd_same
      have nLb : L ≠ b := B2.ne nL
      clear B2 D2
      generalize upd H2 L (.lst (ntV (brkTo ls ss ls.length))) = H3 at Z hs D3 hJ
      have sz : ss.length ≤ 900 := by have := Z.c2; omega
      refine ⟨_, rfl, ?_⟩
      refine ⟨fun v H' => TsAt K H' v (some (ss.map V.int)) ∧ BgAt H' b ∧ But b H3 H', ?_, fun v H4 ⟨hv, B4, D4⟩ => ?_⟩
      · refine ⟨_, rfl, b, _, rfl, Z.B, by decide, by decide, fun j H4 _ _ B4 D4 => ⟨rfl, _, rfl, ite2 (fun _ => ⟨_, rfl, ts_at (.inl (D4 _ _ hs sn)) sz, B4, D4⟩) (fun _ => ?_)⟩⟩
        exact ⟨_, rfl, sm, _, rfl, .inl ⟨SqL.of (D4 _ _ hs sn), fun q nq => ⟨ts_at (.inr upd_same) sz, B4.same (sNew nq), D4.trans (But.of (sNew nq))⟩⟩⟩
      have Z := Z.but B4 D4
      have hJ := D4 _ _ hJ nLb
      have D4 := D3.trans D4
      refine ⟨p, t, c, us, ls, v, _, rfl, Z.X, Z.lok, by omega, hv, fun z => (by rw [tms_true sl] at z; cases z), fun ss' e _ r t' H5 S5 ht' hr' => ?_⟩
      obtain rfl := ints_inj _ _ (Option.some.inj e)
      have Z := Z.same S5
      have hJ := S5 _ _ hJ
      have D5 := D4.trans (But.of S5)
      refine ⟨r, _, rfl, SqT.of hr', rfl, _, _, rfl, _, _, rfl, rfl, ?_⟩
      have tt : ∀ {H' : Hp} {x : Addr} {xs : List V}, H' x = some (.tup xs) → Dm K H' (.ref x) "tuple" := fun h => .tup h
      refine ⟨_, rfl, _, _, _, _, _, rfl, .ty "bool", .base (.bl _), kit_ty (by decide +kernel), true, rfl, iteF ?_⟩
      refine ⟨_, rfl, _, rfl, by show 0 ≤ sizeLine; exact Nat.zero_le _, fun q2 nq2 => ?_⟩
      have S6 := sNew (o := .lst []) nq2
      refine ⟨_, _, dpI (S6 _ _ hJ), dp_lst (SqL.of upd_same) .nil, row_shaped true (okI _), row_shaped (xs := []) true (by simp), ?_⟩
      rw [eqv_nilI, show ((brk ls ss).map fun (i : Nat) => (i : Int)).isEmpty = (brk ls ss).isEmpty by cases brk ls ss <;> rfl]
      refine ⟨rfl, _, rfl, ite2 (fun g => absurd g (by simp)) (fun _ => ?_)⟩
      refine ⟨_, rfl, _, _, _, _, _, rfl, .ty "tuple", (tt (S6 _ _ ht')).ty, kit_ty (by decide +kernel), true, rfl, iteF ?_⟩
      rw [show ((brk ls ss).map fun (i : Nat) => V.int i) = ntV (brk ls ss) by unfold ntV; rw [List.map_map]; rfl] at ht'
      refine ⟨_, rfl, t', _, rfl, .inr (SqT.of (S6 _ _ ht')), fun l nl => ⟨_, rfl, ?_⟩⟩
      have S7 := S6.trans (sNew (o := .lst (ntV (brk ls ss))) nl)
      refine ⟨_, _, dpI upd_same, dpI (S7 _ _ hJ), row_shaped true (okI _), row_shaped true (okI _), _, rfl, ?_⟩
      rw [row_self]
      exact iteF ⟨Z.B.same S7, D5.trans (But.of S7), _, _, _, _, _, rfl⟩
    · rintro σ H1 ⟨B1, D1, v5, v6, v7, v8, v9, rfl⟩
      have Z := Z.but B1 D1
      have c1 := Z.c1
      have c2 := Z.c2
      refine ⟨_, rfl, _, rfl, b, c, rfl, B1, c1, by omega, fun j H2 j0 j1 B2 D2 => ?_⟩
      obtain ⟨jn, rfl⟩ : ∃ jn : Nat, j = (jn : Int) := ⟨j.toNat, by omega⟩
      have Z := Z.but B2 D2
      have D2 := D1.trans D2
      have lt := Z.lt
      have hj : jn < ts.length := by omega
      have zt : ts.length < 1000 := by omega
      clear D1 B1
      have lm : (ts.map V.int).length = ts.length := List.length_map _
      have cutL : cutV (ts.map V.int) none (some (jn : Int)) = (ts.map V.int).take jn := cut_take _ _
      have cutR : cutV (ts.map V.int) (some ((jn : Int) + 1)) none = (ts.map V.int).drop (jn + 1) := cut_drop _ (jn + 1)
      have srI : ∀ {x : V}, x ∈ ts.map V.int → Sr x := fun {x} hx => by obtain ⟨i, _, rfl⟩ := List.mem_map.mp hx; trivial
      have W : OdL b b H2 c [] := fun x h => by cases h
      refine ⟨_, rfl, _, rfl, _, rfl, tl, _, rfl, SqL.of Z.ht, fun q1 n1 => ?_⟩
      rw [cutL]
      have S1 := sNew (o := .lst ((ts.map V.int).take jn)) n1
      refine ⟨_, rfl, _, rfl, _, _, rfl, rfl, _, rfl, tl, _, rfl, SqL.of (S1 _ _ Z.ht), fun q2 n2 => ?_⟩
      rw [cutR]
      have S2 := sNew (o := .lst ((ts.map V.int).drop (jn + 1))) n2
      refine ⟨q1, q2, _, _, rfl, rfl, S2 _ _ upd_same, upd_same, Nat.le_of_lt (small1000 (by rw [List.length_take, List.length_drop]; omega)), fun q3 n3 => ?_⟩
      have S3 := sNew (o := .lst ((ts.map V.int).take jn ++ (ts.map V.int).drop (jn + 1))) n3
      have S := S1.trans (S2.trans S3)
      have W := (W.same Z.B S).snoc (.lst (r := q3) upd_same (((Z.B.same S1).same S2).ne n3) (((Z.B.same S1).same S2).ne n3) (fun x hx => .inl (by
        rcases List.mem_append.mp hx with hx | hx
        · exact srI (List.mem_of_mem_take hx)
        · exact srI (List.mem_of_mem_drop hx))) (by rw [List.length_append, List.length_take, List.length_drop]; omega) (by
        show (decide (_ = c) && _) = false
        rw [decide_eq_false (by rw [List.length_append, List.length_take, List.length_drop]; omega), Bool.false_and]))
      clear S1 S2 S3
      generalize upd (upd (upd H2 q1 _) q2 _) q3 _ = H3 at S W
      refine ⟨_, rfl, by show 1 ≤ sizeLine; decide, fun q4 n4 => ?_⟩
      have S4 := sNew (o := .lst [.int 0]) n4
      refine ⟨tl, q4, _, _, rfl, rfl, S4 _ _ (S _ _ Z.ht), upd_same, Nat.le_of_lt (small1000 (by rw [lm, List.length_singleton]; omega)), fun q5 n5 => ?_⟩
      have S5 := sNew (o := .lst (ts.map V.int ++ [.int 0])) n5
      have W := ((W.same (Z.B.same S) (S4.trans S5)).snoc (.lst (r := q5) upd_same (((Z.B.same S).same S4).ne n5) (((Z.B.same S).same S4).ne n5) (fun x hx => .inl (by
        rcases List.mem_append.mp hx with hx | hx
        · exact srI hx
        · rw [show x = .int 0 by simpa using hx]; trivial)) (by rw [List.length_append, lm, List.length_singleton]; omega) (by
        show (decide (_ = c) && _) = false
        rw [decide_eq_false (by rw [List.length_append, lm, List.length_singleton]; omega), Bool.false_and]))).snoc (.pl (v := .non) trivial)
      have S := S.trans (S4.trans S5)
      clear S4 S5
      generalize upd (upd H3 q4 _) q5 _ = H4 at S W
      obtain ⟨zm, zl⟩ := zero_mul c1 c2
      refine ⟨_, rfl, _, _, rfl, rfl, zm, fun q6 n6 => ?_⟩
      have W := W.snoc (.pl (v := .str (PySem.Txt.mul "0" c)) (zsr c1 c2))
      have W := ((W.same (Z.B.same S) (sNew (o := .dK []) n6)).snoc (.dict (d := q6) upd_same)).snoc (.pl (v := .int 0) trivial)
      have S := S.trans (sNew (o := .dK []) n6)
      generalize upd H4 q6 (.dK []) = H5 at S W
      refine ⟨by show 6 ≤ sizeLine; decide, fun O nO => ?_⟩
      have nOb : O ≠ b := (Z.B.same S).ne nO
      have nOH : H O = none := (D2.trans (But.of S)).free (fun _ _ => trivial) nO nOb
      have hO : (upd H5 O (.lst [.ref q3, .ref q5, .non, .str (PySem.Txt.mul "0" c), .ref q6, .int 0])) O = some (.lst [.ref q3, .ref q5, .non, .str (PySem.Txt.mul "0" c), .ref q6, .int 0]) := upd_same
      have W := (W.behind nO).same (Z.B.same S) (sNew (o := .lst [.ref q3, .ref q5, .non, .str (PySem.Txt.mul "0" c), .ref q6, .int 0]) nO)
      have S := S.trans (sNew (o := .lst [.ref q3, .ref q5, .non, .str (PySem.Txt.mul "0" c), .ref q6, .int 0]) nO)
      have W : OdL b O _ c [.ref q3, .ref q5, .non, .str (PySem.Txt.mul "0" c), .ref q6, .int 0] := W
      generalize upd H5 O (.lst [.ref q3, .ref q5, .non, .str (PySem.Txt.mul "0" c), .ref q6, .int 0]) = H6 at S W hO
      have Z := Z.same S
      have D2 := D2.trans (But.of S)
      clear S
      refine ⟨by show 1 ≤ sizeLine; decide, fun q7 n7 => ⟨by show 4 ≤ sizeLine; decide, fun q8 n8 => ?_⟩⟩
      have S7 := sNew (o := .tup [.int 1]) n7
      have h7 := sNew (o := .lst [.bl true, .non, .str "1", .ref q7]) n8 _ _ (upd_same (H := H6) (a := q7) (o := .tup [.int 1]))
      have S8 := sNew (o := .lst [.bl true, .non, .str "1", .ref q7]) n8
      have h8 : (upd (upd H6 q7 (.tup [.int 1])) q8 (.lst [.bl true, .non, .str "1", .ref q7])) q8 = some (.lst [.bl true, .non, .str "1", .ref q7]) := upd_same
      have n8b : q8 ≠ b := (Z.B.same S7).ne n8
      have n8O : q8 ≠ O := Ne.symm (ne_of_none (S7 _ _ hO) n8)
      have W := (W.same Z.B S7).same (Z.B.same S7) S8
      have Z := (Z.same S7).same S8
      have hO := S8 _ _ (S7 _ _ hO)
      have D2 := D2.trans ((But.of S7).trans (But.of S8))
      generalize upd (upd H6 q7 (.tup [.int 1])) q8 (.lst [.bl true, .non, .str "1", .ref q7]) = H7 at h7 h8 W Z hO D2
      refine ⟨q8, rfl, ⟨_, SqL.of h8⟩, for_list (K := K) (a := q8) (xs := [.bl true, .non, .str "1", .ref q7]) (fun i σ H' => ∃ (xs : List V) (v12 : Option V), H' O = some (.lst xs) ∧ OdL b O H' c xs ∧ xs.length = 6 + i ∧ BgAt H' b ∧ But b H H' ∧ H' q8 = some (.lst [.bl true, .non, .str "1", .ref q7]) ∧ H' q7 = some (.tup [.int 1]) ∧ H' tl = some (.lst (ts.map V.int)) ∧ SyAt (cl "System") H' p c t us ls ∧ σ = [some (.ref b), some (.ref p), some (.int c), some (.ref a), some (.ref tl), v5, v6, v7, v8, v9, some (.int (jn : Int)), some (.ref O), v12, none]) ⟨_, _, hO, W, rfl, Z.B, D2, h8, h7, Z.ht, Z.X, rfl⟩ (fun i σ H' _ q => by obtain ⟨_, _, _, _, _, _, _, q, _⟩ := q; exact SqL.of q) ?_ ?_⟩
      · clear W hO D2
        rintro i x σ H8 hx ⟨xs, v12, hO, W, xl, B8, D8, h8, h7, ht, X, rfl⟩
        have hi : i < 4 := (List.getElem?_eq_some_iff.mp hx).1
        have hx := List.mem_of_getElem? hx
        have kx : isI x = false ∧ (Sr x ∨ ∃ t ys, x = .ref t ∧ H8 t = some (.tup ys)) := by
          simp only [List.mem_cons, List.not_mem_nil, or_false] at hx
          rcases hx with rfl | rfl | rfl | rfl
          · exact ⟨rfl, .inl trivial⟩
          · exact ⟨rfl, .inl trivial⟩
          · exact ⟨rfl, .inl ⟨by decide, by decide +kernel⟩⟩
          · exact ⟨rfl, .inr ⟨q7, _, rfl, h7⟩⟩
        refine ⟨_, rfl, .inl ⟨rfl, _, SqL.of hO⟩, _, rfl, _, rfl, _, rfl, tl, _, rfl, SqL.of ht, fun p1 m1 => ?_⟩
        rw [cutL]
        have S1 := sNew (o := .lst ((ts.map V.int).take jn)) m1
        refine ⟨_, rfl, by show 1 ≤ sizeLine; decide, fun p2 m2 => ?_⟩
        have S2 := sNew (o := .lst [x]) m2
        refine ⟨p1, p2, _, _, rfl, rfl, S2 _ _ upd_same, upd_same, Nat.le_of_lt (small1000 (by rw [List.length_take, List.length_singleton]; omega)), fun p3 m3 => ?_⟩
        have S3 := sNew (o := .lst ((ts.map V.int).take jn ++ [x])) m3
        refine ⟨_, rfl, _, rfl, _, _, rfl, rfl, _, rfl, tl, _, rfl, SqL.of (S3 _ _ (S2 _ _ (S1 _ _ ht))), fun p4 m4 => ?_⟩
        rw [cutR]
        have S4 := sNew (o := .lst ((ts.map V.int).drop (jn + 1))) m4
        refine ⟨p3, p4, _, _, rfl, rfl, S4 _ _ upd_same, upd_same, Nat.le_of_lt (small1000 (by rw [List.length_append, List.length_take, List.length_singleton, List.length_drop]; omega)), fun p5 m5 => ?_⟩
        have S5 := sNew (o := .lst ((ts.map V.int).take jn ++ [x] ++ (ts.map V.int).drop (jn + 1))) m5
        have S := S1.trans (S2.trans (S3.trans (S4.trans S5)))
        have n5b := ((((B8.same S1).same S2).same S3).same S4).ne m5
        have n5O : p5 ≠ O := Ne.symm (ne_of_none (S4 _ _ (S3 _ _ (S2 _ _ (S1 _ _ hO)))) m5)
        have ll : ((ts.map V.int).take jn ++ [x] ++ (ts.map V.int).drop (jn + 1)).length = ts.length := by
          rw [List.length_append, List.length_append, List.length_take, List.length_singleton, List.length_drop]
          omega
        have W := (W.same B8 S).snoc (.lst (r := p5) upd_same n5b n5O (fun y hy => by
          rcases List.mem_append.mp hy with hy | hy
          · rcases List.mem_append.mp hy with hy | hy
            · exact .inl (srI (List.mem_of_mem_take hy))
            · rw [show y = x by simpa using hy]
              exact kx.2.imp id fun ⟨t, ys, h1, h2⟩ => ⟨t, ys, h1, S _ _ h2⟩
          · exact .inl (srI (List.mem_of_mem_drop hy))) (by rw [ll]; omega) (by
          show (decide (_ = c) && List.all _ isI) = false
          rw [show (((ts.map V.int).take jn ++ [x] ++ (ts.map V.int).drop (jn + 1)).all isI) = false from List.all_eq_false.mpr ⟨x, by simp, by rw [kx.1]; exact Bool.false_ne_true⟩, Bool.and_false]))
        have hO := S _ _ hO
        have B9 := B8.same S
        have D9 := D8.trans (But.of S)
        have h8 := S _ _ h8
        have h7 := S _ _ h7
        have ht := S _ _ ht
        have X := X.same S
        clear S S1 S2 S3 S4 S5 B8 D8
        generalize upd (upd (upd (upd (upd H8 p1 _) p2 _) p3 _) p4 _) p5 _ = H9 at W hO B9 D9 h8 h7 ht X
        refine ⟨O, _, _, rfl, rfl, hO, small1000 (by omega), ?_⟩
        have ntO : tl ≠ O := ne_of_none ht0 nOH
        have n8O : q8 ≠ O := n8O
        refine ⟨_, _, upd_same, fun y hy => ?_, by rw [List.length_append, List.length_singleton]; omega, B9.upd nOb, but_upd D9 nOH, (upd_ne n8O).trans h8, (upd_ne (ne_of h7 hO (fun z => nomatch z))).trans h7, (upd_ne ntO).trans ht, ?_, rfl⟩
        · exact (W y hy).updL hO
        · obtain ⟨⟨dx, x1⟩, x2, x3⟩ := X
          exact ⟨⟨dx, (upd_ne (ne_of x1 hO (fun z => nomatch z))).trans x1⟩, (upd_ne (ne_of x2 hO (fun z => nomatch z))).trans x2, Paired.impP (fun _ _ h => h.upd hO) x3⟩
      · rintro σ H8 ⟨xs, v12, hO, W, xl, B8, D8, h8, h7, ht, X, rfl⟩
        have xl : xs.length = 10 := xl
        refine ⟨_, rfl, _, rfl, _, rfl, b, O, _, rfl, B8, hO, nOb, by omega, by omega, fun j9 x9 H9 hx9 B9 D9 => ?_⟩
        obtain ⟨to, t1, t2⟩ := (((W x9 (List.mem_of_getElem? hx9)).but B8 D9).ts (K := K))
        have X := X.but B8 D9
        have D9 := D8.trans D9
        refine ⟨p, t, c, us, ls, x9, to, rfl, X, Z.lok, by have := Z.le; omega, t1, fun _ r H10 S10 hr => ?_, fun ts' e lt' => (by rw [e, tms_true lt'] at t2; cases t2)⟩
        refine ⟨by show 2 ≤ sizeLine; decide, fun r2 n2 => ?_⟩
        have S11 := sNew (o := .tup [.str "times", .str "times"]) n2
        have ok : ∀ x ∈ ([.str "times", .str "times"] : List V), okV x = true := fun x hx => by
          rw [show x = .str "times" by simpa using hx]
          decide +kernel
        refine ⟨_, _, dp_tup (SqT.of (S11 _ _ hr)) (dpvs fun x hx => okV.flat (ok x hx)), dp_tup (SqT.of upd_same) (dpvs fun x hx => okV.flat (ok x hx)), row_shaped false ok, row_shaped false ok, ?_⟩
        rw [row_self]
        exact k _ ((B9.same S10).same S11) (D9.trans (But.of (S10.trans S11)))
theorem cal_kept (T : Txt P w K mg cl) : Cal P w K mg base CX0 7 "_law_kept" ["_law_bag_here", "_law_system", "_law_count", "_law_links_here", "_law_times_here"] (spKept (cl "System")) := by
  obtain ⟨f, fd, F, m⟩ := T.d_kept
  exact ⟨f, fd, ok_kept F T, m, F.kp, F.binds fun _ _ _ _ _ _ us hl => match us, hl with | [_, _, _, _, _], _ => rfl⟩
end
end My
set_option Elab.async false
set_option linter.all false
set_option maxRecDepth 100000
set_option maxHeartbeats 1000000
namespace My
open PySem L2 Dw Wp
open C8 (pss_cut tCut)
set_option pp.maxSteps 600
theorem ts_atI {ss : List Int} {i : Int} (h : 0 ≤ i) (l : i.toNat < ss.length) : atI (ss.map V.int) i = some (.int ss[i.toNat]) := by
  have e0 : ((i.toNat : Nat) : Int) = i := Int.toNat_of_nonneg h
  have := atI_nat (xs := ss.map V.int) (j := i.toNat) (v := .int ss[i.toNat]) (by rw [List.getElem?_map, List.getElem?_eq_getElem l]; rfl)
  rw [e0] at this
  exact this
def judV (c : Int) (ls : List Lk) (ss : List Int) : V := if (ss.length : Int) = c then (if (brk ls ss).isEmpty = true then .non else .str "link") else .str "count"
section
variable {P : Program} {w : World} {K : PySem.W.Frag} {mg : Str → Option Value} {base : Heap} {cl : String → Addr}
theorem ok_judged {f : Addr} {fd : FuncData} (F : Fun K "_law_judged" "_law_judged" s_judged f fd) (T : Txt P w K mg cl) : FnOk P w K mg base CX0 7 f fd ["_law_bag_here", "_law_system", "_law_count", "_law_links_here", "_law_times_here"] (spKept (cl "System")) := by
  refine F.ok sc_judged (fun vs H Q E h => ?_) (fun cdv A outer s H vs Q E hr h => ?_)
  · obtain ⟨b, p, t, a, tl, c, us, lus, ls, ts, rfl, _⟩ := h
    rfl
  · obtain ⟨b, p, t, a, tl, c, us, lus, ls, ts, rfl, Z, k⟩ := h
    have C_take : Cal P w K mg base CX0 1 "_law_take" _ spTake := cal_take T
    have C_times : Cal P w K mg base CX0 4 "_law_times" _ spTimes := cal_times T
    have C_solved_fault : Cal P w K mg base CX0 5 "solved_fault" _ (spSF K (cl "System") (cl "Ring") (cl "Kept")) := cal_solved_fault T
    have I_Kept : CalC P w K mg base CX0 1 (cl "Kept") _ (spFld1 (cl "Kept") "times") := cal_Kept_init T
    refine ⟨_, (pss_cons (ps_set (i := 5) sc_judged.nd rfl (Or.inr rfl) (pe_ix ix_list (pe_lst (pa_cons (pv 4) (pa_cons (pe_slice sl_list (pv 4) (po_some pe_int) po_none) (pa_cons (pe_op op_cat (pv 4) (pe_lst (pa_cons pe_int pa_nil))) (pa_cons (pe_cal C_times (hr.mono (by decide)) (pa_cons (pv 0) (pa_cons (pv 2) pa_nil))) pa_nil))))) (pe_cal C_take (hr.mono (by decide)) (pa_cons (pv 0) (pa_cons pe_int pa_nil))) (fun _ _ => rfl)))
        (pss_cons (ps_set (i := 6) sc_judged.nd rfl (Or.inl rfl) (pe_cut (pe_ifExp (pt_cmpR op_eq (pe_callB call_len_seq (by rfl) T.n_len PySem.boot_len (pa_cons (pv 5) pa_nil)) (pv 2) (nomark _)) pe_non pe_str)))
        (pss_cut (ps_if (pt_cmpR op_isN (pv 6) pe_non (nomark _))
          (pss_one (ps_set (i := 6) sc_judged.nd rfl (Or.inl rfl) (pe_cut (pe_ifExp (pt_cmpR (op_neD hr.units) (pe_lc (own := [("_law_x", 7)]) (g := gName 7)  rfl sc_judged.nd (pi_list (pv 3)) (blkOk_by (own := [("_law_x", 7)]) (N := ["_law_bag_here", "_law_system", "_law_count", "_law_links_here", "_law_times_here", "_law_some", "_law_due_here", "_law_x"]) (sc := defScope s_judged) (by decide +kernel)) (fun _ _ _ _ _ => pg_name (i := 7) sc_judged.nd rfl (Or.inl rfl)) (fun _ _ _ _ _ => pts_one (pt_cmpR op_gt (pe_op op_sub (pe_ix (ix_listK (K := K) rfl) (pv 5) (pe_ix (ix_tupK (K := K) rfl) (pv 7) pe_int (fun _ _ => rfl)) (fun _ _ => rfl)) (pe_ix (ix_listK (K := K) rfl) (pv 5) (pe_ix (ix_tupK (K := K) rfl) (pv 7) pe_int (fun _ _ => rfl)) (fun _ _ => rfl))) (pe_ix (ix_tupK (K := K) rfl) (pv 7) pe_int (fun _ _ => rfl)) (nomark _))) (fun _ _ _ _ _ => (pv 7))) (pe_lst pa_nil) (nomark _)) pe_str pe_non)))) pss_nil)
        (pss_one (ps_ret (pe_cmpR op_eq (pe_cal C_solved_fault (hr.mono (by decide)) (pa_cons (pv 1) (pa_cons (pe_mk I_Kept T.m_Kept (hr.mono (by decide))  (pa_cons (pe_callTy call_tuple_of (by rfl) T.n_tuple (by decide +kernel) (pa_cons (pv 5) pa_nil)) pa_nil)) pa_nil))) (pv 6) (nomark _))))))), ?_⟩
    have lm : (ts.map V.int).length = ts.length := List.length_map _
    have c1 := Z.c1
    have c2 := Z.c2
    have lt := Z.lt
    have le := Z.le
    refine ⟨_, rfl, _, rfl, _, rfl, tl, _, rfl, SqL.of Z.ht, fun q1 n1 => ?_⟩
    rw [show cutV (ts.map V.int) (some (1 : Int)) none = (ts.drop 1).map V.int from (cut_drop _ 1).trans (List.map_drop ..).symm]
    have S1 := sNew (o := .lst ((ts.drop 1).map V.int)) n1
    have h1 : (upd H q1 (.lst ((ts.drop 1).map V.int))) q1 = some (.lst ((ts.drop 1).map V.int)) := upd_same
    have nq1 := Z.B.ne n1
    have Z := Z.same S1
    refine ⟨_, rfl, by show 1 ≤ sizeLine; decide, fun q4 n4 => ?_⟩
    have S4 := sNew (o := .lst [.int 0]) n4
    refine ⟨tl, q4, _, _, rfl, rfl, S4 _ _ Z.ht, upd_same, Nat.le_of_lt (small1000 (by rw [lm, List.length_singleton]; omega)), fun q5 n5 => ?_⟩
    have S5 := sNew (o := .lst (ts.map V.int ++ [.int 0])) n5
    have nq5 := (Z.B.same S4).ne n5
    have h5 : (upd (upd (upd H q1 (.lst ((ts.drop 1).map V.int))) q4 (.lst [.int 0])) q5 (.lst (ts.map V.int ++ [.int 0]))) q5 = some (.lst ((ts ++ [0]).map V.int)) := by
      rw [List.map_append]
      exact upd_same
    have h1 := S5 _ _ (S4 _ _ h1)
    have Z := (Z.same S4).same S5
    have S := S1.trans (S4.trans S5)
    clear S1 S4 S5
    generalize upd (upd (upd H q1 _) q4 _) q5 _ = H5 at h5 h1 Z S
    refine ⟨_, rfl, _, rfl, b, c, rfl, Z.B, c1, c2, fun q6 ts6 H6 n6 h6 l6 B6 D6 => ?_⟩
    have nq6 := Z.B.ne n6
    have Z := Z.but B6 D6
    have h5 := D6 _ _ h5 nq5
    have h1 := D6 _ _ h1 nq1
    have D6 := (But.of S).trans D6
    refine ⟨by show 4 ≤ sizeLine; decide, fun O nO => ?_⟩
    have SO := sNew (o := .lst [.ref tl, .ref q1, .ref q5, .ref q6]) nO
    have nOb := B6.ne nO
    refine ⟨_, rfl, b, _, rfl, B6.same SO, by decide, by decide, fun j H7 j0 j1 B7 D7 => ?_⟩
    obtain ⟨jn, rfl⟩ : ∃ jn : Nat, j = (jn : Int) := ⟨j.toNat, by omega⟩
    have hO := D7 _ _ (upd_same (H := H6) (a := O) (o := .lst [.ref tl, .ref q1, .ref q5, .ref q6])) nOb
    have Z := (Z.same SO).but B7 D7
    have h6 := D7 _ _ (SO _ _ h6) nq6
    have h5 := D7 _ _ (SO _ _ h5) nq5
    have h1 := D7 _ _ (SO _ _ h1) nq1
    have D7 := D6.trans ((But.of SO).trans D7)
    have pick : ∃ (sm : Addr) (ss : List Int), ([.ref tl, .ref q1, .ref q5, .ref q6] : List V)[jn]? = some (.ref sm) ∧ H7 sm = some (.lst (ss.map V.int)) ∧ ss.length ≤ 13 := by
      have : jn = 0 ∨ jn = 1 ∨ jn = 2 ∨ jn = 3 := by omega
      rcases this with rfl | rfl | rfl | rfl
      · exact ⟨tl, ts, rfl, Z.ht, by omega⟩
      · exact ⟨q1, _, rfl, h1, by rw [List.length_drop]; omega⟩
      · exact ⟨q5, _, rfl, h5, by rw [List.length_append, List.length_singleton]; omega⟩
      · exact ⟨q6, _, rfl, h6, by omega⟩
    obtain ⟨sm, ss, hat, hs, sl⟩ := pick
    refine ⟨O, _, _, _, rfl, rfl, SqL.of hO, atI_nat hat, ?_⟩
    clear hO h6 h5 h1 hat SO S D6
    refine ⟨fun v H' => H' = H7 ∧ v = (if (ss.length : Int) = c then .non else .str "count"), ?_, fun v H8 ⟨e, hv⟩ => ?_⟩
    · refine ⟨_, rfl, sm, _, rfl, .inl (SqL.of hs), _, rfl, rfl, _, rfl, ?_⟩
      rw [List.length_map]
      refine ite2 (fun g => ⟨rfl, ?_⟩) (fun g => ⟨rfl, ?_⟩)
      · rw [if_pos (V.int.inj (of_decide_eq_true g))]
      · rw [if_neg fun z => g (decide_eq_true (congrArg V.int z))]
    subst e hv
    refine ⟨fun σ' H' => Same H8 H' ∧ ∃ v7 : Option V, σ' = [some (.ref b), some (.ref p), some (.int c), some (.ref a), some (.ref tl), some (.ref sm), some (judV c ls ss), v7], ?_, ?_⟩
    · refine ⟨_, rfl, ?_⟩
      unfold judV
      by_cases g : (ss.length : Int) = c
      rotate_left
      · rw [if_neg g, if_neg g]
        refine ⟨rfl, _, rfl, iteF ⟨Same.refl _, _, rfl⟩⟩
      rw [if_pos g, if_pos g]
      refine ⟨rfl, _, rfl, iteT ?_⟩
      refine ⟨fun v H' => Same H8 H' ∧ v = (if (brk ls ss).isEmpty = true then .non else .str "link"), ?_, fun v H9 ⟨S9, hv⟩ => (by subst hv; exact ⟨S9, _, rfl⟩)⟩
      refine ⟨_, rfl, a, rfl, ⟨_, SqL.of Z.L.1⟩, fun D nD => lc_list (K := K) (a := a) (xs := lus) (fun i H' => ∃ (ws : List V) (ks : List Lk), H' = upd H8 D (.lst ws) ∧ Paired (LkT H8) ws ks ∧ ks.isEmpty = (brkTo ls ss i).isEmpty ∧ ws.length ≤ i) ⟨[], [], rfl, .nil, rfl, Nat.le_refl _⟩ (fun i H' _ q => by obtain ⟨ws, ks, q, _⟩ := q; rw [q]; exact SqL.of (by rw [upd_ne (ne_of_none Z.L.1 nD)]; exact Z.L.1)) ?_ ?_⟩
      · rintro i x H' hx ⟨ws, ks, rfl, pw, eb, lw⟩
        obtain ⟨l, hl, e, rfl, he0⟩ := Paired.at Z.L.2 hx
        have SD := sNew (o := .lst ws) nD
        have he := SD _ _ he0
        have hs := SD _ _ hs
        obtain ⟨⟨a1, a2⟩, a3, a4⟩ := Z.lok l (List.mem_of_getElem? hl)
        have hi := (List.getElem?_eq_some_iff.mp hl).1
        have j1 : l.1.toNat < ss.length := by omega
        have j2 : l.2.1.toNat < ss.length := by omega
        have kb : keepB ss l = decide (ss[l.1.toNat] - ss[l.2.1.toNat] ≤ l.2.2) := by
          unfold keepB
          rw [List.getElem?_eq_getElem j1, List.getElem?_eq_getElem j2]
          rfl
        have bs := brkTo_succ (ls := ls) (ts := ss) hl
        refine ⟨rfl, _, rfl, _, rfl, e, _, _, _, rfl, rfl, SqT.of he, atI_nat (j := 0) rfl, sm, _, _, _, rfl, rfl, SqL.of hs, ts_atI a1 j1, _, rfl, _, rfl, e, _, _, _, rfl, rfl, SqT.of he, atI_nat (j := 1) rfl, sm, _, _, _, rfl, rfl, SqL.of hs, ts_atI a3 j2, _, _, rfl, rfl, _, rfl, e, _, _, _, rfl, rfl, SqT.of he, atI_nat (j := 2) rfl, _, _, rfl, rfl, _, rfl, ?_⟩
        by_cases g : ss[l.1.toNat] - ss[l.2.1.toNat] ≤ l.2.2
        · rw [decide_eq_false (show ¬ l.2.2 < ss[l.1.toNat] - ss[l.2.1.toNat] by omega)]
          rw [decide_eq_true g] at kb
          exact iteF ⟨ws, ks, rfl, pw, by rw [bs, if_pos kb, List.append_nil]; exact eb, by omega⟩
        · rw [decide_eq_true (show l.2.2 < ss[l.1.toNat] - ss[l.2.1.toNat] by omega)]
          rw [decide_eq_false g] at kb
          refine iteT ⟨_, rfl, ws, upd_same, small1000 (by omega), ws ++ [.ref e], ks ++ [l], by rw [upd_upd], Paired.appendP pw (.cons ⟨e, rfl, he0⟩ .nil), ?_, by rw [List.length_append, List.length_singleton]; omega⟩
          rw [bs, if_neg (by rw [kb]; exact Bool.false_ne_true)]
          generalize brkTo ls ss i = zz
          cases ks <;> cases zz <;> rfl
      rintro H' ⟨ws, ks, rfl, pw, eb, lw⟩
      rw [Z.L.2.length] at eb
      have S1 := sNew (o := .lst ws) nD
      refine ⟨by show 0 ≤ sizeLine; exact Nat.zero_le _, fun qq nqq => ?_⟩
      have S2 := S1.trans (sNew (o := .lst []) nqq)
      refine ⟨_, _, dp_lst (SqL.of (sNew nqq _ _ upd_same)) (lks_dp (Paired.impP (fun _ _ h => h.same S2) pw)), dp_lst (SqL.of upd_same) .nil, fls_shaped true (lks_fl ks), row_shaped (xs := []) true (by simp), _, rfl, ?_⟩
      rw [eqv_nilE, show (ks.map lkD).isEmpty = (brk ls ss).isEmpty from (show (ks.map lkD).isEmpty = ks.isEmpty by cases ks <;> rfl).trans eb]
      cases hb : (brk ls ss).isEmpty with
      | true => exact iteF ⟨S2, rfl⟩
      | false => exact iteT ⟨S2, rfl⟩
    rintro σ' H9 ⟨S9, v7, rfl⟩
    have Z := Z.same S9
    have hs := S9 _ _ hs
    have D9 := D7.trans (But.of S9)
    refine ⟨_, rfl, _, rfl, sm, _, rfl, .inl ⟨SqL.of hs, fun t1 nt1 => ?_⟩⟩
    have S10 := sNew (o := .tup (ss.map V.int)) nt1
    have ht1 : (upd H9 t1 (.tup (ss.map V.int))) t1 = some (.tup (ss.map V.int)) := upd_same
    have Z := Z.same S10
    have D10 := D9.trans (But.of S10)
    generalize upd H9 t1 (.tup (ss.map V.int)) = H10 at ht1 Z D10
    intro x dx nx ndx nex
    have S11 : Same H10 (upd (upd H10 dx (.own x)) x (.ins (cl "Kept") dx [("times", .ref t1)])) := (sNew ndx).trans (sNew (by rw [upd_ne (Ne.symm nex)]; exact nx))
    refine ⟨x, dx, _, rfl, upd_same, rfl, ?_⟩
    rw [upd_upd]
    have Z := Z.same S11
    have D11 := D10.trans (But.of S11)
    have fin : ∀ {H' : Hp}, Same (upd (upd H10 dx (.own x)) x (.ins (cl "Kept") dx [("times", .ref t1)])) H' → Q (.bl true) H' := fun S => k _ (Z.same S).B (D11.trans (But.of S))
    refine ⟨p, x, t, t1, c, us, ls, ss, rfl, Z.X, Z.lok, by omega, S11 _ _ ht1, by omega, .inr ⟨⟨dx, upd_same⟩, fun g H' S => ?_, fun g H' S => ?_⟩⟩
    · refine ⟨_, rfl, ?_⟩
      unfold judV
      rw [if_neg g]
      exact ⟨rfl, by rw [decide_eq_true rfl]; exact fin S⟩
    · refine ⟨_, rfl, ?_⟩
      unfold judV
      rw [if_pos g]
      cases hb : (brk ls ss).isEmpty with
      | true => exact ⟨rfl, by rw [decide_eq_true rfl]; exact fin S⟩
      | false => exact ⟨rfl, by rw [decide_eq_true rfl]; exact fin S⟩
theorem cal_judged (T : Txt P w K mg cl) : Cal P w K mg base CX0 7 "_law_judged" ["_law_bag_here", "_law_system", "_law_count", "_law_links_here", "_law_times_here"] (spKept (cl "System")) := by
  obtain ⟨f, fd, F, m⟩ := T.d_judged
  exact ⟨f, fd, ok_judged F T, m, F.kp, F.binds fun _ _ _ _ _ _ us hl => match us, hl with | [_, _, _, _, _], _ => rfl⟩
end
end My
set_option Elab.async false
set_option linter.all false
set_option maxRecDepth 100000
set_option maxHeartbeats 1000000
namespace My
open PySem L2 Dw Wp
open C8 (pss_cut tCut)
set_option pp.maxSteps 600
theorem nat_back (js : List Nat) : (js.map fun (i : Nat) => (i : Int)).map Int.toNat = js := by
  rw [List.map_map]
  conv => rhs; rw [← List.map_id js]
  exact List.map_congr_left fun i _ => rfl
theorem all_ix {n : Nat} {js : List Nat} (h : ∀ j ∈ js, j < n) : (js.map fun (i : Nat) => (i : Int)).all (isIx n) = true := List.all_eq_true.mpr fun x hx => by
  obtain ⟨j, hj, rfl⟩ := List.mem_map.mp hx
  have := h j hj
  show (decide ((0 : Int) ≤ (j : Int)) && decide ((j : Int) < (n : Int))) = true
  rw [decide_eq_true (by omega), decide_eq_true (by omega)]
  rfl
theorem sc_opt (o : Option Str) : scal (optV o) (optV o) = true := by cases o <;> rfl
def spPaths (C : Addr) : Sp := fun vs H Q _ => ∃ (b p t a tl : Addr) (c : Int) (us lus : List V) (ls : List Lk) (ts : List Int), vs = [.ref b, .ref p, .int c, .ref a] ∧ LwS C H b p t a tl c us lus ls ts ∧ ∀ H', BgAt H' b → But b H H' → Q (.bl true) H'
section
variable {P : Program} {w : World} {K : PySem.W.Frag} {mg : Str → Option Value} {base : Heap} {cl : String → Addr}
theorem ok_paths {f : Addr} {fd : FuncData} (F : Fun K "_law_paths" "_law_paths" s_paths f fd) (T : Txt P w K mg cl) : FnOk P w K mg base CX0 7 f fd ["_law_bag_here", "_law_system", "_law_count", "_law_links_here"] (spPaths (cl "System")) := by
  refine F.ok sc_paths (fun vs H Q E h => ?_) (fun cdv A outer s H vs Q E hr h => ?_)
  · obtain ⟨b, p, t, a, tl, c, us, lus, ls, ts, rfl, _⟩ := h
    rfl
  · obtain ⟨b, p, t, a, tl, c, us, lus, ls, ts, rfl, Z0, k⟩ := h
    have C_take : Cal P w K mg base CX0 1 "_law_take" _ spTake := cal_take T
    have C_walk : Cal P w K mg base CX0 3 "_law_walk" _ spWalk := cal_walk T
    have C_path_due : Cal P w K mg base CX0 2 "_law_path_due" _ spPD := cal_path_due T
    have C_ring_due : Cal P w K mg base CX0 2 "_law_ring_due" _ spRD := cal_ring_due T
    have C_path_fault : Cal P w K mg base CX0 3 "path_fault" _ (spPF (cl "System")) := cal_path_fault T
    have C_solved_fault : Cal P w K mg base CX0 5 "solved_fault" _ (spSF K (cl "System") (cl "Ring") (cl "Kept")) := cal_solved_fault T
    have I_Ring : CalC P w K mg base CX0 1 (cl "Ring") _ (spFld1 (cl "Ring") "path") := cal_Ring_init T
    refine ⟨_, (pss_cons (ps_for PassesOwn.never rfl (pi_range1 rfl T.n_range (pa_cons pe_int pa_nil)) (pg_name (i := 4) sc_paths.nd rfl (Or.inl rfl))
          (pss_cons (ps_set (i := 5) sc_paths.nd rfl (Or.inl rfl) (pe_cal C_take (hr.mono (by decide)) (pa_cons (pv 0) (pa_cons (pv 2) pa_nil))))
            (pss_cons (ps_set (i := 6) sc_paths.nd rfl (Or.inl rfl) (pe_cal C_walk (hr.mono (by decide)) (pa_cons (pv 0) (pa_cons (pv 3) (pa_cons (pv 5) (pa_cons (pe_cal C_take (hr.mono (by decide)) (pa_cons (pv 0) (pa_cons pe_int pa_nil))) pa_nil))))))
            (pss_cons (ps_set (i := 7) sc_paths.nd rfl (Or.inl rfl) (pe_cut (pe_ifExp (PW.pt (pw_or (pt_cmpR (op_eqD hr.units) (pv 6) (pe_lst pa_nil) (nomark _)) (pw_or1 (pt_not (pt_chain op_le op_lt pe_int (pe_ix ix_list (pv 6) (pe_un un_neg pe_int) (fun _ _ => rfl)) (pe_callB call_len_seq (by rfl) T.n_len PySem.boot_len (pa_cons (pv 3) pa_nil))))))) (pv 5) (pe_ix ix_tup (pe_ix ix_list (pv 3) (pe_ix ix_list (pv 6) (pe_un un_neg pe_int) (fun _ _ => rfl)) (fun _ _ => rfl)) pe_int (fun _ _ => rfl)))))
            (pss_cut (ps_if (pt_cmpR op_eq (pe_cal C_take (hr.mono (by decide)) (pa_cons (pv 0) (pa_cons pe_int pa_nil))) pe_int (nomark _))
              (pss_one (ps_set (i := 5) sc_paths.nd rfl (Or.inl rfl) (pe_cal C_take (hr.mono (by decide)) (pa_cons (pv 0) (pa_cons (pv 2) pa_nil))))) pss_nil)
            (pss_cut (ps_if (pt_cmpR op_eq (pe_cal C_take (hr.mono (by decide)) (pa_cons (pv 0) (pa_cons pe_int pa_nil))) pe_int (nomark _))
              (pss_one (ps_set (i := 7) sc_paths.nd rfl (Or.inl rfl) (pe_cal C_take (hr.mono (by decide)) (pa_cons (pv 0) (pa_cons (pv 2) pa_nil))))) pss_nil)
            (pss_cut (ps_if (pt_cmpR op_ne (pe_cal C_path_fault (hr.mono (by decide)) (pa_cons (pv 1) (pa_cons (pe_callTy call_list_of (by rfl) T.n_list (by decide +kernel) (pa_cons (pv 6) pa_nil)) (pa_cons (pv 5) (pa_cons (pv 7) pa_nil))))) (pe_cal C_path_due (hr.mono (by decide)) (pa_cons (pv 3) (pa_cons (pv 6) (pa_cons (pv 5) (pa_cons (pv 7) pa_nil))))) (nomark _))
              (pss_one (ps_ret pe_bl)) pss_nil)
            (pss_cut (ps_for PassesOwn.never rfl (pi_range1 rfl T.n_range (pa_cons (pe_callB call_len_seq (by rfl) T.n_len PySem.boot_len (pa_cons (pv 6) pa_nil)) pa_nil)) (pg_name (i := 8) sc_paths.nd rfl (Or.inl rfl))
              (pss_one (ps_if (PW.pt (pw_and (pt_chain op_le op_lt pe_int (pe_ix ix_list (pv 6) (pv 8) (fun _ _ => rfl)) (pe_callB call_len_seq (by rfl) T.n_len PySem.boot_len (pa_cons (pv 3) pa_nil))) (pw_and (pt_chain op_le op_lt pe_int (pe_ix ix_list (pv 6) pe_int (fun _ _ => rfl)) (pe_callB call_len_seq (by rfl) T.n_len PySem.boot_len (pa_cons (pv 3) pa_nil))) (pw_and1 (pt_cmpR op_eq (pe_ix ix_tup (pe_ix ix_list (pv 3) (pe_ix ix_list (pv 6) (pv 8) (fun _ _ => rfl)) (fun _ _ => rfl)) pe_int (fun _ _ => rfl)) (pe_ix ix_tup (pe_ix ix_list (pv 3) (pe_ix ix_list (pv 6) pe_int (fun _ _ => rfl)) (fun _ _ => rfl)) pe_int (fun _ _ => rfl)) (nomark _))))))
                  (pss_cons (ps_set (i := 6) sc_paths.nd rfl (Or.inl rfl) (pe_slice sl_list (pv 6) po_none (po_some (pe_op op_add (pv 8) pe_int))))
                    (pss_one ps_break)) pss_nil)))
            (pss_cut (ps_if (pt_cmpR op_eq (pe_cal C_take (hr.mono (by decide)) (pa_cons (pv 0) (pa_cons pe_int pa_nil))) pe_int (nomark _))
              (pss_one (ps_set (i := 6) sc_paths.nd rfl (Or.inl rfl) (pe_op op_cat (pe_slice sl_list (pv 6) (po_some pe_int) po_none) (pe_slice sl_list (pv 6) po_none (po_some pe_int))))) pss_nil)
            (pss_one (ps_if (pt_cmpR op_ne (pe_cal C_solved_fault (hr.mono (by decide)) (pa_cons (pv 1) (pa_cons (pe_mk I_Ring T.m_Ring (hr.mono (by decide))  (pa_cons (pe_callTy call_tuple_of (by rfl) T.n_tuple (by decide +kernel) (pa_cons (pv 6) pa_nil)) pa_nil)) pa_nil))) (pe_cal C_ring_due (hr.mono (by decide)) (pa_cons (pv 3) (pa_cons (pv 6) pa_nil))) (nomark _))
              (pss_one (ps_ret pe_bl)) pss_nil)))))))))))
        (pss_one (ps_ret pe_bl))), ?_⟩
    have c1 := Z0.c1
    have c2 := Z0.c2
    have le := Z0.le
    have lu := Z0.L.2.length
    refine ⟨_, rfl, by decide, by decide, for_range (fun i σ H' => BgAt H' b ∧ But b H H' ∧ ∃ (v4 v5 v6 v7 v8 : Option V), σ = [some (.ref b), some (.ref p), some (.int c), some (.ref a), v4, v5, v6, v7, v8]) ⟨Z0.B, But.refl _ _, _, _, _, _, _, rfl⟩ ?_ ?_⟩
    · rintro i σ H1 hi ⟨B1, D1, v4, v5, v6, v7, v8, rfl⟩
      have Z := Z0.but B1 D1
      refine ⟨_, rfl, _, rfl, b, c, rfl, B1, c1, by omega, fun st H2 _ _ B2 D2 => ?_⟩
      have Z := Z.but B2 D2
      refine ⟨_, rfl, _, rfl, _, rfl, _, rfl, b, _, rfl, B2, by decide, by decide, fun m H3 m0 m1 B3 D3 => ?_⟩
      have Z := Z.but B3 D3
      refine ⟨b, a, st, m, lus, ls, rfl, B3, Z.L, Z.na, by omega, m0, by omega, fun q is H4 nq hq li B4 D4 => ?_⟩
      have nqb := B3.ne nq
      have Z := Z.but B4 D4
      have D4 := D1.trans (D2.trans (D3.trans D4))
      clear D1 D2 D3 B1 B2 B3
      have atN : ∀ {n : Int} {l : Lk}, True := fun {n l} => trivial
      refine ⟨fun v H' => Same H4 H' ∧ ∃ en : Int, v = .int en, ?_, fun v H5 ⟨S5, en, hv⟩ => ?_⟩
      · refine ⟨_, rfl, by show 0 ≤ sizeLine; exact Nat.zero_le _, fun q2 nq2 => ?_⟩
        have S5 := sNew (o := .lst []) nq2
        refine ⟨_, _, dpI (S5 _ _ hq), dp_lst (SqL.of upd_same) .nil, row_shaped true (okI _), row_shaped (xs := []) true (by simp), _, rfl, ?_⟩
        rw [eqv_nilI]
        have Z := Z.same S5
        have hq := S5 _ _ hq
        generalize upd H4 q2 (.lst []) = H5 at S5 Z hq
        rcases List.eq_nil_or_concat is with rfl | ⟨ys, z, rfl⟩
        · exact iteT ⟨_, rfl, S5, _, rfl⟩
        rw [List.concat_eq_append] at *
        rw [show (ys ++ [z]).isEmpty = false by cases ys <;> rfl]
        have hq2 := hq
        rw [List.map_append] at hq2
        refine iteF ⟨_, rfl, _, rfl, q, _, _, _, rfl, rfl, SqL.of hq2, atI_last _ _, _, _, rfl, rfl, _, rfl, ite2 (fun g1 => ?_) (fun g1 => ?_)⟩
        · refine ⟨_, rfl, a, lus, rfl, .inl (SqL.of Z.L.1), _, _, rfl, rfl, _, rfl, ?_⟩
          rw [lu]
          cases g2 : decide (z < (ls.length : Int)) with
          | false => exact iteT ⟨_, rfl, S5, _, rfl⟩
          | true =>
            have g1 := of_decide_eq_true g1
            have g2 := of_decide_eq_true g2
            obtain ⟨zn, rfl⟩ : ∃ zn : Nat, z = (zn : Int) := ⟨z.toNat, by omega⟩
            obtain ⟨e, hv, he⟩ := ll_at Z.L (show zn < ls.length by omega)
            exact iteF ⟨_, rfl, _, rfl, _, rfl, q, _, _, _, rfl, rfl, SqL.of hq2, atI_last _ _, a, _, _, _, rfl, rfl, SqL.of Z.L.1, atI_nat hv, e, _, _, _, rfl, rfl, SqT.of he, atI_nat (j := 0) rfl, S5, _, rfl⟩
        · exact ⟨_, rfl, iteT ⟨_, rfl, S5, _, rfl⟩⟩
      subst hv
      have Z := Z.same S5
      have hq := S5 _ _ hq
      have D5 := D4.trans (But.of S5)
      have li : is.length ≤ 10 := by omega
      clear D4 S5
      refine ⟨fun σ' H' => BgAt H' b ∧ But b H H' ∧ ∃ (q : Addr) (is : List Int) (st en : Int) (v4 v8 : Option V), H' q = some (.lst (is.map V.int)) ∧ is.length ≤ 10 ∧ q ≠ b ∧ σ' = [some (.ref b), some (.ref p), some (.int c), some (.ref a), v4, some (.int st), some (.ref q), some (.int en), v8], ?_, ?_⟩
      · refine ⟨_, rfl, b, _, rfl, Z.B, by decide, by decide, fun j H6 _ _ B6 D6 => ⟨rfl, _, rfl, ite2 (fun _ => ?_) (fun _ => ?_)⟩⟩
        · exact ⟨_, rfl, _, rfl, b, c, rfl, B6, c1, by omega, fun st H7 _ _ B7 D7 => ⟨B7, D5.trans (D6.trans D7), q, is, st, en, _, _, D7 _ _ (D6 _ _ hq nqb) nqb, li, nqb, rfl⟩⟩
        · exact ⟨B6, D5.trans D6, q, is, st, en, _, _, D6 _ _ hq nqb, li, nqb, rfl⟩
      clear Z hq D5 li nqb nq
      rintro σ' H5 ⟨B5, D5, q, is, st, en, v4, v8, hq, li, nqb, rfl⟩
      refine ⟨fun σ' H' => BgAt H' b ∧ But b H H' ∧ ∃ (q : Addr) (is : List Int) (st en : Int) (v4 v8 : Option V), H' q = some (.lst (is.map V.int)) ∧ is.length ≤ 10 ∧ q ≠ b ∧ σ' = [some (.ref b), some (.ref p), some (.int c), some (.ref a), v4, some (.int st), some (.ref q), some (.int en), v8], ?_, ?_⟩
      · refine ⟨_, rfl, b, _, rfl, B5, by decide, by decide, fun j H6 _ _ B6 D6 => ⟨rfl, _, rfl, ite2 (fun _ => ?_) (fun _ => ?_)⟩⟩
        · exact ⟨_, rfl, _, rfl, b, c, rfl, B6, c1, by omega, fun en H7 _ _ B7 D7 => ⟨B7, D5.trans (D6.trans D7), q, is, st, en, _, _, D7 _ _ (D6 _ _ hq nqb) nqb, li, nqb, rfl⟩⟩
        · exact ⟨B6, D5.trans D6, q, is, st, en, _, _, D6 _ _ hq nqb, li, nqb, rfl⟩
      clear D5 hq li nqb B5
      rintro σ' H5 ⟨B5, D5, q, is, st, en, v4, v8, hq, li, nqb, rfl⟩
      have Z := Z0.but B5 D5
      refine ⟨fun σ' H' => Same H5 H' ∧ σ' = [some (.ref b), some (.ref p), some (.int c), some (.ref a), v4, some (.int st), some (.ref q), some (.int en), v8], ?_, ?_⟩
      · refine ⟨_, rfl, _, rfl, q, _, rfl, .inl (SqL.of hq), fun l nl => ⟨_, rfl, _, rfl, ?_⟩⟩
        have S6 := sNew (o := .lst (is.map V.int)) nl
        cases hx : is.all (isIx ls.length) with
        | false =>
          have no : ∀ {js : List Nat} {P : Prop}, (is = js.map fun (i : Nat) => (i : Int)) → (∀ j ∈ js, j < ls.length) → P := fun e h => by rw [e, all_ix h] at hx; cases hx
          refine ⟨p, t, l, c, us, ls, is, st, en, rfl, (Z.same S6).X, by omega, upd_same, by omega, fun _ H7 S7 => ?_, fun js e h => no e h⟩
          have S7 := S6.trans S7
          refine ⟨_, rfl, _, rfl, _, rfl, _, rfl, a, q, lus, ls, is, st, en, rfl, (Z.same S7).L, by omega, S7 _ _ hq, by omega, fun _ H8 S8 => ?_, fun js e h => no e h⟩
          exact ⟨rfl, _, rfl, ite2 (fun g => absurd g (by simp)) (fun _ => ⟨S7.trans S8, rfl⟩)⟩
        | true =>
          obtain ⟨js, rfl, hj⟩ := ix_nat hx
          have same : ∀ {js' : List Nat}, ((js.map fun (i : Nat) => (i : Int)) = js'.map fun (i : Nat) => (i : Int)) → js = js' := fun e => by
            have := congrArg (List.map Int.toNat) e
            rw [nat_back, nat_back] at this
            exact this
          refine ⟨p, t, l, c, us, ls, _, st, en, rfl, (Z.same S6).X, by omega, upd_same, by omega, fun h => (by rw [hx] at h; cases h), fun js' e _ H7 S7 => ?_⟩
          obtain rfl := same e
          have S7 := S6.trans S7
          refine ⟨_, rfl, _, rfl, _, rfl, _, rfl, a, q, lus, ls, _, st, en, rfl, (Z.same S7).L, by omega, S7 _ _ hq, by omega, fun h => (by rw [hx] at h; cases h), fun js' e _ H8 S8 => ?_⟩
          obtain rfl := same e
          exact ⟨sc_opt _, _, rfl, ite2 (fun g => absurd g (by simp)) (fun _ => ⟨S7.trans S8, rfl⟩)⟩
      rintro σ' H8 ⟨S8, rfl⟩
      have Z := Z.same S8
      have hq := S8 _ _ hq
      have D8 := D5.trans (But.of S8)
      clear D5 S8 B5
      refine ⟨fun σ' H' => BgAt H' b ∧ But b H H' ∧ ∃ (q : Addr) (is : List Int) (st en : Int) (v4 v8 : Option V), H' q = some (.lst (is.map V.int)) ∧ is.length ≤ 10 ∧ q ≠ b ∧ σ' = [some (.ref b), some (.ref p), some (.int c), some (.ref a), v4, some (.int st), some (.ref q), some (.int en), v8], ?_, ?_⟩
      · refine ⟨_, rfl, q, _, rfl, .inl (SqL.of hq), _, rfl, ?_⟩
        have lm : (is.map V.int).length = is.length := List.length_map _
        refine ⟨by omega, by omega, for_range (fun i σ H' => H' = H8 ∧ ∃ v8 : Option V, σ = [some (.ref b), some (.ref p), some (.int c), some (.ref a), v4, some (.int st), some (.ref q), some (.int en), v8]) ⟨rfl, _, rfl⟩ ?_ ?_⟩
        · rintro i σ H' hi ⟨rfl, v8, rfl⟩
          rw [Int.toNat_natCast, lm] at hi
          have i0 : 0 < is.length := by omega
          rw [show (0 : Int) + (i : Nat) = ((i : Nat) : Int) from Int.zero_add _]
          have at_ : ∀ {n : Nat}, (h : n < is.length) → atI (is.map V.int) (n : Int) = some (.int is[n]) := fun h => atI_nat (by rw [List.getElem?_map, List.getElem?_eq_getElem h]; rfl)
          have at0 : atI (is.map V.int) 0 = some (.int is[0]) := at_ i0
          refine ⟨_, rfl, _, rfl, q, _, _, _, rfl, rfl, SqL.of hq, at_ hi, _, _, rfl, rfl, _, rfl, ite2 (fun g1 => ?_) (fun g1 => ⟨_, rfl, iteF ⟨rfl, _, rfl⟩⟩)⟩
          refine ⟨_, rfl, a, lus, rfl, .inl (SqL.of Z.L.1), _, _, rfl, rfl, _, rfl, ite2 (fun g2 => ?_) (fun _ => ⟨rfl, _, rfl⟩)⟩
          refine ⟨_, rfl, q, _, _, _, rfl, rfl, SqL.of hq, at0, _, _, rfl, rfl, _, rfl, ite2 (fun g3 => ?_) (fun g1 => ⟨_, rfl, iteF ⟨rfl, _, rfl⟩⟩)⟩
          refine ⟨_, rfl, a, lus, rfl, .inl (SqL.of Z.L.1), _, _, rfl, rfl, _, rfl, ite2 (fun g4 => ?_) (fun _ => ⟨rfl, _, rfl⟩)⟩
          rw [lu] at g2 g4
          have g1 := of_decide_eq_true g1
          have g2 := of_decide_eq_true g2
          have g3 := of_decide_eq_true g3
          have g4 := of_decide_eq_true g4
          have lkat : ∀ {z : Int}, 0 ≤ z → z < (ls.length : Int) → ∃ (l : Lk) (e : Addr), atI lus z = some (.ref e) ∧ H' e = some (.tup (lkV l)) := fun {z} h1 h2 => by
            obtain ⟨zn, rfl⟩ : ∃ zn : Nat, z = (zn : Int) := ⟨z.toNat, by omega⟩
            obtain ⟨e, hv, he⟩ := ll_at Z.L (show zn < ls.length by omega)
            exact ⟨_, e, atI_nat hv, he⟩
          obtain ⟨l1, e1, x1, y1⟩ := lkat g1 g2
          obtain ⟨l0, e0, x0, y0⟩ := lkat g3 g4
          refine ⟨_, rfl, _, rfl, _, rfl, q, _, _, _, rfl, rfl, SqL.of hq, at_ hi, a, _, _, _, rfl, rfl, SqL.of Z.L.1, x1, e1, _, _, _, rfl, rfl, SqT.of y1, atI_nat (j := 0) rfl, _, rfl, _, rfl, q, _, _, _, rfl, rfl, SqL.of hq, at0, a, _, _, _, rfl, rfl, SqL.of Z.L.1, x0, e0, _, _, _, rfl, rfl, SqT.of y0, atI_nat (j := 1) rfl, rfl, _, rfl, ite2 (fun _ => ?_) (fun _ => ⟨rfl, _, rfl⟩)⟩
          refine ⟨_, rfl, _, rfl, _, _, rfl, rfl, _, rfl, q, _, rfl, SqL.of hq, fun q3 n3 => ?_⟩
          rw [show cutV (is.map V.int) none (some ((i : Int) + 1)) = (is.take (i + 1)).map V.int from (cut_take _ (i + 1)).trans (List.map_take ..).symm]
          have S3 := sNew (o := .lst ((is.take (i + 1)).map V.int)) n3
          exact ⟨Z.B.same S3, D8.trans (But.of S3), q3, is.take (i + 1), st, en, _, _, upd_same, by rw [List.length_take]; omega, Z.B.ne n3, rfl⟩
        · rintro σ H' ⟨rfl, v8, rfl⟩
          exact ⟨Z.B, D8, q, is, st, en, _, _, hq, li, nqb, rfl⟩
      clear D8 hq li nqb Z
      rintro σ' H5 ⟨B5, D5, q, is, st, en, v4, v8, hq, li, nqb, rfl⟩
      refine ⟨fun σ' H' => BgAt H' b ∧ But b H H' ∧ ∃ (q : Addr) (is : List Int) (st en : Int) (v4 v8 : Option V), H' q = some (.lst (is.map V.int)) ∧ is.length ≤ 10 ∧ q ≠ b ∧ σ' = [some (.ref b), some (.ref p), some (.int c), some (.ref a), v4, some (.int st), some (.ref q), some (.int en), v8], ?_, ?_⟩
      · refine ⟨_, rfl, b, _, rfl, B5, by decide, by decide, fun j H6 _ _ B6 D6 => ⟨rfl, _, rfl, ite2 (fun _ => ?_) (fun _ => ?_)⟩⟩
        · have hq := D6 _ _ hq nqb
          have D6 := D5.trans D6
          refine ⟨_, rfl, _, rfl, q, _, rfl, SqL.of hq, fun q1 n1 => ?_⟩
          rw [show cutV (is.map V.int) (some (1 : Int)) none = (is.drop 1).map V.int from (cut_drop _ 1).trans (List.map_drop ..).symm]
          have S1 := sNew (o := .lst ((is.drop 1).map V.int)) n1
          refine ⟨_, rfl, _, rfl, q, _, rfl, SqL.of (S1 _ _ hq), fun q2 n2 => ?_⟩
          rw [show cutV (is.map V.int) none (some (1 : Int)) = (is.take 1).map V.int from (cut_take _ 1).trans (List.map_take ..).symm]
          have S2 := sNew (o := .lst ((is.take 1).map V.int)) n2
          refine ⟨q1, q2, _, _, rfl, rfl, S2 _ _ upd_same, upd_same, Nat.le_of_lt (small1000 (by rw [List.length_map, List.length_map, List.length_drop, List.length_take]; omega)), fun q3 n3 => ?_⟩
          have S3 := sNew (o := .lst ((is.drop 1).map V.int ++ (is.take 1).map V.int)) n3
          refine ⟨((B6.same S1).same S2).same S3, D6.trans (But.of (S1.trans (S2.trans S3))), q3, is.drop 1 ++ is.take 1, st, en, _, _, ?_, by rw [List.length_append, List.length_drop, List.length_take]; omega, ((B6.same S1).same S2).ne n3, rfl⟩
          rw [List.map_append]
          exact upd_same
        · exact ⟨B6, D5.trans D6, q, is, st, en, _, _, D6 _ _ hq nqb, li, nqb, rfl⟩
      clear D5 hq li nqb B5
      rintro σ' H5 ⟨B5, D5, q, is, st, en, v4, v8, hq, li, nqb, rfl⟩
      have Z := Z0.but B5 D5
      refine ⟨_, rfl, _, rfl, q, _, rfl, .inl ⟨SqL.of hq, fun t1 nt1 => ?_⟩⟩
      have S6 := sNew (o := .tup (is.map V.int)) nt1
      have ht1 : (upd H5 t1 (.tup (is.map V.int))) t1 = some (.tup (is.map V.int)) := upd_same
      have Z := Z.same S6
      have hq := S6 _ _ hq
      have D6 := D5.trans (But.of S6)
      generalize upd H5 t1 (.tup (is.map V.int)) = H6 at ht1 Z hq D6
      intro x dx nx ndx nex
      have S7 : Same H6 (upd (upd H6 dx (.own x)) x (.ins (cl "Ring") dx [("path", .ref t1)])) := (sNew ndx).trans (sNew (by rw [upd_ne (Ne.symm nex)]; exact nx))
      refine ⟨x, dx, _, rfl, upd_same, rfl, ?_⟩
      rw [upd_upd]
      have Z := Z.same S7
      have D7 := D6.trans (But.of S7)
      have fin : ∀ {H9 : Hp}, Same (upd (upd H6 dx (.own x)) x (.ins (cl "Ring") dx [("path", .ref t1)])) H9 → BgAt H9 b ∧ But b H H9 := fun S => ⟨(Z.same S).B, D7.trans (But.of S)⟩
      by_cases ne : is = []
      · subst ne
        refine ⟨p, x, t, t1, c, us, ls, [], rfl, Z.X, Z.lok, by omega, S7 _ _ ht1, by omega, .inl ⟨⟨dx, upd_same⟩, fun _ H8 S8 => ?_, fun h => absurd rfl h, fun js n e => absurd (List.map_eq_nil_iff.mp e.symm) n⟩⟩
        refine ⟨_, rfl, _, rfl, a, q, lus, ls, [], rfl, (Z.same S8).L, by omega, S8 _ _ (S7 _ _ hq), by omega, fun _ H9 S9 => ?_, fun h => absurd rfl h, fun js n e => absurd (List.map_eq_nil_iff.mp e.symm) n⟩
        exact ⟨rfl, _, rfl, ite2 (fun g => absurd g (by simp)) (fun _ => ⟨(fin (S8.trans S9)).1, (fin (S8.trans S9)).2, _, _, _, _, _, rfl⟩)⟩
      · cases hx : is.all (isIx ls.length) with
        | false =>
          have no : ∀ {js : List Nat} {P : Prop}, (is = js.map fun (i : Nat) => (i : Int)) → (∀ j ∈ js, j < ls.length) → P := fun e h => by rw [e, all_ix h] at hx; cases hx
          refine ⟨p, x, t, t1, c, us, ls, is, rfl, Z.X, Z.lok, by omega, S7 _ _ ht1, by omega, .inl ⟨⟨dx, upd_same⟩, fun h => absurd h ne, fun _ _ H8 S8 => ?_, fun js _ e h => no e h⟩⟩
          refine ⟨_, rfl, _, rfl, a, q, lus, ls, is, rfl, (Z.same S8).L, by omega, S8 _ _ (S7 _ _ hq), by omega, fun h => absurd h ne, fun _ _ H9 S9 => ?_, fun js _ e h => no e h⟩
          exact ⟨rfl, _, rfl, ite2 (fun g => absurd g (by simp)) (fun _ => ⟨(fin (S8.trans S9)).1, (fin (S8.trans S9)).2, _, _, _, _, _, rfl⟩)⟩
        | true =>
          obtain ⟨js, rfl, hj⟩ := ix_nat hx
          have same : ∀ {js' : List Nat}, ((js.map fun (i : Nat) => (i : Int)) = js'.map fun (i : Nat) => (i : Int)) → js = js' := fun e => by
            have := congrArg (List.map Int.toNat) e
            rw [nat_back, nat_back] at this
            exact this
          refine ⟨p, x, t, t1, c, us, ls, _, rfl, Z.X, Z.lok, by omega, S7 _ _ ht1, by omega, .inl ⟨⟨dx, upd_same⟩, fun h => absurd h ne, fun _ h => (by rw [hx] at h; cases h), fun js' _ e _ H8 S8 => ?_⟩⟩
          obtain rfl := same e
          refine ⟨_, rfl, _, rfl, a, q, lus, ls, _, rfl, (Z.same S8).L, by omega, S8 _ _ (S7 _ _ hq), by omega, fun h => absurd h ne, fun _ h => (by rw [hx] at h; cases h), fun js' _ e _ H9 S9 => ?_⟩
          obtain rfl := same e
          exact ⟨sc_opt _, _, rfl, ite2 (fun g => absurd g (by simp)) (fun _ => ⟨(fin (S8.trans S9)).1, (fin (S8.trans S9)).2, _, _, _, _, _, rfl⟩)⟩
    · rintro σ H1 ⟨B1, D1, v4, v5, v6, v7, v8, rfl⟩
      exact k _ B1 D1
theorem cal_paths (T : Txt P w K mg cl) : Cal P w K mg base CX0 7 "_law_paths" ["_law_bag_here", "_law_system", "_law_count", "_law_links_here"] (spPaths (cl "System")) := by
  obtain ⟨f, fd, F, m⟩ := T.d_paths
  exact ⟨f, fd, ok_paths F T, m, F.kp, F.binds fun _ _ _ _ _ _ us hl => match us, hl with | [_, _, _, _], _ => rfl⟩
end
end My
set_option Elab.async false
set_option linter.all false
set_option maxRecDepth 100000
set_option maxHeartbeats 1000000
namespace My
open PySem L2 Dw Wp
open C8 (pss_cut tCut)
set_option pp.maxSteps 600
def RdX (b o : Addr) (H : Hp) (v : V) (r : Rd) : Prop := RdAt H v r ∧ ∀ q, v = .ref q → q ≠ b ∧ q ≠ o
theorem RdX.but {b o : Addr} {H H' : Hp} {v : V} {r : Rd} (h : RdX b o H v r) (D : But b H H') : RdX b o H' v r := ⟨h.1.but (fun q e => (h.2 q e).1) D, h.2⟩
theorem RdX.updO {b o : Addr} {H : Hp} {v : V} {r : Rd} {x : HO} (h : RdX b o H v r) : RdX b o (upd H o x) v r := ⟨h.1.but (b := o) (fun q e => (h.2 q e).2) (But.upd o H x), h.2⟩
theorem Paired.setP {α β : Type} {F : α → β → Prop} {x : α} {y : β} (k : F x y) : ∀ {xs : List α} {ys : List β} (i : Nat), Paired F xs ys → Paired F (xs.set i x) (ys.set i y)
  | _, _, _, .nil => .nil
  | _, _, 0, .cons _ t => .cons k t
  | _, _, i + 1, .cons h t => .cons h (Paired.setP k i t)
theorem rds_dp {K : PySem.W.Frag} {H : Hp} : ∀ {ws : List V} {rs : List Rd}, Paired (RdAt H) ws rs → (∀ r ∈ rs, RdOk r) → ∃ ds, DpAll K H ws ds ∧ (∀ d ∈ ds, Fl1 d) ∧ ds.length = ws.length
  | _, _, .nil, _ => ⟨[], .nil, (fun d h => (by cases h)), rfl⟩
  | _, _, .cons (a := v) (b := r) h t, ok => by
    obtain ⟨ds, h1, h2, h3⟩ := rds_dp (K := K) t fun r hr => ok r (List.mem_cons_of_mem _ hr)
    have or := ok r List.mem_cons_self
    obtain ⟨d, k1, k2⟩ : ∃ d, Dp K H v d ∧ Fl1 d := by
      cases r with
      | pl x =>
        obtain rfl : v = x := h
        exact ⟨_, dpv (okV.flat (Sr.ok or)), fl_v (Sr.ok or)⟩
      | sq xs =>
        obtain ⟨b, rfl, hb | hb⟩ := h
        · exact ⟨_, dp_lst (SqL.of hb) (dpvs fun x hx => okV.flat (Sr.ok (or.2 x hx))), fl_row true fun x hx => Sr.ok (or.2 x hx)⟩
        · exact ⟨_, dp_tup (SqT.of hb) (dpvs fun x hx => okV.flat (Sr.ok (or.2 x hx))), fl_row false fun x hx => Sr.ok (or.2 x hx)⟩
    refine ⟨d :: ds, .cons k1 h1, fun e he => ?_, by rw [List.length_cons, List.length_cons, h3]⟩
    rcases List.mem_cons.mp he with rfl | he
    · exact k2
    · exact h2 e he
def dueD : Option (V × Str) → PyData
  | none => vD .non
  | some (i, w) => sqD false ([i, .str w].map vD)
def DuOk : Option (V × Str) → Prop
  | none => True
  | some (i, w) => okV i = true ∧ okV (.str w) = true
theorem linkV_ok {c : Int} {xs : List V} {w : Str} (h : linkV c xs = some w) : w = "link" ∨ w = "instant" := by
  unfold linkV at h
  split at h
  · exact .inl (Option.some.inj h).symm
  · split at h
    · cases h
    · exact .inr (Option.some.inj h).symm
theorem linkW_ok {c : Int} {r : Rd} {w : Str} (h : linkW c r = some w) : w = "link" ∨ w = "instant" := by
  cases r with
  | pl v => exact .inl (Option.some.inj h).symm
  | sq xs =>
    have h : (if xs.length = 3 then linkV c xs else some "link") = some w := h
    split at h
    · exact linkV_ok h
    · exact .inl (Option.some.inj h).symm
theorem linksW_ok {c : Int} : ∀ {rs : List Rd} {i : Nat}, DuOk (linksW c i rs)
  | [], _ => trivial
  | r :: rs, i => by
    have st0 : linksW c i (r :: rs) = (match linkW c r with
      | some w => some (V.int (i : Nat), w)
      | none => linksW c (i + 1) rs) := rfl
    rw [st0]
    cases e : linkW c r with
    | none => exact linksW_ok
    | some w => rcases linkW_ok e with rfl | rfl <;> exact ⟨rfl, by decide +kernel⟩
theorem sysW_ok {cv : V} {ro : Option (List Rd)} : DuOk (sysW cv ro) := by
  unfold sysW
  split
  · exact ⟨rfl, by decide +kernel⟩
  · cases ro with
    | none => exact ⟨rfl, by decide +kernel⟩
    | some rs =>
      show DuOk (if 200 < rs.length then some (V.non, ("links" : Str)) else linksW (ctI cv) 0 rs)
      split
      · exact ⟨rfl, by decide +kernel⟩
      · exact linksW_ok
theorem due_dp {K : PySem.W.Frag} {H : Hp} {v : V} {o : Option (V × Str)} (h : DueV H v o) (ok : DuOk o) : Dp K H v (dueD o) := by
  cases o with
  | none =>
    obtain rfl : v = .non := h
    exact dpv rfl
  | some p =>
    obtain ⟨i, w⟩ := p
    obtain ⟨t, rfl, ht⟩ := h
    exact dp_tup (SqT.of ht) (dpvs fun x hx => okV.flat (by
      rcases (show x = i ∨ x = .str w by simpa using hx) with rfl | rfl
      · exact ok.1
      · exact ok.2))
theorem due_sh {o : Option (V × Str)} (ok : DuOk o) : SeqAt.shaped (dueD o) = true := by
  cases o with
  | none => exact vD_shaped (v := .non) rfl
  | some p =>
    obtain ⟨i, w⟩ := p
    exact row_shaped false fun x hx => by
      rcases (show x = i ∨ x = .str w by simpa using hx) with rfl | rfl
      · exact ok.1
      · exact ok.2
theorem due_self (o : Option (V × Str)) : PyData.eqv (dueD o) (dueD o) = true := by
  cases o with
  | none => exact vD_self .non
  | some p => exact row_self false _
theorem DueV.same {H H' : Hp} {v : V} {o : Option (V × Str)} (h : DueV H v o) (S : Same H H') : DueV H' v o := by
  cases o with
  | none => exact h
  | some p =>
    obtain ⟨t, e, ht⟩ := h
    exact ⟨t, e, S _ _ ht⟩
theorem rep_pair {H : Hp} {v : V} {r : Rd} (h : RdAt H v r) : ∀ n : Nat, Paired (RdAt H) (List.replicate n [v]).flatten (List.replicate n r)
  | 0 => .nil
  | n + 1 => by
    rw [List.replicate_succ, List.replicate_succ, List.flatten_cons]
    exact .cons h (rep_pair h n)
theorem rep_links {c : Int} (h : 1 ≤ c) : ∀ {n i : Nat}, linksW c i (List.replicate n (lkR (0, c - 1, 1))) = none
  | 0, _ => rfl
  | n + 1, i => by
    have st0 : linksW c i (lkR (0, c - 1, 1) :: List.replicate n (lkR (0, c - 1, 1))) = (match linkW c (lkR (0, c - 1, 1)) with
      | some w => some (V.int (i : Nat), w)
      | none => linksW c (i + 1) (List.replicate n (lkR (0, c - 1, 1)))) := rfl
    rw [List.replicate_succ, st0]
    have e : linkW c (lkR (0, c - 1, 1)) = none := by
      show (if [V.int 0, .int (c - 1), .int 1].length = 3 then linkV c [V.int 0, .int (c - 1), .int 1] else some "link") = none
      rw [if_pos (show [V.int 0, .int (c - 1), .int 1].length = 3 from rfl)]
      unfold linkV
      rw [if_neg (by show ¬ true = false; decide), if_pos]
      show ((decide ((0 : Int) ≤ 0) && decide ((0 : Int) < c)) && (decide (0 ≤ c - 1) && decide (c - 1 < c))) = true
      simp only [Bool.and_eq_true, decide_eq_true_eq]
      omega
    rw [e]
    exact rep_links h
def spRef (C : Addr) : Sp := fun vs H Q _ => ∃ (b p t a tl : Addr) (c : Int) (us lus : List V) (ls : List Lk) (ts : List Int), vs = [.ref b, .int c, .ref a] ∧ LwS C H b p t a tl c us lus ls ts ∧ ∀ H', BgAt H' b → But b H H' → Q (.bl true) H'
section
variable {P : Program} {w : World} {K : PySem.W.Frag} {mg : Str → Option Value} {base : Heap} {cl : String → Addr}
theorem ok_refused {f : Addr} {fd : FuncData} (F : Fun K "_law_refused" "_law_refused" s_refused f fd) (T : Txt P w K mg cl) : FnOk P w K mg base CX0 8 f fd ["_law_bag_here", "_law_count", "_law_links_here"] (spRef (cl "System")) := by
  refine F.ok sc_refused (fun vs H Q E h => ?_) (fun cdv A outer s H vs Q E hr h => ?_)
  · obtain ⟨b, p, t, a, tl, c, us, lus, ls, ts, rfl, _⟩ := h
    rfl
  · obtain ⟨b, p, t, a, tl, c, us, lus, ls, ts, rfl, Z0, k⟩ := h
    have C_take : Cal P w K mg base CX0 1 "_law_take" _ spTake := cal_take T
    have C_of : Cal P w K mg base CX0 2 "_law_of" _ spOf := cal_of T
    have C_spoilt : Cal P w K mg base CX0 3 "_law_spoilt" _ spSpoilt := cal_spoilt T
    have C_due : Cal P w K mg base CX0 3 "_law_due" _ (spDue K) := cal_due T
    have C_made : Cal P w K mg base CX0 6 "_law_made" _ (spDue K) := cal_made T
    refine ⟨_, (pss_cons (ps_setLc (i := 3) (own := [("_law_x", 9)]) (g := gName 9) (tt := tYes) rfl sc_refused.nd rfl rfl (sw_true rfl rfl rfl (by decide +kernel)) (pi_list (pv 2)) (blkOk_by (own := [("_law_x", 9)]) (N := ["_law_bag_here", "_law_count", "_law_links_here", "_law_drawn", "_law_k", "_law_at", "_law_odd", "_law_strange", "_law_many", "_law_x"]) (sc := defScope s_refused) (by decide +kernel)) (fun _ _ _ _ _ => pg_name (i := 9) sc_refused.nd rfl (Or.inl rfl)) (fun _ _ _ _ _ => pts_nil) (fun _ _ _ _ _ => (pe_cut (pe_ifExp (pt_cmpR op_eq (pe_cal C_take (hr.mono (by decide)) (pa_cons (pv 0) (pa_cons pe_int pa_nil))) pe_int (nomark _)) (pe_callTy (call_list_ofK (K := K) rfl) (by rfl) T.n_list (by decide +kernel) (pa_cons (pv 9) pa_nil)) (pv 9)))))
        (pss_cons (ps_for PassesOwn.never rfl (pi_range1 rfl T.n_range (pa_cons (pe_op op_add pe_int (pe_cal C_take (hr.mono (by decide)) (pa_cons (pv 0) (pa_cons pe_int pa_nil)))) pa_nil)) (pg_name (i := 4) sc_refused.nd rfl (Or.inl rfl))
          (pss_one (ps_if (pt_cmpR (op_neD hr.units) (pv 3) (pe_lst pa_nil) (nomark _))
              (pss_cons (ps_set (i := 5) sc_refused.nd rfl (Or.inl rfl) (pe_cal C_take (hr.mono (by decide)) (pa_cons (pv 0) (pa_cons (pe_callB call_len_seq (by rfl) T.n_len PySem.boot_len (pa_cons (pv 3) pa_nil)) pa_nil))))
                (pss_one (ps_asg (pe_cal C_spoilt (hr.mono (by decide)) (pa_cons (pv 0) (pa_cons (pe_ix ix_list (pv 2) (pv 5) (fun _ _ => rfl)) (pa_cons (pv 1) pa_nil)))) (pg_sub (pv 3) (pv 5) set_list)))) pss_nil)))
        (pss_cons (ps_if (PW.pt (pw_or (pt_cmpR (op_neD hr.units) (pe_cal C_made (hr.mono (by decide)) (pa_cons (pv 1) (pa_cons (pv 3) pa_nil))) (pe_cal C_due (hr.mono (by decide)) (pa_cons (pv 1) (pa_cons (pv 3) pa_nil))) (nomark _)) (pw_or1 (pt_cmpR (op_neD hr.units) (pe_cal C_made (hr.mono (by decide)) (pa_cons (pv 1) (pa_cons (pe_callTy call_tuple_of (by rfl) T.n_tuple (by decide +kernel) (pa_cons (pv 3) pa_nil)) pa_nil))) (pe_cal C_due (hr.mono (by decide)) (pa_cons (pv 1) (pa_cons (pv 3) pa_nil))) (nomark _)))))
          (pss_one (ps_ret pe_bl)) pss_nil)
        (pss_cons (ps_set (i := 6) sc_refused.nd rfl (Or.inl rfl) (pe_cal C_of (hr.mono (by decide)) (pa_cons (pv 0) (pa_cons (pe_lst (pa_cons pe_int (pa_cons (pe_un un_neg pe_int) (pa_cons pe_int (pa_cons pe_int (pa_cons pe_bl (pa_cons pe_non (pa_cons pe_str (pa_cons (pe_lst (pa_cons pe_int pa_nil)) (pa_cons (pe_op op_pow pe_int pe_int) (pa_cons (pv 1) pa_nil))))))))))) pa_nil))))
        (pss_cons (ps_if (pt_cmpR (op_neD hr.units) (pe_cal C_made (hr.mono (by decide)) (pa_cons (pv 6) (pa_cons (pv 3) pa_nil))) (pe_cal C_due (hr.mono (by decide)) (pa_cons (pv 6) (pa_cons (pv 3) pa_nil))) (nomark _))
          (pss_one (ps_ret pe_bl)) pss_nil)
        (pss_cons (ps_set (i := 7) sc_refused.nd rfl (Or.inl rfl) (pe_cal C_of (hr.mono (by decide)) (pa_cons (pv 0) (pa_cons (pe_lst (pa_cons pe_non (pa_cons pe_str (pa_cons pe_str (pa_cons pe_int (pa_cons pe_dnewK (pa_cons (pe_disp (pps_cons pe_int (pe_tup (pa_cons pe_int (pa_cons pe_int (pa_cons pe_int pa_nil)))) pps_nil) (by rfl) (by rfl) (fun z => by cases z) (by decide)) (pa_cons pe_bl pa_nil)))))))) pa_nil))))
        (pss_cons (ps_if (PW.pt (pw_or (pt_cmpR (op_neD hr.units) (pe_cal C_made (hr.mono (by decide)) (pa_cons (pv 1) (pa_cons (pv 7) pa_nil))) (pe_tup (pa_cons pe_non (pa_cons pe_str pa_nil))) (nomark _)) (pw_or1 (pt_cmpR (op_neD hr.units) (pe_cal C_made (hr.mono (by decide)) (pa_cons pe_int (pa_cons (pv 7) pa_nil))) (pe_tup (pa_cons pe_non (pa_cons pe_str pa_nil))) (nomark _)))))
          (pss_one (ps_ret pe_bl)) pss_nil)
        (pss_cons (ps_if (pt_cmpR op_gt (pe_cal C_take (hr.mono (by decide)) (pa_cons (pv 0) (pa_cons pe_int pa_nil))) pe_int (nomark _))
          (pss_one (ps_ret pe_bl)) pss_nil)
        (pss_cons (ps_set (i := 8) sc_refused.nd rfl (Or.inl rfl) (pe_op op_add pe_int (pe_cal C_take (hr.mono (by decide)) (pa_cons (pv 0) (pa_cons pe_int pa_nil)))))
        (pss_one (ps_ret (pe_cmpR (op_eqD hr.units) (pe_cal C_made (hr.mono (by decide)) (pa_cons (pv 1) (pa_cons (pe_op op_rep (pe_lst (pa_cons (pe_tup (pa_cons pe_int (pa_cons (pe_op op_sub (pv 1) pe_int) (pa_cons pe_int pa_nil)))) pa_nil)) (pv 8)) pa_nil))) (pe_ifExp (pt_cmpR op_le (pv 8) pe_int (nomark _)) pe_non (pe_tup (pa_cons pe_non (pa_cons pe_str pa_nil)))) (nomark _))))))))))))), ?_⟩
    have c1 := Z0.c1
    have c2 := Z0.c2
    have le := Z0.le
    have lu := Z0.L.2.length
    have roks : ∀ {ls : List Lk}, ∀ r ∈ ls.map lkR, RdOk r := fun r hr => by
      obtain ⟨l, _, rfl⟩ := List.mem_map.mp hr
      exact lkR_ok l
    refine ⟨_, rfl, a, rfl, ⟨_, SqL.of Z0.L.1⟩, fun D nD => lc_list (K := K) (a := a) (xs := lus) (fun i H' => ∃ ws, H' D = some (.lst ws) ∧ Paired (RdX b D H') ws ((ls.take i).map lkR) ∧ BgAt H' b ∧ But b H H') ⟨[], upd_same, .nil, Z0.B.same (sNew nD), But.of (sNew nD)⟩ (fun i H' _ ⟨_, _, _, _, D1⟩ => SqL.of (D1 _ _ Z0.L.1 Z0.na)) ?_ ?_⟩
    · rintro i x H1 hx ⟨ws, hD, pw, B1, D1⟩
      have nDb := Z0.B.ne nD
      obtain ⟨l, hl, e, rfl, he0⟩ := Paired.at Z0.L.2 hx
      have lw := pw.length
      have hi := (List.getElem?_eq_some_iff.mp hl).1
      rw [List.length_map, List.length_take] at lw
      refine ⟨rfl, ?_⟩
      have nee : e ≠ b := Z0.B.tup he0
      have neD : e ≠ D := ne_of_none he0 nD
      refine ⟨fun v H' => RdX b D H' v (lkR l) ∧ BgAt H' b ∧ But b H1 H', ?_, fun v H2 ⟨hv, B2, D2⟩ => ?_⟩
      · refine ⟨_, rfl, b, _, rfl, B1, by decide, by decide, fun j H2 _ _ B2 D2 => ⟨rfl, _, rfl, ite2 (fun _ => ?_) (fun _ => ?_)⟩⟩
        · have he2 := D2 _ _ (D1 _ _ he0 nee) nee
          refine ⟨_, rfl, e, _, rfl, .inr (SqT.of he2), fun q nq => ⟨⟨⟨q, rfl, .inl upd_same⟩, fun q' e' => ?_⟩, B2.same (sNew nq), D2.trans (But.of (sNew nq))⟩⟩
          obtain rfl := V.ref.inj e'
          exact ⟨B2.ne nq, Ne.symm (ne_of_none (D2 _ _ hD nDb) nq)⟩
        · have he2 := D2 _ _ (D1 _ _ he0 nee) nee
          refine ⟨_, rfl, ⟨⟨e, rfl, .inr he2⟩, fun q' e' => ?_⟩, B2, D2⟩
          obtain rfl := V.ref.inj e'
          exact ⟨nee, neD⟩
      · refine ⟨ws, D2 _ _ hD nDb, small1000 (by omega), ws ++ [v], upd_same, ?_, B2.upd nDb, but_upd (D1.trans D2) nD⟩
        rw [take_snoc hl, List.map_append]
        exact Paired.appendP (Paired.impP (fun _ _ h => (h.but D2).updO) pw) (.cons hv.updO .nil)
    rintro H1 ⟨ws, hD, pw, B1, D1⟩
    have nDb := Z0.B.ne nD
    rw [List.take_of_length_le (by omega)] at pw
    refine ⟨_, rfl, b, _, rfl, B1, by decide, by decide, fun j H2 j0 j1 B2 D2 => ⟨_, _, rfl, rfl, _, rfl, by omega, by omega, ?_⟩⟩
    have hD := D2 _ _ hD nDb
    have pw := Paired.impP (fun _ _ h => RdX.but h D2) pw
    have D2 := D1.trans D2
    refine for_range (fun i σ H' => ∃ (ws : List V) (rs : List Rd) (v4 v5 : Option V), H' D = some (.lst ws) ∧ Paired (RdX b D H') ws rs ∧ (∀ r ∈ rs, RdOk r) ∧ rs.length = ls.length ∧ BgAt H' b ∧ But b H H' ∧ σ = [some (.ref b), some (.int c), some (.ref a), some (.ref D), v4, v5, none, none, none, none]) ⟨ws, ls.map lkR, _, _, hD, pw, roks, List.length_map _, B2, D2, rfl⟩ ?_ ?_
    · clear hD pw D2 B2 D1 B1
      rintro i σ H3 hi ⟨ws, rs, v4, v5, hD, pw, rok, rl, B3, D3, rfl⟩
      have lw := pw.length
      refine ⟨_, rfl, by show 0 ≤ sizeLine; exact Nat.zero_le _, fun q2 nq2 => ?_⟩
      have S2 := sNew (o := .lst []) nq2
      obtain ⟨ds, k1, k2, k3⟩ := rds_dp (K := K) (Paired.impP (fun _ _ h => (h.but (But.of S2)).1) pw) rok
      refine ⟨_, _, dp_lst (SqL.of (S2 _ _ hD)) k1, dp_lst (SqL.of upd_same) .nil, fls_shaped true k2, row_shaped (xs := []) true (by simp), _, rfl, ?_⟩
      rw [eqv_nilE]
      have hD := S2 _ _ hD
      have pw := Paired.impP (fun _ _ h => RdX.but h (But.of S2)) pw
      have B3 := B3.same S2
      have D3 := D3.trans (But.of S2)
      generalize upd H3 q2 (.lst []) = H4 at hD pw B3 D3
      by_cases hne : ls = []
      · rw [show ds.isEmpty = true by
          have : ds.length = 0 := by rw [k3, lw, rl, hne]; rfl
          rw [List.length_eq_zero_iff.mp this]; rfl]
        exact iteF ⟨ws, rs, _, _, hD, pw, rok, rl, B3, D3, rfl⟩
      have l1 : 1 ≤ ls.length := by cases ls with
        | nil => exact absurd rfl hne
        | cons _ _ => simp
      rw [show ds.isEmpty = false by
          cases ds with
          | nil => have : (0 : Nat) = ws.length := k3
                   omega
          | cons _ _ => rfl]
      refine iteT ⟨_, rfl, _, rfl, D, _, rfl, .inl (SqL.of hD), b, _, rfl, B3, by omega, by omega, fun jj H5 j50 j51 B5 D5 => ?_⟩
      obtain ⟨jn, rfl⟩ : ∃ jn : Nat, jj = (jn : Int) := ⟨jj.toNat, by omega⟩
      have D5' := D3.trans D5
      have Z := Z0.but B5 D5'
      have hj : jn < ls.length := by omega
      obtain ⟨e, hv, he⟩ := ll_at Z.L hj
      refine ⟨_, rfl, _, rfl, _, rfl, a, _, _, _, rfl, rfl, SqL.of Z.L.1, atI_nat hv, _, rfl, b, e, c, ls[jn], rfl, B5, he, fun v r H6 h1 h2 h3 B6 D6 => ?_⟩
      have hD := D6 _ _ (D5 _ _ hD nDb) nDb
      have pw := Paired.impP (fun _ _ h => RdX.but (RdX.but h D5) D6) pw
      have vx : RdX b D H6 v r := ⟨h1, fun q e' => ⟨B5.ne (h3 q e'), fun e2 => by
        have z := h3 q e'
        rw [e2] at z
        have hD5 := D5 _ _ ‹H4 D = _› nDb
        rw [z] at hD5
        cases hD5⟩⟩
      refine ⟨_, rfl, _, rfl, D, _, jn, jn, rfl, rfl, hD, by unfold ixN; rw [if_pos (by omega), if_pos (by omega)]; rfl, ws.set jn v, rs.set jn r, _, _, upd_same, Paired.impP (fun _ _ h => RdX.updO h) (Paired.setP vx jn pw), fun x hx => ?_, by rw [List.length_set]; exact rl, B6.upd nDb, but_upd (D5'.trans D6) nD, rfl⟩
      rcases List.mem_or_eq_of_mem_set hx with hx | rfl
      · exact rok x hx
      · exact h2
    · rintro σ H3 ⟨ws, rs, v4, v5, hD, pw, rok, rl, B3, D3, rfl⟩
      clear D2 B2 D1 B1
      have lsD : ∀ {H' : Hp}, But b H3 H' → LsAt K H' (.ref D) (some rs) := fun D' => ⟨D, ws, rfl, .inl (D' _ _ hD nDb), Paired.impP (fun _ _ h => (RdX.but h D').1) pw, rok, by omega⟩
      refine ⟨_, rfl, _, rfl, .int c, .ref D, "int", some rs, rfl, .int c, lsD (But.refl _ _), fun w1 H4 S4 d1 => ⟨_, rfl, _, rfl, .int c, .ref D, "int", some rs, rfl, .int c, lsD (But.of S4), fun w2 H5 S5 d2 => ?_⟩⟩
      refine ⟨_, _, due_dp (d1.same S5) sysW_ok, due_dp d2 sysW_ok, due_sh sysW_ok, due_sh sysW_ok, _, rfl, ?_⟩
      rw [due_self]
      have S5 := S4.trans S5
      clear S4 d1 d2
      refine iteF ⟨_, rfl, _, rfl, D, ws, rfl, .inl ⟨SqL.of (S5 _ _ hD), fun q1 n1 => ?_⟩⟩
      have S6 := sNew (o := .tup ws) n1
      have S7 := S5.trans S6
      refine ⟨.int c, .ref q1, "int", some rs, rfl, .int c, ⟨q1, ws, rfl, .inr upd_same, Paired.impP (fun _ _ h => (RdX.but h (But.of S7)).1) pw, rok, by omega⟩, fun w1 H8 S8 d1 => ⟨_, rfl, _, rfl, .int c, .ref D, "int", some rs, rfl, .int c, lsD (But.of (S7.trans S8)), fun w2 H9 S9 d2 => ?_⟩⟩
      refine ⟨_, _, due_dp (d1.same S9) sysW_ok, due_dp d2 sysW_ok, due_sh sysW_ok, due_sh sysW_ok, _, rfl, ?_⟩
      rw [due_self]
      have S9 := S7.trans (S8.trans S9)
      clear S5 S6 S7 S8 d1 d2
      have B9 := B3.same S9
      refine iteF ⟨_, rfl, _, rfl, by show 1 ≤ sizeLine; decide, fun q1 n1 => ⟨_, _, rfl, rfl, ⟨by decide, by decide, by decide⟩, _, rfl, by show 10 ≤ sizeLine; decide, fun q2 n2 => ?_⟩⟩
      have S10 := sNew (o := .lst [.int 3]) n1
      have hq1 : (upd H9 q1 (.lst [.int 3])) q1 = some (.lst [.int 3]) := upd_same
      have n1b := B9.ne n1
      have S11 := sNew (o := .lst [.int 0, .int (-1), .int 12, .int 13, .bl true, .non, .str "3", .ref q1, .int (10 ^ (30 : Int).toNat), .int c]) n2
      refine ⟨b, q2, _, rfl, (B9.same S10).same S11, upd_same, (B9.same S10).ne n2, by show 1 ≤ 10; decide, by show 10 ≤ 900; decide, fun j9 ov H10 hov B10 D10 => ?_⟩
      have hq1 := D10 _ _ (S11 _ _ hq1) n1b
      have D10 := (But.of (S9.trans (S10.trans S11))).trans D10
      obtain ⟨on, od⟩ : ∃ n, Dm K H10 ov n := by
        have := List.mem_of_getElem? hov
        simp only [List.mem_cons, List.not_mem_nil, or_false] at this
        rcases this with rfl | rfl | rfl | rfl | rfl | rfl | rfl | rfl | rfl | rfl
        · exact ⟨_, .int _⟩
        · exact ⟨_, .int _⟩
        · exact ⟨_, .int _⟩
        · exact ⟨_, .int _⟩
        · exact ⟨_, .bl _⟩
        · exact ⟨_, .non⟩
        · exact ⟨_, .str _ (by decide)⟩
        · exact ⟨_, .lst hq1⟩
        · exact ⟨_, .int _⟩
        · exact ⟨_, .int _⟩
      clear S10 S11 hq1 B9 n1b hov
      refine ⟨_, rfl, _, rfl, ov, .ref D, on, some rs, rfl, od, lsD D10, fun w1 H11 S11 d1 => ⟨_, rfl, _, rfl, ov, .ref D, on, some rs, rfl, od.same S11, lsD (D10.trans (But.of S11)), fun w2 H12 S12 d2 => ?_⟩⟩
      refine ⟨_, _, due_dp (d1.same S12) sysW_ok, due_dp d2 sysW_ok, due_sh sysW_ok, due_sh sysW_ok, _, rfl, ?_⟩
      rw [due_self]
      have S12 := S11.trans S12
      have B12 := B10.same S12
      have D12 := D3.trans (D10.trans (But.of S12))
      clear S12 S11 d1 d2 od D10 B10 lsD hD pw S9
      refine iteF ⟨_, rfl, fun p5 n5 p6 n6 => ⟨by show 3 ≤ sizeLine; decide, fun t6 nt6 => ?_⟩⟩
      have S5 := sNew (o := .dK []) n5
      have S6 := sNew (o := .dK []) n6
      have h5 : (upd (upd H12 p5 (.dK [])) p6 (.dK [])) p5 = some (.dK []) := S6 _ _ upd_same
      have St := sNew (o := .tup [.int 0, .int 0, .int 1]) nt6
      have h6 : (upd (upd (upd H12 p5 (.dK [])) p6 (.dK [])) t6 (.tup [.int 0, .int 0, .int 1])) p6 = some (.dK []) := St _ _ upd_same
      have n56 : p5 ≠ p6 := ne_of_none (upd_same (H := H12) (a := p5) (o := .dK [])) n6
      refine ⟨h6, [(.inl 0, .ref t6)], rfl, by show 1 ≤ 15; decide, by show 7 ≤ sizeLine; decide, fun O nO => ?_⟩
      have S7 : Same H12 (upd (upd (upd (upd H12 p5 (.dK [])) p6 (.dK [])) t6 (.tup [.int 0, .int 0, .int 1])) p6 (.dK (mergeK [] [(.inl 0, .ref t6)]))) := same_upd ((S5.trans S6).trans St) (S5.free n6)
      have h5 := (upd_ne (o := .dK (mergeK [] [(.inl 0, .ref t6)])) n56).trans (St _ _ h5)
      have h6 : (upd (upd (upd (upd H12 p5 (.dK [])) p6 (.dK [])) t6 (.tup [.int 0, .int 0, .int 1])) p6 (.dK (mergeK [] [(.inl 0, .ref t6)]))) p6 = some (.dK (mergeK [] [(.inl 0, .ref t6)])) := upd_same
      have B7 := B12.same S7
      clear S5 S6 St
      generalize upd (upd (upd (upd H12 p5 (.dK [])) p6 (.dK [])) t6 (.tup [.int 0, .int 0, .int 1])) p6 (.dK (mergeK [] [(.inl 0, .ref t6)])) = H7 at nO S7 h5 h6 B7
      have dne : ∀ {d : Addr} {kvs : List (Key × V)}, H7 d = some (.dK kvs) → d ≠ b := fun {d kvs} e => by
        rintro rfl
        obtain ⟨_, _, z, _⟩ := B7
        rw [z] at e
        cases e
      have S8 := sNew (o := .lst [.non, .str "", .str "abc", .int 7, .ref p5, .ref p6, .bl true]) nO
      refine ⟨b, O, _, rfl, B7.same S8, upd_same, B7.ne nO, by show 1 ≤ 7; decide, by show 7 ≤ 900; decide, fun j9 sv H9 hsv B9 D9 => ?_⟩
      have nl : NotLT K H9 sv := by
        have := List.mem_of_getElem? hsv
        simp only [List.mem_cons, List.not_mem_nil, or_false] at this
        rcases this with rfl | rfl | rfl | rfl | rfl | rfl | rfl
        · exact Sr.notLT trivial
        · exact Sr.notLT ⟨by decide, by decide +kernel⟩
        · exact Sr.notLT ⟨by decide, by decide +kernel⟩
        · exact Sr.notLT trivial
        · exact dict_notLT (D9 _ _ (S8 _ _ h5) (dne h5))
        · exact dict_notLT (D9 _ _ (S8 _ _ h6) (dne h6))
        · exact Sr.notLT trivial
      have D9 := D12.trans ((But.of (S7.trans S8)).trans D9)
      clear S7 S8 h5 h6 B7 dne hsv nO D12 B12 n56 nt6 n6 n5
      have hc : (decide (1 ≤ c) && decide (c ≤ 12)) = true := by rw [decide_eq_true c1, decide_eq_true c2]; rfl
      have e1 : sysW (.int c) none = some (V.non, ("links" : Str)) := sysW_n hc
      have e2 : sysW (.int 0) none = some (V.non, ("count" : Str)) := rfl
      refine ⟨_, rfl, _, rfl, .int c, sv, "int", none, rfl, .int c, nl, fun w1 H10 S10 d1 => ⟨by show 2 ≤ sizeLine; decide, fun q1 n1 => ?_⟩⟩
      rw [e1] at d1
      have S11 := sNew (o := .tup [.non, .str "links"]) n1
      have ok1 : DuOk (some (V.non, ("links" : Str))) := ⟨rfl, by decide +kernel⟩
      refine ⟨_, _, due_dp (d1.same S11) ok1, due_dp (o := some (V.non, ("links" : Str))) ⟨q1, rfl, upd_same⟩ ok1, due_sh ok1, due_sh ok1, _, rfl, ?_⟩
      rw [due_self]
      have S11 := S10.trans S11
      refine iteF ⟨_, rfl, .int 0, sv, "int", none, rfl, .int 0, fun H' S => nl H' (S11.trans S), fun w1 H12 S12 d1 => ⟨by show 2 ≤ sizeLine; decide, fun q2 n2 => ?_⟩⟩
      rw [e2] at d1
      have S13 := sNew (o := .tup [.non, .str "count"]) n2
      have ok2 : DuOk (some (V.non, ("count" : Str))) := ⟨rfl, by decide +kernel⟩
      refine ⟨_, _, due_dp (d1.same S13) ok2, due_dp (o := some (V.non, ("count" : Str))) ⟨q2, rfl, upd_same⟩ ok2, due_sh ok2, due_sh ok2, _, rfl, ?_⟩
      rw [due_self]
      have S13 := S11.trans (S12.trans S13)
      have B13 := B9.same S13
      have D13 := D9.trans (But.of S13)
      clear S11 S10 S12 S13 d1 D9 B9 nl
      refine iteF ⟨_, rfl, b, _, rfl, B13, by decide, by decide, fun j14 H14 _ _ B14 D14 => ⟨_, _, rfl, rfl, _, rfl, ite2 (fun _ => k _ B14 (D13.trans D14)) (fun _ => ?_)⟩⟩
      refine ⟨_, rfl, b, _, rfl, B14, by decide, by decide, fun j H15 j0 j1 B15 D15 => ⟨_, _, rfl, rfl, ?_⟩⟩
      have D15 := D13.trans (D14.trans D15)
      clear D13 B13 D14 B14
      refine ⟨_, rfl, _, rfl, _, _, rfl, rfl, by show 3 ≤ sizeLine; decide, fun q1 n1 => ⟨by show 1 ≤ sizeLine; decide, fun q2 n2 => ?_⟩⟩
      have S1 := sNew (o := .tup [.int 0, .int (c - 1), .int 1]) n1
      have S2 := sNew (o := .lst [.ref q1]) n2
      have h1 := S2 _ _ (upd_same (H := H15) (a := q1) (o := .tup [.int 0, .int (c - 1), .int 1]))
      refine ⟨_, rfl, q2, _, _, rfl, rfl, upd_same, by omega, by omega, Nat.le_of_lt (small1000 (by rw [List.length_singleton]; omega)), fun q3 n3 => ?_⟩
      have S3 := sNew (o := .lst (List.replicate (199 + j).toNat [V.ref q1]).flatten) n3
      have h1 := S3 _ _ h1
      have S3 := S1.trans (S2.trans S3)
      generalize en : (199 + j).toNat = n at *
      have rp : Paired (RdAt (upd (upd (upd H15 q1 (.tup [.int 0, .int (c - 1), .int 1])) q2 (.lst [.ref q1])) q3 (.lst (List.replicate n [V.ref q1]).flatten))) (List.replicate n [V.ref q1]).flatten (List.replicate n (lkR (0, c - 1, 1))) := rep_pair (show RdAt _ (.ref q1) (lkR (0, c - 1, 1)) from ⟨q1, rfl, .inr h1⟩) n
      have nn : n ≤ 202 := by omega
      refine ⟨.int c, .ref q3, "int", some (List.replicate n (lkR (0, c - 1, 1))), rfl, .int c, ⟨q3, _, rfl, .inl upd_same, rp, fun x hx => (by rw [(List.mem_replicate.mp hx).2]; exact lkR_ok _), by rw [List.length_replicate]; omega⟩, fun w1 H16 S16 d1 => ?_⟩
      rw [sysW_s hc, List.length_replicate, rep_links c1] at d1
      have S16 := S3.trans S16
      refine ⟨_, rfl, _, _, rfl, rfl, _, rfl, ite2 (fun g => ?_) (fun g => ?_)⟩
      · have g := of_decide_eq_true g
        rw [if_neg (by omega)] at d1
        refine ⟨_, _, due_dp (o := none) d1 trivial, due_dp (o := none) rfl trivial, due_sh (o := none) trivial, due_sh (o := none) trivial, ?_⟩
        rw [due_self]
        exact k _ (B15.same S16) (D15.trans (But.of S16))
      · have g : ¬ (199 + j ≤ 200) := fun z => g (decide_eq_true z)
        rw [if_pos (by omega)] at d1
        refine ⟨by show 2 ≤ sizeLine; decide, fun q4 n4 => ?_⟩
        have S17 := sNew (o := .tup [.non, .str "links"]) n4
        refine ⟨_, _, due_dp (d1.same S17) ok1, due_dp (o := some (V.non, ("links" : Str))) ⟨q4, rfl, upd_same⟩ ok1, due_sh ok1, due_sh ok1, ?_⟩
        rw [due_self]
        exact k _ (B15.same (S16.trans S17)) (D15.trans (But.of (S16.trans S17)))
theorem cal_refused (T : Txt P w K mg cl) : Cal P w K mg base CX0 8 "_law_refused" ["_law_bag_here", "_law_count", "_law_links_here"] (spRef (cl "System")) := by
  obtain ⟨f, fd, F, m⟩ := T.d_refused
  exact ⟨f, fd, ok_refused F T, m, F.kp, F.binds fun _ _ _ _ _ _ us hl => match us, hl with | [_, _, _], _ => rfl⟩
end
end My
set_option Elab.async false
set_option linter.all false
set_option maxRecDepth 100000
set_option maxHeartbeats 1000000
namespace My
open PySem L2 Dw Wp
open C8 (pss_cut tCut)
set_option pp.maxSteps 600
theorem linkW_lk {c : Int} {l : Lk} (h : LkOk c l) : linkW c (lkR l) = none := by
  show (if (lkV l).length = 3 then linkV c (lkV l) else some "link") = none
  rw [if_pos (show (lkV l).length = 3 from rfl)]
  unfold linkV
  rw [if_neg (by show ¬ true = false; decide), if_pos]
  obtain ⟨⟨h1, h2⟩, h3, h4⟩ := h
  show ((decide ((0 : Int) ≤ l.1) && decide (l.1 < c)) && (decide (0 ≤ l.2.1) && decide (l.2.1 < c))) = true
  simp only [Bool.and_eq_true, decide_eq_true_eq]
  omega
theorem linksW_app {c : Int} {rs : List Rd} : ∀ {ls : List Lk} {i : Nat}, (∀ l ∈ ls, LkOk c l) → linksW c i (ls.map lkR ++ rs) = linksW c (i + ls.length) rs
  | [], _, _ => rfl
  | l :: ls, i, h => by
    have st0 : linksW c i (lkR l :: (ls.map lkR ++ rs)) = (match linkW c (lkR l) with
      | some w => some (V.int (i : Nat), w)
      | none => linksW c (i + 1) (ls.map lkR ++ rs)) := rfl
    rw [List.map_cons, List.cons_append, st0, linkW_lk (h l List.mem_cons_self)]
    show linksW c (i + 1) (ls.map lkR ++ rs) = _
    rw [linksW_app fun x hx => h x (List.mem_cons_of_mem _ hx), List.length_cons]
    congr 1
    omega
theorem sysW_app {c : Int} {ls : List Lk} {rs : List Rd} (c1 : 1 ≤ c) (c2 : c ≤ 12) (h : ∀ l ∈ ls, LkOk c l) (l : ls.length + rs.length ≤ 200) : sysW (.int c) (some (ls.map lkR ++ rs)) = linksW c ls.length rs := by
  rw [sysW_s (by rw [decide_eq_true c1, decide_eq_true c2]; rfl), if_neg (by rw [List.length_append, List.length_map]; omega), linksW_app h, Nat.zero_add]
theorem sysW_ls {c : Int} {ls : List Lk} (c1 : 1 ≤ c) (c2 : c ≤ 12) (h : ∀ l ∈ ls, LkOk c l) (l : ls.length ≤ 200) : sysW (.int c) (some (ls.map lkR)) = none := by
  have := sysW_app (rs := []) c1 c2 h (by simpa using l)
  rw [List.append_nil] at this
  exact this
theorem lkR_inj : ∀ {ls ls' : List Lk}, ls.map lkR = ls'.map lkR → ls = ls'
  | [], [], _ => rfl
  | [], _ :: _, h => by cases h
  | _ :: _, [], h => by cases h
  | (a, b, c) :: ls, (a', b', c') :: ls', h => by
    rw [List.map_cons, List.map_cons] at h
    injection h with h1 h2
    have h1 : Rd.sq [.int a, .int b, .int c] = .sq [.int a', .int b', .int c'] := h1
    injection h1 with h1
    injection h1 with x1 h1
    injection h1 with x2 h1
    injection h1 with x3 _
    rw [V.int.inj x1, V.int.inj x2, V.int.inj x3, lkR_inj h2]
theorem eqvAll_len : ∀ {as bs : List PyData}, PyData.eqvAll as bs = true → as.length = bs.length
  | [], [], _ => rfl
  | [], _ :: _, h => by simp [PyData.eqvAll] at h
  | _ :: _, [], h => by simp [PyData.eqvAll] at h
  | a :: as, b :: bs, h => by
    have h : PyData.eqvAll as bs = true := by
      simp [PyData.eqvAll] at h
      exact h.2
    rw [List.length_cons, List.length_cons, eqvAll_len h]
theorem lksD_all (l : Bool) (ls ls' : List Lk) : PyData.eqv (sqD l (ls.map lkD)) (sqD l (ls'.map lkD)) = PyData.eqvAll (ls.map lkD) (ls'.map lkD) := by
  cases l <;> simp only [sqD, PyData.eqv] <;> rfl
theorem lksD_len {ls ls' : List Lk} (h : ls.length ≠ ls'.length) : PyData.eqv (lksD ls) (lksD ls') = false := by
  cases q : PyData.eqv (lksD ls) (lksD ls') with
  | false => rfl
  | true =>
    have q : PyData.eqv (sqD false (ls.map lkD)) (sqD false (ls'.map lkD)) = true := q
    rw [lksD_all] at q
    have := eqvAll_len q
    rw [List.length_map, List.length_map] at this
    exact absurd this h
theorem Paired.revP {α β : Type} {F : α → β → Prop} : ∀ {xs : List α} {ys : List β}, Paired F xs ys → Paired F xs.reverse ys.reverse
  | _, _, .nil => .nil
  | _, _, .cons h t => by
    rw [List.reverse_cons, List.reverse_cons]
    exact Paired.appendP (Paired.revP t) (.cons h .nil)
theorem ls_at {K : PySem.W.Frag} {H : Hp} {r : Addr} {us : List V} {ls : List Lk} (h : H r = some (.lst us) ∨ H r = some (.tup us)) (p : Paired (LkT H) us ls) (l : ls.length ≤ 300) : LsAt K H (.ref r) (some (ls.map lkR)) :=
  ⟨r, us, rfl, h, lks_rd p, fun x hx => (by obtain ⟨l, _, rfl⟩ := List.mem_map.mp hx; exact lkR_ok l), by rw [List.length_map]; exact l⟩
def addV (c : Int) (n : Nat) (r : Rd) : Option (V × Str) := match linkW c r with
  | none => none
  | some w => some (.int ((n : Int) + 1), w)
section
variable {P : Program} {w : World} {K : PySem.W.Frag} {mg : Str → Option Value} {base : Heap} {cl : String → Addr}
theorem ownSy (T : Txt P w K mg cl) {H : Hp} {p q t t' : Addr} {c c' : Int} {us us' : List V} {ls ls' : List Lk} {Q : VK} (X : SyAt (cl "System") H p c t us ls) (X' : SyAt (cl "System") H q c' t' us' ls')
    (k : Q (.bl (decide (c = c') && PyData.eqv (lksD ls) (lksD ls'))) H) : rOwn K (cl "System") (spSyEq K (cl "System")) (.ref p) (.ref q) H Q := by
  obtain ⟨dx, h1⟩ := X.self
  obtain ⟨dx', h1'⟩ := X'.self
  exact ⟨p, dx, _, _, rfl, h1, .base (.ins h1' T.cl_System T.y_System T.z1 T.z2 T.z3_System), T.nf2_System, p, t, c, us, ls, _, rfl, X, .inl ⟨q, t', c', us', ls', rfl, X', ⟨_, rfl⟩, k⟩⟩
theorem ownSyNe (T : Txt P w K mg cl) {H : Hp} {p q t t' : Addr} {c c' : Int} {us us' : List V} {ls ls' : List Lk} {Q : VK} (X : SyAt (cl "System") H p c t us ls) (X' : SyAt (cl "System") H q c' t' us' ls')
    (k : Q (.bl (!(decide (c = c') && PyData.eqv (lksD ls) (lksD ls')))) H) : rOwnNe K (cl "System") (spSyEq K (cl "System")) (.ref p) (.ref q) H Q := by
  obtain ⟨dx, h1⟩ := X.self
  obtain ⟨dx', h1'⟩ := X'.self
  exact ⟨p, dx, _, _, rfl, h1, .base (.ins h1' T.cl_System T.y_System T.z1 T.z2 T.z3_System), T.nf2_System, p, t, c, us, ls, _, rfl, X, .inl ⟨q, t', c', us', ls', rfl, X', _, rfl, k⟩⟩
theorem ownSyN (T : Txt P w K mg cl) {H : Hp} {p t : Addr} {c : Int} {us : List V} {ls : List Lk} {o : V} {n : String} {Q : VK} (X : SyAt (cl "System") H p c t us ls) (ho : Dm K H o n) (k : Q (.bl false) H) : rOwn K (cl "System") (spSyEq K (cl "System")) (.ref p) o H Q := by
  obtain ⟨dx, h1⟩ := X.self
  have kt : ∀ m, Dm K H o m → m ∈ ["NoneType", "bool", "int", "str", "list", "tuple"] := fun m x => by cases x <;> decide
  exact ⟨p, dx, _, _, rfl, h1, ho.ty, T.nf_System n (kt n ho), p, t, c, us, ls, _, rfl, X, .inr ⟨⟨n, ho⟩, ⟨_, rfl⟩, k⟩⟩
theorem mkSy (T : Txt P w K mg cl) {H : Hp} {c : Int} {r : Addr} {us : List V} {ls : List Lk} {E : XK} {Q : Addr → Hp → Prop} (c1 : 1 ≤ c) (c2 : c ≤ 12) (lok : ∀ l ∈ ls, LkOk c l) (le : ls.length ≤ 200) (h : H r = some (.lst us) ∨ H r = some (.tup us)) (p : Paired (LkT H) us ls)
    (good : ∀ p t us' H', Same H H' → SyAt (cl "System") H' p c t us' ls → Q p H') :
    ∀ x dx, H x = none → H dx = none → dx ≠ x → spSys K (cl "System") (cl "BadSystem") [.ref x, .int c, .ref r] (upd (upd H dx (.own x)) x (.ins (cl "System") dx [])) (fun v H3 => v = .non ∧ Q x H3) E :=
  mkSys (.int c) (ls_at h p (by omega)) (fun i w G e z _ _ => by rw [sysW_ls c1 c2 lok le] at z; cases z) (fun c' ls' p t us' H' e1 e2 _ S X => by
    cases e1
    obtain rfl := lkR_inj (Option.some.inj e2)
    exact good p t us' H' S X)
end
end My
set_option Elab.async false
set_option linter.all false
set_option maxRecDepth 100000
set_option maxHeartbeats 1000000
namespace My
open PySem L2 Dw Wp
open C8 (pss_cut tCut)
set_option pp.maxSteps 600
theorem wlI {K : PySem.W.Frag} {C CB : Addr} {H : Hp} {p q t : Addr} {c : Int} {us ws : List V} {ls ks : List Lk} {Q : VK} {E : XK} (c1 : 1 ≤ c) (c2 : c ≤ 12) (lok : ∀ l ∈ ls, LkOk c l) (kok : ∀ l ∈ ks, LkOk c l) (le : ls.length + ks.length ≤ 200) (X : SyAt C H p c t us ls) (hq : H q = some (.tup ws)) (pw : Paired (RdAt H) ws (ks.map lkR))
    (good : ∀ p' t' us' H', Same H H' → SyAt C H' p' c t' us' (ls ++ ks) → Q (.ref p') H') : spWithI K C CB [.ref p, .ref q] H Q E := by
  have e : ls.map lkR ++ ks.map lkR = (ls ++ ks).map lkR := (List.map_append ..).symm
  have ok : ∀ l ∈ ls ++ ks, LkOk c l := fun l hl => (List.mem_append.mp hl).elim (lok l) (kok l)
  have z : sysW (.int c) (some (ls.map lkR ++ ks.map lkR)) = none := by rw [e]; exact sysW_ls c1 c2 ok (by rw [List.length_append]; exact le)
  refine ⟨p, q, t, c, us, ws, ls, ks.map lkR, rfl, X, hq, pw, fun x hx => (by obtain ⟨l, _, rfl⟩ := List.mem_map.mp hx; exact lkR_ok l), by rw [List.length_map]; omega, fun i w G d h _ _ => (by rw [z] at h; cases h), fun p' ls' t' us' H' e' _ S X' => ?_⟩
  obtain rfl : ls ++ ks = ls' := lkR_inj (e.symm.trans e')
  exact good p' t' us' H' S X'
section
variable {P : Program} {w : World} {K : PySem.W.Frag} {mg : Str → Option Value} {base : Heap} {cl : String → Addr}
theorem ok_alike {f : Addr} {fd : FuncData} (F : Fun K "_law_alike" "_law_alike" s_alike f fd) (T : Txt P w K mg cl) : FnOk P w K mg base CX0 8 f fd ["_law_bag_here", "_law_system", "_law_count", "_law_links_here"] (spPaths (cl "System")) := by
  refine F.ok sc_alike (fun vs H Q E h => ?_) (fun cdv A outer s H vs Q E hr h => ?_)
  · obtain ⟨b, p, t, a, tl, c, us, lus, ls, ts, rfl, _⟩ := h
    rfl
  · obtain ⟨b, p, t, a, tl, c, us, lus, ls, ts, rfl, Z0, k⟩ := h
    have C_take : Cal P w K mg base CX0 1 "_law_take" _ spTake := cal_take T
    have C_amount : Cal P w K mg base CX0 3 "_law_amount" _ spAmt := cal_amount T
    have C_spoilt : Cal P w K mg base CX0 3 "_law_spoilt" _ spSpoilt := cal_spoilt T
    have C_word : Cal P w K mg base CX0 2 "_law_word" _ (spLkF K) := cal_word T
    have C_is_told : Cal P w K mg base CX0 6 "_law_is_told" _ (spIsTold (cl "System")) := cal_is_told T
    have C_System_eq : CalM P w K mg base CX0 1 (cl "System") "__eq__" _ (spSyEq K (cl "System")) := cal_System_eq T
    have C_System_with_links : CalS P w K mg base (L2.CX P w) 6 (cl "System") "with_links" (spWith K (cl "System") (cl "BadSystem")) := cal_with_links T
    have I_System : CalC P w K mg base (L2.CX P w) 4 (cl "System") _ (spSys K (cl "System") (cl "BadSystem")) := cal_System_init T
    refine ⟨_, (pss_cons (ps_setLc (i := 4) (own := [("_law_k", 5)]) (g := gName 5) (tt := tYes) rfl sc_alike.nd rfl rfl (sw_true rfl rfl rfl (by decide +kernel)) (pi_range1 rfl T.n_range (pa_cons pe_int pa_nil)) (blkOk_by (own := [("_law_k", 5)]) (N := ["_law_bag_here", "_law_system", "_law_count", "_law_links_here", "_law_extra", "_law_k", "_law_more", "_law_wrong", "_law_due_here", "_law_found", "e"]) (sc := defScope s_alike) (by decide +kernel)) (fun _ _ _ _ _ => pg_name (i := 5) sc_alike.nd rfl (Or.inl rfl)) (fun _ _ _ _ _ => pts_nil) (fun _ _ _ _ _ => (pe_tup (pa_cons (pe_cal C_take (hr.mono (by decide)) (pa_cons (pv 0) (pa_cons (pv 2) pa_nil))) (pa_cons (pe_cal C_take (hr.mono (by decide)) (pa_cons (pv 0) (pa_cons (pv 2) pa_nil))) (pa_cons (pe_cal C_amount (hr.mono (by decide)) (pa_cons (pv 0) pa_nil)) pa_nil))))))
        (pss_cons (ps_if (PW.pt (pw_or (pt_cmpR (op_ownNe C_System_eq T.ne_System (hr.mono (by decide))) (pv 1) (pe_mk I_System T.m_System (hr.mono (by decide))  (pa_cons (pv 2) (pa_cons (pe_callTy call_tuple_of (by rfl) T.n_tuple (by decide +kernel) (pa_cons (pv 3) pa_nil)) pa_nil))) (nomark _)) (pw_or (pt_cmpR (op_own C_System_eq (hr.mono (by decide))) (pv 1) (pv 3) (nomark _)) (pw_or1 (pt_cmpR (op_own C_System_eq (hr.mono (by decide))) (pv 1) (pe_callTy call_tuple_of (by rfl) T.n_tuple (by decide +kernel) (pa_cons (pv 3) pa_nil)) (nomark _))))))
          (pss_one (ps_ret pe_bl)) pss_nil)
        (pss_cons (ps_if (PW.pt (pw_or (pt_cmpR (op_own C_System_eq (hr.mono (by decide))) (pv 1) (pe_mk I_System T.m_System (hr.mono (by decide))  (pa_cons (pv 2) (pa_cons (pe_op op_cat (pv 3) (pe_slice sl_list (pv 4) po_none (po_some pe_int))) pa_nil))) (nomark _)) (pw_or1 (pt_cmpR op_ne (pe_cmpR (op_own C_System_eq (hr.mono (by decide))) (pv 1) (pe_mk I_System T.m_System (hr.mono (by decide))  (pa_cons (pv 2) (pa_cons (pe_revL (pv 3)) pa_nil))) (nomark _)) (pe_cmpR (op_eqD hr.units) (pv 3) (pe_revL (pv 3)) (nomark _)) (nomark _)))))
          (pss_one (ps_ret pe_bl)) pss_nil)
        (pss_cut (ps_if (PW.pt (pw_and (pt_cmpR op_lt (pv 2) pe_int (nomark _)) (pw_and1 (pt_cmpR (op_own C_System_eq (hr.mono (by decide))) (pv 1) (pe_mk I_System T.m_System (hr.mono (by decide))  (pa_cons (pe_op op_add (pv 2) pe_int) (pa_cons (pv 3) pa_nil))) (nomark _)))))
          (pss_one (ps_ret pe_bl)) pss_nil)
        (pss_cons (ps_for PassesOwn.never rfl (pi_range1 rfl T.n_range (pa_cons pe_int pa_nil)) (pg_name (i := 5) sc_alike.nd rfl (Or.inl rfl))
          (pss_cons (ps_set (i := 6) sc_alike.nd rfl (Or.inl rfl) (pe_ix ix_list (pe_lst (pa_cons (pe_mthR0 T.cl_System C_System_with_links (hr.mono (by decide)) (pv 1) (fun σ => passN σ)) (pa_cons (pe_mthR T.cl_System C_System_with_links (hr.mono (by decide)) (pv 1) (fun σ => passN σ) (pa_cons (pe_ix ix_list (pv 4) pe_int (fun _ _ => rfl)) pa_nil)) (pa_cons (pe_mthR T.cl_System C_System_with_links (hr.mono (by decide)) (pv 1) (fun σ => passN σ) (pa_cons (pe_ix ix_list (pv 4) pe_int (fun _ _ => rfl)) (pa_cons (pe_callTy call_list_of (by rfl) T.n_list (by decide +kernel) (pa_cons (pe_ix ix_list (pv 4) pe_int (fun _ _ => rfl)) pa_nil)) pa_nil))) pa_nil)))) (pv 5) (fun _ _ => rfl)))
            (pss_one (ps_if (pt_not (pt_val (pe_cal C_is_told (hr.mono (by decide)) (pa_cons (pv 6) (pa_cons (pv 2) (pa_cons (pe_op op_cat (pv 3) (pe_slice sl_list (pv 4) po_none (po_some (pv 5)))) pa_nil))))))
              (pss_one (ps_ret pe_bl)) pss_nil))))
        (pss_cons (ps_set (i := 7) sc_alike.nd rfl (Or.inl rfl) (pe_cal C_spoilt (hr.mono (by decide)) (pa_cons (pv 0) (pa_cons (pe_ix ix_list (pv 4) pe_int (fun _ _ => rfl)) (pa_cons (pv 2) pa_nil)))))
        (pss_cons (ps_set (i := 8) sc_alike.nd rfl (Or.inl rfl) (pe_cut (pe_ifExp (pt_cmpR op_isN (pe_cal C_word (hr.mono (by decide)) (pa_cons (pv 7) (pa_cons (pv 2) pa_nil))) pe_non (nomark _)) pe_non (pe_tup (pa_cons (pe_op op_add (pe_callB call_len_seq (by rfl) T.n_len PySem.boot_len (pa_cons (pv 3) pa_nil)) pe_int) (pa_cons (pe_cal C_word (hr.mono (by decide)) (pa_cons (pv 7) (pa_cons (pv 2) pa_nil))) pa_nil))))))
        (pss_cut (ps_try_as (i := 10) (Wout := fun _ _ _ _ => False) rfl rfl sc_alike.nd rfl rfl ⟨rfl, by decide, Or.inl T.m_DeedError⟩ takes0
            (fun W pn xe tk po => (pss_cons (ps_expr (pe_mthR T.cl_System C_System_with_links (hr.mono (by decide)) (pv 1) (fun σ => passAt tk σ) (pa_cons (pe_ix (ix_listK (K := K) rfl) (pv 4) pe_int (fun _ _ => rfl)) (pa_cons (pv 7) pa_nil))))
              (pss_one (ps_set (i := 9) sc_alike.nd rfl (Or.inl rfl) pe_non))))
            (fun a oe cls d pn hz hf => (pss_one (ps_set (i := 9) sc_alike.nd rfl (Or.inl rfl) (pe_cut (pe_ifExp (PW.pt (pw_and (pt_val (pe_callB (call_isErr2K (K := K) (by rfl) hz hf) (by rfl) T.n_isinstance (by decide +kernel) (pa_cons (pv 10) (pa_cons (pe_cls T.m_BadSystem) pa_nil)))) (pw_and1 (pt_not (pt_val (pe_callB (call_isErr2K (K := K) (by rfl) hz hf) (by rfl) T.n_isinstance (by decide +kernel) (pa_cons (pv 10) (pa_cons (pe_cls T.m_BadTimes) pa_nil)))))))) (pe_tup (pa_cons (pe_xf (T.x_BadSystem).xf T.xf_BadSystem_index hz hf (pv 10)) (pa_cons (pe_xf (T.x_BadSystem).xf T.xf_BadSystem_what hz hf (pv 10)) pa_nil))) pe_str))))))
        (pss_one (ps_ret (pe_and (pe_cmpR (op_eqD hr.units) (pv 9) (pv 8) (nomark _)) (pe_one (pe_cal C_is_told (hr.mono (by decide)) (pa_cons (pv 1) (pa_cons (pv 2) (pa_cons (pv 3) pa_nil)))))))))))))))), ?_⟩
    have c1 := Z0.c1
    have c2 := Z0.c2
    have le := Z0.le
    have lok := Z0.lok
    have lu := Z0.L.2.length
    refine ⟨_, rfl, by decide, by decide, fun X nX => lc_range (fun i H' => ∃ (es : List V) (ks : List Lk), LlT H' X es ks ∧ (∀ l ∈ ks, LkOk c l) ∧ ks.length = i ∧ BgAt H' b ∧ But b H H') ⟨[], [], ⟨upd_same, .nil⟩, (fun l h => (by cases h)), rfl, Z0.B.same (sNew nX), But.of (sNew nX)⟩ ?_ ?_⟩
    · rintro i H1 hi ⟨es, ks, hL, kok, kl, B1, D1⟩
      have nXb := Z0.B.ne nX
      have le2 := hL.2.length
      have hi : i < 2 := hi
      refine ⟨rfl, _, rfl, _, rfl, b, c, rfl, B1, c1, by omega, fun o1 H2 o10 o11 B2 D2 => ⟨_, rfl, _, rfl, b, c, rfl, B2, c1, by omega, fun o2 H3 o20 o21 B3 D3 => ⟨_, rfl, b, rfl, B3, fun z H4 B4 D4 => ⟨by show 3 ≤ sizeLine; decide, fun q nq => ?_⟩⟩⟩⟩
      have D4 := D2.trans (D3.trans D4)
      have hL4 := hL.but nXb B1 D4
      refine ⟨es, sNew nq _ _ hL4.1, small1000 (by omega), es ++ [.ref q], ks ++ [(o1, o2, z)], lk_put (H := H) (H1 := H) (b := b) hL4 nq, fun l hl => ?_, by rw [List.length_append, kl]; rfl, (B4.same (sNew nq)).upd nXb, but_upd (but_upd (D1.trans D4) ((D1.trans D4).free (fun _ _ => trivial) nq (B4.ne nq))) nX⟩
      rcases List.mem_append.mp hl with hl | hl
      · exact kok l hl
      · rw [show l = (o1, o2, z) by simpa using hl]
        exact ⟨⟨o10, o11⟩, o20, o21⟩
    rintro H1 ⟨es, ks, hE, kok, kl, B1, D1⟩
    have nXb := Z0.B.ne nX
    obtain ⟨k0, k1, rfl⟩ : ∃ k0 k1, ks = [k0, k1] := by
      match ks, kl with
      | [k0, k1], _ => exact ⟨_, _, rfl⟩
    obtain ⟨e0, e1, rfl, hk0, hk1⟩ : ∃ e0 e1, es = [.ref e0, .ref e1] ∧ H1 e0 = some (.tup (lkV k0)) ∧ H1 e1 = some (.tup (lkV k1)) := by
      obtain ⟨_, pe⟩ := hE
      cases pe with
      | cons h t => cases t with
        | cons h2 t2 => cases t2 with
          | nil =>
            obtain ⟨e0, rfl, x0⟩ := h
            obtain ⟨e1, rfl, x1⟩ := h2
            exact ⟨e0, e1, rfl, x0, x1⟩
    have Z := Z0.but B1 D1
    obtain ⟨dx, hself⟩ := Z.X.self
    refine ⟨_, rfl, _, rfl, _, rfl, a, _, rfl, .inl ⟨SqL.of Z.L.1, fun t1 n1 => ?_⟩⟩
    have S1 := sNew (o := .tup lus) n1
    refine mkSy T c1 c2 lok (by omega) (.inr upd_same) (Z.L.same S1).2 fun p2 t2 us2 H2 S2 X2 => ?_
    have S2 := S1.trans S2
    refine ownSyNe T (Z.X.same S2) X2 ?_
    rw [decide_eq_true rfl, lksD_self]
    refine ⟨_, rfl, iteF ⟨_, rfl, _, rfl, ownSyN T (Z.X.same S2) (.lst (S2 _ _ Z.L.1)) ⟨_, rfl, iteF ?_⟩⟩⟩
    refine ⟨_, rfl, _, rfl, a, _, rfl, .inl ⟨SqL.of (S2 _ _ Z.L.1), fun t3 n3 => ?_⟩⟩
    have S3 := sNew (o := .tup lus) n3
    have S3 := S2.trans S3
    refine ownSyN T (Z.X.same S3) (.tup upd_same) ⟨_, rfl, iteF ?_⟩
    clear X2 S1 S2
    have l2 : lus.length ≤ 70 := by omega
    refine ⟨_, rfl, _, rfl, _, rfl, _, rfl, _, rfl, X, _, rfl, SqL.of (S3 _ _ hE.1), fun q1 n1 => ?_⟩
    rw [show cutV [V.ref e0, .ref e1] none (some (1 : Int)) = [V.ref e0] from cut_take _ 1]
    have S4 := sNew (o := .lst [V.ref e0]) n1
    refine ⟨a, q1, _, _, rfl, rfl, S4 _ _ (S3 _ _ Z.L.1), upd_same, Nat.le_of_lt (small1000 (by rw [List.length_singleton]; omega)), fun q2 n2 => ?_⟩
    have S5 := sNew (o := .lst (lus ++ [V.ref e0])) n2
    have S6 := S3.trans (S4.trans S5)
    have kE : ∀ l ∈ ls ++ [k0], LkOk c l := fun l hl => by
      rcases List.mem_append.mp hl with hl | hl
      · exact lok l hl
      · rw [show l = k0 by simpa using hl]
        exact kok k0 (by simp)
    refine mkSy T c1 c2 kE (by rw [List.length_append, List.length_singleton]; omega) (.inl upd_same) (Paired.appendP (Z.L.same S6).2 (.cons ⟨e0, rfl, S6 _ _ hk0⟩ .nil)) fun p3 t3' us3 H7 S7 X3 => ?_
    have S7 := S6.trans S7
    refine ownSy T (Z.X.same S7) X3 ?_
    rw [lksD_len (by rw [List.length_append, List.length_singleton]; omega), Bool.and_false]
    refine ⟨_, rfl, iteF ?_⟩
    clear X3 S3 S4 S5 S6
    refine ⟨_, rfl, _, rfl, _, rfl, a, _, rfl, SqL.of (S7 _ _ Z.L.1), fun q3 n3 => ?_⟩
    have S8 := S7.trans (sNew (o := .lst lus.reverse) n3)
    refine mkSy T c1 c2 (ls := ls.reverse) (fun l hl => lok l (List.mem_reverse.mp hl)) (by rw [List.length_reverse]; omega) (.inl upd_same) (Paired.revP (Z.L.same S8).2) fun p4 t4 us4 H9 S9 X4 => ?_
    have S9 := S8.trans S9
    refine ownSy T (Z.X.same S9) X4 ?_
    rw [decide_eq_true rfl, Bool.true_and]
    refine ⟨_, rfl, _, rfl, a, _, rfl, SqL.of (S9 _ _ Z.L.1), fun q4 n4 => ?_⟩
    have S10 := S9.trans (sNew (o := .lst lus.reverse) n4)
    have fl := lks_fl ls
    have flr := lks_fl ls.reverse
    refine ⟨_, _, dp_lst (SqL.of (S10 _ _ Z.L.1)) (lks_dp (Z.L.same S10).2), dp_lst (SqL.of upd_same) (lks_dp (Paired.revP (Z.L.same S10).2)), fls_shaped true fl, fls_shaped true flr, ?_⟩
    rw [lksD_all, show PyData.eqv (lksD ls) (lksD ls.reverse) = PyData.eqvAll (ls.map lkD) (ls.reverse.map lkD) from lksD_all false ls ls.reverse]
    refine ⟨rfl, _, rfl, ite2 (fun g => absurd g (by simp)) (fun _ => ?_)⟩
    clear X4 S7 S8 S9
    have Z := Z.same S10
    have hE := hE.same S10
    have hk0 := S10 _ _ hk0
    have hk1 := S10 _ _ hk1
    have D10 := D1.trans (But.of S10)
    generalize upd H9 q4 (.lst lus.reverse) = H10 at Z hE hk0 hk1 D10
    clear S10 n4 n3 n2 n1
    refine ⟨fun σ' H' => Same H10 H' ∧ σ' = [some (.ref b), some (.ref p), some (.int c), some (.ref a), some (.ref X), none, none, none, none, none, none], ?_, ?_⟩
    · refine ⟨_, rfl, _, _, rfl, rfl, _, rfl, ite2 (fun g => ?_) (fun _ => ⟨Same.refl _, rfl⟩)⟩
      have g := of_decide_eq_true g
      refine ⟨_, rfl, _, rfl, _, _, rfl, rfl, _, rfl, mkSy T (c := c + 1) (by omega) (by omega) (fun l hl => (by have := lok l hl; unfold LkOk at *; omega)) (by omega) (.inl Z.L.1) Z.L.2 fun p5 t5 us5 H11 S11 X5 => ?_⟩
      refine ownSy T (Z.X.same S11) X5 ?_
      rw [decide_eq_false (show ¬ c = c + 1 by omega), Bool.false_and]
      exact ⟨_, rfl, iteF ⟨S11, rfl⟩⟩
    rintro σ' H11 ⟨S11, rfl⟩
    have Z := Z.same S11
    have hE := hE.same S11
    have hk0 := S11 _ _ hk0
    have hk1 := S11 _ _ hk1
    have D11 := D10.trans (But.of S11)
    clear S11 D10
    refine ⟨_, rfl, by decide, by decide, for_range (fun i σ H' => Same H11 H' ∧ ∃ v5 v6 : Option V, σ = [some (.ref b), some (.ref p), some (.int c), some (.ref a), some (.ref X), v5, v6, none, none, none, none]) ⟨Same.refl _, _, _, rfl⟩ ?_ ?_⟩
    · rintro i σ H12 hi ⟨S12, v5, v6, rfl⟩
      have hi : i < 3 := hi
      have Z := Z.same S12
      have hE := hE.same S12
      have hk0 := S12 _ _ hk0
      have hk1 := S12 _ _ hk1
      obtain ⟨dx, hself⟩ := Z.X.self
      refine ⟨_, rfl, p, _, _, rfl, hself, rfl, p, [], rfl, by show 0 ≤ sizeLine; exact Nat.zero_le _, fun q1 n1 => ?_⟩
      have S1 := sNew (o := .tup []) n1
      refine wlI (ks := []) c1 c2 lok (fun l h => (by cases h)) (by show ls.length + 0 ≤ 200; omega) (Z.X.same S1) upd_same .nil fun p1 t1 us1 H13 S13 X1 => ?_
      have S13 := S1.trans S13
      refine ⟨_, rfl, p, _, _, rfl, S13 _ _ hself, rfl, _, rfl, X, _, _, _, rfl, rfl, SqL.of (S13 _ _ hE.1), atI_nat (j := 0) rfl, p, [.ref e0], rfl, by show 1 ≤ sizeLine; decide, fun q2 n2 => ?_⟩
      have S14 := S13.trans (sNew (o := .tup [.ref e0]) n2)
      have S14b := sNew (o := .tup [.ref e0]) n2
      refine wlI (ks := [k0]) c1 c2 lok (fun l h => kok l (by rw [show l = k0 by simpa using h]; simp)) (by show ls.length + 1 ≤ 200; omega) (Z.X.same S14) upd_same (.cons ⟨e0, rfl, .inr (S14 _ _ hk0)⟩ .nil) fun p2 t2 us2 H15 S15 X2 => ?_
      have S15b := S14b.trans S15
      have X1 := X1.same S15b
      have S15 := S14.trans S15
      refine ⟨_, rfl, p, _, _, rfl, S15 _ _ hself, rfl, _, rfl, X, _, _, _, rfl, rfl, SqL.of (S15 _ _ hE.1), atI_nat (j := 0) rfl, _, rfl, X, _, _, _, rfl, rfl, SqL.of (S15 _ _ hE.1), atI_nat (j := 1) rfl, e1, _, rfl, .inr (SqT.of (S15 _ _ hk1)), fun l1 nl1 => ?_⟩
      have S16b := sNew (o := .lst (lkV k1)) nl1
      refine ⟨p, [.ref e0, .ref l1], rfl, by show 2 ≤ sizeLine; decide, fun q3 n3 => ?_⟩
      have S17b := S16b.trans (sNew (o := .tup [.ref e0, .ref l1]) n3)
      have S17 := S15.trans S17b
      have hl1 := sNew (o := .tup [.ref e0, .ref l1]) n3 _ _ (upd_same (H := H15) (a := l1) (o := .lst (lkV k1)))
      refine wlI (ks := [k0, k1]) c1 c2 lok kok (by show ls.length + 2 ≤ 200; omega) (Z.X.same S17) upd_same (.cons ⟨e0, rfl, .inr (S17 _ _ hk0)⟩ (.cons ⟨l1, rfl, .inl hl1⟩ .nil)) fun p3 t3 us3 H18 S18 X3 => ?_
      have S18b := S17b.trans S18
      have X1 := X1.same S18b
      have X2 := X2.same S18b
      have S18 := S17.trans S18
      refine ⟨by show 3 ≤ sizeLine; decide, fun O nO => ?_⟩
      have S19b := sNew (o := .lst [.ref p1, .ref p2, .ref p3]) nO
      have X1 := X1.same S19b
      have X2 := X2.same S19b
      have X3 := X3.same S19b
      have hO : (upd H18 O (.lst [.ref p1, .ref p2, .ref p3])) O = some (.lst [.ref p1, .ref p2, .ref p3]) := upd_same
      have S19 := S18.trans S19b
      clear S13 S14 S14b S15 S15b S16b S17b S17 S18b S18 S19b hl1 S1
      generalize upd H18 O (.lst [.ref p1, .ref p2, .ref p3]) = H19 at X1 X2 X3 hO S19
      have pick : ∃ (pm tm : Addr) (um : List V), ([.ref p1, .ref p2, .ref p3] : List V)[i]? = some (.ref pm) ∧ SyAt (cl "System") H19 pm c tm um (ls ++ [k0, k1].take i) := by
        have : i = 0 ∨ i = 1 ∨ i = 2 := by omega
        rcases this with rfl | rfl | rfl
        · exact ⟨p1, t1, us1, rfl, X1⟩
        · exact ⟨p2, t2, us2, rfl, X2⟩
        · exact ⟨p3, t3, us3, rfl, X3⟩
      obtain ⟨pm, tm, um, hat, XM⟩ := pick
      rw [show (0 : Int) + (i : Nat) = ((i : Nat) : Int) from Int.zero_add _]
      refine ⟨_, rfl, O, _, _, _, rfl, rfl, SqL.of hO, atI_nat hat, ?_⟩
      have Z := Z.same S19
      have hE := hE.same S19
      refine ⟨_, rfl, _, rfl, _, rfl, _, rfl, _, rfl, _, rfl, X, _, rfl, SqL.of hE.1, fun q4 n4 => ?_⟩
      rw [show cutV [V.ref e0, .ref e1] none (some (i : Int)) = [V.ref e0, .ref e1].take i from cut_take _ i]
      have S20 := sNew (o := .lst ([V.ref e0, .ref e1].take i)) n4
      refine ⟨a, q4, _, _, rfl, rfl, S20 _ _ Z.L.1, upd_same, Nat.le_of_lt (small1000 (by rw [List.length_take, lu]; omega)), fun q5 n5 => ?_⟩
      have S21 := S20.trans (sNew (o := .lst (lus ++ [V.ref e0, .ref e1].take i)) n5)
      refine ⟨pm, tm, q5, c, um, _, _, rfl, XM.same S21, ⟨upd_same, Paired.appendP (Z.L.same S21).2 (Paired.takeP i (hE.same S21).2)⟩, by rw [List.length_append, List.length_take]; omega, fun H22 S22 => ⟨_, rfl, iteF ⟨S12.trans (S19.trans (S21.trans S22)), _, _, rfl⟩⟩⟩
    · rintro σ H12 ⟨S12, v5, v6, rfl⟩
      have Z := Z.same S12
      have hE := hE.same S12
      have hk0 := S12 _ _ hk0
      have D12 := D11.trans (But.of S12)
      clear S12 D11 hk1
      refine ⟨_, rfl, _, rfl, X, _, _, _, rfl, rfl, SqL.of hE.1, atI_nat (j := 0) rfl, _, rfl, b, e0, c, k0, rfl, Z.B, hk0, fun v r H13 h1 h2 h3 B13 D13 => ?_⟩
      have hE := hE.but nXb Z.B D13
      have hk0 := D13 _ _ hk0 (Z.B.tup hk0)
      have Z := Z.but B13 D13
      have D13 := D12.trans D13
      clear D12
      have due : sysW (.int c) (some (ls.map lkR ++ [lkR k0, r])) = addV c ls.length r := by
        rw [sysW_app c1 c2 lok (by show ls.length + 2 ≤ 200; omega)]
        have st0 : linksW c ls.length [lkR k0, r] = (match linkW c (lkR k0) with
          | some w => some (V.int (ls.length : Nat), w)
          | none => linksW c (ls.length + 1) [r]) := rfl
        have st1 : linksW c (ls.length + 1) [r] = (match linkW c r with
          | some w => some (V.int ((ls.length + 1 : Nat) : Int), w)
          | none => none) := rfl
        rw [st0, linkW_lk (kok k0 (by simp))]
        show linksW c (ls.length + 1) [r] = _
        rw [st1]
        unfold addV
        cases linkW c r <;> rfl
      refine ⟨fun v' H' => Same H13 H' ∧ DueV H' v' (addV c ls.length r), ?_, fun v' H14 ⟨S14, hv'⟩ => ?_⟩
      · refine ⟨_, rfl, _, rfl, v, r, c, rfl, h1, h2, fun H14 S14 => ?_⟩
        unfold addV
        cases ew : linkW c r with
        | none => exact ⟨rfl, _, rfl, iteT ⟨S14, rfl⟩⟩
        | some wd =>
          refine ⟨rfl, _, rfl, iteF ⟨_, rfl, a, _, rfl, .inl (SqL.of (S14 _ _ Z.L.1)), _, _, rfl, rfl, _, rfl, _, rfl, v, r, c, rfl, h1.same S14, h2, fun H15 S15 => ⟨by show 2 ≤ sizeLine; decide, fun q nq => ?_⟩⟩⟩
          rw [lu, ew]
          exact ⟨(S14.trans S15).trans (sNew nq), q, rfl, upd_same⟩
      have okA : DuOk (addV c ls.length r) := due ▸ sysW_ok
      have Z := Z.same S14
      have hE := hE.same S14
      have hk0 := S14 _ _ hk0
      have h1 := h1.same S14
      have D14 := D13.trans (But.of S14)
      clear D13 S14
      obtain ⟨dx, hself⟩ := Z.X.self
      refine ⟨fun σ' H' => ∃ (vf : V), Same H14 H' ∧ DueV H' vf (addV c ls.length r) ∧ σ' = [some (.ref b), some (.ref p), some (.int c), some (.ref a), some (.ref X), v5, v6, some v, some v', some vf, none], ?_, ?_⟩
      · refine ⟨_, rfl, p, _, _, rfl, hself, rfl, _, rfl, X, _, _, _, rfl, rfl, SqL.of hE.1, atI_nat (j := 0) rfl, _, rfl, p, [.ref e0, v], rfl, by show 2 ≤ sizeLine; decide, fun q nq => ?_⟩
        have S15 := sNew (o := .tup [.ref e0, v]) nq
        refine ⟨p, q, t, c, us, _, ls, [lkR k0, r], rfl, Z.X.same S15, upd_same, .cons ⟨e0, rfl, .inr (S15 _ _ hk0)⟩ (.cons (h1.same S15) .nil), fun x hx => ?_, by show ls.length + 2 ≤ 300; omega, fun i w G e hd S2 he => ?_, fun p' ls' t' us' H16 _ hn S16 _ => ?_⟩
        · rcases (show x = lkR k0 ∨ x = r by simpa using hx) with rfl | rfl
          · exact lkR_ok _
          · exact h2
        · rw [due] at hd
          have S2 := S15.trans S2
          refine ⟨true, T.bs_de, fun _ a0 _ => ?_, fun q => Bool.noConfusion q⟩
          refine ⟨fun vf H' => Same H14 H' ∧ DueV H' vf (addV c ls.length r), ?_, fun vf H' ⟨S3, hf⟩ => ?_⟩
          · refine ⟨_, rfl, _, _, true, _, rfl, rfl, fun dd e1 => (by cases e1; exact ⟨_, upd_same⟩), T.x_BadSystem, .own _, T.kb_bs, _, rfl, iteT ?_⟩
            refine ⟨_, rfl, _, _, false, _, rfl, rfl, fun dd e1 => (by cases e1; exact ⟨_, upd_same⟩), T.x_BadSystem, .own _, T.kb_bt, _, rfl, iteT ?_⟩
            refine ⟨_, rfl, rfl, rfl, e, _, _, rfl, upd_same, rfl, _, rfl, rfl, rfl, e, _, _, rfl, upd_same, rfl, by show 2 ≤ sizeLine; decide, fun t ht => ?_⟩
            refine ⟨(same_upd S2 (S15.free he)).trans (sNew ht), ?_⟩
            rw [hd]
            exact ⟨t, rfl, upd_same⟩
          · exact ⟨vf, S3, hf, rfl⟩
        · rw [due] at hn
          refine ⟨.non, S15.trans S16, ?_, rfl⟩
          rw [hn]
          exact rfl
      rintro σ' H15 ⟨vf, S15, hf, rfl⟩
      have Z := Z.same S15
      refine ⟨_, rfl, _, rfl, _, _, due_dp hf okA, due_dp (hv'.same S15) okA, due_sh okA, due_sh okA, ?_⟩
      rw [due_self]
      refine ⟨_, rfl, iteT ⟨_, rfl, _, rfl, _, rfl, p, t, a, c, us, lus, ls, rfl, Z.X, Z.L, by omega, fun H16 S16 => ?_⟩⟩
      exact k _ (Z.same S16).B (D14.trans (But.of (S15.trans S16)))
theorem cal_alike (T : Txt P w K mg cl) : Cal P w K mg base CX0 8 "_law_alike" ["_law_bag_here", "_law_system", "_law_count", "_law_links_here"] (spPaths (cl "System")) := by
  obtain ⟨f, fd, F, m⟩ := T.d_alike
  exact ⟨f, fd, ok_alike F T, m, F.kp, F.binds fun _ _ _ _ _ _ us hl => match us, hl with | [_, _, _, _], _ => rfl⟩
end
end My
set_option Elab.async false
set_option linter.all false
set_option maxRecDepth 100000
set_option maxHeartbeats 1000000
namespace My
open PySem L2 Dw Wp
open C8 (pss_cut tCut)
set_option pp.maxSteps 600
def spSys0 (K : PySem.W.Frag) (C a0 : Addr) : Sp := fun vs H Q _ => ∃ (p dx : Addr) (c : Int), vs = [.ref p, .int c, .ref a0] ∧ H p = some (.ins C dx []) ∧ 1 ≤ c ∧ c ≤ 12 ∧ (∀ H, SqT K H a0 []) ∧ ∀ t H', But p H H' → SyAt C H' p c t [] [] → Q .non H'
section
variable {P : Program} {w : World} {K : PySem.W.Frag} {mg : Str → Option Value} {base : Heap} {cl : String → Addr}
theorem ok_System_init0 {f : Addr} {fd : FuncData} {a0 : Addr} (F : HeM.FunV K "__init__" "System.__init__" s_System_init f fd) (T : Txt P w K mg cl) : FnOk P w K mg base (L2.CX P w) 4 f fd ["self", "count", "links"] (spSys0 K (cl "System") a0) := by
  refine HeM.FunV.ok F sc_System_init (fun vs H Q E h => ?_) (fun cdv A outer s H vs Q E hr h => ?_)
  · obtain ⟨p, dx, c, rfl, _⟩ := h
    rfl
  · obtain ⟨p, dx, c, rfl, hp, c1, c2, ha, good⟩ := h
    have C_is_integer : Cal P w K mg base CX0 1 "is_integer" _ (spIsI K) := cal_is_integer T
    have C_link_fault : Cal P w K mg base CX0 3 "link_fault" _ (spLkF K) := cal_link_fault T
    refine ⟨_, (pss_cons (ps_if (PW.pt (pw_or (pt_not (pt_val (pe_cal C_is_integer (hr.mono (by decide)) (pa_cons (pv 1) pa_nil)))) (pw_or1 (pt_not (pt_chain op_le op_le pe_int (pv 1) (pe_gl T.c_MOST_INSTANTS))))))
          (pss_one (ps_raiseO rfl (ini_BadSystem (base := base) T) T.m_BadSystem (hr.mono (by decide)) (takes_of rfl rfl rfl rfl) (by exact (pa_cons pe_non (pa_cons pe_str pa_nil))))) pss_nil)
        (pss_cons (ps_if (PW.pt (pw_or (pt_not (pt_val (pe_callB call_isiT (by rfl) T.n_isinstance (by decide +kernel) (pa_cons (pv 2) (pa_cons (pe_tup (pa_cons (pe_ty "list" T.n_list) (pa_cons (pe_ty "tuple" T.n_tuple) pa_nil))) pa_nil))))) (pw_or1 (pt_cmpR op_gt (pe_callB call_len_seq (by rfl) T.n_len PySem.boot_len (pa_cons (pv 2) pa_nil)) (pe_gl T.c_MOST_LINKS) (nomark _)))))
          (pss_one (ps_raiseO rfl (ini_BadSystem (base := base) T) T.m_BadSystem (hr.mono (by decide)) (takes_of rfl rfl rfl rfl) (by exact (pa_cons pe_non (pa_cons pe_str pa_nil))))) pss_nil)
        (pss_cons (ps_for (passes_of rfl) rfl (pi_enuK (by rfl) T.n_enumerate (pa_cons (pv 2) pa_nil)) (pg_tup rfl (pgs_cons (pg_name (i := 3) sc_System_init.nd rfl (Or.inl rfl)) (pgs_cons (pg_name (i := 4) sc_System_init.nd rfl (Or.inl rfl)) pgs_nil)))
          (pss_cons (ps_set (i := 5) sc_System_init.nd rfl (Or.inl rfl) (pe_cal C_link_fault (hr.mono (by decide)) (pa_cons (pv 4) (pa_cons (pv 1) pa_nil))))
            (pss_one (ps_if (pt_cmpR op_notN (pv 5) pe_non (nomark _))
              (pss_one (ps_raiseO rfl (ini_BadSystem (base := base) T) T.m_BadSystem (hr.mono (by decide)) (takes_of rfl rfl rfl rfl) (by exact (pa_cons (pv 3) (pa_cons (pv 5) pa_nil))))) pss_nil))))
        (pss_cons (ps_fld (pv 0) (pv 1) rfl)
        (pss_one (ps_fld (pv 0) (pe_callTy call_tuple_of (by rfl) T.n_tuple (by decide +kernel) (pa_cons (pe_lc (own := [("link", 4)]) (g := gName 4) (tt := tYes) rfl sc_System_init.nd (pi_tup (pv 2)) (blkOk_by (own := [("link", 4)]) (N := ["self", "count", "links", "index", "link", "word"]) (sc := defScope s_System_init) (by decide +kernel)) (fun _ _ _ _ _ => pg_name (i := 4) sc_System_init.nd rfl (Or.inl rfl)) (fun _ _ _ _ _ => pts_nil) (fun _ _ _ _ _ => (pe_callTy (call_tuple_ofK (K := K) rfl) (by rfl) T.n_tuple (by decide +kernel) (pa_cons (pv 4) pa_nil)))) pa_nil)) rfl)))))), ?_⟩
    refine ⟨_, rfl, .int c, "int", rfl, .int c, _, rfl, iteF ⟨_, rfl, _, _, rfl, rfl, _, rfl, ?_⟩⟩
    rw [decide_eq_true c1]
    refine iteT ⟨_, _, rfl, rfl, _, rfl, ?_⟩
    rw [decide_eq_true c2]
    refine iteF ⟨_, rfl, by show 2 ≤ sizeLine; decide, fun tp htp => ?_⟩
    have S0 := sNew (o := .tup [.ty "list", .ty "tuple"]) htp
    refine ⟨_, tp, _, _, _, _, rfl, upd_same, .cons (.ty "list") (.cons (.ty "tuple") .nil), tyK0 ha _, kitAny_cons (b := false) (kit_ty (by decide +kernel)) (fun _ => kitAny_cons (b := true) (kit_ty (by decide +kernel)) (fun h => nomatch h) (fun _ => rfl)) (fun h => nomatch h), _, rfl, iteF ?_⟩
    refine ⟨_, rfl, a0, [], rfl, .inr (ha _), _, _, rfl, rfl, _, rfl, ?_⟩
    refine iteF ⟨_, rfl, a0, [], rfl, ha _, fun J wk => for_it wk (fun i σ H' => H' = upd H tp (.tup [.ty "list", .ty "tuple"]) ∧ σ = [some (.ref p), some (.int c), some (.ref a0), none, none, none]) ⟨rfl, rfl⟩ (fun i σ H' _ _ => ha H') (fun i x σ H3 H4 hi => absurd hi (Nat.not_lt_zero i)) ?_⟩
    rintro σ H3 ⟨rfl, rfl⟩
    have hself := S0 _ _ hp
    refine ⟨_, rfl, _, rfl, p, _, dx, _, rfl, hself, T.cl_System, T.na_System _ (by decide), (by show 0 < 1000; decide), ?_⟩
    have hs1 : (upd (upd H tp (.tup [.ty "list", .ty "tuple"])) p (.ins (cl "System") dx [("count", .int c)])) p = some (.ins (cl "System") dx [("count", .int c)]) := upd_same
    have D1 : But p H (upd (upd H tp (.tup [.ty "list", .ty "tuple"])) p (.ins (cl "System") dx [("count", .int c)])) := fun b o e n => (upd_ne n).trans (S0 _ _ e)
    refine ⟨_, rfl, a0, rfl, ⟨_, ha _⟩, fun D nD => lc_tup (K := K) (a := a0) (xs := []) (fun i H' => H' = upd (upd (upd H tp (.tup [.ty "list", .ty "tuple"])) p (.ins (cl "System") dx [("count", .int c)])) D (.lst [])) rfl (fun i H' _ _ => ha H') (fun i x H' hx => (by cases hx)) ?_⟩
    rintro H3 rfl
    refine ⟨D, [], rfl, .inl ⟨SqL.of upd_same, fun t ht => ?_⟩⟩
    have SD := sNew (o := .lst []) nD
    have St := sNew (o := .tup []) ht
    have hs2 := St _ _ (SD _ _ hs1)
    have npt : p ≠ t := ne_of_none (SD _ _ hs1) ht
    refine ⟨_, rfl, p, _, dx, _, rfl, hs2, T.cl_System, T.na_System _ (by decide), (by show 1 < 1000; decide), ?_⟩
    exact good t _ (fun b o e n => (upd_ne n).trans (St _ _ (SD _ _ (D1 _ _ e n)))) ⟨⟨dx, upd_same⟩, (upd_ne (Ne.symm npt)).trans upd_same, .nil⟩
theorem cal_System0 (T : Txt P w K mg cl) : ∃ a0, CalCD P w K mg base (L2.CX P w) 4 (cl "System") ["self", "count", "links"] (spSys0 K (cl "System") a0) [.ref a0] ∧ ∀ H, SqT K H a0 [] := by
  obtain ⟨f, fd, F, m⟩ := T.i_System
  obtain ⟨a0, F0, h0⟩ := id F
  obtain ⟨ds, r, b⟩ := F0.binds1 (ps := ["self", "count", "links"]) 2 0 (by simp) rfl fun _ _ _ _ _ _ _ us its hl hi => match us, its, hl, hi with | [_, _], [_], _, _ => ⟨_, rfl, rfl⟩
  exact ⟨a0, ⟨f, fd, ds, ok_System_init0 F T, m, r, b⟩, h0⟩
end
end My
set_option Elab.async false
set_option linter.all false
set_option maxRecDepth 100000
set_option maxHeartbeats 1000000
namespace My
open PySem L2 Dw Wp
open C8 (pss_cut tCut)
set_option pp.maxSteps 600
/-- a list that holds a link, made after Hb -/
def LgT (Hb : Hp) (D : Addr) (H : Hp) (v : V) (l : Lk) : Prop := ∃ b, v = .ref b ∧ Hb b = none ∧ b ≠ D ∧ H b = some (.lst (lkV l))
theorem LgT.same {Hb H H' : Hp} {D : Addr} {v : V} {l : Lk} (h : LgT Hb D H v l) (S : Same H H') : LgT Hb D H' v l := let ⟨b, h1, h2, h3, h4⟩ := h; ⟨b, h1, h2, h3, S _ _ h4⟩
theorem LgT.updD {Hb H : Hp} {D : Addr} {v : V} {l : Lk} {o : HO} (h : LgT Hb D H v l) : LgT Hb D (upd H D o) v l := let ⟨b, h1, h2, h3, h4⟩ := h; ⟨b, h1, h2, h3, (upd_ne h3).trans h4⟩
theorem lgs_rd {Hb H : Hp} {D : Addr} : ∀ {gs : List V} {ls : List Lk}, Paired (LgT Hb D H) gs ls → Paired (RdAt H) gs (ls.map lkR)
  | _, _, .nil => .nil
  | _, _, .cons ⟨b, e, _, _, hb⟩ t => .cons ⟨b, e, .inl hb⟩ (lgs_rd t)
def lkE (l : Lk) : PyData := sqD true ((lkV l).map vD)
theorem lgs_dp {K : PySem.W.Frag} {Hb H : Hp} {D : Addr} : ∀ {gs : List V} {ls : List Lk}, Paired (LgT Hb D H) gs ls → DpAll K H gs (ls.map lkE)
  | _, _, .nil => .nil
  | _, _, .cons ⟨b, e, _, _, hb⟩ t => by
    subst e
    exact .cons (dp_lst (SqL.of hb) (dpvs fun x hx => okV.flat (lk_okV _ x hx))) (lgs_dp t)
theorem lge_fl (ls : List Lk) : ∀ d ∈ ls.map lkE, Fl1 d := fun d hd => by
  obtain ⟨l, _, rfl⟩ := List.mem_map.mp hd
  exact fl_row true (lk_okV l)
theorem SyAt.updL {C : Addr} {H : Hp} {p t q : Addr} {c : Int} {us xs : List V} {ls : List Lk} {o : HO} (h : SyAt C H p c t us ls) (e : H q = some (.lst xs)) : SyAt C (upd H q o) p c t us ls := by
  obtain ⟨⟨dx, h1⟩, h2, h3⟩ := h
  exact ⟨⟨dx, (upd_ne (ne_of h1 e (fun z => nomatch z))).trans h1⟩, (upd_ne (ne_of h2 e (fun z => nomatch z))).trans h2, Paired.impP (fun _ _ q => q.upd e) h3⟩
def spLaw (K : PySem.W.Frag) : Sp := fun vs H Q _ => ∃ (a : Addr) (ns : List Int), vs = [.ref a] ∧ SqL K H a (ns.map V.int) ∧ ns.length ≤ 63 ∧ ∀ H', Q (.bl true) H'
section
variable {P : Program} {w : World} {K : PySem.W.Frag} {mg : Str → Option Value} {base : Heap} {cl : String → Addr}
theorem ok_law {f : Addr} {fd : FuncData} (F : Fun K "law" "law" s_law f fd) (T : Txt P w K mg cl) : FnOk P w K mg base CX0 10 f fd ["_law_script"] (spLaw K) := by
  refine F.ok sc_law (fun vs H Q E h => ?_) (fun cdv A outer s H vs Q E hr h => ?_)
  · obtain ⟨a, ns, rfl, _⟩ := h
    rfl
  · obtain ⟨a, ns, rfl, hS, hl, k⟩ := h
    have C_bag : Cal P w K mg base CX0 1 "_law_bag" _ (spBag K) := cal_bag T
    have C_take : Cal P w K mg base CX0 1 "_law_take" _ spTake := cal_take T
    have C_times : Cal P w K mg base CX0 4 "_law_times" _ spTimes := cal_times T
    have C_links : Cal P w K mg base CX0 4 "_law_links" _ spLinks := cal_links T
    have C_is_told : Cal P w K mg base CX0 6 "_law_is_told" _ (spIsTold (cl "System")) := cal_is_told T
    have C_alike : Cal P w K mg base CX0 8 "_law_alike" _ (spPaths (cl "System")) := cal_alike T
    have C_kept : Cal P w K mg base CX0 7 "_law_kept" _ (spKept (cl "System")) := cal_kept T
    have C_paths : Cal P w K mg base CX0 7 "_law_paths" _ (spPaths (cl "System")) := cal_paths T
    have C_judged : Cal P w K mg base CX0 7 "_law_judged" _ (spKept (cl "System")) := cal_judged T
    have C_refused : Cal P w K mg base CX0 8 "_law_refused" _ (spRef (cl "System")) := cal_refused T
    have I_System : CalC P w K mg base (L2.CX P w) 4 (cl "System") _ (spSys K (cl "System") (cl "BadSystem")) := cal_System_init T
    obtain ⟨a0, I_System0, ha0⟩ := cal_System0 (base := base) T
    refine ⟨_, (pss_cons (ps_for PassesOwn.never rfl (pi_range1 rfl T.n_range (pa_cons (pe_callB (call_max2 rfl) (by rfl) T.n_max (by decide +kernel) (pa_cons pe_int (pa_cons (pe_callB (call_min2 rfl) (by rfl) T.n_min (by decide +kernel) (pa_cons pe_int (pa_cons (pe_callB call_len_seq (by rfl) T.n_len PySem.boot_len (pa_cons (pv 0) pa_nil)) pa_nil))) pa_nil))) pa_nil)) (pg_name (i := 1) sc_law.nd rfl (Or.inl rfl))
          (pss_cons (ps_set (i := 2) sc_law.nd rfl (Or.inl rfl) (pe_cal C_bag (hr.mono (by decide)) (pa_cons (pv 0) (pa_cons (pv 1) pa_nil))))
            (pss_cons (ps_set (i := 3) sc_law.nd rfl (Or.inl rfl) (pe_cmpR op_eq (pe_cal C_take (hr.mono (by decide)) (pa_cons (pv 2) (pa_cons pe_int pa_nil))) pe_int (nomark _)))
            (pss_cons (ps_set (i := 4) sc_law.nd rfl (Or.inl rfl) (pe_cut (pe_ifExp (pt_val (pv 3)) (pe_op op_sub pe_int (pe_cal C_take (hr.mono (by decide)) (pa_cons (pv 2) (pa_cons pe_int pa_nil)))) (pe_op op_add pe_int (pe_cal C_take (hr.mono (by decide)) (pa_cons (pv 2) (pa_cons pe_int pa_nil)))))))
            (pss_cons (ps_set (i := 5) sc_law.nd rfl (Or.inl rfl) (pe_cal C_times (hr.mono (by decide)) (pa_cons (pv 2) (pa_cons (pv 4) pa_nil))))
            (pss_cons (ps_set (i := 6) sc_law.nd rfl (Or.inl rfl) (pe_cut (pe_ifExp (pt_cmpR op_gt (pe_cal C_take (hr.mono (by decide)) (pa_cons (pv 2) (pa_cons pe_int pa_nil))) pe_int (nomark _)) (pv 5) pe_non)))
            (pss_cons (ps_set (i := 7) sc_law.nd rfl (Or.inl rfl) (pe_cal C_links (hr.mono (by decide)) (pa_cons (pv 2) (pa_cons (pv 4) (pa_cons (pe_cut (pe_ifExp (pt_val (pv 3)) (pe_cal C_take (hr.mono (by decide)) (pa_cons (pv 2) (pa_cons pe_int pa_nil))) (pe_cal C_take (hr.mono (by decide)) (pa_cons (pv 2) (pa_cons pe_int pa_nil))))) (pa_cons (pv 6) pa_nil))))))
            (pss_cons (ps_setLc (i := 8) (own := [("_law_x", 11)]) (g := gName 11) (tt := tYes) rfl sc_law.nd rfl rfl (sw_true rfl rfl rfl (by decide +kernel)) (pi_list (pv 7)) (blkOk_by (own := [("_law_x", 11)]) (N := ["_law_script", "_law_at", "_law_bag_here", "_law_is_large", "_law_count", "_law_times_here", "_law_fitting", "_law_links_here", "_law_given", "_law_system", "_law_spoilt_here", "_law_x"]) (sc := defScope s_law) (by decide +kernel)) (fun _ _ _ _ _ => pg_name (i := 11) sc_law.nd rfl (Or.inl rfl)) (fun _ _ _ _ _ => pts_nil) (fun _ _ _ _ _ => (pe_callTy (call_list_ofK (K := K) rfl) (by rfl) T.n_list (by decide +kernel) (pa_cons (pv 11) pa_nil))))
            (pss_cons (ps_set (i := 9) sc_law.nd rfl (Or.inl rfl) (pe_mk I_System T.m_System (hr.mono (by decide))  (pa_cons (pv 4) (pa_cons (pv 8) pa_nil))))
            (pss_cons (ps_if (pt_cmpR (op_neD hr.units) (pv 8) (pe_lc (own := [("_law_x", 11)]) (g := gName 11) (tt := tYes) rfl sc_law.nd (pi_list (pv 7)) (blkOk_by (own := [("_law_x", 11)]) (N := ["_law_script", "_law_at", "_law_bag_here", "_law_is_large", "_law_count", "_law_times_here", "_law_fitting", "_law_links_here", "_law_given", "_law_system", "_law_spoilt_here", "_law_x"]) (sc := defScope s_law) (by decide +kernel)) (fun _ _ _ _ _ => pg_name (i := 11) sc_law.nd rfl (Or.inl rfl)) (fun _ _ _ _ _ => pts_nil) (fun _ _ _ _ _ => (pe_callTy (call_list_ofK (K := K) rfl) (by rfl) T.n_list (by decide +kernel) (pa_cons (pv 11) pa_nil)))) (nomark _))
              (pss_one (ps_ret pe_bl)) pss_nil)
            (pss_cut (ps_if (pt_cmpR (op_neD hr.units) (pv 8) (pe_lst pa_nil) (nomark _))
              (pss_cons (ps_set (i := 10) sc_law.nd rfl (Or.inl rfl) (pe_ix ix_list (pv 8) pe_int (fun _ _ => rfl)))
                (pss_one (ps_asg pe_str (pg_sub (pv 10) pe_int set_list)))) pss_nil)
            (pss_cons (ps_expr (pe_app1 (by exact (pv 8)) (by exact (pa_cons pe_non pa_nil))))
            (pss_cons (ps_if (PW.pt (pw_or (pt_not (pt_val (pe_cal C_is_told (hr.mono (by decide)) (pa_cons (pv 9) (pa_cons (pv 4) (pa_cons (pv 7) pa_nil)))))) (pw_or1 (pt_not (pt_val (pe_cal C_is_told (hr.mono (by decide)) (pa_cons (pe_mkD I_System0 T.m_System (hr.mono (by decide)) (pa_cons (pv 4) pa_nil)) (pa_cons (pv 4) (pa_cons (pe_lst pa_nil) pa_nil)))))))))
              (pss_one (ps_ret pe_bl)) pss_nil)
            (pss_cons (ps_if (PW.pt (pw_or (pt_not (pt_val (pe_cal C_alike (hr.mono (by decide)) (pa_cons (pv 2) (pa_cons (pv 9) (pa_cons (pv 4) (pa_cons (pv 7) pa_nil))))))) (pw_or1 (pt_not (pt_val (pe_cal C_kept (hr.mono (by decide)) (pa_cons (pv 2) (pa_cons (pv 9) (pa_cons (pv 4) (pa_cons (pv 7) (pa_cons (pv 5) pa_nil)))))))))))
              (pss_one (ps_ret pe_bl)) pss_nil)
            (pss_cons (ps_if (PW.pt (pw_or (pt_not (pt_val (pe_cal C_paths (hr.mono (by decide)) (pa_cons (pv 2) (pa_cons (pv 9) (pa_cons (pv 4) (pa_cons (pv 7) pa_nil))))))) (pw_or1 (pt_not (pt_val (pe_cal C_judged (hr.mono (by decide)) (pa_cons (pv 2) (pa_cons (pv 9) (pa_cons (pv 4) (pa_cons (pv 7) (pa_cons (pv 5) pa_nil)))))))))))
              (pss_one (ps_ret pe_bl)) pss_nil)
            (pss_one (ps_if (PW.pt (pw_or (pt_not (pt_val (pe_cal C_refused (hr.mono (by decide)) (pa_cons (pv 2) (pa_cons (pv 4) (pa_cons (pv 7) pa_nil)))))) (pw_or1 (pt_not (pt_val (pe_cal C_is_told (hr.mono (by decide)) (pa_cons (pv 9) (pa_cons (pv 4) (pa_cons (pv 7) pa_nil)))))))))
              (pss_one (ps_ret pe_bl)) pss_nil)))))))))))))))))
        (pss_one (ps_ret pe_bl))), ?_⟩
    have lm : (ns.map V.int).length = ns.length := List.length_map _
    refine ⟨_, rfl, a, _, rfl, .inl hS, _, _, rfl, _, _, rfl, _, rfl, ?_⟩
    have mn : ∃ n : Nat, (if (if (((ns.map V.int).length : Nat) : Int) < 2 then (((ns.map V.int).length : Nat) : Int) else 2) > 1 then (if (((ns.map V.int).length : Nat) : Int) < 2 then (((ns.map V.int).length : Nat) : Int) else 2) else (1 : Int)) = (n : Int) ∧ n ≤ 2 := by
      by_cases h1 : (((ns.map V.int).length : Nat) : Int) < 2
      · rw [if_pos h1]
        by_cases h2 : (((ns.map V.int).length : Nat) : Int) > 1
        · rw [if_pos h2]
          exact ⟨_, rfl, by omega⟩
        · rw [if_neg h2]
          exact ⟨1, rfl, by decide⟩
      · rw [if_neg h1]
        exact ⟨2, rfl, by decide⟩
    obtain ⟨n, en, hn⟩ := mn
    rw [en]
    refine ⟨by omega, by omega, for_range (fun j σ H' => Same H H' ∧ ∃ (v1 v2 v3 v4 v5 v6 v7 v8 v9 v10 : Option V), σ = [some (.ref a), v1, v2, v3, v4, v5, v6, v7, v8, v9, v10, none]) ⟨Same.refl _, _, _, _, _, _, _, _, _, _, _, rfl⟩ ?_ (fun σ H' _ => k H')⟩
    rintro j σ H1 hj ⟨S1, v1, v2, v3, v4, v5, v6, v7, v8, v9, v10, rfl⟩
    rw [Int.toNat_natCast] at hj
    rw [show (0 : Int) + (j : Nat) = ((j : Nat) : Int) from Int.zero_add _]
    refine ⟨_, rfl, _, rfl, a, ns, j, rfl, Same.seq S1 hS, hl, by omega, fun b H2 nb B2 S2 => ?_⟩
    refine ⟨_, rfl, b, _, rfl, B2, by decide, by decide, fun x H3 _ _ B3 D3 => ⟨rfl, ?_⟩⟩
    generalize decide (V.int x = V.int 0) = lg
    refine ⟨fun v H' => ∃ c : Int, v = .int c ∧ 1 ≤ c ∧ c ≤ 12 ∧ BgAt H' b ∧ But b H3 H', ?_, fun v H4 ⟨c, hv, c1, c2, B4, D4⟩ => ?_⟩
    · refine ⟨_, rfl, _, rfl, ite2 (fun _ => ?_) (fun _ => ?_)⟩
      · exact ⟨_, rfl, b, _, rfl, B3, by decide, by decide, fun y H4 y0 y1 B4 D4 => ⟨_, _, rfl, rfl, _, rfl, by omega, by omega, B4, D4⟩⟩
      · exact ⟨_, rfl, b, _, rfl, B3, by decide, by decide, fun y H4 y0 y1 B4 D4 => ⟨_, _, rfl, rfl, _, rfl, by omega, by omega, B4, D4⟩⟩
    subst hv
    have D4 := D3.trans D4
    clear D3 B3
    refine ⟨_, rfl, _, rfl, b, c, rfl, B4, c1, c2, fun tl ts H5 n5 h5 l5 B5 D5 => ?_⟩
    have ntl := B4.ne n5
    have D5 := D4.trans D5
    clear D4 B4
    refine ⟨fun v H' => TvAt H' b c v ∧ BgAt H' b ∧ But b H5 H', ?_, fun ft H6 ⟨hft, B6, D6⟩ => ?_⟩
    · refine ⟨_, rfl, b, _, rfl, B5, by decide, by decide, fun y H6 _ _ B6 D6 => ⟨_, _, rfl, rfl, _, rfl, ite2 (fun _ => ?_) (fun _ => ?_)⟩⟩
      · exact ⟨_, rfl, .inr ⟨tl, ts, rfl, D6 _ _ h5 ntl, l5, ntl⟩, B6, D6⟩
      · exact ⟨.inl rfl, B6, D6⟩
    have h6 := D6 _ _ h5 ntl
    have D6 := D5.trans D6
    clear D5 B5 h5
    refine ⟨_, rfl, _, rfl, fun v H' => ∃ m : Int, v = .int m ∧ 0 ≤ m ∧ m ≤ 60 ∧ BgAt H' b ∧ But b H6 H', ?_, fun v H7 ⟨m, hv, m0, m1, B7, D7⟩ => ?_⟩
    · refine ⟨_, rfl, _, rfl, ite2 (fun _ => ?_) (fun _ => ?_)⟩
      · exact ⟨_, rfl, b, _, rfl, B6, by decide, by decide, fun y H4 y0 y1 B4 D4 => ⟨_, rfl, by omega, by omega, B4, D4⟩⟩
      · exact ⟨_, rfl, b, _, rfl, B6, by decide, by decide, fun y H4 y0 y1 B4 D4 => ⟨_, rfl, by omega, by omega, B4, D4⟩⟩
    subst hv
    have hft : TvAt H7 b c ft := by
      rcases hft with rfl | ⟨tl', ts', rfl, g1, g2, g3⟩
      · exact .inl rfl
      · exact .inr ⟨tl', ts', rfl, D7 _ _ g1 g3, g2, g3⟩
    have h7 := D7 _ _ h6 ntl
    have D7 := D6.trans D7
    clear D6 B6 h6
    refine ⟨_, rfl, b, c, m, ft, rfl, B7, c1, c2, m0, by omega, hft, fun L lus ls H8 n8 hL lok ll B8 D8 => ?_⟩
    have nLb := B7.ne n8
    have h8 := D8 _ _ h7 ntl
    have D8 := D7.trans D8
    have S8 : Same H H8 := fun z o e => D8 _ _ (S2 _ _ (S1 _ _ e)) (ne_of_none (S1 _ _ e) nb)
    have le : ls.length ≤ 60 := by omega
    have lu := hL.2.length
    have nbH : H b = none := S1.free nb
    clear D7 D8 B7 h7 hft B2 S2 nb S1
    refine ⟨_, rfl, L, rfl, ⟨_, SqL.of hL.1⟩, fun D nD => lc_list (K := K) (a := L) (xs := lus) (fun i H' => ∃ gs, H' D = some (.lst gs) ∧ Paired (LgT H8 D H') gs (ls.take i) ∧ Same H8 H') ⟨[], upd_same, .nil, sNew nD⟩ (fun i H' _ ⟨_, _, _, S⟩ => SqL.of (S _ _ hL.1)) (fun i y H9 hy ⟨gs, hD, pg, S9⟩ => ?_) (fun H9 ⟨gs, hD, pg, S9⟩ => ?_)⟩
    · obtain ⟨l, hl, e, rfl, he⟩ := Paired.at hL.2 hy
      have lg := pg.length
      have hi := (List.getElem?_eq_some_iff.mp hl).1
      rw [List.length_take] at lg
      refine ⟨rfl, _, rfl, e, _, rfl, .inr (SqT.of (S9 _ _ he)), fun q nq => ⟨gs, (upd_ne (ne_of_none hD nq)).trans hD, small1000 (by omega), gs ++ [.ref q], upd_same, ?_, same_upd (S9.trans (sNew nq)) nD⟩⟩
      have nqD : q ≠ D := Ne.symm (ne_of_none hD nq)
      rw [take_snoc hl]
      exact Paired.appendP (Paired.impP (fun _ _ h => (h.same (sNew nq)).updD) pg) (.cons ⟨q, rfl, S9.free nq, nqD, (upd_ne nqD).trans upd_same⟩ .nil)
    rw [List.take_of_length_le (by omega)] at pg
    have lgs := pg.length
    refine ⟨_, rfl, _, rfl, mkSys (.int c) (ro := some (ls.map lkR)) ⟨D, gs, rfl, .inl hD, lgs_rd pg, fun x hx => (by obtain ⟨l, _, rfl⟩ := List.mem_map.mp hx; exact lkR_ok l), by rw [List.length_map]; omega⟩ (fun i w G e z _ _ => by rw [sysW_ls c1 c2 lok (by omega)] at z; cases z) (fun c' ls' p t us H10 e1 e2 _ S10 X => ?_)⟩
    cases e1
    obtain rfl := lkR_inj (Option.some.inj e2)
    have hD := S10 _ _ hD
    have pg := Paired.impP (fun _ _ h => LgT.same h S10) pg
    have S10 := S9.trans S10
    clear e2 S9
    refine ⟨_, rfl, _, rfl, L, rfl, ⟨_, SqL.of (S10 _ _ hL.1)⟩, fun D2 nD2 => lc_list (K := K) (a := L) (xs := lus) (fun i H' => ∃ gs2, H' D2 = some (.lst gs2) ∧ Paired (LgT H10 D2 H') gs2 (ls.take i) ∧ Same H10 H') ⟨[], upd_same, .nil, sNew nD2⟩ (fun i H' _ ⟨_, _, _, S⟩ => SqL.of (S _ _ (S10 _ _ hL.1))) (fun i y H9 hy ⟨gs2, hD2, pg2, S9⟩ => ?_) (fun H11 ⟨gs2, hD2, pg2, S11⟩ => ?_)⟩
    · obtain ⟨l, hl, e, rfl, he⟩ := Paired.at hL.2 hy
      have lg := pg2.length
      have hi := (List.getElem?_eq_some_iff.mp hl).1
      rw [List.length_take] at lg
      refine ⟨rfl, _, rfl, e, _, rfl, .inr (SqT.of (S9 _ _ (S10 _ _ he))), fun q nq => ⟨gs2, (upd_ne (ne_of_none hD2 nq)).trans hD2, small1000 (by omega), gs2 ++ [.ref q], upd_same, ?_, same_upd (S9.trans (sNew nq)) nD2⟩⟩
      have nqD : q ≠ D2 := Ne.symm (ne_of_none hD2 nq)
      rw [take_snoc hl]
      exact Paired.appendP (Paired.impP (fun _ _ h => (h.same (sNew nq)).updD) pg2) (.cons ⟨q, rfl, S9.free nq, nqD, (upd_ne nqD).trans upd_same⟩ .nil)
    rw [List.take_of_length_le (by omega)] at pg2
    have hD := S11 _ _ hD
    have pg := Paired.impP (fun _ _ h => LgT.same h S11) pg
    have X := X.same S11
    have S11 := S10.trans S11
    clear S10
    have fl := lge_fl ls
    refine ⟨_, _, dp_lst (SqL.of hD) (lgs_dp pg), dp_lst (SqL.of hD2) (lgs_dp pg2), fls_shaped true fl, fls_shaped true fl, _, rfl, ?_⟩
    rw [sqD_self true fun d hd => by obtain ⟨l, _, rfl⟩ := List.mem_map.mp hd; exact row_self true _]
    clear hD2 pg2 nD2
    refine iteF ?_
    refine ⟨fun σ' H' => Same H8 H' ∧ SyAt (cl "System") H' p c t us ls ∧ H' D = some (.lst gs) ∧ ∃ v10 : Option V, σ' = [some (.ref a), some (.int (j : Nat)), some (.ref b), some (.bl lg), some (.int c), some (.ref tl), some ft, some (.ref L), some (.ref D), some (.ref p), v10, none], ?_, ?_⟩
    · refine ⟨_, rfl, by show 0 ≤ sizeLine; exact Nat.zero_le _, fun q2 nq2 => ?_⟩
      have S2 := sNew (o := .lst []) nq2
      have pg := Paired.impP (fun _ _ h => LgT.same h S2) pg
      have hD := S2 _ _ hD
      have X := X.same S2
      have S12 := S11.trans S2
      refine ⟨_, _, dp_lst (SqL.of hD) (lgs_dp pg), dp_lst (SqL.of upd_same) .nil, fls_shaped true fl, row_shaped (xs := []) true (by simp), _, rfl, ?_⟩
      rw [eqv_nilE]
      cases pg with
      | nil => exact iteF ⟨S12, X, hD, _, rfl⟩
      | cons hg tg =>
        obtain ⟨e, rfl, ne8, neD, he⟩ := hg
        refine iteT ⟨_, rfl, D, _, _, _, rfl, rfl, SqL.of hD, atI_nat (j := 0) rfl, _, rfl, e, _, 2, 2, rfl, rfl, he, rfl, ?_⟩
        exact ⟨same_upd S12 ne8, X.updL he, (upd_ne (Ne.symm neD)).trans hD, _, rfl⟩
    clear S11 X hD pg fl
    rintro σ' H11 ⟨S11, X, hD, v10, rfl⟩
    refine ⟨_, rfl, .inl ⟨rfl, _, SqL.of hD⟩, D, _, _, rfl, rfl, hD, small1000 (by omega), ?_⟩
    have X := X.updL (o := .lst (gs ++ [.non])) hD
    have S12 := same_upd (o := .lst (gs ++ [.non])) S11 nD
    generalize upd H11 D (.lst (gs ++ [.non])) = H12 at X S12
    have Z : LwS (cl "System") H12 b p t L tl c us lus ls ts := ⟨B8.same S12, X, hL.same S12, nLb, S12 _ _ h8, ntl, l5, lok, by omega, c1, c2⟩
    have S12 := S8.trans S12
    clear X S11 hD B8 hL h8 S8
    refine ⟨_, rfl, _, rfl, _, rfl, p, t, L, c, us, lus, ls, rfl, Z.X, Z.L, by omega, fun H13 S13 => ⟨_, rfl, iteF ?_⟩⟩
    refine ⟨_, rfl, fun x dx nx ndx nex => ⟨x, dx, c, rfl, upd_same, c1, c2, ha0, fun t0 H14 D14 X0 => ⟨rfl, ?_⟩⟩⟩
    have S14 : Same H13 H14 := fun z o e => D14 _ _ (((sNew ndx).trans (sNew (o := .ins (cl "System") dx []) (by rw [upd_ne (Ne.symm nex)]; exact nx))) _ _ e) (ne_of_none e nx)
    refine ⟨_, rfl, by show 0 ≤ sizeLine; exact Nat.zero_le _, fun q nq => ?_⟩
    have S15 := sNew (o := .lst []) nq
    refine ⟨x, t0, q, c, [], [], [], rfl, X0.same S15, ⟨upd_same, .nil⟩, by decide, fun H16 S16 => ⟨_, rfl, iteF ?_⟩⟩
    have S16 := S13.trans (S14.trans (S15.trans S16))
    have Z := Z.same S16
    have S16 := S12.trans S16
    clear S12 S13 S14 S15 X0 D14
    have done : ∀ {H' : Hp}, But b H16 H' → Same H H' := fun D => fun z o e => D _ _ (S16 _ _ e) (ne_of_none e nbH)
    refine ⟨_, rfl, _, rfl, _, rfl, _, rfl, b, p, t, L, tl, c, us, lus, ls, ts, rfl, Z, fun H17 B17 D17 => ⟨_, rfl, iteF ?_⟩⟩
    have Z := Z.but B17 D17
    refine ⟨_, rfl, _, rfl, _, rfl, _, rfl, _, rfl, b, p, t, L, tl, c, us, lus, ls, ts, rfl, Z, fun H18 B18 D18 => ⟨_, rfl, iteF ?_⟩⟩
    have Z := Z.but B18 D18
    have D18 := D17.trans D18
    refine ⟨_, rfl, _, rfl, _, rfl, _, rfl, b, p, t, L, tl, c, us, lus, ls, ts, rfl, Z, fun H19 B19 D19 => ⟨_, rfl, iteF ?_⟩⟩
    have Z := Z.but B19 D19
    have D19 := D18.trans D19
    refine ⟨_, rfl, _, rfl, _, rfl, _, rfl, _, rfl, b, p, t, L, tl, c, us, lus, ls, ts, rfl, Z, fun H20 B20 D20 => ⟨_, rfl, iteF ?_⟩⟩
    have Z := Z.but B20 D20
    have D20 := D19.trans D20
    refine ⟨_, rfl, _, rfl, _, rfl, b, p, t, L, tl, c, us, lus, ls, ts, rfl, Z, fun H21 B21 D21 => ⟨_, rfl, iteF ?_⟩⟩
    have Z := Z.but B21 D21
    have D21 := D20.trans D21
    refine ⟨_, rfl, _, rfl, _, rfl, p, t, L, c, us, lus, ls, rfl, Z.X, Z.L, by omega, fun H22 S22 => ⟨_, rfl, iteF ?_⟩⟩
    exact ⟨done (D21.trans (But.of S22)), _, _, _, _, _, _, _, _, _, _, rfl⟩
theorem cal_law (T : Txt P w K mg cl) : Cal P w K mg base CX0 10 "law" ["_law_script"] (spLaw K) := by
  obtain ⟨f, fd, F, m⟩ := T.d_law
  exact ⟨f, fd, ok_law F T, m, F.kp, F.binds fun _ _ _ _ _ _ us hl => match us, hl with | [_], _ => rfl⟩
end
end My
set_option Elab.async false
set_option linter.all false
set_option maxRecDepth 100000
set_option maxHeartbeats 8000000
namespace My
open PySem L2 Dw He
theorem txt_mk {P : Program} {w : World} {K : PySem.W.Frag} {h : Heap} {mg : Str → Option Value} (X : K.In h) (G : h.Ns mainGlobals mg) (hP : P.main.file = lawFile) (c0 : HeM.SaysM lawFile faL fnL iniL prpL tsL exB w K) (stop : (P.main.scope.names.lookup ("super" : Str)).isSome = false) : Txt P w K mg (fun s => ga K (Str.ofString s)) := by
  have cS : HeM.SaysM P.main.file faL fnL iniL prpL tsL exB w K := by rw [hP]; exact c0
  have hz : HeM.zB K = true := cS.ex_at (L := exL) 0 rfl
  have opq : PySem.W.nsIn K cStatics "thirdparty.any" = some none := eqO_ok (cS.ex_at (L := exL) 1 rfl)
  exact {
    n_len := He.free_ok X G (cS.d.fact 0 (f := .free "len") rfl)
    n_int := He.free_ok X G (cS.d.fact 1 (f := .free "int") rfl)
    n_bool := He.free_ok X G (cS.d.fact 2 (f := .free "bool") rfl)
    n_list := He.free_ok X G (cS.d.fact 3 (f := .free "list") rfl)
    n_tuple := He.free_ok X G (cS.d.fact 4 (f := .free "tuple") rfl)
    n_isinstance := He.free_ok X G (cS.d.fact 5 (f := .free "isinstance") rfl)
    n_range := He.free_ok X G (cS.d.fact 6 (f := .free "range") rfl)
    n_ValueError := He.free_ok X G (cS.d.fact 7 (f := .free "ValueError") rfl)
    n_abs := He.free_ok X G (cS.d.fact 8 (f := .free "abs") rfl)
    n_min := He.free_ok X G (cS.d.fact 9 (f := .free "min") rfl)
    n_max := He.free_ok X G (cS.d.fact 10 (f := .free "max") rfl)
    n_sum := He.free_ok X G (cS.d.fact 11 (f := .free "sum") rfl)
    n_iter := He.free_ok X G (cS.d.fact 12 (f := .free "iter") rfl)
    n_enumerate := He.free_ok X G (cS.d.fact 13 (f := .free "enumerate") rfl)
    c_MOST_INSTANTS := (let ⟨_, h⟩ := He.int_ok X G (cS.d.fact 14 (f := .int "MOST_INSTANTS" (12)) rfl); ⟨_, h, ⟨_, rfl⟩⟩)
    c_MOST_LINKS := (let ⟨_, h⟩ := He.int_ok X G (cS.d.fact 15 (f := .int "MOST_LINKS" (200)) rfl); ⟨_, h, ⟨_, rfl⟩⟩)
    m_DeedError := (He.glo_ok X G (cS.d.fact 16 (f := .glo "DeedError") rfl))
    m_BadSystem := (He.glo_ok X G (cS.d.fact 17 (f := .glo "BadSystem") rfl))
    m_BadTimes := (He.glo_ok X G (cS.d.fact 18 (f := .glo "BadTimes") rfl))
    m_System := (He.glo_ok X G (cS.d.fact 19 (f := .glo "System") rfl))
    m_Kept := (He.glo_ok X G (cS.d.fact 20 (f := .glo "Kept") rfl))
    m_Ring := (He.glo_ok X G (cS.d.fact 21 (f := .glo "Ring") rfl))
    o_BadSystem := HeM.oxB_ok (cS.ex_at (L := exL) 2 rfl)
    i_BadSystem := (let ⟨fd, F⟩ := cS.d.def_ 0 (d := ⟨("BadSystem", some "__init__"), "__init__", "BadSystem.__init__", defArgs s_BadSystem_init, defBody s_BadSystem_init, defScope s_BadSystem_init, [], []⟩) rfl; ⟨_, fd, fun_of F, HeM.inB_ok (cS.ex_at (L := exL) 3 rfl)⟩)
    o_BadTimes := HeM.oxB_ok (cS.ex_at (L := exL) 4 rfl)
    i_BadTimes := (let ⟨fd, F⟩ := cS.d.def_ 1 (d := ⟨("BadTimes", some "__init__"), "__init__", "BadTimes.__init__", defArgs s_BadTimes_init, defBody s_BadTimes_init, defScope s_BadTimes_init, [], []⟩) rfl; ⟨_, fd, fun_of F, HeM.inB_ok (cS.ex_at (L := exL) 5 rfl)⟩)
    xf_BadSystem_index := eqO_ok (cS.ex_at (L := exL) 6 rfl)
    xf_BadSystem_what := eqO_ok (cS.ex_at (L := exL) 7 rfl)
    cr := ⟨(cS.ex_at (L := exL) 8 rfl), eqO_ok (cS.ex_at (L := exL) 9 rfl)⟩
    vi := HeM.valIs_ok (cS.ex_at (L := exL) 10 rfl)
    x_BadSystem := HeM.xcB_ok (cS.ex_at (L := exL) 11 rfl) hz
    x_BadTimes := HeM.xcB_ok (cS.ex_at (L := exL) 12 rfl) hz
    is_BadSystem := of_decide_eq_true (cS.ex_at (L := exL) 13 rfl)
    is_BadTimes := of_decide_eq_true (cS.ex_at (L := exL) 14 rfl)
    bs_de := of_decide_eq_true (cS.ex_at (L := exL) 15 rfl)
    bs_bt := of_decide_eq_true (cS.ex_at (L := exL) 16 rfl)
    ne_System := ⟨of_decide_eq_true (cS.ex_at (L := exL) 17 rfl), eqO_ok (cS.ex_at (L := exL) 18 rfl)⟩
    cl_System := He.cls_ok (cS.d.fact 22 (f := .cls "System") rfl)
    na_System := (fun f hf => eqO_ok (List.all_eq_true.mp (cS.ex_at (L := exL) 19 rfl) f hf))
    y_System := eqO_ok (cS.ex_at (L := exL) 20 rfl)
    z3_System := of_decide_eq_true (cS.ex_at (L := exL) 17 rfl)
    cl_Kept := He.cls_ok (cS.d.fact 23 (f := .cls "Kept") rfl)
    na_Kept := (fun f hf => eqO_ok (List.all_eq_true.mp (cS.ex_at (L := exL) 21 rfl) f hf))
    y_Kept := eqO_ok (cS.ex_at (L := exL) 22 rfl)
    z3_Kept := of_decide_eq_true (cS.ex_at (L := exL) 23 rfl)
    cl_Ring := He.cls_ok (cS.d.fact 24 (f := .cls "Ring") rfl)
    na_Ring := (fun f hf => eqO_ok (List.all_eq_true.mp (cS.ex_at (L := exL) 24 rfl) f hf))
    y_Ring := eqO_ok (cS.ex_at (L := exL) 25 rfl)
    z3_Ring := of_decide_eq_true (cS.ex_at (L := exL) 26 rfl)
    kb_bs := of_decide_eq_true (cS.ex_at (L := exL) 27 rfl)
    kb_bt := of_decide_eq_true (cS.ex_at (L := exL) 28 rfl)
    k_in_Sy := (fun n hn => of_decide_eq_true (List.all_eq_true.mp (cS.ex_at (L := exL) 29 rfl) n hn))
    nf_System := (fun n hn => List.all_eq_true.mp (cS.ex_at (L := exL) 30 rfl) n hn)
    nf2_System := (cS.ex_at (L := exL) 31 rfl)
    k_Sy_Sy := of_decide_eq_true (cS.ex_at (L := exL) 32 rfl)
    k_Ri_Ri := of_decide_eq_true (cS.ex_at (L := exL) 33 rfl)
    k_Ke_Ri := of_decide_eq_true (cS.ex_at (L := exL) 34 rfl)
    i_System := (let ⟨fd, F⟩ := HeM.SaysM.var cS 0 (d := ⟨("System", some "__init__"), "__init__", "System.__init__", defArgs s_System_init, defBody s_System_init, defScope s_System_init, [], []⟩) (st := s_System_init) rfl rfl rfl rfl; ⟨_, fd, F, He.mkr_ok (cS.d.fact 25 (f := .mkr "System") rfl)⟩)
    i_Kept := (let ⟨fd, F⟩ := cS.d.def_ 2 (d := ⟨("Kept", some "__init__"), "__init__", "Kept.__init__", defArgs s_Kept_init, defBody s_Kept_init, defScope s_Kept_init, [], []⟩) rfl; ⟨_, fd, fun_of F, He.mkr_ok (cS.d.fact 26 (f := .mkr "Kept") rfl)⟩)
    i_Ring := (let ⟨fd, F⟩ := cS.d.def_ 3 (d := ⟨("Ring", some "__init__"), "__init__", "Ring.__init__", defArgs s_Ring_init, defBody s_Ring_init, defScope s_Ring_init, [], []⟩) rfl; ⟨_, fd, fun_of F, He.mkr_ok (cS.d.fact 27 (f := .mkr "Ring") rfl)⟩)
    d_System_broken := (let ⟨fd, F⟩ := cS.d.def_ 4 (d := ⟨("System", some "broken"), "broken", "System.broken", defArgs s_System_broken, defBody s_System_broken, defScope s_System_broken, [], []⟩) rfl; ⟨_, fd, fun_of F, He.meth_ok (cS.d.fact 28 (f := .meth "System" "broken") rfl)⟩)
    d_System_keeps := (let ⟨fd, F⟩ := cS.d.def_ 5 (d := ⟨("System", some "keeps"), "keeps", "System.keeps", defArgs s_System_keeps, defBody s_System_keeps, defScope s_System_keeps, [], []⟩) rfl; ⟨_, fd, fun_of F, He.meth_ok (cS.d.fact 29 (f := .meth "System" "keeps") rfl)⟩)
    d_System_eq := (let ⟨fd, F⟩ := cS.d.def_ 6 (d := ⟨("System", some "__eq__"), "__eq__", "System.__eq__", defArgs s_System_eq, defBody s_System_eq, defScope s_System_eq, [], []⟩) rfl; ⟨_, fd, fun_of F, He.meth_ok (cS.d.fact 30 (f := .meth "System" "__eq__") rfl)⟩)
    d_System_len := (let ⟨fd, F⟩ := cS.d.def_ 7 (d := ⟨("System", some "__len__"), "__len__", "System.__len__", defArgs s_System_len, defBody s_System_len, defScope s_System_len, [], []⟩) rfl; ⟨_, fd, fun_of F, He.meth_ok (cS.d.fact 31 (f := .meth "System" "__len__") rfl)⟩)
    d_System_iter := (let ⟨fd, F⟩ := cS.d.def_ 8 (d := ⟨("System", some "__iter__"), "__iter__", "System.__iter__", defArgs s_System_iter, defBody s_System_iter, defScope s_System_iter, [], []⟩) rfl; ⟨_, fd, fun_of F, He.meth_ok (cS.d.fact 32 (f := .meth "System" "__iter__") rfl)⟩)
    d_System_with_links := (let ⟨fd, F⟩ := cS.d.def_ 9 (d := ⟨("System", some "with_links"), "with_links", "System.with_links", defArgs s_System_with_links, defBody s_System_with_links, defScope s_System_with_links, [], []⟩) rfl; ⟨_, fd, fun_of F, He.meth_ok (cS.d.fact 33 (f := .meth "System" "with_links") rfl)⟩)
    d_is_integer := (let ⟨fd, F⟩ := cS.d.def_ 10 (d := ⟨("is_integer", none), "is_integer", "is_integer", defArgs s_is_integer, defBody s_is_integer, defScope s_is_integer, [], []⟩) rfl; ⟨_, fd, fun_of F, (He.glo_ok X G (cS.d.fact 34 (f := .glo "is_integer") rfl))⟩)
    d_is_instant := (let ⟨fd, F⟩ := cS.d.def_ 11 (d := ⟨("is_instant", none), "is_instant", "is_instant", defArgs s_is_instant, defBody s_is_instant, defScope s_is_instant, [], []⟩) rfl; ⟨_, fd, fun_of F, (He.glo_ok X G (cS.d.fact 35 (f := .glo "is_instant") rfl))⟩)
    d_are_times := (let ⟨fd, F⟩ := cS.d.def_ 12 (d := ⟨("are_times", none), "are_times", "are_times", defArgs s_are_times, defBody s_are_times, defScope s_are_times, [], []⟩) rfl; ⟨_, fd, fun_of F, (He.glo_ok X G (cS.d.fact 36 (f := .glo "are_times") rfl))⟩)
    d_link_fault := (let ⟨fd, F⟩ := cS.d.def_ 13 (d := ⟨("link_fault", none), "link_fault", "link_fault", defArgs s_link_fault, defBody s_link_fault, defScope s_link_fault, [], []⟩) rfl; ⟨_, fd, fun_of F, (He.glo_ok X G (cS.d.fact 37 (f := .glo "link_fault") rfl))⟩)
    d_keeps_link := (let ⟨fd, F⟩ := cS.d.def_ 14 (d := ⟨("keeps_link", none), "keeps_link", "keeps_link", defArgs s_keeps_link, defBody s_keeps_link, defScope s_keeps_link, [], []⟩) rfl; ⟨_, fd, fun_of F, (He.glo_ok X G (cS.d.fact 38 (f := .glo "keeps_link") rfl))⟩)
    d_are_indexes := (let ⟨fd, F⟩ := cS.d.def_ 15 (d := ⟨("are_indexes", none), "are_indexes", "are_indexes", defArgs s_are_indexes, defBody s_are_indexes, defScope s_are_indexes, [], []⟩) rfl; ⟨_, fd, fun_of F, (He.glo_ok X G (cS.d.fact 39 (f := .glo "are_indexes") rfl))⟩)
    d_has_joints := (let ⟨fd, F⟩ := cS.d.def_ 16 (d := ⟨("has_joints", none), "has_joints", "has_joints", defArgs s_has_joints, defBody s_has_joints, defScope s_has_joints, [], []⟩) rfl; ⟨_, fd, fun_of F, (He.glo_ok X G (cS.d.fact 40 (f := .glo "has_joints") rfl))⟩)
    d_sum_of := (let ⟨fd, F⟩ := cS.d.def_ 17 (d := ⟨("sum_of", none), "sum_of", "sum_of", defArgs s_sum_of, defBody s_sum_of, defScope s_sum_of, [], []⟩) rfl; ⟨_, fd, fun_of F, (He.glo_ok X G (cS.d.fact 41 (f := .glo "sum_of") rfl))⟩)
    d_path_fault := (let ⟨fd, F⟩ := cS.d.def_ 18 (d := ⟨("path_fault", none), "path_fault", "path_fault", defArgs s_path_fault, defBody s_path_fault, defScope s_path_fault, [], []⟩) rfl; ⟨_, fd, fun_of F, (He.glo_ok X G (cS.d.fact 42 (f := .glo "path_fault") rfl))⟩)
    d_ring_fault := (let ⟨fd, F⟩ := cS.d.def_ 19 (d := ⟨("ring_fault", none), "ring_fault", "ring_fault", defArgs s_ring_fault, defBody s_ring_fault, defScope s_ring_fault, [], []⟩) rfl; ⟨_, fd, fun_of F, (He.glo_ok X G (cS.d.fact 43 (f := .glo "ring_fault") rfl))⟩)
    d_times_fault := (let ⟨fd, F⟩ := cS.d.def_ 20 (d := ⟨("times_fault", none), "times_fault", "times_fault", defArgs s_times_fault, defBody s_times_fault, defScope s_times_fault, [], []⟩) rfl; ⟨_, fd, fun_of F, (He.glo_ok X G (cS.d.fact 44 (f := .glo "times_fault") rfl))⟩)
    d_solved_fault := (let ⟨fd, F⟩ := cS.d.def_ 21 (d := ⟨("solved_fault", none), "solved_fault", "solved_fault", defArgs s_solved_fault, defBody s_solved_fault, defScope s_solved_fault, [], []⟩) rfl; ⟨_, fd, fun_of F, (He.glo_ok X G (cS.d.fact 45 (f := .glo "solved_fault") rfl))⟩)
    d_bag := (let ⟨fd, F⟩ := cS.d.def_ 22 (d := ⟨("_law_bag", none), "_law_bag", "_law_bag", defArgs s_bag, defBody s_bag, defScope s_bag, [], []⟩) rfl; ⟨_, fd, fun_of F, (He.glo_ok X G (cS.d.fact 46 (f := .glo "_law_bag") rfl))⟩)
    d_take := (let ⟨fd, F⟩ := cS.d.def_ 23 (d := ⟨("_law_take", none), "_law_take", "_law_take", defArgs s_take, defBody s_take, defScope s_take, [], []⟩) rfl; ⟨_, fd, fun_of F, (He.glo_ok X G (cS.d.fact 47 (f := .glo "_law_take") rfl))⟩)
    d_of := (let ⟨fd, F⟩ := cS.d.def_ 24 (d := ⟨("_law_of", none), "_law_of", "_law_of", defArgs s_of, defBody s_of, defScope s_of, [], []⟩) rfl; ⟨_, fd, fun_of F, (He.glo_ok X G (cS.d.fact 48 (f := .glo "_law_of") rfl))⟩)
    d_amount := (let ⟨fd, F⟩ := cS.d.def_ 25 (d := ⟨("_law_amount", none), "_law_amount", "_law_amount", defArgs s_amount, defBody s_amount, defScope s_amount, [], []⟩) rfl; ⟨_, fd, fun_of F, (He.glo_ok X G (cS.d.fact 49 (f := .glo "_law_amount") rfl))⟩)
    d_times := (let ⟨fd, F⟩ := cS.d.def_ 26 (d := ⟨("_law_times", none), "_law_times", "_law_times", defArgs s_times, defBody s_times, defScope s_times, [], []⟩) rfl; ⟨_, fd, fun_of F, (He.glo_ok X G (cS.d.fact 50 (f := .glo "_law_times") rfl))⟩)
    d_links := (let ⟨fd, F⟩ := cS.d.def_ 27 (d := ⟨("_law_links", none), "_law_links", "_law_links", defArgs s_links, defBody s_links, defScope s_links, [], []⟩) rfl; ⟨_, fd, fun_of F, (He.glo_ok X G (cS.d.fact 51 (f := .glo "_law_links") rfl))⟩)
    d_is_whole := (let ⟨fd, F⟩ := cS.d.def_ 28 (d := ⟨("_law_is_whole", none), "_law_is_whole", "_law_is_whole", defArgs s_is_whole, defBody s_is_whole, defScope s_is_whole, [], []⟩) rfl; ⟨_, fd, fun_of F, (He.glo_ok X G (cS.d.fact 52 (f := .glo "_law_is_whole") rfl))⟩)
    d_word := (let ⟨fd, F⟩ := cS.d.def_ 29 (d := ⟨("_law_word", none), "_law_word", "_law_word", defArgs s_word, defBody s_word, defScope s_word, [], []⟩) rfl; ⟨_, fd, fun_of F, (He.glo_ok X G (cS.d.fact 53 (f := .glo "_law_word") rfl))⟩)
    d_due := (let ⟨fd, F⟩ := cS.d.def_ 30 (d := ⟨("_law_due", none), "_law_due", "_law_due", defArgs s_due, defBody s_due, defScope s_due, [], []⟩) rfl; ⟨_, fd, fun_of F, (He.glo_ok X G (cS.d.fact 54 (f := .glo "_law_due") rfl))⟩)
    d_made := (let ⟨fd, F⟩ := cS.d.def_ 31 (d := ⟨("_law_made", none), "_law_made", "_law_made", defArgs s_made, defBody s_made, defScope s_made, [], []⟩) rfl; ⟨_, fd, fun_of F, (He.glo_ok X G (cS.d.fact 55 (f := .glo "_law_made") rfl))⟩)
    d_spoilt := (let ⟨fd, F⟩ := cS.d.def_ 32 (d := ⟨("_law_spoilt", none), "_law_spoilt", "_law_spoilt", defArgs s_spoilt, defBody s_spoilt, defScope s_spoilt, [], []⟩) rfl; ⟨_, fd, fun_of F, (He.glo_ok X G (cS.d.fact 56 (f := .glo "_law_spoilt") rfl))⟩)
    d_refused := (let ⟨fd, F⟩ := cS.d.def_ 33 (d := ⟨("_law_refused", none), "_law_refused", "_law_refused", defArgs s_refused, defBody s_refused, defScope s_refused, [], []⟩) rfl; ⟨_, fd, fun_of F, (He.glo_ok X G (cS.d.fact 57 (f := .glo "_law_refused") rfl))⟩)
    d_is_told := (let ⟨fd, F⟩ := cS.d.def_ 34 (d := ⟨("_law_is_told", none), "_law_is_told", "_law_is_told", defArgs s_is_told, defBody s_is_told, defScope s_is_told, [], []⟩) rfl; ⟨_, fd, fun_of F, (He.glo_ok X G (cS.d.fact 58 (f := .glo "_law_is_told") rfl))⟩)
    d_alike := (let ⟨fd, F⟩ := cS.d.def_ 35 (d := ⟨("_law_alike", none), "_law_alike", "_law_alike", defArgs s_alike, defBody s_alike, defScope s_alike, [], []⟩) rfl; ⟨_, fd, fun_of F, (He.glo_ok X G (cS.d.fact 59 (f := .glo "_law_alike") rfl))⟩)
    d_told_broken := (let ⟨fd, F⟩ := cS.d.def_ 36 (d := ⟨("_law_told_broken", none), "_law_told_broken", "_law_told_broken", defArgs s_told_broken, defBody s_told_broken, defScope s_told_broken, [], []⟩) rfl; ⟨_, fd, fun_of F, (He.glo_ok X G (cS.d.fact 60 (f := .glo "_law_told_broken") rfl))⟩)
    d_kept := (let ⟨fd, F⟩ := cS.d.def_ 37 (d := ⟨("_law_kept", none), "_law_kept", "_law_kept", defArgs s_kept, defBody s_kept, defScope s_kept, [], []⟩) rfl; ⟨_, fd, fun_of F, (He.glo_ok X G (cS.d.fact 61 (f := .glo "_law_kept") rfl))⟩)
    d_walk := (let ⟨fd, F⟩ := cS.d.def_ 38 (d := ⟨("_law_walk", none), "_law_walk", "_law_walk", defArgs s_walk, defBody s_walk, defScope s_walk, [], []⟩) rfl; ⟨_, fd, fun_of F, (He.glo_ok X G (cS.d.fact 62 (f := .glo "_law_walk") rfl))⟩)
    d_fits := (let ⟨fd, F⟩ := cS.d.def_ 39 (d := ⟨("_law_fits", none), "_law_fits", "_law_fits", defArgs s_fits, defBody s_fits, defScope s_fits, [], []⟩) rfl; ⟨_, fd, fun_of F, (He.glo_ok X G (cS.d.fact 63 (f := .glo "_law_fits") rfl))⟩)
    d_path_due := (let ⟨fd, F⟩ := cS.d.def_ 40 (d := ⟨("_law_path_due", none), "_law_path_due", "_law_path_due", defArgs s_path_due, defBody s_path_due, defScope s_path_due, [], []⟩) rfl; ⟨_, fd, fun_of F, (He.glo_ok X G (cS.d.fact 64 (f := .glo "_law_path_due") rfl))⟩)
    d_ring_due := (let ⟨fd, F⟩ := cS.d.def_ 41 (d := ⟨("_law_ring_due", none), "_law_ring_due", "_law_ring_due", defArgs s_ring_due, defBody s_ring_due, defScope s_ring_due, [], []⟩) rfl; ⟨_, fd, fun_of F, (He.glo_ok X G (cS.d.fact 65 (f := .glo "_law_ring_due") rfl))⟩)
    d_paths := (let ⟨fd, F⟩ := cS.d.def_ 42 (d := ⟨("_law_paths", none), "_law_paths", "_law_paths", defArgs s_paths, defBody s_paths, defScope s_paths, [], []⟩) rfl; ⟨_, fd, fun_of F, (He.glo_ok X G (cS.d.fact 66 (f := .glo "_law_paths") rfl))⟩)
    d_judged := (let ⟨fd, F⟩ := cS.d.def_ 43 (d := ⟨("_law_judged", none), "_law_judged", "_law_judged", defArgs s_judged, defBody s_judged, defScope s_judged, [], []⟩) rfl; ⟨_, fd, fun_of F, (He.glo_ok X G (cS.d.fact 67 (f := .glo "_law_judged") rfl))⟩)
    d_law := (let ⟨fd, F⟩ := cS.d.def_ 44 (d := ⟨("law", none), "law", "law", defArgs s_law, defBody s_law, defScope s_law, [], []⟩) rfl; ⟨_, fd, fun_of F, (He.glo_ok X G (cS.d.fact 68 (f := .glo "law") rfl))⟩)
    z1 := eqO_ok (ba hz).1
    z2 := of_decide_eq_true (ba hz).2 }
theorem law_end {w : World} {K : PySem.W.Frag} {h : Heap} {mg : Str → Option Value} {fa : Addr} (X : K.In h) (G : h.Ns mainGlobals mg) (hfa : mg ("law" : Str) = some (.ref fa)) (c : HeM.SaysM lawFile faL fnL iniL prpL tsL exB w K) :
    ∃ fd : FuncData, (∀ (s : Shared) (v : Value), BindsTo s fd ⟨[v], []⟩ [("_law_script", v)]) ∧ ∀ base : Heap, K.In base → base.Ns mainGlobals mg → FnOk Rw.prog w K mg base CX0 10 fa fd ["_law_script"] (spLaw K) := by
  have T : Txt Rw.prog w K mg (fun s => ga K (Str.ofString s)) := txt_mk X G rfl c (by decide +kernel)
  obtain ⟨f, fd, F, m⟩ := T.d_law
  have e := hfa.symm.trans m
  cases e
  exact ⟨fd, fun s v => Fun.bindsA1 F (fun _ _ _ _ _ _ us hl => match us, hl with | [_], _ => rfl) s v, fun base _ _ => ok_law F T⟩
end My
open PySem PySem.W PySem.Calls PyProof.Rows
set_option maxHeartbeats 0 in
theorem PySem.Challenge.cw_lastlife_k34_systems_and_their_paths_holds : PySem.Challenge.rw_lastlife_k34_systems_and_their_paths.Holds := by
  w_on; o_law
  refine HandSHeadRun.head_any (r := My.Rw) (q := view My.Rw.prog [46]) (H := My.hkM) (ob := My.obM) (M := 12000) (loose := My.looseL) (d := HandSHeadRun.topDef My.Rw.prog 46) (kwd := []) My.obM_eq
    (by kernel_rfl) (fun s => by kernel_rfl) My.runM (by kernel_rfl) (by kernel_rfl) (by kernel_rfl) (by rfl) (by first | assumption | decide +kernel) (by decide +kernel) ⟨rfl, rfl, rfl, rfl, rfl, by decide +kernel⟩ ?hw ?hc
  case hw => w_witness2
  case hc =>
    refine L2.walk_ofE (l := PySem.Challenge.rw_lastlife_k34_systems_and_their_paths) (n := 63) (k := 10) (x := "_law_script") (CX := L2.CX0) rfl (by decide) (by kernel_rfl) ⟨rfl, by decide, by decide⟩ ?F (fun _ _ _ _ z => z)
    intro w mg fa h Y G hmg0
    obtain ⟨K, KX, c⟩ := Y
    have hmg : mg ("law" : PySem.Str) = some (.ref fa) := by
      have e : (HandSHeadRun.topDef My.Rw.prog 46).name = ("law" : PySem.Str) := by kernel_rfl
      rw [← e]
      exact hmg0
    obtain ⟨fd, hb, hF⟩ := My.law_end (w := w) KX G hmg c
    exact ⟨K, fd, My.spLaw K, KX, hb, fun H a ns hl _ hS => ⟨a, ns, rfl, hS, hl, fun _ => rfl⟩, hF⟩
