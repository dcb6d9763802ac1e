import PyProof.Rows.All
import Wide.All
import OpenK.AllK
import Wide.FinOn
import HandS.ForMost
import HandS.ForExc
import HandS.ExcInit
import KE.KExcSuper
import HandS.IsInst
import HandS.ExcIs
import HandS.ExcField
import HandS.MakeKwOnly
import HandS.ExcOwn
import HandS.Codes
import HandS.Style
import HandS.Flow
import HandS.ClsMeth
import HandS.ExcValue
import HandS.Base
import HandS.Call
import HandS.Exc
import HandS.List
import KE.KStateDown
import HandS.Ends
import HandS.More
import HandS.Words
import HandS.WordsExc
import HandS.Defaults
import HandS.Head0
import HandS.Head1
import HandS.Head2
import HandS.HeadEnd
import HandS.HeadHook1
import HandS.HeadHook2
import HandS.HeadHook3
import HandS.Property
import HandS.OwnEq
import KE.KOwnIter
import HandS.IterVal
import PyProof.InstSpecial
import HandS.Walk
import KE.GoesEnum
import HandS.TupLe
import HandS.TupAny
import HandS.SetKeys
import HandS.Strs
import HandS.Text
import HandS.Deep
import HandS.Star
import HandS.SlotsOwn
import HandS.Iter
import HandS.TupMul
import PySem.Challenge.RW_lastlife_k35_whole_greatest_differences
import HandS.Wide
import HandS.Zip
set_option Elab.async false
set_option linter.all false
set_option maxRecDepth 100000
set_option maxHeartbeats 4000000
namespace PySem
namespace ErrL
open PySem.W PySem.Calls PyProof.Rows PySem.HandSPX
/-! own errors whose first row calls the base's maker through super() -/
def supS (args : List Expr) (a1 a2 a3 a4 a5 : Pos) : Stmt :=
  .Expr (.Call (.Attribute (.Call (.Name "super" a1) [] [] a2) "__init__" a3) args [] a4) a5
def stoS (f : Str) (q1 q2 q3 q4 : Pos) : Stmt :=
  .Assign [.Attribute (.Name "self" q1) f q2] (.Name f q3) q4
/-- the facts about an error class at C whose maker stands at fI -/
structure SupC (prog : Program) (K : Frag) (C fI : Addr) (qual : Str) (params : Arguments) (body : List Stmt) (scope : Scope) : Prop where
  cls : ∃ nm q N bs bm sn sub ab col dd k0 k1 k2 k3 k5, K.lookup C = some (excClassObj nm q C N bs bm true sn sub ab col dd k0 k1 k2 k3 k5 "ValueError.__new__") ∧ refsVE bm = true
  fn : ∃ (oc : Value) (od : Option Addr) (kV doc pm : Value) (an : Option Addr) (cda : Addr) (ct : Value) (osl : Array (Option Value)) (cc : Addr) (vs : Array Value) (file : Str) (tf : Tok) (ccl : Value) (cdd : Option Addr) (ccs : Array (Option Value)) (cl : Value) (cld : Option Addr) (csl : Array (Option Value)),
    K.lookup fI = some ⟨oc, od, .func (ksFn "__init__" qual params body scope .none kV doc pm an (.ref cda) ct cc), osl⟩ ∧ codeIn K (.ref cda) qual = true ∧
    K.lookup cda = some ⟨ccl, cdd, .fields vs, ccs⟩ ∧ vs[2]? = some (.str file tf) ∧ ((prog.main.file : Str) == file) = true ∧
    K.lookup cc = some ⟨cl, cld, .cell (some (.ref C)), csl⟩
  self1 : mroIn K C (.ref C) = some true
  isVE : subIn K (.ref C) (.type "ValueError") = some true
  opq : nsIn K cStatics "thirdparty.any" = some none
  sup : ks_superIn K C C "__init__" = some (some (.builtin "ValueError.__init__"))
  sa : findIn K (.ref C) "__setattr__" = some (some (.builtin "object.__setattr__"))
  iC : findIn K (.ref C) "__init__" = some (some (.ref fI))
  tC : typeIn K (.ref fI) = some (.type "function")
  top : (prog.main.scope.names.lookup ("super" : Str)).isSome = false
/-- a method-wrapper of ValueError.__init__, bound to x, called -/
theorem call_mw {prog : Program} {w : World} {A : Around} {E : Value → Shared → Prop} {h : Heap} {g : Array GenState} {d : Drawn} {t : Nat} {os : OsState}
    {nm q : Str} {C N : Addr} {bs bm : List Value} {hdct : Bool} {sn : List Str} {sub : List Value} {ab : Bool} {col : Option Bool} {dd : Option Addr} {k0 k1 k2 k3 k5 : Option Value}
    {u e t0 : Addr} {rest : List Value} {Q : Value → Shared → Prop}
    (hC : h.get? C = some (excClassObj nm q C N bs bm hdct sn sub ab col dd k0 k1 k2 k3 k5 "ValueError.__new__")) (he : h.get? e = some (excO C t0)) (hu : h.get? u = some (kxs_mw "ValueError.__init__" e)) (hrest : rest.length ≤ sizeLine)
    (hq : ∀ h' t1, (∀ b o, b ≠ e → h.get? b = some o → h'.get? b = some o) → h'.get? e = some (excO C t1) → Q .none ⟨h', g, d, t, os⟩) :
    wpAny (model prog w) A (call (.ref u) rest) Q E ⟨h, g, d, t, os⟩ := by
  refine wpAny_call (codeAny_of_tree ?_)
  show wpAny _ A.in1 (callAny (.ref u) ⟨rest, []⟩) _ _ _
  simp only [callAny]
  refine wpAny_bind (wpAny_load hu ?_)
  refine KFB.if_so (by rfl) ?_
  refine wpAny_bind (check_bound_init F.excBase_ValueError.toExcCallFacts hC he rfl ?_)
  refine wpAny_bind (wpAny_pure (wpAny_pure ?_))
  refine ⟨plainId_quiet F.excBase_ValueError.init.plain _, codeAny_builtin F.excBase_ValueError.initEntry ?_⟩
  wp_walk
  refine hq _ h.objs.size (fun b o hb ho => ?_) ?_
  · rw [Heap.get?_update_other _ _ (Ne.symm hb)]
    exact Heap.get?_push_of_some _ ho
  · rw [Heap.get?_update_self _ (Heap.get?_push_of_some _ he) rfl]
    rfl

/-- what stands behind super().__init__(..): the exception has new args, all else is kept -/
theorem sup_first {prog : Program} {w : World} {A : Around} {E : Value → Shared → Prop} {K : Frag} {C fI : Addr} {qual : Str} {body : List Stmt} {scope : Scope} {mg mb : Str → Option Value}
    {ar : Arg} {x t0 L cda cc : Addr} {m : Str → Option Value} {e0 : Expr} {es : List Expr} {a1 a2 a3 a4 a5 : Pos} {s : Shared} {Q : Flow → Shared → Prop} {fd : FuncData} {oc ccl cl : Value} {od cdd cld : Option Addr} {osl ccs csl : Array (Option Value)} {vs : Array Value} {file : Str} {tf : Tok}
    {nm q : Str} {N : Addr} {bs bm : List Value} {sn : List Str} {sub : List Value} {ab : Bool} {col : Option Bool} {dd : Option Addr} {k0 k1 k2 k3 k5 : Option Value}
    (hC : K.lookup C = some (excClassObj nm q C N bs bm true sn sub ab col dd k0 k1 k2 k3 k5 "ValueError.__new__"))
    (X : K.In s.heap) (hg : s.heap.Ns mainGlobals mg) (hb : s.heap.Ns builtinsNs mb) (hbt : ∀ y : Str, y ≠ "__name__" → mb y = bootBuiltins y) (hsu : mg "super" = none)
    (hf : K.lookup fI = some ⟨oc, od, .func fd, osl⟩) (hp : (fd.params.posonlyargs ++ fd.params.args).head? = some ar)
    (hcode : K.lookup cda = some ⟨ccl, cdd, .fields vs, ccs⟩) (hvs : vs[2]? = some (.str file tf)) (hfile : ((prog.main.file : Str) == file) = true) (hcell : K.lookup cc = some ⟨cl, cld, .cell (some (.ref C)), csl⟩)
    (self1 : mroIn K C (.ref C) = some true) (isVE : subIn K (.ref C) (.type "ValueError") = some true) (opq : nsIn K cStatics "thirdparty.any" = some none) (sup : ks_superIn K C C "__init__" = some (some (.builtin "ValueError.__init__")))
    (htop : (prog.main.scope.names.lookup ("super" : Str)).isSome = false)
    (hns : s.heap.Ns L m) (hv : m ar.arg = some (.ref x)) (hx : s.heap.get? x = some (excO C t0))
    (hks : scope.names.lookup ("super" : Str) = some .globalImplicit) (hkc : scope.names.lookup ("__class__" : Str) = some .free) (hka : scope.names.lookup ar.arg = some .local) (hk : scope.kind = .function)
    (hargs : ∀ (s1 : Shared) (Q1 : List Value → Shared → Prop), s1.heap.Ns L m → s1.heap.Ns mainGlobals mg → s1.heap.Ns builtinsNs mb → (∀ us tk, us.length ≤ 10 → Q1 us { s1 with toks := tk }) →
      wpAny (model prog w) A (spliced (backTo a4 (starEach (e0 :: es) (ksEnv qual scope L fI (.ref cda) cc)))) Q1 E s1)
    (he : starEach (e0 :: es) (ksEnv qual scope L fI (.ref cda) cc) = (false, eval e0 (ksEnv qual scope L fI (.ref cda) cc)) :: starEach es (ksEnv qual scope L fI (.ref cda) cc))
    (hpl : (backTo a4 (starEach es (ksEnv qual scope L fI (.ref cda) cc))).any (·.1) = false)
    (hi : interactive (ksEnv qual scope L fI (.ref cda) cc) = false) {pl : Sem Bool}
    (hev : eval (.Call (.Attribute (.Call (.Name "super" a1) [] [] a2) "__init__" a3) (e0 :: es) [] a4) (ksEnv qual scope L fI (.ref cda) cc) = (do
      let ov ← attributeBase (.Call (.Name "super" a1) [] [] a2) "__init__" (ksEnv qual scope L fI (.ref cda) cc) (eval (.Call (.Name "super" a1) [] [] a2) (ksEnv qual scope L fI (.ref cda) cc))
      standAt a3.atName
      let (f, first) ← holding [ov] (getMethod ov "__init__" pl)
      callWith a4 f first (backTo a4 (starEach (e0 :: es) (ksEnv qual scope L fI (.ref cda) cc))) []))
    (hsw : swapsWith (.Call (.Attribute (.Call (.Name "super" a1) [] [] a2) "__init__" a3) (e0 :: es) [] a4) none a5.line (ksEnv qual scope L fI (.ref cda) cc) = pure false)
    (h : ∀ h' tk t1, (∀ b o, b ≠ x → s.heap.get? b = some o → h'.get? b = some o) → h'.get? x = some (excO C t1) → Q .next { s with heap := h', toks := tk }) :
    _root_.PySem.wpAt (model prog w) A (.func body (ksEnv qual scope L fI (.ref cda) cc)) (exec (supS (e0 :: es) a1 a2 a3 a4 a5) (ksEnv qual scope L fI (.ref cda) cc)) Q E s := by
  have hCc : clsIn K C = some { name := nm, bases := bs, mro := .ref C :: bm, ns := N, qualname := q, hasDict := true, slotNames := sn, subclasses := sub, abstract := ab, collection := col, hasDel := false } := by unfold clsIn; rw [hC] <;> rfl
  obtain ⟨hh, g, d, t, os⟩ := s
  have hCh := X _ _ hC
  have xC : x ≠ C := by
    rintro rfl
    rw [hCh] at hx
    cases hx
  unfold supS
  refine ks_wpAt_Expr_any (ks_wpAt_MethodCall ?_ hev) hi hsw
  refine ks_wpAt_super_base (env := ksEnv qual scope L fI (.ref cda) cc) hks hkc (by decide) rfl (X _ _ hf) rfl hp rfl (X _ _ hcode) rfl hvs hfile htop ?_
  refine ks_loadName_global hk hks (loadGlobal_builtin (env := ksEnv qual scope L fI (.ref cda) cc) hg hsu hb ((hbt _ (by decide +kernel)).trans (show bootBuiltins ("super" : Str) = some (.type "super") by decide +kernel)) ⟨rfl, ?_⟩)
  refine wpAny_loadName_free hk hkc rfl ⟨_, X _ _ hcell, rfl⟩ ?_
  refine wpAny_loadName_local hk hka hns hv ?_
  refine ks_wpAny_isType_cls hCh rfl ⟨rfl, ?_⟩
  refine ks_wpAny_call_super hCh rfl hx rfl (fun c e => ?_) (looks_mroIn X self1) (fun h1 e1 k1 => ?_)
  · cases e
  have X1 : K.In h1 := X.keeps k1
  have hx1 := k1 _ _ hx
  have hI : Looks (model prog w) h1 (isInstance (.ref x) (.type "ValueError")) true := (InstAt.type (od := none) ⟨hx1, rfl, rfl, trivial⟩).andThen (looks_subIn X1 isVE)
  have hsu2 := sup
  unfold ks_superIn at hsu2
  rw [hCc] at hsu2
  refine kxs_getMethod kxs_ValueError e1 (looks_opaque X1 opq) (l₀ := .ref C :: bm) ?_ rfl X1 hsu2 hI xC (by decide) ?_
  · exact fun A Q E s k q => wpAny_bind ((looks_clsIn X1 hCc) A _ E s k (wpAny_pure q))
  have k2 : ∀ b o, h1.get? b = some o → (h1.push (kxs_mw "ValueError.__init__" x)).get? b = some o := fun b o e => Heap.get?_push_of_some _ e
  have k12 : ∀ b o, hh.get? b = some o → (h1.push (kxs_mw "ValueError.__init__" x)).get? b = some o := fun b o e => k2 b o (k1 b o e)
  have mwn : (h1.push (kxs_mw "ValueError.__init__" x)).get? h1.objs.size = some (kxs_mw "ValueError.__init__" x) := Heap.get?_push_at rfl rfl
  rw [he]
  refine kxs_callWith (i := "ValueError.__init__") (x := x) (by show (false || (backTo a4 (starEach es (ksEnv qual scope L fI (.ref cda) cc))).any (·.1)) = false; rw [hpl]; rfl) ?_
  refine evalArgs_plain ?_
  have ha := hargs ⟨h1.push (kxs_mw "ValueError.__init__" x), g, d, t + 1, os⟩ (fun vs s₁ => KxsAt "ValueError.__init__" h1.objs.size x s₁.heap ∧ wpAny (model prog w) A (call (.ref h1.objs.size) ([] ++ vs)) (fun _ => Q .next) E s₁) (hns.keeps k12) (hg.keeps k12) (hb.keeps k12) (fun us tk hl => ?_)
  · rw [he] at ha
    exact ha
  refine ⟨mwn, ?_⟩
  refine call_mw ((X.keeps k12) _ _ hC) (k12 _ _ hx) mwn (Nat.le_trans hl (by rw [sizeLine_eq]; decide)) fun h' t1 k e => ?_
  exact h h' tk t1 (fun b o hb e => k b o hb (k12 b o e)) e

/-- what the text of the maker says: everything that hangs on its written scope -/
structure SupW (prog : Program) (w : World) (params : Arguments) (scope : Scope) (qual : Str) (fs : List Str) (ok : List Value → Prop) (e0 : Expr) (es : List Expr) (a1 a2 a3 a4 a5 : Pos) : Prop where
  hk : scope.kind = .function
  co : scope.isCoroutine = false
  gen : scope.isGenerator = false
  ks : scope.names.lookup ("super" : Str) = some .globalImplicit
  kc : scope.names.lookup ("__class__" : Str) = some .free
  kse : scope.names.lookup ("self" : Str) = some .local
  kf : ∀ f ∈ fs, scope.names.lookup f = some .local
  cell : ∀ y ∈ scope.names, y.2 ≠ .cell
  par : ∃ p, (params.posonlyargs ++ params.args).head? = some p ∧ p.arg = "self"
  hi : ∀ (L fI : Addr) (cd : Value) (cc : Addr), interactive (ksEnv qual scope L fI cd cc) = false
  hev : ∀ (L fI : Addr) (cd : Value) (cc : Addr), ∃ pl : Sem Bool, eval (.Call (.Attribute (.Call (.Name "super" a1) [] [] a2) "__init__" a3) (e0 :: es) [] a4) (ksEnv qual scope L fI cd cc) = (do
      let ov ← attributeBase (.Call (.Name "super" a1) [] [] a2) "__init__" (ksEnv qual scope L fI cd cc) (eval (.Call (.Name "super" a1) [] [] a2) (ksEnv qual scope L fI cd cc))
      standAt a3.atName
      let (f, first) ← holding [ov] (getMethod ov "__init__" pl)
      callWith a4 f first (backTo a4 (starEach (e0 :: es) (ksEnv qual scope L fI cd cc))) [])
  hsw : ∀ (L fI : Addr) (cd : Value) (cc : Addr), swapsWith (.Call (.Attribute (.Call (.Name "super" a1) [] [] a2) "__init__" a3) (e0 :: es) [] a4) none a5.line (ksEnv qual scope L fI cd cc) = pure false
  hst : ∀ (L fI : Addr) (cd : Value) (cc : Addr) (f : Str) (q1 q2 q3 q4 : Pos), swapsWith (.Name f q3) (some (.Attribute (.Name "self" q1) f q2)) q4.line (ksEnv qual scope L fI cd cc) = pure false
  he : ∀ (L fI : Addr) (cd : Value) (cc : Addr), starEach (e0 :: es) (ksEnv qual scope L fI cd cc) = (false, eval e0 (ksEnv qual scope L fI cd cc)) :: starEach es (ksEnv qual scope L fI cd cc)
  hpl : ∀ (L fI : Addr) (cd : Value) (cc : Addr), (backTo a4 (starEach es (ksEnv qual scope L fI cd cc))).any (·.1) = false
  hargs : ∀ (L fI : Addr) (cd : Value) (cc : Addr) (A : Around) (E : Value → Shared → Prop) (us : List Value) (s1 : Shared) (mg mb m : Str → Option Value) (Q1 : List Value → Shared → Prop), ok us → (∀ (i : Nat) (f : Str), fs[i]? = some f → m f = us[i]?) → us.length = fs.length → mg "str" = none → s1.heap.Ns L m → s1.heap.Ns mainGlobals mg → s1.heap.Ns builtinsNs mb →
      (∀ y : Str, y ≠ "__name__" → mb y = bootBuiltins y) → (∀ ws tk, ws.length ≤ 10 → Q1 ws { s1 with toks := tk }) →
      wpAny (model prog w) A (spliced (backTo a4 (starEach (e0 :: es) (ksEnv qual scope L fI cd cc)))) Q1 E s1
/-- what a maker leaves of a fresh exception at x: its dict holds the map -/
structure InitEnd (h h' : Heap) (x C dx : Addr) (mA : Str → Option Value) : Prop where
  keep : ∀ b o, b ≠ x → h.get? b = some o → h'.get? b = some o
  obj : ∃ t1, h'.get? x = some { cls := .ref C, dict := some dx, data := .fields #[.ref t1, .none, .none, .none, .bool false, .none] }
  dbig : h.objs.size ≤ dx
  dne : dx ≠ x
  ns : h'.Ns1 dx mA
theorem ldS {M : Model} {s : Shared} {env : Env} {m : Str → Option Value} {x : Str} {pos : Pos} {v : Value} {Q : Value → Shared → Prop} {A : Around} {E : Value → Shared → Prop} (hk : env.scope.kind = .function) (hl : env.kindOf x = some .local) (hn : s.heap.Ns env.locals m) (hv : m x = some v) (h : Q v s)
    (hd : (x == ("__debug__" : Str)) = false) : wpAny M A (eval (.Name x pos) env) Q E s := wpAny_Name (wpAny_loadName_local hk hl hn hv h) hd
section
variable {prog : Program} {w : World} {A : Around} {E : Value → Shared → Prop} {K : Frag} {C fI : Addr} {qual : Str} {params : Arguments} {body : List Stmt} {scope : Scope} {mg mb : Str → Option Value} {x t0 : Addr} {s : Shared} {R : Result → Shared → Prop}
    {f f1 f2 : Str} {ok : List Value → Prop} {e0 : Expr} {es : List Expr} {a1 a2 a3 a4 a5 q1 q2 q3 q4 r1 r2 r3 r4 : Pos}
theorem kin_but {h h' : Heap} (X : K.In h) (hx : K.lookup x = none) (k : ∀ b o, b ≠ x → h.get? b = some o → h'.get? b = some o) : K.In h' := fun a o e => k a o (fun z => by rw [z, hx] at e; cases e) (X a o e)
theorem ns_but {h h' : Heap} {L : Addr} {m : Str → Option Value} (n : L ≠ x) (hn : h.Ns L m) (k : ∀ b o, b ≠ x → h.get? b = some o → h'.get? b = some o) : h'.Ns L m := by
  obtain ⟨o, es, ep, ho, r⟩ := hn
  exact ⟨o, es, ep, k _ _ n ho, r⟩
/-- one field -/
theorem sup_init1 (T : SupC prog K C fI qual params [supS (e0 :: es) a1 a2 a3 a4 a5, stoS f q1 q2 q3 q4] scope) (W : SupW prog w params scope qual [f] ok e0 es a1 a2 a3 a4 a5) (hnf : findIn K (.ref C) f = some none) (hfd : (f == ("__debug__" : Str)) = false) (hfs : f ≠ "self") {v : Value} (hok : ok [v])
    (hb : ∀ (kV doc pm : Value) (an : Option Addr) (cdv ct : Value) (cc : Addr), bindArgs (ksFn "__init__" qual params [supS (e0 :: es) a1 a2 a3 a4 a5, stoS f q1 q2 q3 q4] scope .none kV doc pm an cdv ct cc) ⟨[.ref x, v], []⟩ = pure [(("self" : Str), Value.ref x), (f, v)])
    (X : K.In s.heap) (hlim : s.heap.NoLimit) (hg : s.heap.Ns mainGlobals mg) (hbn : s.heap.Ns builtinsNs mb) (hbt : ∀ y : Str, y ≠ "__name__" → mb y = bootBuiltins y) (hsu : mg "super" = none) (hstr : mg "str" = none)
    (hx : s.heap.get? x = some (excO C t0)) (hnx : K.lookup x = none) (hroom : A.depth < recursionLimit)
    (hq : ∀ h' tk dx, InitEnd s.heap h' x C dx (fun y => if y = f then some v else none) → R (.ok (.ret .none)) { s with heap := h', toks := tk }) :
    codeAny (model prog w) A (.call (.ref fI) ⟨[.ref x, v], []⟩) R s := by
  obtain ⟨nm, q, N, bs, bm, sn, sub, ab, col, dd, k0, k1, k2, k3, k5, hC, hbm⟩ := T.cls
  obtain ⟨oc, od, kV, doc, pm, an, cda, ct, osl, cc, vs, file, tf, ccl, cdd, ccs, cl, cld, csl, hf, hcd, hcode, hvs, hfile, hcell⟩ := T.fn
  obtain ⟨par, hp, hps⟩ := W.par
  have hcl : clsIn K C = some { name := nm, bases := bs, mro := .ref C :: bm, ns := N, qualname := q, hasDict := true, slotNames := sn, subclasses := sub, abstract := ab, collection := col, hasDel := false } := by unfold clsIn; rw [hC] <;> rfl
  refine ks_codeAny_call_defAt (fd := ksFn "__init__" qual params [supS (e0 :: es) a1 a2 a3 a4 a5, stoS f q1 q2 q3 q4] scope .none kV doc pm an (.ref cda) ct cc) (binds := [(("self" : Str), Value.ref x), (f, v)]) hroom (X _ _ hf) rfl hlim (codeRec_of X hcd) rfl (BindsTo.of_eq (hb ..)) W.cell ?_ (fun h₁ hn k₁ => ?_) W.co W.gen W.hk
  · intro y hy
    rcases List.mem_cons.mp hy with rfl | hy
    · exact W.kse
    · rcases List.mem_cons.mp hy with rfl | hy
      · exact W.kf f (List.mem_cons_self)
      · cases hy
  have hmf : (fun y => List.lookup y (List.reverse [(("self" : Str), Value.ref x), (f, v)])) f = some v := by
    show List.lookup f [(f, v), (("self" : Str), Value.ref x)] = some v
    simp [List.lookup]
  have hms : (fun y => List.lookup y (List.reverse [(("self" : Str), Value.ref x), (f, v)])) ("self" : Str) = some (Value.ref x) := by
    show List.lookup ("self" : Str) [(f, v), (("self" : Str), Value.ref x)] = some (.ref x)
    have e : (("self" : Str) == f) = false := by simpa using Ne.symm hfs
    simp [List.lookup, e]
  have X₁ : K.In h₁ := X.keeps k₁
  obtain ⟨pl, hev⟩ := W.hev s.heap.objs.size fI (.ref cda) cc
  show _root_.PySem.wpAt _ _ (.func _ (ksEnv qual scope s.heap.objs.size fI (.ref cda) cc)) (execs _ (ksEnv qual scope s.heap.objs.size fI (.ref cda) cc)) _ _ _
  refine ks_wpAt_execs_cons (sup_first hC X₁ (hg.keeps k₁) (hbn.keeps k₁) hbt hsu hf hp hcode hvs hfile hcell T.self1 T.isVE T.opq T.sup T.top hn (by rw [hps]; exact hms) (k₁ _ _ hx) W.ks W.kc (by rw [hps]; exact W.kse) W.hk ?_ (W.he ..) (W.hpl ..) (W.hi ..) hev (W.hsw ..) ?_)
  · intro s1 Q1 g1 g2 g3 g4
    refine W.hargs _ _ _ _ _ _ [v] s1 mg mb _ Q1 hok (fun i f' e => ?_) rfl hstr g1 g2 g3 hbt g4
    match i, e with
    | 0, e => cases e; exact hmf
  intro h₂ tk₂ t₁ k₂ hx₂
  refine wpAt_of_wpAny ?_
  have n₂ : s.heap.objs.size ≠ x := Nat.ne_of_gt (Heap.lt_size hx)
  have k12 : ∀ b o, b ≠ x → s.heap.get? b = some o → h₂.get? b = some o := fun b o hb e => k₂ b o hb (k₁ b o e)
  have X₂ : K.In h₂ := kin_but X₁ hnx k₂
  have hn₂ : h₂.Ns s.heap.objs.size _ := ns_but n₂ hn k₂
  show wpAny _ _ (execs _ _) _ _ _
  refine wpAny_execs_cons (plainObj_wpAny_Assign_Attribute ?_ (W.hst ..))
  refine ldS W.hk (W.kf f (List.mem_cons_self)) hn₂ hmf (ldS W.hk W.kse hn₂ hms ?_ (by decide)) hfd
  refine set_plain X₂ (ox := excO C t₁) (od := none) ⟨hx₂, rfl, rfl, trivial⟩ T.sa ?_
  refine exc_osa X₂ hx₂ hcl (show refsVE (.ref C :: bm) = true from hbm) rfl hnf (fun h₃ tk₃ dx k₃ dn dne hx₃ hn₃ => ?_)
  show wpAny _ _ (execs _ _) _ _ _
  refine wpAny_execs_nil (hq h₃ tk₃ dx ⟨fun b o hb e => k₃ b o hb (k12 b o hb e), ⟨_, hx₃⟩, ?_, dne, hn₃⟩)
  exact Nat.le_of_lt (Nat.lt_of_lt_of_le hn₂.lt dn)
/-- two fields -/
theorem sup_init2 (T : SupC prog K C fI qual params [supS (e0 :: es) a1 a2 a3 a4 a5, stoS f1 q1 q2 q3 q4, stoS f2 r1 r2 r3 r4] scope) (W : SupW prog w params scope qual [f1, f2] ok e0 es a1 a2 a3 a4 a5)
    (hnf1 : findIn K (.ref C) f1 = some none) (hnf2 : findIn K (.ref C) f2 = some none) (hfd1 : (f1 == ("__debug__" : Str)) = false) (hfd2 : (f2 == ("__debug__" : Str)) = false) (hfs1 : f1 ≠ "self") (hfs2 : f2 ≠ "self") (h12 : f1 ≠ f2) {v1 v2 : Value} (hok : ok [v1, v2])
    (hb : ∀ (kV doc pm : Value) (an : Option Addr) (cdv ct : Value) (cc : Addr), bindArgs (ksFn "__init__" qual params [supS (e0 :: es) a1 a2 a3 a4 a5, stoS f1 q1 q2 q3 q4, stoS f2 r1 r2 r3 r4] scope .none kV doc pm an cdv ct cc) ⟨[.ref x, v1, v2], []⟩ = pure [(("self" : Str), Value.ref x), (f1, v1), (f2, v2)])
    (X : K.In s.heap) (hlim : s.heap.NoLimit) (hg : s.heap.Ns mainGlobals mg) (hbn : s.heap.Ns builtinsNs mb) (hbt : ∀ y : Str, y ≠ "__name__" → mb y = bootBuiltins y) (hsu : mg "super" = none) (hstr : mg "str" = none)
    (hx : s.heap.get? x = some (excO C t0)) (hnx : K.lookup x = none) (hroom : A.depth < recursionLimit)
    (hq : ∀ h' tk dx, InitEnd s.heap h' x C dx (fun y => if y = f2 then some v2 else if y = f1 then some v1 else none) → R (.ok (.ret .none)) { s with heap := h', toks := tk }) :
    codeAny (model prog w) A (.call (.ref fI) ⟨[.ref x, v1, v2], []⟩) R s := by
  obtain ⟨nm, q, N, bs, bm, sn, sub, ab, col, dd, k0, k1, k2, k3, k5, hC, hbm⟩ := T.cls
  obtain ⟨oc, od, kV, doc, pm, an, cda, ct, osl, cc, vs, file, tf, ccl, cdd, ccs, cl, cld, csl, hf, hcd, hcode, hvs, hfile, hcell⟩ := T.fn
  obtain ⟨par, hp, hps⟩ := W.par
  have hcl : clsIn K C = some { name := nm, bases := bs, mro := .ref C :: bm, ns := N, qualname := q, hasDict := true, slotNames := sn, subclasses := sub, abstract := ab, collection := col, hasDel := false } := by unfold clsIn; rw [hC] <;> rfl
  have kf1 := W.kf f1 (List.mem_cons_self)
  have kf2 := W.kf f2 (List.mem_cons_of_mem _ (List.mem_cons_self))
  refine ks_codeAny_call_defAt (fd := ksFn "__init__" qual params [supS (e0 :: es) a1 a2 a3 a4 a5, stoS f1 q1 q2 q3 q4, stoS f2 r1 r2 r3 r4] scope .none kV doc pm an (.ref cda) ct cc) (binds := [(("self" : Str), Value.ref x), (f1, v1), (f2, v2)]) hroom (X _ _ hf) rfl hlim (codeRec_of X hcd) rfl (BindsTo.of_eq (hb ..)) W.cell ?_ (fun h₁ hn k₁ => ?_) W.co W.gen W.hk
  · intro y hy
    rcases List.mem_cons.mp hy with rfl | hy
    · exact W.kse
    rcases List.mem_cons.mp hy with rfl | hy
    · exact kf1
    rcases List.mem_cons.mp hy with rfl | hy
    · exact kf2
    · cases hy
  have e12 : (f1 == f2) = false := by simpa using h12
  have es1 : (("self" : Str) == f1) = false := by simpa using Ne.symm hfs1
  have es2 : (("self" : Str) == f2) = false := by simpa using Ne.symm hfs2
  have hmf1 : (fun y => List.lookup y (List.reverse [(("self" : Str), Value.ref x), (f1, v1), (f2, v2)])) f1 = some v1 := by
    show List.lookup f1 [(f2, v2), (f1, v1), (("self" : Str), Value.ref x)] = some v1
    simp [List.lookup, e12]
  have hmf2 : (fun y => List.lookup y (List.reverse [(("self" : Str), Value.ref x), (f1, v1), (f2, v2)])) f2 = some v2 := by
    show List.lookup f2 [(f2, v2), (f1, v1), (("self" : Str), Value.ref x)] = some v2
    simp [List.lookup]
  have hms : (fun y => List.lookup y (List.reverse [(("self" : Str), Value.ref x), (f1, v1), (f2, v2)])) ("self" : Str) = some (Value.ref x) := by
    show List.lookup ("self" : Str) [(f2, v2), (f1, v1), (("self" : Str), Value.ref x)] = some (.ref x)
    simp [List.lookup, es1, es2]
  have X₁ : K.In h₁ := X.keeps k₁
  obtain ⟨pl, hev⟩ := W.hev s.heap.objs.size fI (.ref cda) cc
  show _root_.PySem.wpAt _ _ (.func _ (ksEnv qual scope s.heap.objs.size fI (.ref cda) cc)) (execs _ (ksEnv qual scope s.heap.objs.size fI (.ref cda) cc)) _ _ _
  refine ks_wpAt_execs_cons (sup_first hC X₁ (hg.keeps k₁) (hbn.keeps k₁) hbt hsu hf hp hcode hvs hfile hcell T.self1 T.isVE T.opq T.sup T.top hn (by rw [hps]; exact hms) (k₁ _ _ hx) W.ks W.kc (by rw [hps]; exact W.kse) W.hk ?_ (W.he ..) (W.hpl ..) (W.hi ..) hev (W.hsw ..) ?_)
  · intro s1 Q1 g1 g2 g3 g4
    refine W.hargs _ _ _ _ _ _ [v1, v2] s1 mg mb _ Q1 hok (fun i f' e => ?_) rfl hstr g1 g2 g3 hbt g4
    match i, e with
    | 0, e => cases e; exact hmf1
    | 1, e => cases e; exact hmf2
  intro h₂ tk₂ t₁ k₂ hx₂
  refine wpAt_of_wpAny ?_
  have n₂ : s.heap.objs.size ≠ x := Nat.ne_of_gt (Heap.lt_size hx)
  have k12 : ∀ b o, b ≠ x → s.heap.get? b = some o → h₂.get? b = some o := fun b o hb e => k₂ b o hb (k₁ b o e)
  have X₂ : K.In h₂ := kin_but X₁ hnx k₂
  have hn₂ : h₂.Ns s.heap.objs.size _ := ns_but n₂ hn k₂
  show wpAny _ _ (execs _ _) _ _ _
  refine wpAny_execs_cons (plainObj_wpAny_Assign_Attribute ?_ (W.hst ..))
  refine ldS W.hk kf1 hn₂ hmf1 (ldS W.hk W.kse hn₂ hms ?_ (by decide)) hfd1
  refine set_plain X₂ (ox := excO C t₁) (od := none) ⟨hx₂, rfl, rfl, trivial⟩ T.sa ?_
  refine exc_osa X₂ hx₂ hcl (show refsVE (.ref C :: bm) = true from hbm) rfl hnf1 (fun h₃ tk₃ dx k₃ dn dne hx₃ hn₃ => ?_)
  have X₃ : K.In h₃ := kin_but X₂ hnx k₃
  have hLd : s.heap.objs.size ≠ dx := Nat.ne_of_lt (Nat.lt_of_lt_of_le hn₂.lt dn)
  have hn₃' : h₃.Ns s.heap.objs.size _ := ns_but n₂ hn₂ k₃
  obtain ⟨od3, ho3⟩ : ∃ o, h₃.get? dx = some o := by
    obtain ⟨o, _, _, e, _⟩ := hn₃
    exact ⟨o, e⟩
  show wpAny _ _ (execs _ _) _ _ _
  refine wpAny_execs_cons (plainObj_wpAny_Assign_Attribute ?_ (W.hst ..))
  refine ldS W.hk kf2 hn₃' hmf2 (ldS W.hk W.kse hn₃' hms ?_ (by decide)) hfd2
  refine set_plain X₃ (ox := { cls := .ref C, dict := some dx, data := .fields #[.ref t₁, .none, .none, .none, .bool false, .none] }) (od := some od3) ⟨hx₃, rfl, rfl, ho3⟩ T.sa ?_
  refine PySem.OEX.osa_old X₃ hx₃ hn₃ (nl := [f1]) (fun y hy => ?_) (by show 1 ≤ 1000; decide) hcl (show refsVE (.ref C :: bm) = true from hbm) rfl hnf2 (fun h₄ tk₄ k₄ hn₄ => ?_)
  · by_cases e : y = f1
    · rw [e]; exact List.mem_cons_self
    · exact absurd (if_neg e) hy
  show wpAny _ _ (execs _ _) _ _ _
  have hbig : s.heap.objs.size ≤ dx := Nat.le_of_lt (Nat.lt_of_lt_of_le hn₂.lt dn)
  refine wpAny_execs_nil (hq h₄ tk₄ dx ⟨fun b o hb e => k₄ b o (Nat.ne_of_lt (Nat.lt_of_lt_of_le (Heap.lt_size e) hbig)) (k₃ b o hb (k12 b o hb e)), ⟨_, k₄ _ _ (Ne.symm dne) hx₃⟩, hbig, dne, hn₄⟩)
end
/-- an error that is made -/
structure Made (h h' : Heap) (e C d : Addr) (mA : Str → Option Value) : Prop where
  keep : ∀ b o, h.get? b = some o → h'.get? b = some o
  new : h.objs.size ≤ e
  obj : ∃ t1 : Addr, h'.get? e = some { cls := .ref C, dict := some d, data := .fields #[.ref t1, .none, .none, .none, .bool false, .none] }
  dbig : h.objs.size ≤ d
  dne : d ≠ e
  ns : h'.Ns1 d mA
/-- the class at C makes errors of these fields -/
structure Makes (prog : Program) (w : World) (K : Frag) (mg : Str → Option Value) (C : Addr) (fs : List Str) (ok : List Value → Prop) : Prop where
  kC : keepIn K (.ref C) = true
  exC : subIn K (.ref C) (.type "BaseException") = some true
  tyC : typeIn K (.ref C) = some (.type "type")
  run : ∀ (A : Around) (s : Shared) (us : List Value) (mb : Str → Option Value) (R : Result → Shared → Prop), us.length = fs.length → ok us → K.In s.heap → s.heap.NoLimit → s.heap.Ns mainGlobals mg → s.heap.Ns builtinsNs mb → (∀ y : Str, y ≠ "__name__" → mb y = bootBuiltins y) →
    A.depth + 1 < recursionLimit → (∀ h' tk e d mA, (∀ f : Str, mA f = (fs.zip us).lookup f) → Made s.heap h' e C d mA → R (.ok (.ret (.ref e))) { s with heap := h', toks := tk }) → codeAny (model prog w) A (.call (.ref C) ⟨us, []⟩) R s
/-- from the maker to the class -/
theorem made_of {prog : Program} {w : World} {A : Around} {K : Frag} {C fI : Addr} {s : Shared} {us : List Value} {mA : Str → Option Value} {R : Result → Shared → Prop} {nm q : Str} {N : Addr} {bs bm : List Value} {sn : List Str} {sub : List Value} {ab : Bool} {col : Option Bool} {dd : Option Addr} {k0 k1 k2 k3 k5 : Option Value}
    (hC : K.lookup C = some (excClassObj nm q C N bs bm true sn sub ab col dd k0 k1 k2 k3 k5 "ValueError.__new__")) (hbm : refsVE bm = true) (iC : findIn K (.ref C) "__init__" = some (some (.ref fI))) (tC : typeIn K (.ref fI) = some (.type "function")) (hus : us.length ≤ 10)
    (X : K.In s.heap) (hlim : s.heap.NoLimit)
    (hin : ∀ (A' : Around) (s' : Shared) (x t0 : Addr) (R' : Result → Shared → Prop), A'.depth = A.depth + 1 → (∀ b o, s.heap.get? b = some o → s'.heap.get? b = some o) → s'.heap.get? x = some (excO C t0) → K.lookup x = none →
      (∀ h' tk dx, InitEnd s'.heap h' x C dx mA → R' (.ok (.ret .none)) { s' with heap := h', toks := tk }) → codeAny (model prog w) A' (.call (.ref fI) ⟨.ref x :: us, []⟩) R' s')
    (hq : ∀ h' tk e d, Made s.heap h' e C d mA → R (.ok (.ret (.ref e))) { s with heap := h', toks := tk }) :
    codeAny (model prog w) A (.call (.ref C) ⟨us, []⟩) R s := by
  obtain ⟨hp, g, dr, tk, os⟩ := s
  have k : ∀ b o, hp.get? b = some o → ((hp.push (kdv_tup us)).push (excO C hp.objs.size)).get? b = some o := fun b o e => Heap.get?_push_of_some _ (Heap.get?_push_of_some _ e)
  have hget : ((hp.push (kdv_tup us)).push (excO C hp.objs.size)).get? (hp.objs.size + 1) = some (excO C hp.objs.size) := by heap_get
  have hnx : K.lookup (hp.objs.size + 1) = none := by
    cases e : K.lookup (hp.objs.size + 1) with
    | none => rfl
    | some o =>
      have z : hp.get? (hp.objs.size + 1) = some o := X _ _ e
      exact absurd (Nat.lt_of_succ_lt (Heap.lt_size z)) (Nat.lt_irrefl _)
  refine call_own F.excBase_ValueError (fun X => refsVE_contains X bm hbm) (X _ _ hC) (looks_findIn X iC) (fun self => bind_fn X self tC) (Nat.le_trans hus (by rw [sizeLine_eq]; decide)) ?_
  refine hin (A.under (.builtin "type.__call__" ⟨.ref C :: us, []⟩)) ⟨(hp.push (kdv_tup us)).push (excO C hp.objs.size), g, dr, tk, os⟩ (hp.objs.size + 1) hp.objs.size _ rfl k hget hnx fun h' tk' dx ⟨k', hx, dn, dne, hns⟩ => ?_
  have old : ∀ b o, hp.get? b = some o → h'.get? b = some o := fun b o e => k' b o (Nat.ne_of_lt (Nat.lt_succ_of_lt (Heap.lt_size e))) (k b o e)
  have z : hp.objs.size + 1 + 1 ≤ dx := by
    first
      | (simpa only [Heap.size_push] using dn)
      | exact dn
      | (have q := dn; rw [Heap.size_push, Heap.size_push] at q; exact q)
  obtain ⟨t1, hx⟩ := hx
  exact ⟨rfl, hq h' tk' (hp.objs.size + 1) dx ⟨old, Nat.le_succ _, ⟨t1, hx⟩, Nat.le_trans (Nat.le_trans (Nat.le_succ _) (Nat.le_succ _)) z, dne, hns⟩⟩
section
variable {prog : Program} {w : World} {K : Frag} {C fI : Addr} {qual : Str} {params : Arguments} {scope : Scope} {mg : Str → Option Value} {f f1 f2 : Str} {ok : List Value → Prop} {e0 : Expr} {es : List Expr} {a1 a2 a3 a4 a5 q1 q2 q3 q4 r1 r2 r3 r4 : Pos}
theorem makes1 (T : SupC prog K C fI qual params [supS (e0 :: es) a1 a2 a3 a4 a5, stoS f q1 q2 q3 q4] scope) (W : SupW prog w params scope qual [f] ok e0 es a1 a2 a3 a4 a5) (kC : keepIn K (.ref C) = true) (exC : subIn K (.ref C) (.type "BaseException") = some true) (tyC : typeIn K (.ref C) = some (.type "type"))
    (hnf : findIn K (.ref C) f = some none) (hfd : (f == ("__debug__" : Str)) = false) (hfs : f ≠ "self") (hsu : mg "super" = none) (hstr : mg "str" = none)
    (hb : ∀ (x : Addr) (v : Value) (kV doc pm : Value) (an : Option Addr) (cdv ct : Value) (cc : Addr), bindArgs (ksFn "__init__" qual params [supS (e0 :: es) a1 a2 a3 a4 a5, stoS f q1 q2 q3 q4] scope .none kV doc pm an cdv ct cc) ⟨[.ref x, v], []⟩ = pure [(("self" : Str), Value.ref x), (f, v)]) :
    Makes prog w K mg C [f] ok where
  kC := kC
  exC := exC
  tyC := tyC
  run := fun A s us mb R hl hok X hlim hg hbn hbt hroom hq => by
    obtain ⟨nm, q, N, bs, bm, sn, sub, ab, col, dd, k0, k1, k2, k3, k5, hC, hbm⟩ := T.cls
    match us, hl with
    | [v], _ =>
      refine made_of (mA := fun y => if y = f then some v else none) hC hbm T.iC T.tC (by show 1 ≤ 10; decide) X hlim (fun A' s' x t0 R' hd k hx hnx h' => ?_) fun h' tk e d M => hq h' tk e d _ (fun g => ?_) M
      · exact sup_init1 T W hnf hfd hfs hok (hb x v) (X.keeps k) (hlim.keeps k) (hg.keeps k) (hbn.keeps k) hbt hsu hstr hx hnx (by rw [hd]; exact hroom) h'
      · by_cases e : g = f
        · subst e; simp [List.zip]
        · have e2 : (g == f) = false := by simpa using e
          simp [List.zip, List.lookup, e, e2]
theorem makes2 (T : SupC prog K C fI qual params [supS (e0 :: es) a1 a2 a3 a4 a5, stoS f1 q1 q2 q3 q4, stoS f2 r1 r2 r3 r4] scope) (W : SupW prog w params scope qual [f1, f2] ok e0 es a1 a2 a3 a4 a5) (kC : keepIn K (.ref C) = true) (exC : subIn K (.ref C) (.type "BaseException") = some true) (tyC : typeIn K (.ref C) = some (.type "type"))
    (hnf1 : findIn K (.ref C) f1 = some none) (hnf2 : findIn K (.ref C) f2 = some none) (hfd1 : (f1 == ("__debug__" : Str)) = false) (hfd2 : (f2 == ("__debug__" : Str)) = false) (hfs1 : f1 ≠ "self") (hfs2 : f2 ≠ "self") (h12 : f1 ≠ f2) (hsu : mg "super" = none) (hstr : mg "str" = none)
    (hb : ∀ (x : Addr) (v1 v2 : Value) (kV doc pm : Value) (an : Option Addr) (cdv ct : Value) (cc : Addr), bindArgs (ksFn "__init__" qual params [supS (e0 :: es) a1 a2 a3 a4 a5, stoS f1 q1 q2 q3 q4, stoS f2 r1 r2 r3 r4] scope .none kV doc pm an cdv ct cc) ⟨[.ref x, v1, v2], []⟩ = pure [(("self" : Str), Value.ref x), (f1, v1), (f2, v2)]) :
    Makes prog w K mg C [f1, f2] ok where
  kC := kC
  exC := exC
  tyC := tyC
  run := fun A s us mb R hl hok X hlim hg hbn hbt hroom hq => by
    obtain ⟨nm, q, N, bs, bm, sn, sub, ab, col, dd, k0, k1, k2, k3, k5, hC, hbm⟩ := T.cls
    match us, hl with
    | [v1, v2], _ =>
      refine made_of (mA := fun y => if y = f2 then some v2 else if y = f1 then some v1 else none) hC hbm T.iC T.tC (by show 2 ≤ 10; decide) X hlim (fun A' s' x t0 R' hd k hx hnx h' => ?_) fun h' tk e d M => hq h' tk e d _ (fun g => ?_) M
      · exact sup_init2 T W hnf1 hnf2 hfd1 hfd2 hfs1 hfs2 h12 hok (hb x v1 v2) (X.keeps k) (hlim.keeps k) (hg.keeps k) (hbn.keeps k) hbt hsu hstr hx hnx (by rw [hd]; exact hroom) h'
      · by_cases e : g = f2
        · subst e
          have e2 : (g == f1) = false := by simpa using Ne.symm h12
          simp [List.zip, List.lookup, e2]
        · have e2 : (g == f2) = false := by simpa using e
          by_cases e1 : g = f1
          · subst e1; simp [List.zip, List.lookup, e]
          · have e3 : (g == f1) = false := by simpa using e1
            simp [List.zip, List.lookup, e, e1, e2, e3]
end
end ErrL
end PySem

namespace L2
open PySem PySem.Spec PyProof.Rows
theorem relO_zip : ∀ {fs : List Str} {vs : List V} {us : List Value}, Vals vs us → ∀ f, RelO (List.lookup f (fs.zip vs)) (List.lookup f (fs.zip us))
  | [], vs, us, r, f => by simp [List.zip, RelO]
  | g :: fs, [], _, .nil, f => by simp [List.zip, RelO]
  | g :: fs, v :: vs, u :: us, .cons rv r, f => by
    by_cases e : f = g
    · subst e
      have q : RelO (some v) (some u) := rv
      simpa [List.zip, List.lookup] using q
    · have e2 : (f == g) = false := by simpa using e
      have ih := relO_zip (fs := fs) r f
      simpa [List.zip, List.lookup, e2] using ih
section
variable {X : Cx} {C : Addr} {fs : List Str} {ok : List Value → Prop}
/-- X(e, ..): a new error; okV says that the values may be written into its args -/
def tMkErr (C : Addr) (fs : List Str) (okV : List V → Prop) (ta : TA) : St → Hp → XK → Prop := fun σ H Q => ta σ H fun vs H1 => vs.length = fs.length ∧ okV vs ∧ ∀ d, H1 d = none → Q (.ref C) (some d) (upd H1 d (.xd (fs.zip vs)))
theorem pmk_err {x : Str} {e : Expr} {es : List Expr} {ta : TA} {p pos : Pos} {k : Nat} {okV : List V → Prop} (T : PySem.ErrL.Makes X.prog X.w X.K X.mg C fs ok) (hok : ∀ vs us, Vals vs us → okV vs → ok us) (gC : X.mg x = some (.ref C)) (hr : Room k X.A) (ha : PA X (e :: es) ta) (hg : Gl X x := by rfl)
    (hdb : (x == ("__debug__" : Str)) = false := by decide) (he : starEach (e :: es) X.env = (false, eval e X.env) :: starEach es X.env := by rfl) (hpl : (backTo pos (starEach es X.env)).any (·.1) = false := by rfl) :
    PMk X (.Call (.Name x p) (e :: es) [] pos) (tMkErr C fs okV ta) := by
  intro pins s σ H Q I h
  refine wpAny_Call_Name_kw (ld_glob I hg gC ?_ hdb)
  refine PySem.W.callWith_K (h₀ := X.base) I.ok.mod.kin T.kC (thn (ha.run pos pins s σ H _ I h) fun us s1 hh => ?_) he hpl
  obtain ⟨vs, H1, I1, r1, hl, hov, q1⟩ := hh
  refine ⟨I1.kIn, ?_⟩
  show wpAny _ _ (call (.ref C) us) _ _ _
  obtain ⟨mb, hmb, hbt⟩ := I1.mod.blt
  have hlim := I1.nolimit
  have hgl := I1.mod.glob.keeps I1.bk
  have hbl := hmb.keeps I1.bk
  have kin := I1.kIn
  obtain ⟨hp, g, dr, tk, os⟩ := s1
  refine wpAny_call (T.run _ _ us mb _ (by rw [← hl]; exact (Vals.length r1).symm) (hok vs us r1 hov) kin hlim hgl hbl hbt (by have := hr.dp; omega) fun h' tk' e d mA hmA M => ?_)
  show MkP X pins σ Q (.ref e) ⟨h', g, dr, tk', os⟩
  obtain ⟨t1, hoe⟩ := M.obj
  have hns := M.ns
  obtain ⟨G', g1, g2⟩ := restrict h' fun b => decide (b ≠ e)
  have gk : ∀ b, b ≠ e → G'.get? b = h'.get? b := fun b hb => g1 b (decide_eq_true hb)
  have ge : G'.get? e = none := g2 e (by simp)
  have old : ∀ b o, hp.get? b = some o → G'.get? b = some o := fun b o q => (gk b (Nat.ne_of_lt (Nat.lt_of_lt_of_le (Heap.lt_size q) M.new))).trans (M.keep b o q)
  have ob : ObjOk X.prog X.w (upd H1 d (.xd (fs.zip vs))) G' d (.xd (fs.zip vs)) :=
    ⟨_, hns.at (fun o q => (gk d M.dne).trans q), fun f => by rw [hmA]; exact relO_zip r1 f⟩
  have J : Inv X pins σ (upd H1 d (.xd (fs.zip vs))) ⟨G', g, dr, tk', os⟩ := I1.laid (t' := tk') old M.dbig ob
  refine ⟨e, _, _, ⟨G', g, dr, tk', os⟩, _, .ref C, some d, rfl, J, fun b o q => ?_, ge, hoe, ⟨rfl, rfl⟩, rfl, rfl, ?_, rfl, I1.bare, raises_own T.exC T.tyC, q1 d (I1.hok.fresh M.dbig)⟩
  · by_cases hb : b = e
    · have q' : G'.get? b = some o := q
      rw [hb, ge] at q'; cases q'
    · exact (gk b hb).symm.trans q
  · rw [upd_ne (Ne.symm M.dne)]
    exact I1.hok.fresh M.new
/-- raise X(e, ..) -/
def tRaiseErr (C : Addr) (fs : List Str) (okV : List V → Prop) (W : WX) (ta : TA) : TS := fun _ σ H => tMkErr C fs okV ta σ H fun cls d H' => W cls d σ H'
theorem ps_raiseErr {W : WX} {x : Str} {e : Expr} {es : List Expr} {ta : TA} {p pos pos2 : Pos} {k : Nat} {okV : List V → Prop} (hc : X.calm = true) (T : PySem.ErrL.Makes X.prog X.w X.K X.mg C fs ok) (hok : ∀ vs us, Vals vs us → okV vs → ok us) (gC : X.mg x = some (.ref C)) (hr : Room k X.A) (tk : Takes X W) (ha : PA X (e :: es) ta) (hg : Gl X x := by rfl)
    (hdb : (x == ("__debug__" : Str)) = false := by decide) (he : starEach (e :: es) X.env = (false, eval e X.env) :: starEach es X.env := by rfl) (hpl : (backTo pos (starEach es X.env)).any (·.1) = false := by rfl) :
    PS X (.Raise (some (.Call (.Name x p) (e :: es) [] pos)) none pos2) (tRaiseErr C fs okV W ta) := ps_raise hc tk (pmk_err T hok gC hr ha hg hdb he hpl)
end
end L2
set_option Elab.async false
set_option linter.all false
set_option maxRecDepth 100000
set_option maxHeartbeats 4000000
namespace PySem
namespace ErrL
open PySem.W PySem.Calls PyProof.Rows PySem.HandSPX
section
variable {prog : Program} {w : World} {params : Arguments} {scope : Scope} {qual : Str} {f f1 f2 : Str} {a1 a2 a3 a4 a5 p0 p1 p2 p3 : Pos} {j0 : Nat} {z : Str}
theorem args_c (hk : scope.kind = .function) (L fI : Addr) (cd : Value) (cc : Addr) (A : Around) (E : Value → Shared → Prop) (s1 : Shared) (Q1 : List Value → Shared → Prop) (h : ∀ (ws : List Value) tk, ws.length ≤ 10 → Q1 ws { s1 with toks := tk }) :
    wpAny (model prog w) A (spliced (backTo a4 (starEach [.Constant (.str z) j0 p0] (ksEnv qual scope L fI cd cc)))) Q1 E s1 := by
  show wpAny _ _ (spliced [(false, eval (.Constant (.str z) j0 p0) (ksEnv qual scope L fI cd cc))]) _ _ _
  exact spliced_cons (wpAny_Constant_str (spliced_nil (h _ _ (by show 1 ≤ 10; decide))))
theorem args_cn (hk : scope.kind = .function) (kf : scope.names.lookup f = some .local) (hfd : (f == ("__debug__" : Str)) = false) (L fI : Addr) (cd : Value) (cc : Addr) (A : Around) (E : Value → Shared → Prop) (v : Value) (s1 : Shared) (m : Str → Option Value) (Q1 : List Value → Shared → Prop)
    (hm : m f = some v) (hn : s1.heap.Ns L m) (h : ∀ (ws : List Value) tk, ws.length ≤ 10 → Q1 ws { s1 with toks := tk }) :
    wpAny (model prog w) A (spliced (backTo a4 (starEach [.Constant (.str z) j0 p0, .Name f p1] (ksEnv qual scope L fI cd cc)))) Q1 E s1 := by
  show wpAny _ _ (spliced [(false, eval (.Constant (.str z) j0 p0) (ksEnv qual scope L fI cd cc)), (false, eval (.Name f p1) (ksEnv qual scope L fI cd cc))]) _ _ _
  refine spliced_cons (wpAny_Constant_str (spliced_cons ?_))
  exact ldS hk kf hn hm (spliced_nil (h _ _ (by show 2 ≤ 10; decide))) hfd
theorem args_csn (hk : scope.kind = .function) (kf1 : scope.names.lookup f1 = some .local) (kf2 : scope.names.lookup f2 = some .local) (kstr : scope.names.lookup ("str" : Str) = some .globalImplicit) (hfd1 : (f1 == ("__debug__" : Str)) = false) (hfd2 : (f2 == ("__debug__" : Str)) = false)
    (L fI : Addr) (cd : Value) (cc : Addr) (A : Around) (E : Value → Shared → Prop) (i : Int) (t : Tok) (v2 : Value) (s1 : Shared) (m mg mb : Str → Option Value) (Q1 : List Value → Shared → Prop) (hi : i.natAbs.log2 < 1920)
    (hm1 : m f1 = some (.int i t)) (hm2 : m f2 = some v2) (hstr : mg "str" = none) (hn : s1.heap.Ns L m) (hg : s1.heap.Ns mainGlobals mg) (hb : s1.heap.Ns builtinsNs mb) (hbt : ∀ y : Str, y ≠ "__name__" → mb y = bootBuiltins y) (h : ∀ (ws : List Value) tk, ws.length ≤ 10 → Q1 ws { s1 with toks := tk })
    (he1 : starEach [.Name f1 p2] (ksEnv qual scope L fI cd cc) = (false, eval (.Name f1 p2) (ksEnv qual scope L fI cd cc)) :: starEach [] (ksEnv qual scope L fI cd cc)) :
    wpAny (model prog w) A (spliced (backTo a4 (starEach [.Constant (.str z) j0 p0, .Call (.Name "str" p1) [.Name f1 p2] [] p3, .Name f2 a5] (ksEnv qual scope L fI cd cc)))) Q1 E s1 := by
  show wpAny _ _ (spliced [(false, eval (.Constant (.str z) j0 p0) (ksEnv qual scope L fI cd cc)), (false, eval (.Call (.Name "str" p1) [.Name f1 p2] [] p3) (ksEnv qual scope L fI cd cc)), (false, eval (.Name f2 a5) (ksEnv qual scope L fI cd cc))]) _ _ _
  refine spliced_cons (wpAny_Constant_str (spliced_cons ?_))
  refine wpAny_Call_Name_kw ?_
  refine wpAny_Name ?_ (by decide)
  refine ks_loadName_global hk kstr (loadGlobal_builtin (env := ksEnv qual scope L fI cd cc) hg hstr hb ((hbt _ (by decide +kernel)).trans (show bootBuiltins ("str" : Str) = some (.type "str") by decide +kernel)) ?_)
  refine PyProof.Rows.callWith_type1 ?_ he1 rfl
  show wpAny _ _ (spliced [(false, eval (.Name f1 p2) (ksEnv qual scope L fI cd cc))]) _ _ _
  refine spliced_cons (ldS hk kf1 hn hm1 (spliced_nil ?_) hfd1)
  refine PySem.P.str_of_int hi (spliced_cons ?_)
  exact ldS hk kf2 hn hm2 (spliced_nil (h _ _ (by show 3 ≤ 10; decide))) hfd2
end
end ErrL
end PySem
set_option Elab.async false
set_option linter.all false
set_option maxRecDepth 100000
set_option maxHeartbeats 4000000
/-! isinstance of a caught error that has its own dict -/
namespace PySem.ErrL
open PySem PySem.W PySem.Spec PySem.Calls PyProof.Rows
section
variable {prog : Program} {w : World} {A : Around} {E : Value → Shared → Prop} {s : Shared} {K : Frag} {x D : Addr} {ox : Obj} {od : Option Obj}
theorem find_cls (hd : hasDictIn K D = true) (ha : findIn K (.ref D) "__class__" = some (some (.builtin "object.__class__"))) (hn : specialIn K (.builtin "object.__class__") "__get__" = some (some (.builtin "getset_descriptor.__get__"))) (ht : takesIn K (.builtin "object.__class__") = some true) :
    findObj K D od "__class__" = some (.bind (.builtin "getset_descriptor.__get__") (.builtin "object.__class__")) := by
  obtain ⟨cd, hc, _⟩ := any_some hd
  unfold findObj
  rw [hc, Option.bind_some, ha, Option.bind_some]
  simp [hn, ht]
/-- e.__class__, e an error with its dict -/
theorem cls_of (T : L2.ExcC K D) {Q : Option Value → Shared → Prop} (X : K.In s.heap) (I : InstAt s.heap x ox D od) (h : Q (some (.ref D)) { s with toks := s.toks + 1 }) : wpAny (model prog w) A (getAttr? (.ref x) "__class__") Q E s := by
  have hf := find_cls (od := od) T.hd T.ha T.hn T.ht
  obtain ⟨hp, g, d, t, os⟩ := s
  have ty := I.type (M := model prog w); have l1 := looks_findIn (M := model prog w) X T.hg; have l2 := looks_findIn (M := model prog w) X T.hk
  have l3 := looks_find (M := model prog w) X I hf; have sb : Looks (model prog w) hp (isInstance (.ref x) (.type "BaseException")) true := ty.andThen (looks_subIn X T.hs)
  have n2 : (Value.builtin "BaseException.__getattribute__" == Value.builtin "object.__getattribute__") = false := by decide +kernel
  have n1 : (onTheHeap (Value.ref D) && Value.builtin "BaseException.__getattribute__" == Value.builtin "object.__getattribute__") = false := (by rw [n2]; rfl)
  unfold getAttr? getAttrBy? getAttrBy
  refine wpAny_bind (wpAny_mkText (wpAny_bind (wpAny_attempt (wpAny_holding (wpAny_bind (ty.at (wpAny_bind (l1.at ?_))))))))
  show wpAny _ _ (if (onTheHeap (Value.ref D) && Value.builtin "BaseException.__getattribute__" == Value.builtin "object.__getattribute__") = true then _ else _) _ _ _
  rw [n1, if_neg Bool.false_ne_true]; unfold getAttrByItsOwn hookBefore
  refine wpAny_bind ?_
  rw [if_pos (show onTheHeap (Value.ref D) = true from rfl)]
  refine l2.at (wpAny_bind (wpAny_attempt (wpAny_holding ?_)))
  unfold callGetattribute
  rw [show (false && onTheHeap (Value.builtin "BaseException.__getattribute__")) = false from rfl, if_neg Bool.false_ne_true]; unfold boundAndCalled; rw [PySem.F.excAttr_ValueError.ga.bind (.ref x)]
  refine wpAny_bind (wpAny_pure ?_)
  show wpAny _ _ (call (.builtin "BaseException.__getattribute__") [.ref x, .str "__class__" t]) _ _ _
  refine wpAny_call (codeAny_call_builtin PySem.F.excAttr_ValueError.ga.plain PySem.F.entry_bexc_ga (@check_slot (model prog w) _ _ ⟨hp, g, d, t + 1, os⟩ "BaseException.__getattribute__" "BaseException" "__getattribute__" (.ref x) [.str "__class__" t] [] _ (by decide +kernel) (by decide +kernel) sb (PySem.F.args_bexc_ga (.ref x) (.str "__class__" t)) ?_))
  unfold Builtin.«object.__getattribute__»
  refine wpAny_bind (wpAny_of_eq (a := ((Value.ref x : Value), [Value.str "__class__" t])) (by first | rfl | (simp only [slotArgs]; rfl)) (wpAny_bind (wpAny_pure (wpAny_bind (ty.at (wpAny_bind (l3.at ?_)))))))
  show wpAny _ _ (holding [Value.builtin "object.__class__"] (call (.builtin "getset_descriptor.__get__") [.builtin "object.__class__", .ref x, .ref D]) >>= ret) _ _ _
  refine wpAny_bind (wpAny_holding (wpAny_call (class_get (s := ⟨hp, g, d, t + 1, os⟩) (ox := ox) (od := od) X I T.hm (wpAny_pure ?_))))
  show wpAny _ _ (handedOut (.ref D)) _ _ _
  rw [handedOut_of (v := .ref D) rfl]
  first
    | exact wpAny_pure (wpAny_pure h)
    | exact wpAny_pure h
    | exact wpAny_pure (wpAny_bind (wpAny_pure (wpAny_pure h)))
theorem kitx_err (T : L2.ExcC K D) : KitX K (.ref x) (.ref D) (fun h => InstAt h x ox D od) where
  ty := fun _ _ _ I => I.type
  it := fun M h X I => by
    obtain ⟨cd, hc, _⟩ := any_some T.hd
    unfold clsIn at hc
    split at hc
    · rename_i c' d' cd' sl' ho
      intro A' Q' E' s' k q; unfold isType loadHead; exact wpAny_bind (wpAny_loadPart (k _ _ (X _ _ ho)) (wpAny_pure q))
    · cases hc
  ne := (handS_kitx_exc (x := x) (ox := ox) T.hg T.hk T.hs T.hd T.ha T.hn T.ht T.hm).ne
  ca := fun X I k => cls_of T X I k
end
end PySem.ErrL
namespace L2
open PySem PySem.Spec PyProof.Rows
theorem ExcC.xf {K : PySem.W.Frag} {C : Addr} (T : ExcC K C) : XfC K C := ⟨T.hg, T.hk, T.hs, T.hd⟩
/-- isinstance(e, c), e the error that the suite holds, its dict at dd -/
def rIsErr (K : PySem.W.Frag) (cls : Value) (d : Option Addr) (a : Addr) : List V → Hp → VK → Prop := fun xs H Q => ∃ (c : V) (cv : Value) (b : Bool) (D dd : Addr) (fs : List (Str × V)), xs = [.ref a, c] ∧ cls = .ref D ∧ d = some dd ∧ H dd = some (.xd fs) ∧ ExcC K D ∧ ClsV c cv ∧ PySem.W.kitOne K (.ref D) cv = some b ∧ Q (.bl b) H
theorem call_isErr {X : Cx} {a : Addr} {cls : Value} {d : Option Addr} {oe : Obj} {pn : List (Addr × Obj)} (hz : Zc cls d oe) (hf : ∃ vs, oe.data = .fields vs) : CallR (X.suite a ((a, oe) :: pn)) (.builtin "isinstance") (rIsErr X.K cls d a) := by
  intro pins s σ H xs us Q I r h
  obtain ⟨c, cv, b, D, dd, fs, rfl, rfl, rfl, hdd, T, hcv, e, q⟩ := h
  obtain ⟨u1, u2, rfl, r1, r2⟩ := vals2 r
  obtain rfl : u1 = Value.ref a := r1
  have ec := hcv.eq r2
  subst ec
  obtain ⟨hget, _⟩ := I.pin (a, oe) (List.mem_append.mpr (.inl List.mem_cons_self))
  obtain ⟨vs, hv⟩ := hf
  obtain ⟨mA, hns, _⟩ := (show ObjOk X.prog X.w H s.heap dd (.xd fs) from I.hok dd _ hdd)
  obtain ⟨o', es, ep, ho, _⟩ := hns
  have J : PySem.W.InstAt s.heap a oe D (some o') := ⟨hget, hz.1, by unfold PySem.W.notCls; rw [hv] <;> rfl, by rw [hz.2]; exact ho⟩
  exact PySem.W.kia_one (PySem.ErrL.kitx_err T) I.kIn J e (fun z => nomatch z) fun tk => ⟨.bl b, H, I.kept (t' := tk) fun _ _ z => z, rfl, q⟩
theorem call_isErrK {X : Cx} {K : PySem.W.Frag} {a : Addr} {cls : Value} {d : Option Addr} {oe : Obj} {pn : List (Addr × Obj)} (h : X.K = K) (hz : Zc cls d oe) (hf : ∃ vs, oe.data = .fields vs) : CallR (X.suite a ((a, oe) :: pn)) (.builtin "isinstance") (rIsErr K cls d a) := h ▸ call_isErr hz hf
/-- .. with a dict or without -/
def rIsErr2 (K : PySem.W.Frag) (cls : Value) (d : Option Addr) (a : Addr) : List V → Hp → VK → Prop := fun xs H Q => ∃ (c : V) (cv : Value) (b : Bool) (D : Addr), xs = [.ref a, c] ∧ cls = .ref D ∧ (∀ dd, d = some dd → ∃ fs, H dd = some (.xd fs)) ∧ ExcC K D ∧ ClsV c cv ∧ PySem.W.kitOne K (.ref D) cv = some b ∧ Q (.bl b) H
theorem call_isErr2 {X : Cx} {a : Addr} {cls : Value} {d : Option Addr} {oe : Obj} {pn : List (Addr × Obj)} (hz : Zc cls d oe) (hf : ∃ vs, oe.data = .fields vs) : CallR (X.suite a ((a, oe) :: pn)) (.builtin "isinstance") (rIsErr2 X.K cls d a) := by
  intro pins s σ H xs us Q I r h
  obtain ⟨c, cv, b, D, rfl, rfl, hdd, T, hcv, e, q⟩ := h
  obtain ⟨u1, u2, rfl, r1, r2⟩ := vals2 r
  obtain rfl : u1 = Value.ref a := r1
  have ec := hcv.eq r2
  subst ec
  obtain ⟨hget, _⟩ := I.pin (a, oe) (List.mem_append.mpr (.inl List.mem_cons_self))
  obtain ⟨vs, hv⟩ := hf
  have J : ∃ od : Option Obj, PySem.W.InstAt s.heap a oe D od := by
    cases d with
    | none => exact ⟨none, hget, hz.1, by unfold PySem.W.notCls; rw [hv] <;> rfl, by rw [hz.2]; exact trivial⟩
    | some dd =>
      obtain ⟨fs, h⟩ := hdd dd rfl
      obtain ⟨mA, hns, _⟩ := (show ObjOk X.prog X.w H s.heap dd (.xd fs) from I.hok dd _ h)
      obtain ⟨o', es, ep, ho, _⟩ := hns
      exact ⟨some o', hget, hz.1, by unfold PySem.W.notCls; rw [hv] <;> rfl, by rw [hz.2]; exact ho⟩
  obtain ⟨od, J⟩ := J
  exact PySem.W.kia_one (PySem.ErrL.kitx_err T) I.kIn J e (fun z => nomatch z) fun tk => ⟨.bl b, H, I.kept (t' := tk) fun _ _ z => z, rfl, q⟩
theorem call_isErr2K {X : Cx} {K : PySem.W.Frag} {a : Addr} {cls : Value} {d : Option Addr} {oe : Obj} {pn : List (Addr × Obj)} (h : X.K = K) (hz : Zc cls d oe) (hf : ∃ vs, oe.data = .fields vs) : CallR (X.suite a ((a, oe) :: pn)) (.builtin "isinstance") (rIsErr2 K cls d a) := h ▸ call_isErr2 hz hf
end L2
set_option Elab.async false
set_option linter.all false
set_option maxRecDepth 100000
set_option maxHeartbeats 4000000
/-! the draws: an object of six entries -/
namespace Dw
open PySem L2
/-- the entries of the draws -/
def drK (c : Addr) (nx dg rs sd tn : Int) : List (Key × V) :=
  [(.inr "cells", .ref c), (.inr "next", .int nx), (.inr "digits", .int dg), (.inr "rest", .int rs), (.inr "seed", .int sd), (.inr "turn", .int tn)]
section
variable {c : Addr} {nx dg rs sd tn y : Int}
theorem g_cells : valV (drK c nx dg rs sd tn) (.inr "cells") = some (.ref c) := rfl
theorem g_next : valV (drK c nx dg rs sd tn) (.inr "next") = some (.int nx) := rfl
theorem g_digits : valV (drK c nx dg rs sd tn) (.inr "digits") = some (.int dg) := rfl
theorem g_rest : valV (drK c nx dg rs sd tn) (.inr "rest") = some (.int rs) := rfl
theorem g_seed : valV (drK c nx dg rs sd tn) (.inr "seed") = some (.int sd) := rfl
theorem g_turn : valV (drK c nx dg rs sd tn) (.inr "turn") = some (.int tn) := rfl
theorem p_next : putK (drK c nx dg rs sd tn) (.inr "next") (.int y) = drK c y dg rs sd tn := rfl
theorem p_digits : putK (drK c nx dg rs sd tn) (.inr "digits") (.int y) = drK c nx y rs sd tn := rfl
theorem p_rest : putK (drK c nx dg rs sd tn) (.inr "rest") (.int y) = drK c nx dg y sd tn := rfl
theorem p_seed : putK (drK c nx dg rs sd tn) (.inr "seed") (.int y) = drK c nx dg rs y tn := rfl
theorem p_turn : putK (drK c nx dg rs sd tn) (.inr "turn") (.int y) = drK c nx dg rs sd y := rfl
end
/-- the draws at d, their cells at c -/
def Dr (H : Hp) (d c : Addr) : Prop := d ≠ c ∧ ∃ (ns : List Int) (nx dg rs sd tn : Int), H d = some (.dK (drK c nx dg rs sd tn)) ∧ H c = some (.lst (ns.map V.int)) ∧ ns.length ≤ 63 ∧ 0 ≤ nx
theorem Dr.keep {H H' : Hp} {d c : Addr} (x : Dr H d c) (kd : ∀ o, H d = some o → H' d = some o) (kc : ∀ o, H c = some o → H' c = some o) : Dr H' d c := by
  obtain ⟨n, ns, nx, dg, rs, sd, tn, h1, h2, h3, h4⟩ := x
  exact ⟨n, ns, nx, dg, rs, sd, tn, kd _ h1, kc _ h2, h3, h4⟩
theorem Dr.same {H H' : Hp} {d c : Addr} (x : Dr H d c) (k : Same H H') : Dr H' d c := x.keep (k d) (k c)
theorem Dr.upd {H : Hp} {d c a : Addr} {o : HO} (x : Dr H d c) (h1 : d ≠ a) (h2 : c ≠ a) : Dr (upd H a o) d c := x.keep (fun o e => by rw [upd_ne h1]; exact e) (fun o e => by rw [upd_ne h2]; exact e)
theorem Dr.new {H : Hp} {d c a : Addr} {o : HO} (x : Dr H d c) (h : H a = none) : Dr (L2.upd H a o) d c := by
  obtain ⟨n, ns, nx, dg, rs, sd, tn, h1, h2, h3, h4⟩ := id x
  exact x.upd (ne_of_none h1 h) (ne_of_none h2 h)
theorem Dr.ne {H : Hp} {d c a : Addr} (x : Dr H d c) (h : H a = none) : d ≠ a ∧ c ≠ a := by
  obtain ⟨n, ns, nx, dg, rs, sd, tn, h1, h2, h3, h4⟩ := id x
  exact ⟨ne_of_none h1 h, ne_of_none h2 h⟩
/-- all but the object at d is as it was -/
def But (d : Addr) (H H' : Hp) : Prop := ∀ b o, H b = some o → b ≠ d → H' b = some o
theorem But.refl (d : Addr) (H : Hp) : But d H H := fun _ _ h _ => h
theorem But.trans {d : Addr} {H H1 H2 : Hp} (a : But d H H1) (b : But d H1 H2) : But d H H2 := fun c o h n => b c o (a c o h n) n
theorem But.of {d : Addr} {H H1 : Hp} (a : Same H H1) : But d H H1 := fun c o h _ => a c o h
theorem But.upd (d : Addr) (H : Hp) (o : HO) : But d H (L2.upd H d o) := fun c u h n => by rw [upd_ne n]; exact h
theorem But.free {d a : Addr} {H H1 : Hp} (x : But d H H1) (hd : ∀ o, H1 d = some o → True) (h : H1 a = none) (n : a ≠ d) : H a = none := by
  cases e : H a with
  | none => rfl
  | some o => rw [x a o e n] at h; cases h
/-- a draw: a number from 0 to many - 1; nothing but the draws changes -/
def spNext : Sp := fun vs H Q _ => ∃ (d c : Addr) (many : Int), vs = [.ref d, .int many] ∧ Dr H d c ∧ 1 ≤ many ∧ many < 1073741824 ∧
  ∀ (k : Int) (H' : Hp), 0 ≤ k → k < many → Dr H' d c → But d H H' → Q (.int k) H'
/-- the draws of a script -/
def spDigits (K : PySem.W.Frag) : Sp := fun vs H Q _ => ∃ (a : Addr) (ns : List Int) (many : V), vs = [.ref a, many] ∧ SqL K H a (ns.map V.int) ∧ ns.length ≤ 63 ∧
  ∀ (d c : Addr) (H' : Hp), H d = none → H c = none → Dr H' d c → Same H H' → Q (.ref d) H'
theorem dgs {H : Hp} {a : Addr} {kvs : List (Key × V)} {x : Str} {v : V} (e : H a = some (.dK kvs)) (h : valV kvs (.inr x) = some v) : DGet H a (.str x) (some v) := by
  have q := DGet.k (k := .inr x) e
  rw [h] at q
  exact q
theorem dps {H : Hp} {a : Addr} {kvs kvs' : List (Key × V)} {x : Str} {v : V} (e : H a = some (.dK kvs)) (h : putK kvs (.inr x) v = kvs') (hl : kvs.length < sizeLine) : DPut H a (.str x) v (upd H a (.dK kvs')) := by
  have q := DPut.k (k := .inr x) (v := v) e hl
  rw [h] at q
  exact q
theorem dpu {H : Hp} {a : Addr} {kvs kvs' : List (Key × V)} {x : Str} {v : V} (h : putK kvs (.inr x) v = kvs') (hl : kvs.length < sizeLine) : DPut (upd H a (.dK kvs)) a (.str x) v (upd H a (.dK kvs')) := by
  have q := dps (H := upd H a (.dK kvs)) (a := a) upd_same h hl
  rw [upd_upd] at q
  exact q
theorem dr_len {c : Addr} {nx dg rs sd tn : Int} : (drK c nx dg rs sd tn).length < sizeLine := by show 6 < sizeLine; decide
end Dw
set_option Elab.async false
set_option linter.all false
set_option maxRecDepth 100000
set_option maxHeartbeats 4000000
/-! new instances and methods whose error is wished for at the caller's slots -/
namespace L2
open PySem PySem.Spec PyProof.Rows
/-- C(..), C(.., k = v, ..), o.m(..): what is raised is wished for at σ -/
def tMakeS (C : Addr) (sp : Sp) (dvs : List V) (E : St → XK) (t : TA) : TE := fun σ H Q => t σ H fun vs H1 => ∀ x dx, H1 x = none → H1 dx = none → dx ≠ x →
  sp (.ref x :: (vs ++ dvs)) (upd (upd H1 dx (.own x)) x (.ins C dx [])) (fun v H2 => v = .non ∧ Q (.ref x) H2) (E σ)
def tMakeKS (C : Addr) (n m : Nat) (sp : Sp) (gV : List V → List V → List V) (E : St → XK) (t tk : TA) : TE := fun σ H Q => t σ H fun vs H1 => tk σ H1 fun zs H2 => vs.length = n ∧ zs.length = m ∧ ∀ x dx, H2 x = none → H2 dx = none → dx ≠ x →
  sp (gV (.ref x :: vs) zs) (upd (upd H2 dx (.own x)) x (.ins C dx [])) (fun v H3 => v = .non ∧ Q (.ref x) H3) (E σ)
def tMethSA (C : Addr) (m : Str) (sp : Sp) (dvs : List V) (E : St → XK) (ta : TE) (t : TA) : TE := fun σ H Q => ta σ H fun x H1 => ∃ a dx fs, x = .ref a ∧ H1 a = some (.ins C dx fs) ∧ fs.lookup m = none ∧
  t σ H1 fun vs H2 => sp (x :: (vs ++ dvs)) H2 Q (E σ)
section
variable {X : Cx} {CX : CXT} {k n : Nat} {f C : Addr} {fd : FuncData} {ps ks : List Str} {sp : Sp} {E : St → XK} {x m : Str} {p pos apos : Pos} {e o : Expr} {es : List Expr} {kws : List Keyword} {ta : TE} {t tk : TA} {ds : List Value} {dvs : List V} {g : List Value → List Value → List Value} {gV : List V → List V → List V}
theorem mk_back {pins : List (Addr × Obj)} {σ : St} {H : Hp} {s s' : Shared} {Q : VK} {r : Result} {E1 : XK} {a : Addr} (hx : PassesAt CX X σ E1) (I2 : Inv X pins σ H s)
    (hq : CR CX X.stack X.prog X.w H s (fun v H3 => v = .non ∧ Q (.ref a) H3) E1 r s') :
    PySem.W.InitBack a (fun r s' => match r with | .ok (.ret u) => EP X pins σ Q u s' | .ok _ => False | .error e => X.xe e s') r s' := by
  cases r with
  | error e => exact hx pins H s e s' I2 hq
  | ok fl =>
    cases fl with
    | ret u =>
      obtain ⟨v, H', I3, rv, ev, q3⟩ := I2.after hq
      subst ev
      exact ⟨rv, V.ref a, H', I3, rfl, q3⟩
    | next => exact hq.elim
    | brk => exact hq.elim
    | cont => exact hq.elim
theorem run_makeS {pins : List (Addr × Obj)} {σ : St} {H : Hp} {s : Shared} {Q : VK} {us : List Value} {vs : List V} (M : Mk X.K C f) (F : FnOk X.prog X.w X.K X.mg X.base CX k f fd ps sp) (hr : Room (k + 1) X.A) (hb : Binds X.K fd ps ds) (hd : Vals dvs ds)
    (hx : PassesAt CX X σ (E σ)) (I : Inv X pins σ H s) (r : Vals vs us)
    (h : ∀ x dx, H x = none → H dx = none → dx ≠ x → sp (.ref x :: (vs ++ dvs)) (upd (upd H dx (.own x)) x (.ins C dx [])) (fun v H2 => v = .non ∧ Q (.ref x) H2) (E σ)) :
    wpAny (model X.prog X.w) X.A (call (.ref C) us) (EP X pins σ Q) X.xe s := by
  have q0 := h (s.heap.objs.size + 1) s.heap.objs.size (I.hok.fresh (Nat.le_succ _)) (I.hok.fresh (Nat.le_refl _)) (Nat.ne_of_lt (Nat.lt_succ_self _))
  have J := Inv.made (C := C) I
  have rr : Vals (V.ref (s.heap.objs.size + 1) :: (vs ++ dvs)) (Value.ref (s.heap.objs.size + 1) :: (us ++ ds)) := .cons rfl (r.append hd)
  have hl : (Value.ref (s.heap.objs.size + 1) :: us ++ ds).length = ps.length := (rr.length.symm.trans (F.len _ _ _ _ q0))
  exact wpAny_call (make_map (f := f) I.kIn M.makes M.init (beq_iff_eq.mp M.fn) (codeAny_mono (F.run _ X.stack _ _ ⟨Value.ref (s.heap.objs.size + 1) :: us, []⟩ (Value.ref (s.heap.objs.size + 1) :: (us ++ ds)) _ _ (E σ) (hr.make C us [])
    (J.env0.make C us []) (hb _ (Value.ref (s.heap.objs.size + 1) :: us) J.kIn hl) rr q0) fun r s' q => mk_back hx J q))
theorem run_makeKS {pins : List (Addr × Obj)} {σ : St} {H : Hp} {s : Shared} {Q : VK} {us ws : List Value} {vs zs : List V} (M : Mk X.K C f) (F : FnOk X.prog X.w X.K X.mg X.base CX k f fd ps sp) (hr : Room (k + 1) X.A) (hb : KBn X.K fd ps (n + 1) ks g gV) (hx : PassesAt CX X σ (E σ))
    (I : Inv X pins σ H s) (r : Vals vs us) (rz : Vals zs ws) (l1 : vs.length = n) (l2 : zs.length = ks.length)
    (h : ∀ x dx, H x = none → H dx = none → dx ≠ x → sp (gV (.ref x :: vs) zs) (upd (upd H dx (.own x)) x (.ins C dx [])) (fun v H2 => v = .non ∧ Q (.ref x) H2) (E σ)) :
    wpAny (model X.prog X.w) X.A (call (.ref C) us (ks.zip ws)) (EP X pins σ Q) X.xe s := by
  have q0 := h (s.heap.objs.size + 1) s.heap.objs.size (I.hok.fresh (Nat.le_succ _)) (I.hok.fresh (Nat.le_refl _)) (Nat.ne_of_lt (Nat.lt_succ_self _))
  have J := Inv.made (C := C) I
  have rr := hb.rel (show Vals (V.ref (s.heap.objs.size + 1) :: vs) (Value.ref (s.heap.objs.size + 1) :: us) from .cons rfl r) rz
  have n1 : (Value.ref (s.heap.objs.size + 1) :: us).length = n + 1 := congrArg Nat.succ (r.length.symm.trans l1)
  exact wpAny_call (make_map (f := f) I.kIn M.makes M.init (beq_iff_eq.mp M.fn) (codeAny_mono (F.run _ X.stack _ _ ⟨Value.ref (s.heap.objs.size + 1) :: us, ks.zip ws⟩ (g (Value.ref (s.heap.objs.size + 1) :: us) ws) _ _ (E σ) (hr.make C us (ks.zip ws))
    (J.env0.make C us (ks.zip ws)) (hb.to _ (Value.ref (s.heap.objs.size + 1) :: us) ws J.kIn n1 (rz.length.symm.trans l2)) rr q0) fun r s' q => mk_back hx J q))
/-- C(e, ..) -/
theorem pe_makeS (M : Mk X.K C f) (F : FnOk X.prog X.w X.K X.mg X.base CX k f fd ps sp) (hr : Room (k + 1) X.A) (hg : Gl X x) (hm : X.mg x = some (.ref C)) (hb : Binds X.K fd ps ds) (hd : Vals dvs ds) (hx : ∀ σ, PassesAt CX X σ (E σ)) (ha : PA X (e :: es) t)
    (hdb : (x == ("__debug__" : Str)) = false := by decide) (he : starEach (e :: es) X.env = (false, eval e X.env) :: starEach es X.env := by rfl) (hpl : (backTo pos (starEach es X.env)).any (·.1) = false := by rfl) :
    PE X (.Call (.Name x p) (e :: es) [] pos) (tMakeS C sp dvs E t) := ⟨fun pins s σ H Q I h =>
  wpAny_Call_Name_kw (ld_glob I hg hm (PySem.W.callWith_K (h₀ := X.base) I.ok.mod.kin M.kp (thn (ha.run pos pins s σ H _ I h) fun us s1 ⟨vs, H1, I1, r, q⟩ => ⟨I1.kIn, run_makeS M F hr hb hd (hx σ) I1 r q⟩) he hpl) hdb)⟩
/-- C(e, .., k = v, ..) -/
theorem pe_makeKS (M : Mk X.K C f) (F : FnOk X.prog X.w X.K X.mg X.base CX k f fd ps sp) (hr : Room (k + 1) X.A) (hg : Gl X x) (hm : X.mg x = some (.ref C)) (hb : KBn X.K fd ps (n + 1) ks g gV) (hx : ∀ σ, PassesAt CX X σ (E σ)) (ha : PA X (e :: es) t) (hkw : PK X kws tk)
    (hall : (backToKw pos (keywordEach kws X.env)).all (·.1.isSome) = true := by rfl) (hks : (backToKw pos (keywordEach kws X.env)).filterMap (·.1) = ks := by rfl) (hdb : (x == ("__debug__" : Str)) = false := by decide)
    (he : starEach (e :: es) X.env = (false, eval e X.env) :: starEach es X.env := by rfl) (hpl : ((backTo pos (starEach (e :: es) X.env)).any (·.1) || (backToKw pos (keywordEach kws X.env)).any (·.1.isNone)) = false := by rfl) :
    PE X (.Call (.Name x p) (e :: es) kws pos) (tMakeKS C n ks.length sp gV E t tk) := ⟨fun pins s σ H Q I h =>
  wpAny_Call_Name_kw (ld_glob I hg hm (PySem.W.callWith_KW (h₀ := X.base) I.ok.mod.kin M.kp hall (thn (ha.run pos pins s σ H _ I h) fun us s1 ⟨vs, H1, I1, r, q⟩ =>
    thn (hkw.run pos pins s1 σ H1 _ I1 q) fun ws s2 ⟨zs, H2, I2, rz, l1, l2, q2⟩ => ⟨I2.kIn, by rw [hks]; exact run_makeKS M F hr hb (hx σ) I2 r rz l1 l2 q2⟩) hpl he) hdb)⟩
/-- o.m(e, ..) -/
theorem pe_methSA {pl : Sem Bool} (ho : PE X o ta) (c : Cls X.K C) (hm : Meth X.K C m f) (F : FnOk X.prog X.w X.K X.mg X.base CX k f fd ps sp) (hr : Room k X.A) (hb : Binds X.K fd ps []) (hx : ∀ σ, PassesAt CX X σ (E σ)) (ha : PA X (e :: es) t)
    (hst : starEach (e :: es) X.env = (false, eval e X.env) :: starEach es X.env := by rfl) (hpl : (backTo pos (starEach es X.env)).any (·.1) = false := by rfl)
    (ht : eval (.Call (.Attribute o m apos) (e :: es) [] pos) X.env = (do
      let v0 ← eval o X.env
      standAt apos.atName
      let (f1, first) ← holding [v0] (getMethod v0 m pl)
      callWith pos f1 first (backTo pos (starEach (e :: es) X.env)) (backToKw pos (keywordEach [] X.env))) := by rfl) :
    PE X (.Call (.Attribute o m apos) (e :: es) [] pos) (tMethSA C m sp [] E ta t) := by
  refine ⟨fun pins s σ H Q I h => PySem.W.methodCall_KW (pl := pl) (thn (ho.run pins s σ H _ I h) fun u s1 hh => ?_) ht⟩
  obtain ⟨x, H1, I1, rx, a, dx, fs, ex, ea, l, q⟩ := hh
  subst ex
  obtain rfl : u = Value.ref a := rx
  refine getmeth_ok I1 ea c hm l (PySem.W.callWith_K (first := [.ref a]) (h₀ := X.base) I.ok.mod.kin hm.kp (thn (ha.run pos pins s1 σ H1 _ I1 q) fun us s2 hh2 => ?_) hst hpl)
  obtain ⟨vs, H2, I2, r, q2⟩ := hh2
  rw [List.append_nil] at q2
  exact ⟨I2.kIn, run_fnS (us := .ref a :: us) (vs := .ref a :: vs) F hr hb (hx σ) I2 (.cons rfl r) q2⟩
end
end L2
set_option Elab.async false
set_option linter.all false
set_option maxRecDepth 100000
set_option maxHeartbeats 4000000
namespace L2
open PySem PySem.Spec PyProof.Rows
/-- a def of the text that keeps sp, as its callers need it -/
def Cal (P : Program) (w : World) (K : PySem.W.Frag) (mg : Str → Option Value) (base : Heap) (CX : CXT) (k : Nat) (x : Str) (ps : List Str) (sp : Sp) : Prop :=
  ∃ (f : Addr) (fd : FuncData), FnOk P w K mg base CX k f fd ps sp ∧ mg x = some (.ref f) ∧ PySem.W.keepIn K (.ref f) = true ∧ Binds K fd ps []
/-- a method of the class at C that keeps sp -/
def CalM (P : Program) (w : World) (K : PySem.W.Frag) (mg : Str → Option Value) (base : Heap) (CX : CXT) (k : Nat) (C : Addr) (m : Str) (ps : List Str) (sp : Sp) : Prop :=
  ∃ (f : Addr) (fd : FuncData), FnOk P w K mg base CX k f fd ps sp ∧ Meth K C m f ∧ Binds K fd ps []
/-- the class at C makes its instances by sp -/
def CalC (P : Program) (w : World) (K : PySem.W.Frag) (mg : Str → Option Value) (base : Heap) (CX : CXT) (k : Nat) (C : Addr) (ps : List Str) (sp : Sp) : Prop :=
  ∃ (f : Addr) (fd : FuncData), FnOk P w K mg base CX k f fd ps sp ∧ Mk K C f ∧ Binds K fd ps []
/-- where a def stands -/
def Def (K : PySem.W.Frag) (mg : Str → Option Value) (x : Str) (st : Stmt) : Prop := ∃ (f : Addr) (fd : FuncData), Fun K x x st f fd ∧ mg x = some (.ref f)
def DefM (K : PySem.W.Frag) (C : Addr) (m qual : Str) (st : Stmt) : Prop := ∃ (f : Addr) (fd : FuncData), Fun K m qual st f fd ∧ Meth K C m f
def DefC (K : PySem.W.Frag) (C : Addr) (qual : Str) (st : Stmt) : Prop := ∃ (f : Addr) (fd : FuncData), Fun K "__init__" qual st f fd ∧ Mk K C f
section
variable {X : Cx} {CX : CXT} {k : Nat} {ps : List Str} {sp : Sp} {x : Str} {p pos apos : Pos} {e o : Expr} {es : List Expr} {t : TA} {ta : TE} {v : V} {C : Addr} {m : Str}
theorem pe_cal (c : Cal X.prog X.w X.K X.mg X.base CX k x ps sp) (hr : Room k X.A) (ha : PA X (e :: es) t) (hx : Passes CX X E0 := by first | exact pass0 | exact passL) (hg : Gl X x := by rfl) (hdb : (x == ("__debug__" : Str)) = false := by decide) (he : starEach (e :: es) X.env = (false, eval e X.env) :: starEach es X.env := by rfl)
    (hpl : (backTo pos (starEach es X.env)).any (·.1) = false := by rfl) : PE X (.Call (.Name x p) (e :: es) [] pos) (tCall sp [] E0 t) := by
  obtain ⟨f, fd, h1, h2, h3, h4⟩ := c
  exact pe_call h1 hr hg h2 h3 h4 .nil hx ha hdb he hpl
theorem pe_cal0 (c : Cal X.prog X.w X.K X.mg X.base CX k x ps sp) (hr : Room k X.A) (hx : Passes CX X E0 := by first | exact pass0 | exact passL) (hg : Gl X x := by rfl) (hdb : (x == ("__debug__" : Str)) = false := by decide) : PE X (.Call (.Name x p) [] [] pos) (tCall sp [] E0 tNil) := by
  obtain ⟨f, fd, h1, h2, h3, h4⟩ := c
  exact pe_call0 h1 hr hg h2 h3 h4 .nil hx hdb
/-- f(e, ..) within a try: what it raises is wished for at the slots -/
theorem pe_calS {E : St → XK} (c : Cal X.prog X.w X.K X.mg X.base CX k x ps sp) (hr : Room k X.A) (hx : ∀ σ, PassesAt CX X σ (E σ)) (ha : PA X (e :: es) t) (hg : Gl X x := by rfl) (hdb : (x == ("__debug__" : Str)) = false := by decide) (he : starEach (e :: es) X.env = (false, eval e X.env) :: starEach es X.env := by rfl)
    (hpl : (backTo pos (starEach es X.env)).any (·.1) = false := by rfl) : PE X (.Call (.Name x p) (e :: es) [] pos) (tCallS sp E t) := by
  obtain ⟨f, fd, h1, h2, h3, h4⟩ := c
  exact pe_callS h1 hr hg h2 h3 h4 hx ha hdb he hpl
/-- C(e, ..) -/
theorem pe_mk (c : CalC X.prog X.w X.K X.mg X.base CX k C ps sp) (hm : X.mg x = some (.ref C)) (hr : Room (k + 1) X.A) (ha : PA X (e :: es) t) (hx : Passes CX X E0 := by first | exact pass0 | exact passL) (hg : Gl X x := by rfl) (hdb : (x == ("__debug__" : Str)) = false := by decide) (he : starEach (e :: es) X.env = (false, eval e X.env) :: starEach es X.env := by rfl)
    (hpl : (backTo pos (starEach es X.env)).any (·.1) = false := by rfl) : PE X (.Call (.Name x p) (e :: es) [] pos) (tMake C sp [] E0 t) := by
  obtain ⟨f, fd, h1, h2, h4⟩ := c
  exact pe_make h2 h1 hr hg hm h4 .nil hx ha hdb he hpl
theorem pe_mkS {E : St → XK} (c : CalC X.prog X.w X.K X.mg X.base CX k C ps sp) (hm : X.mg x = some (.ref C)) (hr : Room (k + 1) X.A) (hx : ∀ σ, PassesAt CX X σ (E σ)) (ha : PA X (e :: es) t) (hg : Gl X x := by rfl) (hdb : (x == ("__debug__" : Str)) = false := by decide) (he : starEach (e :: es) X.env = (false, eval e X.env) :: starEach es X.env := by rfl)
    (hpl : (backTo pos (starEach es X.env)).any (·.1) = false := by rfl) : PE X (.Call (.Name x p) (e :: es) [] pos) (tMakeS C sp [] E t) := by
  obtain ⟨f, fd, h1, h2, h4⟩ := c
  exact pe_makeS h2 h1 hr hg hm h4 .nil hx ha hdb he hpl
/-- o.m(e, ..), o.m() -/
theorem pe_mth {pl : Sem Bool} (cl : Cls X.K C) (c : CalM X.prog X.w X.K X.mg X.base CX k C m ps sp) (hr : Room k X.A) (ho : PE X o ta) (ha : PA X (e :: es) t) (hx : Passes CX X E0 := by first | exact pass0 | exact passL) (hst : starEach (e :: es) X.env = (false, eval e X.env) :: starEach es X.env := by rfl) (hpl : (backTo pos (starEach es X.env)).any (·.1) = false := by rfl)
    (ht : eval (.Call (.Attribute o m apos) (e :: es) [] pos) X.env = (do
      let v0 ← eval o X.env
      standAt apos.atName
      let (f1, first) ← holding [v0] (getMethod v0 m pl)
      callWith pos f1 first (backTo pos (starEach (e :: es) X.env)) (backToKw pos (keywordEach [] X.env))) := by rfl) : PE X (.Call (.Attribute o m apos) (e :: es) [] pos) (tMeth C m sp [] E0 ta t) := by
  obtain ⟨f, fd, h1, h2, h4⟩ := c
  exact pe_meth ho cl h2 h1 hr h4 .nil hx ha hst hpl ht
theorem pe_mth0 {pl : Sem Bool} (cl : Cls X.K C) (c : CalM X.prog X.w X.K X.mg X.base CX k C m ps sp) (hr : Room k X.A) (ho : PE X o ta) (hx : Passes CX X E0 := by first | exact pass0 | exact passL)
    (ht : eval (.Call (.Attribute o m apos) [] [] pos) X.env = (do
      let v0 ← eval o X.env
      standAt apos.atName
      let (f1, first) ← holding [v0] (getMethod v0 m pl)
      callWith pos f1 first (backTo pos (starEach [] X.env)) (backToKw pos (keywordEach [] X.env))) := by rfl) : PE X (.Call (.Attribute o m apos) [] [] pos) (tMeth C m sp [] E0 ta tNil) := by
  obtain ⟨f, fd, h1, h2, h4⟩ := c
  exact pe_meth0 ho cl h2 h1 hr h4 .nil hx ht
theorem pe_mthS {pl : Sem Bool} {E : St → XK} (cl : Cls X.K C) (c : CalM X.prog X.w X.K X.mg X.base CX k C m ps sp) (hr : Room k X.A) (ho : PE X o ta) (hx : ∀ σ, PassesAt CX X σ (E σ)) (ha : PA X (e :: es) t) (hst : starEach (e :: es) X.env = (false, eval e X.env) :: starEach es X.env := by rfl) (hpl : (backTo pos (starEach es X.env)).any (·.1) = false := by rfl)
    (ht : eval (.Call (.Attribute o m apos) (e :: es) [] pos) X.env = (do
      let v0 ← eval o X.env
      standAt apos.atName
      let (f1, first) ← holding [v0] (getMethod v0 m pl)
      callWith pos f1 first (backTo pos (starEach (e :: es) X.env)) (backToKw pos (keywordEach [] X.env))) := by rfl) : PE X (.Call (.Attribute o m apos) (e :: es) [] pos) (tMethSA C m sp [] E ta t) := by
  obtain ⟨f, fd, h1, h2, h4⟩ := c
  exact pe_methSA ho cl h2 h1 hr h4 hx ha hst hpl ht
end
/-- a module's constant -/
theorem pe_gl {X : Cx} {x : Str} {pos : Pos} {v : V} (h : ∃ u, X.mg x = some u ∧ RelV v u) (hg : Gl X x := by rfl) (hdb : (x == ("__debug__" : Str)) = false := by decide) : PE X (.Name x pos) (tC v) := by
  obtain ⟨u, hm, r⟩ := h
  exact pe_glob hg hm r hdb
/-- a built-in class as a value -/
theorem pe_ty {X : Cx} {x : Str} {pos : Pos} (n : String) (hm : X.mg x = none) (hg : Gl X x := by rfl) (hv : bootBuiltins x = some (.type n) := by decide +kernel) (hn : x ≠ "__name__" := by decide) (hd : (x == ("__debug__" : Str)) = false := by decide) : PE X (.Name x pos) (tC (.ty n)) :=
  pe_bltn hg hm hv rfl hn hd
/-- an own class as a value -/
theorem pe_cls {X : Cx} {x : Str} {pos : Pos} {C : Addr} (hm : X.mg x = some (.ref C)) (hg : Gl X x := by rfl) (hd : (x == ("__debug__" : Str)) = false := by decide) : PE X (.Name x pos) (tC (.ref C)) := pe_glob hg hm rfl hd
/-- a plain value and the name of its type -/
inductive Dm (K : PySem.W.Frag) (H : Hp) : V → String → Prop where
  | non : Dm K H .non "NoneType"
  | bl (b : Bool) : Dm K H (.bl b) "bool"
  | int (i : Int) : Dm K H (.int i) "int"
  | str (x : Str) (h : x.length ≤ sizeLine) : Dm K H (.str x) "str"
  | lst {a : Addr} {xs : List V} (e : H a = some (.lst xs)) : Dm K H (.ref a) "list"
  | tup {a : Addr} {xs : List V} (e : H a = some (.tup xs)) : Dm K H (.ref a) "tuple"
section
variable {K : PySem.W.Frag} {H H' : Hp} {v : V} {n : String}
theorem Dm.mono (d : Dm K H v n) (k : ∀ a o, v = .ref a → H a = some o → (∃ o', H' a = some o' ∧ ((∃ xs ys, o = .lst xs ∧ o' = .lst ys) ∨ o' = o))) : Dm K H' v n := by
  cases d with
  | non => exact .non
  | bl b => exact .bl b
  | int i => exact .int i
  | str x h => exact .str x h
  | lst e =>
    obtain ⟨o', h1, h2⟩ := k _ _ rfl e
    rcases h2 with ⟨xs, ys, _, h3⟩ | h3
    · subst h3; exact .lst h1
    · subst h3; exact .lst h1
  | tup e =>
    obtain ⟨o', h1, h2⟩ := k _ _ rfl e
    rcases h2 with ⟨xs, ys, h3, _⟩ | h3
    · cases h3
    · subst h3; exact .tup h1
theorem Dm.same (d : Dm K H v n) (k : Same H H') : Dm K H' v n := d.mono fun a o _ e => ⟨o, k a o e, .inr rfl⟩
theorem Dm.ty (d : Dm K H v n) : TyX K H v (.type n) := by
  cases d with
  | non => exact .base .non
  | bl b => exact .base (.bl b)
  | int i => exact .base (.int i)
  | str x h => exact .base (.str x)
  | lst e => exact .base (.lst e)
  | tup e => exact .base (.tup e)
end
theorem sNew {H : Hp} {p : Addr} {o : HO} (h : H p = none) : Same H (upd H p o) := fun b u e => by rw [upd_ne (ne_of_none e h)]; exact e
/-! the same rules, the written part named -/
section
variable {X : Cx} {K : PySem.W.Frag}
theorem ix_listK (h : X.K = K) : IxR X (rIxL K) := h ▸ ix_list
theorem ix_tupK (h : X.K = K) : IxR X (rIxT K) := h ▸ ix_tup
theorem call_isiK' (h : X.K = K) : CallR X (.builtin "isinstance") (rIsi K) := h ▸ call_isi
theorem call_isiTK (h : X.K = K) : CallR X (.builtin "isinstance") (rIsiT K) := h ▸ call_isiT
theorem sl_listK (h : X.K = K) : SlR X (rSlL K) := h ▸ sl_list
end
/-- a comprehension over a text -/
theorem lc_str {x : Str} {g : TG} {tt : TT} {te : TE} {vs : List Nat} {σ : St} {H1 : Hp} {D : Addr} {Qd : Hp → Prop} (Pv : Nat → Hp → Prop) (h0 : Pv 0 (upd H1 D (.lst [])))
    (hs : ∀ i c H, x.cps[i]? = some c → Pv i H → g (.str ⟨#[c]⟩) (wipe σ vs) H fun σ2 H2 => wipe σ2 vs = wipe σ vs ∧ tt σ2 H2 fun b H3 =>
      if b = true then te σ2 H3 fun y H4 => ∃ acc, H4 D = some (.lst acc) ∧ acc.length < sizeLine ∧ Pv (i + 1) (upd H4 D (.lst (acc ++ [y]))) else Pv (i + 1) H3) (hd : ∀ H, Pv x.cps.size H → Qd H) :
    ∃ W : Nat → Nat → Hp → Prop, (∃ m, W 0 m (upd H1 D (.lst []))) ∧ ∀ i m H, W i m H →
      ((Its x).stop i H ∧ Qd H) ∨ ((Its x).go i H ∧ ∃ Nx : Hp → Prop, (∀ H', Nx H' → ∃ m', m' < m ∧ W (i + 1) m' H') ∧ ∀ y H', (Its x).yld i H y H' → g y (wipe σ vs) H' fun σ2 H2 => wipe σ2 vs = wipe σ vs ∧ tt σ2 H2 fun b H3 =>
        if b = true then te σ2 H3 fun y H4 => ∃ acc, H4 D = some (.lst acc) ∧ acc.length < sizeLine ∧ Nx (upd H4 D (.lst (acc ++ [y]))) else Nx H3) := by
  refine ⟨fun i m H => m = x.cps.size - i ∧ i ≤ x.cps.size ∧ Pv i H, ⟨x.cps.size, by simp, Nat.zero_le _, h0⟩, ?_⟩
  rintro i m H ⟨rfl, hi, p⟩
  by_cases hlt : i < x.cps.size
  · refine .inr ⟨hlt, Pv (i + 1), fun H' p' => ⟨x.cps.size - (i + 1), by omega, rfl, by omega, p'⟩, ?_⟩
    rintro y H' ⟨rfl, c, hc, rfl⟩
    exact hs i c H' hc p
  · have e : i = x.cps.size := by omega
    subst e
    exact .inl ⟨Nat.le_refl _, hd H p⟩
/-- a for over a text -/
theorem for_strT {x : Str} {g : TG} {tb : TS} {D : Ends} {σ : St} {H : Hp} (Pv : Nat → St → Hp → Prop) (h0 : Pv 0 σ H)
    (hs : ∀ i c σ H, x.cps[i]? = some c → Pv i σ H → g (.str ⟨#[c]⟩) σ H fun σ2 H2 => tb { D with nx := Pv (i + 1), ct := Pv (i + 1), bk := D.nx } σ2 H2) (hd : ∀ σ H, Pv x.cps.size σ H → D.nx σ H) :
    ∃ W : Nat → Nat → St → Hp → Prop, (∃ m, W 0 m σ H) ∧ ∀ i m σ H, W i m σ H →
      ((Its x).stop i H ∧ D.nx σ H) ∨ ((Its x).go i H ∧ ∃ N : St → Hp → Prop, (∀ σ' H', N σ' H' → ∃ m', m' < m ∧ W (i + 1) m' σ' H') ∧ ∀ y H', (Its x).yld i H y H' → g y σ H' fun σ2 H2 => tb { D with nx := N, ct := N, bk := D.nx } σ2 H2) := by
  refine ⟨fun i m σ H => m = x.cps.size - i ∧ i ≤ x.cps.size ∧ Pv i σ H, ⟨x.cps.size, by simp, Nat.zero_le _, h0⟩, ?_⟩
  rintro i m σ H ⟨rfl, hi, p⟩
  by_cases hlt : i < x.cps.size
  · refine .inr ⟨hlt, Pv (i + 1), fun σ' H' p' => ⟨x.cps.size - (i + 1), by omega, rfl, by omega, p'⟩, ?_⟩
    rintro y H' ⟨rfl, c, hc, rfl⟩
    exact hs i c σ H' hc p
  · have e : i = x.cps.size := by omega
    subst e
    exact .inl ⟨Nat.le_refl _, hd σ H p⟩
end L2
set_option Elab.async false
set_option linter.all false
set_option maxRecDepth 100000
set_option maxHeartbeats 4000000
/-! own errors held as values -/
namespace L2
open PySem PySem.Spec PyProof.Rows
section
variable {X : Cx} {C : Addr} {fs : List Str} {ok : List Value → Prop} {x : Str} {e : Expr} {es : List Expr} {ta : TA} {p p1 p2 pos : Pos}
/-- X(e, ..), a value: the error and its dict -/
def tErV (C : Addr) (fs : List Str) (okV : List V → Prop) (ta : TA) : TE := fun σ H Q => ta σ H fun vs H1 => vs.length = fs.length ∧ okV vs ∧ ∀ a d, H1 a = none → H1 d = none → d ≠ a → Q (.ref a) (upd (upd H1 d (exd d (fs.zip vs))) a (exo a C (some d)))
theorem pe_erV {k : Nat} {okV : List V → Prop} (T : PySem.ErrL.Makes X.prog X.w X.K X.mg C fs ok) (hok : ∀ vs us, Vals vs us → okV vs → ok us) (gC : X.mg x = some (.ref C)) (hr : Room k X.A) (ha : PA X (e :: es) ta) (hg : Gl X x := by rfl)
    (hdb : (x == ("__debug__" : Str)) = false := by decide) (he : starEach (e :: es) X.env = (false, eval e X.env) :: starEach es X.env := by rfl) (hpl : (backTo pos (starEach es X.env)).any (·.1) = false := by rfl) :
    PE X (.Call (.Name x p) (e :: es) [] pos) (tErV C fs okV ta) := by
  refine ⟨fun pins s σ H Q I h => ?_⟩
  refine wpAny_Call_Name_kw (ld_glob I hg gC ?_ hdb)
  refine PySem.W.callWith_K (h₀ := X.base) I.ok.mod.kin T.kC (thn (ha.run pos pins s σ H _ I h) fun us s1 hh => ?_) he hpl
  obtain ⟨vs, H1, I1, r1, hl, hov, q1⟩ := hh
  refine ⟨I1.kIn, ?_⟩
  show wpAny _ _ (call (.ref C) us) _ _ _
  obtain ⟨mb, hmb, hbt⟩ := I1.mod.blt
  have hlim := I1.nolimit
  have hgl := I1.mod.glob.keeps I1.bk
  have hbl := hmb.keeps I1.bk
  have kin := I1.kIn
  obtain ⟨hp, g, dr, tk, os⟩ := s1
  refine wpAny_call (T.run _ _ us mb _ (by rw [← hl]; exact (Vals.length r1).symm) (hok vs us r1 hov) kin hlim hgl hbl hbt (by have := hr.dp; omega) fun h' tk' a d mA hmA M => ?_)
  obtain ⟨t1, hoe⟩ := M.obj
  have ha0 : hp.get? a = none := Heap.get?_none_of_le M.new
  have hd0 : hp.get? d = none := Heap.get?_none_of_le M.dbig
  have na : H1 a = none := I1.hok.fresh M.new
  have nd : H1 d = none := I1.hok.fresh M.dbig
  have rel : ∀ f, RelO ((fs.zip vs).lookup f) (mA f) := fun f => by rw [hmA]; exact relO_zip r1 f
  have U : Un X.fs [] H1 (upd (upd H1 d (exd d (fs.zip vs))) a (exo a C (some d))) hp h' := {
    keep := fun b u q _ _ _ => M.keep b u q
    slot := fun b u q _ _ _ => ⟨u.slots, M.keep b u q⟩
    free := fun b u q n _ => by rw [upd_ne (fun z => by rw [z, ha0] at q; cases q), upd_ne (fun z => by rw [z, hd0] at q; cases q)]; exact n
    there := fun b u q _ => ⟨u, M.keep b u q⟩
    tups := fun b xs q => by rw [upd_ne (ne_of_none q na), upd_ne (ne_of_none q nd)]; exact q
    frzs := fun b u xs q => by rw [upd_ne (ne_of_none q na), upd_ne (ne_of_none q nd)]; exact q
    tbls := fun b ps q => ⟨#[], by rw [upd_ne (ne_of_none q na), upd_ne (ne_of_none q nd), q]; simp⟩ }
  have hok2 : HOk X.prog X.w (upd (upd H1 d (exd d (fs.zip vs))) a (exo a C (some d))) h' := fun b u q => by
    by_cases hb : b = a
    · subst hb
      rw [upd_same] at q
      cases q
      exact exo_ok hoe
    · rw [upd_ne hb] at q
      by_cases hb2 : b = d
      · subst hb2
        rw [upd_same] at q
        cases q
        exact exd_ok M.ns rel
      · rw [upd_ne hb2] at q
        exact (I1.hok b u q).stay (fun c v _ z => M.keep c v z) (fun c z => by rw [upd_ne (ne_of_none z na), upd_ne (ne_of_none z nd)]; exact z) fun c xs z => by rw [upd_ne (ne_of_none z na), upd_ne (ne_of_none z nd)]; exact z
  exact ⟨.ref a, _, I1.un (t' := tk') U hok2, rfl, q1 a d na nd M.dne⟩
/-- X(e, ..), a value, X's own __init__ walked -/
def tOeV (C : Addr) (sp : Sp) (dvs : List V) (ta : TA) : TE := fun σ H Q => ta σ H fun vs H1 => vs.length ≤ 1000 ∧ ∀ a, H1 a = none → sp (.ref a :: (vs ++ dvs)) (upd H1 a (exo a C none)) (fun v H2 => v = .non ∧ Q (.ref a) H2) (fun _ _ _ => False)
theorem run_oeV {CX : CXT} {fI : Addr} {k : Nat} {fd : FuncData} {ps : List Str} {sp : Sp} {ds : List Value} {dvs : List V} {pins : List (Addr × Obj)} {σ : St} {H1 : Hp} {s1 : Shared} {Q : VK} {us : List Value} {vs : List V} (T : OexC X.K C) (iC : PySem.W.findIn X.K (.ref C) "__init__" = some (some (.ref fI))) (tI : PySem.W.typeIn X.K (.ref fI) = some (.type "function"))
    (F1 : FnOk X.prog X.w X.K X.mg X.base CX k fI fd ps sp) (hr : Room (k + 1) X.A) (hb : Binds X.K fd ps ds) (hd : Vals dvs ds) (hx : Passes CX X (fun _ _ _ => False)) (I1 : Inv X pins σ H1 s1) (r1 : Vals vs us) (hz : vs.length ≤ 1000)
    (q1 : ∀ a, H1 a = none → sp (.ref a :: (vs ++ dvs)) (upd H1 a (exo a C none)) (fun v H2 => v = .non ∧ Q (.ref a) H2) (fun _ _ _ => False)) : wpAny (model X.prog X.w) X.A (call (.ref C) us) (EP X pins σ Q) X.xe s1 := by
  obtain ⟨nm, q, N, bs, bm, sn, sub, ab, col, dd, k0, k1, k2, k3, k5, hC, hbm⟩ := T.cls
  obtain ⟨hp, g, dr, tk, os⟩ := s1
  have hsz : hp.objs.size ≤ hp.objs.size + 1 := Nat.le_succ _
  have hn : H1 (hp.objs.size + 1) = none := I1.hok.fresh hsz
  have hq := q1 (hp.objs.size + 1) hn
  have kk : ∀ b o, hp.get? b = some o → ((hp.push (PySem.W.kdv_tup us)).push (PySem.HandSPX.excO C hp.objs.size)).get? b = some o := fun b o e => Heap.get?_push_of_some _ (Heap.get?_push_of_some _ e)
  have hget : ((hp.push (PySem.W.kdv_tup us)).push (PySem.HandSPX.excO C hp.objs.size)).get? (hp.objs.size + 1) = some (PySem.HandSPX.excO C hp.objs.size) := by heap_get
  have I2 : Inv X pins σ (upd H1 (hp.objs.size + 1) (exo (hp.objs.size + 1) C none)) ⟨(hp.push (PySem.W.kdv_tup us)).push (PySem.HandSPX.excO C hp.objs.size), g, dr, tk, os⟩ :=
    I1.laid (t' := tk) (a := hp.objs.size + 1) (o := exo (hp.objs.size + 1) C none) (h' := (hp.push (PySem.W.kdv_tup us)).push (PySem.HandSPX.excO C hp.objs.size)) kk hsz (exo_ok hget)
  have r2 : Vals (V.ref (hp.objs.size + 1) :: (vs ++ dvs)) (Value.ref (hp.objs.size + 1) :: (us ++ ds)) := .cons rfl (r1.append hd)
  have hl : (Value.ref (hp.objs.size + 1) :: us ++ ds).length = ps.length := by
    have e := r2.length
    rw [F1.len _ _ _ _ hq] at e
    exact e.symm
  have hus : us.length ≤ sizeLine := by
    rw [← Paired.length r1, sizeLine_eq]
    omega
  refine wpAny_call (PySem.HandSPX.call_own F.excBase_ValueError (fun Y => PySem.HandSPX.refsVE_contains Y bm hbm) (I1.kIn _ _ hC) (PySem.W.looks_findIn I1.kIn iC) (fun self => PySem.W.bind_fn I1.kIn self tI) hus
    (codeAny_mono (F1.run _ X.stack _ _ ⟨Value.ref (hp.objs.size + 1) :: us, []⟩ (Value.ref (hp.objs.size + 1) :: (us ++ ds)) _ _ (fun _ _ _ => False) (hr.make C us []) (I2.env0.make C us []) (hb _ (Value.ref (hp.objs.size + 1) :: us) I2.kIn hl) r2 hq) fun r s' hq' => ?_))
  cases r with
  | error er => exact hx pins σ _ _ er s' I2 hq'
  | ok fl =>
    cases fl with
    | ret u =>
      obtain ⟨v, H2, J, rv, ev, q2⟩ := I2.after hq'
      subst ev
      exact ⟨rv, .ref (hp.objs.size + 1), H2, J, rfl, q2⟩
    | next => exact False.elim hq'
    | brk => exact False.elim hq'
    | cont => exact False.elim hq'
theorem pe_oeV {CX : CXT} {fI : Addr} {k : Nat} {fd : FuncData} {ps : List Str} {sp : Sp} {ds : List Value} {dvs : List V} (T : OexC X.K C) (iC : PySem.W.findIn X.K (.ref C) "__init__" = some (some (.ref fI))) (tI : PySem.W.typeIn X.K (.ref fI) = some (.type "function"))
    (F1 : FnOk X.prog X.w X.K X.mg X.base CX k fI fd ps sp) (hr : Room (k + 1) X.A) (hb : Binds X.K fd ps ds) (hd : Vals dvs ds) (hx : Passes CX X (fun _ _ _ => False)) (hm : X.mg x = some (.ref C)) (ha : PA X (e :: es) ta) (hg : Gl X x := by rfl)
    (hdb : (x == ("__debug__" : Str)) = false := by decide) (he : starEach (e :: es) X.env = (false, eval e X.env) :: starEach es X.env := by rfl) (hpl : (backTo pos (starEach es X.env)).any (·.1) = false := by rfl) :
    PE X (.Call (.Name x p) (e :: es) [] pos) (tOeV C sp dvs ta) := by
  refine ⟨fun pins s σ H Q I h => ?_⟩
  refine wpAny_Call_Name_kw (ld_glob I hg hm ?_ hdb)
  refine PySem.W.callWith_K (h₀ := X.base) I.ok.mod.kin T.kC (thn (ha.run pos pins s σ H _ I h) fun us s1 ⟨vs, H1, I1, r1, hz, q1⟩ => ⟨I1.kIn, ?_⟩) he hpl
  exact run_oeV T iC tI F1 hr hb hd hx I1 r1 hz q1
theorem pe_oeV0 {CX : CXT} {fI : Addr} {k : Nat} {fd : FuncData} {ps : List Str} {sp : Sp} {ds : List Value} {dvs : List V} (T : OexC X.K C) (iC : PySem.W.findIn X.K (.ref C) "__init__" = some (some (.ref fI))) (tI : PySem.W.typeIn X.K (.ref fI) = some (.type "function"))
    (F1 : FnOk X.prog X.w X.K X.mg X.base CX k fI fd ps sp) (hr : Room (k + 1) X.A) (hb : Binds X.K fd ps ds) (hd : Vals dvs ds) (hx : Passes CX X (fun _ _ _ => False)) (hm : X.mg x = some (.ref C)) (hg : Gl X x := by rfl)
    (hdb : (x == ("__debug__" : Str)) = false := by decide) : PE X (.Call (.Name x p) [] [] pos) (tOeV C sp dvs tNil) := by
  refine ⟨fun pins s σ H Q I h => ?_⟩
  refine wpAny_Call_Name_kw (ld_glob I hg hm ?_ hdb)
  exact PySem.W.callWith_K0 I.kIn T.kC (run_oeV (us := []) T iC tI F1 hr hb hd hx I .nil h.1 h.2)
/-- X(), a value, X a class without a text of its own -/
theorem pe_exV0 {bmB : List Value} {B newId initId : String} (F : ExcBaseFacts B newId initId bmB) (q : PySem.W.excIn X.K C bmB newId = true) (gC : X.mg x = some (.ref C)) (kC : PySem.W.keepIn X.K (.ref C) = true) (hg : Gl X x := by rfl) (hdb : (x == ("__debug__" : Str)) = false := by decide) :
    PE X (.Call (.Name x p) [] [] pos) (fun σ H Q => ∀ a, H a = none → Q (.ref a) (upd H a (exo a C none))) := by
  refine ⟨fun pins s σ H Q I h => ?_⟩
  refine wpAny_Call_Name_kw (ld_glob I hg gC ?_ hdb)
  refine PySem.W.callWith_K0 I.kIn kC ?_
  show wpAny _ _ (call (.ref C) []) _ _ _
  obtain ⟨bm, N, nm, qn, bs, hdct, sn, sub, ab, col, dd, k0, k1, k2, k3, k5, mN, hC, hN, hni, T⟩ := exc_obj I.kIn q
  refine wpAny_call_exc_subT F T hC hN hni (fun h' a hm => ?_) (by show 0 ≤ sizeLine; omega)
  have hn : H a = none := I.hok.gone hm.new
  obtain ⟨t, ht, _, _⟩ := hm.there
  exact ⟨.ref a, upd H a (exo a C none), I.laidN hm.keeps hm.new hn (exo_ok ht), rfl, h a hn⟩
/-- raise X() -/
theorem pmk_ex0 {bmB : List Value} {B newId initId : String} (F : ExcBaseFacts B newId initId bmB) (q : PySem.W.excIn X.K C bmB newId = true) (gC : X.mg x = some (.ref C)) (kC : PySem.W.keepIn X.K (.ref C) = true) (r : Raises X (.ref C)) (hg : Gl X x := by rfl) (hdb : (x == ("__debug__" : Str)) = false := by decide) :
    PMk X (.Call (.Name x p) [] [] pos) (fun _ H Q => Q (.ref C) none H) := by
  intro pins s σ H Q I h
  refine wpAny_Call_Name_kw (ld_glob I hg gC ?_ hdb)
  refine PySem.W.callWith_K0 I.kIn kC ?_
  show wpAny _ _ (call (.ref C) []) _ _ _
  obtain ⟨bm, N, nm, qn, bs, hdct, sn, sub, ab, col, dd, k0, k1, k2, k3, k5, mN, hC, hN, hni, T⟩ := exc_obj I.kIn q
  refine wpAny_call_exc_subT F T hC hN hni (fun h' e hm => ?_) (by show 0 ≤ sizeLine; omega)
  exact mk_of I hm r h (I.hok.gone hm.new)
/-- B.__init__(self, ..), B an own class that leaves it to ValueError -/
theorem pe_deinit {pl : Sem Bool} {B : Addr} {mc : Value} (r : ClX.CRead X.K B mc) (vV : PySem.W.findCls X.K (.ref B) mc "__init__" = some (.val (.builtin "ValueError.__init__"))) (hm : X.mg x = some (.ref B)) (ha : PA X (e :: es) ta)
    (hc : eval (.Call (.Attribute (.Name x p1) "__init__" p2) (e :: es) [] pos) X.env = (do
      let ov ← eval (.Name x p1) X.env
      standAt p2.atName
      let (f, first) ← holding [ov] (getMethod ov "__init__" pl)
      callWith pos f first (backTo pos (starEach (e :: es) X.env)) (backToKw pos (keywordEach [] X.env))) := by rfl) (hg : Gl X x := by rfl) (hdb : (x == ("__debug__" : Str)) = false := by decide)
    (he : starEach (e :: es) X.env = (false, eval e X.env) :: starEach es X.env := by rfl) (hpl : (backTo pos (starEach es X.env)).any (·.1) = false := by rfl) :
    PE X (.Call (.Attribute (.Name x p1) "__init__" p2) (e :: es) [] pos) (tVeI X.K ta) := by
  refine ⟨fun pins s σ H Q I h => ?_⟩
  refine PySem.W.methodCall_KW (ld_glob I hg hm ?_ hdb) hc
  refine PySem.W.method_cls I.kIn r.ga (PySem.W.cls_value I.kIn r.rd vV (by rfl) ?_)
  show wpAny _ _ (callWith pos (Value.builtin "ValueError.__init__") [] (backTo pos (starEach (e :: es) X.env)) []) _ _ _
  refine PyProof.Rows.callWith_method1 (thn (ha.run pos pins _ σ H _ (I.tok _) h) fun us s1 ⟨vs, H1, I1, r1, a, C, ws, ev, hl, T, ea, q⟩ => ?_) he hpl
  subst ev
  cases r1 with
  | @cons _ u0 _ ur ra rw' =>
    obtain rfl : u0 = Value.ref a := ra
    have hlen : ur.length ≤ sizeLine := by
      rw [← Paired.length rw', sizeLine_eq]
      omega
    exact oinit_ok T I1 ea hlen fun s' J => ⟨.non, H1, J, rfl, q⟩
/-- e.f, e an error that is a value -/
def tFldE (K : PySem.W.Frag) (f : Str) (te : TE) : TE := fun σ H Q => te σ H fun x H1 => ∃ (a C d : Addr) (fs : List (Str × V)) (v : V), x = .ref a ∧ H1 a = some (exo a C (some d)) ∧ H1 d = some (exd d fs) ∧ XfC K C ∧ PySem.W.findIn K (.ref C) f = some none ∧ fs.lookup f = some v ∧ Q v H1
theorem pe_fldE {o : Expr} {te : TE} {n : Str} (he : PE X o te) (hb : attributeBase o n X.env (eval o X.env) = eval o X.env := by rfl) : PE X (.Attribute o n pos) (tFldE X.K n te) := by
  refine ⟨fun pins s σ H Q I h => ?_⟩
  refine attr_of hb (thn (he.run pins s σ H _ I h) fun u s1 hh => ?_)
  obtain ⟨x, H1, I1, rx, a, C, d, fs, v, ex, ea, ed, T, hno, l, q⟩ := hh
  subst ex
  obtain rfl : u = Value.ref a := rx
  obtain ⟨t1, ho⟩ := exo_at I1.hok ea
  obtain ⟨mA, hns, hr⟩ := exd_at I1.hok ed
  obtain ⟨od, hod, hl⟩ := lookIn_ns hns
  obtain ⟨u, hu, ru⟩ := RelO.some_of (v := v) (o := mA n) (by rw [← l]; exact hr n)
  have J : PySem.W.InstAt s1.heap a { cls := .ref C, dict := some d, data := .fields #[.ref t1, .none, .none, .none, .bool false, .none] } C (some od) := ⟨ho, rfl, rfl, hod⟩
  exact HandSPX.exc_get I1.kIn J T.ga T.gg T.exC (PySem.W.findObj_own T.hdC hno rfl (by rw [hl, hu])) (handed_of ru) ⟨v, H1, I1.tok _, ru, q⟩
/-- isinstance(e, c), e an error that is a value -/
def rIsEv (K : PySem.W.Frag) : List V → Hp → VK → Prop := fun xs H Q => ∃ (a C : Addr) (d : Option Addr) (c : V) (cv : Value) (b : Bool), xs = [.ref a, c] ∧ H a = some (exo a C d) ∧ (∀ dd, d = some dd → ∃ fs, H dd = some (exd dd fs)) ∧ ExcC K C ∧ ClsV c cv ∧ PySem.W.kitOne K (.ref C) cv = some b ∧ Q (.bl b) H
theorem call_isEv : CallR X (.builtin "isinstance") (rIsEv X.K) := by
  intro pins s σ H xs us Q I r h
  obtain ⟨a, C, d, c, cv, b, rfl, ea, hd, T, hcv, e, q⟩ := h
  obtain ⟨u1, u2, rfl, r1, r2⟩ := vals2 r
  obtain rfl : u1 = Value.ref a := r1
  have ec := hcv.eq r2
  subst ec
  obtain ⟨t1, ho⟩ := exo_at I.hok ea
  have hod : ∃ od : Option Obj, PySem.W.InstAt s.heap a { cls := .ref C, dict := d, data := .fields #[.ref t1, .none, .none, .none, .bool false, .none] } C od := by
    cases d with
    | none => exact ⟨none, ho, rfl, rfl, trivial⟩
    | some dd =>
      obtain ⟨fs, ed⟩ := hd dd rfl
      obtain ⟨mA, hns, hr⟩ := exd_at I.hok ed
      obtain ⟨od, hod, hl⟩ := lookIn_ns hns
      exact ⟨some od, ho, rfl, rfl, hod⟩
  obtain ⟨od, J⟩ := hod
  exact PySem.W.kia_one (PySem.ErrL.kitx_err T) I.kIn J e (fun z => nomatch z) fun tk => ⟨.bl b, H, I.kept (t' := tk) fun _ _ z => z, rfl, q⟩
/-- the class at C makes its errors by a maker that is walked -/
def CalO (P : Program) (w : World) (K : PySem.W.Frag) (mg : Str → Option Value) (base : Heap) (k : Nat) (C : Addr) (ps : List Str) (sp : Sp) : Prop :=
  OexC K C ∧ ∃ (f : Addr) (fd : FuncData), FnOk P w K mg base CX0 k f fd ps sp ∧ PySem.W.findIn K (.ref C) "__init__" = some (some (.ref f)) ∧ PySem.W.typeIn K (.ref f) = some (.type "function") ∧ Binds K fd ps []
theorem pe_calO {k : Nat} {ps : List Str} {sp : Sp} (c : CalO X.prog X.w X.K X.mg X.base k C ps sp) (hm : X.mg x = some (.ref C)) (hr : Room (k + 1) X.A) (ha : PA X (e :: es) ta) (hx : Passes CX0 X (fun _ _ _ => False) := by first | exact pass0 | exact passL) (hg : Gl X x := by rfl)
    (hdb : (x == ("__debug__" : Str)) = false := by decide) (he : starEach (e :: es) X.env = (false, eval e X.env) :: starEach es X.env := by rfl) (hpl : (backTo pos (starEach es X.env)).any (·.1) = false := by rfl) :
    PE X (.Call (.Name x p) (e :: es) [] pos) (tOeV C sp [] ta) := by
  obtain ⟨T, f, fd, h1, h2, h3, h4⟩ := c
  exact pe_oeV T h2 h3 h1 hr h4 .nil hx hm ha hg hdb he hpl
theorem pe_calO0 {k : Nat} {ps : List Str} {sp : Sp} (c : CalO X.prog X.w X.K X.mg X.base k C ps sp) (hm : X.mg x = some (.ref C)) (hr : Room (k + 1) X.A) (hx : Passes CX0 X (fun _ _ _ => False) := by first | exact pass0 | exact passL) (hg : Gl X x := by rfl)
    (hdb : (x == ("__debug__" : Str)) = false := by decide) : PE X (.Call (.Name x p) [] [] pos) (tOeV C sp [] tNil) := by
  obtain ⟨T, f, fd, h1, h2, h3, h4⟩ := c
  exact pe_oeV0 T h2 h3 h1 hr h4 .nil hx hm hg hdb
end
/-! ### what stands of an error that is a value -/
/-- e is an error of the class at C -/
def ErV (H : Hp) (e C : Addr) : Prop := ∃ d : Option Addr, H e = some (exo e C d) ∧ ∀ dd, d = some dd → ∃ fs, H dd = some (exd dd fs)
/-- .. with these fields -/
def ErF (H : Hp) (e C : Addr) (g : List (Str × V)) : Prop := ∃ (d : Addr) (fs : List (Str × V)), H e = some (exo e C (some d)) ∧ H d = some (exd d fs) ∧ ∀ f v, g.lookup f = some v → fs.lookup f = some v
section
variable {K : PySem.W.Frag} {H H' : Hp} {e C : Addr} {g : List (Str × V)}
theorem ErF.v (x : ErF H e C g) : ErV H e C := by
  obtain ⟨d, fs, h1, h2, _⟩ := x
  exact ⟨some d, h1, fun dd q => by cases q; exact ⟨fs, h2⟩⟩
theorem ErV.same (x : ErV H e C) (S : Same H H') : ErV H' e C := by
  obtain ⟨d, h1, h2⟩ := x
  refine ⟨d, S _ _ h1, fun dd q => ?_⟩
  obtain ⟨fs, h⟩ := h2 dd q
  exact ⟨fs, S _ _ h⟩
theorem ErF.same (x : ErF H e C g) (S : Same H H') : ErF H' e C g := by
  obtain ⟨d, fs, h1, h2, h3⟩ := x
  exact ⟨d, fs, S _ _ h1, S _ _ h2, h3⟩
/-- X(e, ..) by super().__init__ -/
theorem erV_ok {fs : List Str} {okV : List V → Prop} {vs : List V} {Q : Addr → Hp → Prop} (hl : vs.length = fs.length) (hv : okV vs) (k : ∀ a H', Same H H' → ErF H' a C (fs.zip vs) → Q a H') :
    vs.length = fs.length ∧ okV vs ∧ ∀ a d, H a = none → H d = none → d ≠ a → Q a (upd (upd H d (exd d (fs.zip vs))) a (exo a C (some d))) := by
  refine ⟨hl, hv, fun a d na nd ne => k a _ ?_ ⟨d, fs.zip vs, upd_same, by rw [upd_ne ne]; exact upd_same, fun _ _ z => z⟩⟩
  exact (sNew nd).trans (sNew (by rw [upd_ne (Ne.symm ne)]; exact na))
/-- X() by a maker that is walked, or by none -/
theorem fldE_ok {f : Str} {v : V} {Q : VK} (x : ErF H e C g) (T : XfC K C) (hno : PySem.W.findIn K (.ref C) f = some none) (l : g.lookup f = some v) (k : Q v H) :
    ∃ (a C' d : Addr) (fs : List (Str × V)) (v' : V), V.ref e = .ref a ∧ H a = some (exo a C' (some d)) ∧ H d = some (exd d fs) ∧ XfC K C' ∧ PySem.W.findIn K (.ref C') f = some none ∧ fs.lookup f = some v' ∧ Q v' H := by
  obtain ⟨d, fs, h1, h2, h3⟩ := x
  exact ⟨e, C, d, fs, v, rfl, h1, h2, T, hno, h3 f v l, k⟩
theorem isE_ok {c : V} {cv : Value} {b : Bool} {Q : VK} (x : ErV H e C) (T : ExcC K C) (hc : ClsV c cv) (hk : PySem.W.kitOne K (.ref C) cv = some b) (k : Q (.bl b) H) : rIsEv K [.ref e, c] H Q := by
  obtain ⟨d, h1, h2⟩ := x
  exact ⟨e, C, d, c, cv, b, rfl, h1, h2, T, hc, hk, k⟩
/-- the promise of a maker that is walked: what it makes of a new error -/
def spIni (C : Addr) (fs : List Str) : Sp := fun vs H Q _ => ∃ (a : Addr) (us : List V), vs = .ref a :: us ∧ us.length = fs.length ∧ H a = some (exo a C none) ∧
  (fs = [] → Q .non H) ∧ ∀ dx H', H dx = none → dx ≠ a → (∀ b o, H b = some o → b ≠ a → H' b = some o) → H' a = some (exo a C (some dx)) → H' dx = some (exd dx (fs.zip us).reverse) → Q .non H'
theorem oeV_ok {fs : List Str} {vs : List V} {Q : Addr → Hp → Prop} (hl : vs.length = fs.length) (hz : vs.length ≤ 1000) (hn : fs ≠ []) (hd : ∀ f v, (fs.zip vs).lookup f = some v → (fs.zip vs).reverse.lookup f = some v) (k : ∀ a H', Same H H' → ErF H' a C (fs.zip vs) → Q a H') :
    vs.length ≤ 1000 ∧ ∀ a, H a = none → spIni C fs (.ref a :: (vs ++ [])) (upd H a (exo a C none)) (fun v H2 => v = .non ∧ Q a H2) (fun _ _ _ => False) := by
  refine ⟨hz, fun a na => ⟨a, vs, by rw [List.append_nil], hl, upd_same, fun z => absurd z hn, fun dx H' nd ne kp h1 h2 => ⟨rfl, k a H' (fun b o q => ?_) ⟨dx, _, h1, h2, hd⟩⟩⟩⟩
  have nb : b ≠ a := ne_of_none q na
  exact kp b o (by rw [upd_ne nb]; exact q) nb
theorem oeV0_ok {Q : Addr → Hp → Prop} (k : ∀ a H', Same H H' → ErV H' a C → Q a H') :
    ([] : List V).length ≤ 1000 ∧ ∀ a, H a = none → spIni C [] (.ref a :: ([] ++ [])) (upd H a (exo a C none)) (fun v H2 => v = .non ∧ Q a H2) (fun _ _ _ => False) :=
  ⟨by decide, fun a na => ⟨a, [], rfl, rfl, upd_same, fun _ => ⟨rfl, k a _ (sNew na) ⟨none, upd_same, fun dd q => by cases q⟩⟩, fun dx H' nd ne kp h1 h2 => ⟨rfl, k a H' (fun b o q => kp b o (by rw [upd_ne (ne_of_none q na)]; exact q) (ne_of_none q na)) ⟨some dx, h1, fun dd q => by cases q; exact ⟨_, h2⟩⟩⟩⟩⟩
theorem exV0_ok {Q : Addr → Hp → Prop} (k : ∀ a H', Same H H' → ErV H' a C → Q a H') : ∀ a, H a = none → Q a (upd H a (exo a C none)) :=
  fun a na => k a _ (sNew na) ⟨none, upd_same, fun dd q => by cases q⟩
end
end L2
set_option Elab.async false
set_option linter.all false
set_option maxRecDepth 100000
/-! several clauses «except X as n», the name alike in all -/
namespace L2
open PySem PySem.Spec PyProof.Rows
/-- the ends of a suite that holds a name at slot i: the name is gone behind it -/
def endsAs (i : Nat) (D : Ends) : Ends where
  nx := fun τ G => D.nx (τ.set i none) G
  rt := D.rt
  bk := fun τ G => D.bk (τ.set i none) G
  ct := fun τ G => D.ct (τ.set i none) G
/-- what the clauses wish, one behind the other -/
def wAsM (K : PySem.W.Frag) (i : Nat) (Wo : WX) (D : Ends) : List (Value × (Addr → Value → Option Addr → TS)) → WX
  | [] => Wo
  | (c, ts) :: r => fun cls d τ G => ∃ t, PySem.W.exmOne K cls c = some t ∧ (t = true → ∀ a, G a = none → ts a cls d (endsAs i D) (τ.set i (some (.ref a))) G) ∧ (t = false → wAsM K i Wo D r cls d τ G)
/-- the clauses, written -/
inductive ClsAs (X : Cx) (n : Str) : List ExceptHandler → List (Value × (Addr → Value → Option Addr → TS)) → Prop
  | nil : ClsAs X n [] []
  | cons {x : Str} {c : Value} {ts : Addr → Value → Option Addr → TS} {b0 : Stmt} {rest : List Stmt} {p q : Pos} {hs : List ExceptHandler} {l : List (Value × (Addr → Value → Option Addr → TS))} (hc : Names X x c)
      (hsu : ∀ (a : Addr) (oe : Obj) (cls : Value) (d : Option Addr) (pn : List (Addr × Obj)), Zc cls d oe → (∃ vs, oe.data = .fields vs) → PSs (X.suite a ((a, oe) :: pn)) (b0 :: rest) (ts a cls d)) (more : ClsAs X n hs l) :
      ClsAs X n (.ExceptHandler (some (.Name x p)) (some n) (b0 :: rest) q :: hs) ((c, ts) :: l)
section
variable {X : Cx} {n : Str} {i : Nat} {body : List Stmt} {c0 : ExceptHandler} {cs : List ExceptHandler} {l : List (Value × (Addr → Value → Option Addr → TS))} {pos : Pos} {tb : WX → TS} {Wo : WX}
theorem ps_try_asM (hst : X.stack = X.env :: X.outer) (hfr : X.env.frame = some X.env.locals) (hN : X.N.Nodup) (hi : X.N[i]? = some n) (hln : X.env.kindOf n = some .local) (tk : Takes X Wo)
    (hb : ∀ (W : WX) (pn : List (Addr × Obj)) (xe : Value → Shared → Prop), Takes (X.tr pn xe) W → PassesOwn (model X.prog X.w) X.A X.env xe → PSs (X.tr pn xe) body (tb W))
    (hh : ClsAs X n (c0 :: cs) l) : PS X (.Try body (c0 :: cs) [] [] pos) (fun D τ G => tb (wAsM X.K i Wo D l) D τ G) := by
  refine ⟨fun pins s τ G D I wish => ?_⟩
  have good := I.ok
  have frames : X.A.frames = some (X.env :: X.outer) := by rw [good.frames, hst]
  have loc : Loc X.env.scope n := .inl hln
  refine wpAny_Try_except (wpAny_mono ((hb (wAsM X.K i Wo D l) (X.pn ++ pins) (fun e s1 => wpAny (model X.prog X.w) X.A (noteFrame e X.env) (fun _ s2 => wpAny (model X.prog X.w) X.A (setFlight e none) (fun _ s3 =>
    wpAny (model X.prog X.w) X.A (handleBy e X.env (c0 :: cs)) (SP X pins D) X.xe s3) X.xe s2) X.xe s1) (fun u s1 caught => ?_) PassesOwn.looking).run [] s τ G D (I.toTry _) wish) (fun r s1 came => ?_) (fun e s1 z => z))
  · obtain ⟨a, B, sI, pinsI, τ1, G1, cls, d, rfl, J0, nb, up, sky, na, os, ag, w⟩ := caught
    have J : Inv X pins τ1 G1 sI := J0.ofTry good
    have skyX : Sky B (X.env :: X.outer) a (Zc cls d) X.env.locals s1.heap := by rw [← hst]; exact sky
    show wpAny _ X.A (noteFrame (.ref a) X.env) _ _ _
    refine Sky.land Zc.steady frames hfr skyX fun hp fl upL => ?_
    have J1 : Inv X pins τ1 G1 { s1 with heap := hp } := J.landed nb fl.1 (up.trans upL) os ag
    obtain ⟨oe, vs, hoe, hz, hdat⟩ := fl.there
    have notin : a ∉ frs (X.env :: X.outer) := fun hm => by
      obtain ⟨_, ob, eb, nf⟩ := fl.2.2.1.mem hm
      rw [hoe] at eb
      cases eb
      exact nf _ hdat
    have nL : a ≠ X.env.locals := fun z => notin (List.mem_filterMap.mpr ⟨X.env, List.mem_cons_self, by rw [hfr, z]⟩)
    have nF : a ∉ X.fs := fun hm => by
      obtain ⟨e, he, z⟩ := List.mem_filterMap.mp hm
      exact notin (List.mem_filterMap.mpr ⟨e, List.mem_cons_of_mem _ he, z⟩)
    have S1 := J1.suite hoe hdat na nL nF
    suffices go : ∀ {hs : List ExceptHandler} {ll : List (Value × (Addr → Value → Option Addr → TS))}, ClsAs X n hs ll → wAsM X.K i Wo D ll cls d τ1 G1 → wpAny (model X.prog X.w) X.A (handleBy (.ref a) X.env hs) (SP X pins D) X.xe { s1 with heap := hp } from go hh w
    intro hs ll hk
    induction hk with
    | nil =>
      intro out
      refine wpAny_handleBy_nil ?_
      obtain ⟨_, _, _, oe2, vs2, T, oT, tt, e2, _, d2, v2, _⟩ := id fl
      have fin : wpAny (model X.prog X.w) X.A (setFlight (.ref a) X.env.frame) (fun _ s4 => wpAny (model X.prog X.w) X.A (throw (.ref a) : Sem Flow) (SP X pins D) X.xe s4) X.xe { s1 with heap := hp } := by
        rw [hfr]
        refine HandSPX.setFlight_upZ fl fun h4 sk up4 => wpAny_throw (tk _ _ ?_)
        exact ⟨a, B, sI, pins, τ1, G1, cls, d, rfl, J, nb, (up.trans upL).trans up4, .inr (.inr (by rw [hst]; exact sk)), na, os, ag, out⟩
      unfold PySem.passOn
      refine wpAny_bind (wpAny_field e2 d2 v2 ?_)
      rw [if_neg (by simp)]
      first
        | exact wpAny_bind (wpAny_pure (wpAny_bind fin))
        | exact wpAny_bind fin
    | @cons x c ts b0 rest p q hs2 l2 hc hsu more ih =>
      intro out
      obtain ⟨t, ht, yes, no⟩ := out
      refine wpAny_handleBy_cons (codeAny_handlers_test ?_) (by intro z; cases z)
      have LM := PySem.W.exm_one (M := model X.prog X.w) J1.kIn (show PySem.W.Looks (model X.prog X.w) hp (typeOf (.ref a)) cls from fun _ _ _ _ k z => wpAny_typeOf_ref (k _ _ hoe) (by rw [hz.1]; exact z)) ht
      have ask : ∀ {Q : Value → Shared → Prop} {E : Value → Shared → Prop}, Q c { s1 with heap := hp } → wpAny (model X.prog X.w) (X.A.mark (some (.ref a))) (eval (.Name x p) X.env) Q E { s1 with heap := hp } := fun {Q E} z => by
        obtain ⟨hg, hdbg, hm | ⟨hm, hv, hnn⟩⟩ := hc
        · exact ld_glob (X := X.suite a ((a, oe) :: (X.pn ++ pins))) S1 hg hm z hdbg
        · exact ld_blt (X := X.suite a ((a, oe) :: (X.pn ++ pins))) S1 hg hm hv z hnn hdbg
      refine ask (LM.here ?_)
      cases t with
      | false => exact (show wpAny _ X.A (handleBy (.ref a) X.env hs2) _ _ _ from ih (no rfl))
      | true =>
        refine codeAny_handlers_suite_as (HandSPX.lands_againZ fl fun hp2 fl2 up2 => ?_)
        have J2 : Inv X pins τ1 G1 { s1 with heap := hp2 } := J.landed nb fl2.1 ((up.trans upL).trans up2) os ag
        obtain ⟨oe2, vs2, hoe2, hz2, hdat2⟩ := fl2.there
        refine store_ok (X := X.suite a ((a, oe2) :: (X.pn ++ pins))) (v := .ref a) (J2.suite hoe2 hdat2 na nL nF) hN hi loc rfl (fun s5 S5 => ?_) (.inr hln)
        refine wpAny_mono ((hsu a oe2 cls d (X.pn ++ pins) hz2 ⟨_, hdat2⟩).run [] s5 _ G1 _ S5 (yes rfl a na)) (fun r s6 came => ?_) (fun _ _ z => False.elim z)
        have gone : ∀ {τ6 : St} {G6 : Hp} {Q : Shared → Prop}, Inv (X.suite a ((a, oe2) :: (X.pn ++ pins))) [] τ6 G6 s6 → (∀ s7, Inv X pins (τ6.set i none) G6 s7 → Q s7) →
            wpAny (model X.prog X.w) X.A (do bindName X.env n .none; unbindBehindTheSuite X.env n q) (fun _ s7 => Q s7) X.xe s6 := fun S6 z => gone_ok (S6.unsuite good) hN hi hln z
        cases r with
        | next => obtain ⟨_, _, S6, w6⟩ := came; exact gone S6 fun _ J7 => ⟨_, _, J7, w6⟩
        | brk => obtain ⟨_, _, S6, w6⟩ := came; exact gone S6 fun _ J7 => ⟨_, _, J7, w6⟩
        | cont => obtain ⟨_, _, S6, w6⟩ := came; exact gone S6 fun _ J7 => ⟨_, _, J7, w6⟩
        | ret u => obtain ⟨_, _, _, S6, r6, w6⟩ := came; exact gone S6 fun _ J7 => ⟨_, _, _, J7, r6, w6⟩
  · cases r with
    | next => obtain ⟨_, _, J2, w2⟩ := came; exact wpAny_execs_nil ⟨_, _, J2.ofTry good, w2⟩
    | brk => obtain ⟨_, _, J2, w2⟩ := came; exact ⟨_, _, J2.ofTry good, w2⟩
    | cont => obtain ⟨_, _, J2, w2⟩ := came; exact ⟨_, _, J2.ofTry good, w2⟩
    | ret u => obtain ⟨_, _, _, J2, r2, w2⟩ := came; exact ⟨_, _, _, J2.ofTry good, r2, w2⟩
theorem ps_try_as2 {x1 x2 : Str} {c1 c2 : Value} {b1 b2 : Stmt} {r1 r2 : List Stmt} {p1 p2 q1 q2 : Pos} {ts1 ts2 : Addr → Value → Option Addr → TS} (hst : X.stack = X.env :: X.outer) (hfr : X.env.frame = some X.env.locals) (hN : X.N.Nodup) (hi : X.N[i]? = some n) (hln : X.env.kindOf n = some .local)
    (hc1 : Names X x1 c1) (hc2 : Names X x2 c2) (tk : Takes X Wo)
    (hb : ∀ (W : WX) (pn : List (Addr × Obj)) (xe : Value → Shared → Prop), Takes (X.tr pn xe) W → PassesOwn (model X.prog X.w) X.A X.env xe → PSs (X.tr pn xe) body (tb W))
    (h1 : ∀ (a : Addr) (oe : Obj) (cls : Value) (d : Option Addr) (pn : List (Addr × Obj)), Zc cls d oe → (∃ vs, oe.data = .fields vs) → PSs (X.suite a ((a, oe) :: pn)) (b1 :: r1) (ts1 a cls d))
    (h2 : ∀ (a : Addr) (oe : Obj) (cls : Value) (d : Option Addr) (pn : List (Addr × Obj)), Zc cls d oe → (∃ vs, oe.data = .fields vs) → PSs (X.suite a ((a, oe) :: pn)) (b2 :: r2) (ts2 a cls d)) :
    PS X (.Try body [.ExceptHandler (some (.Name x1 p1)) (some n) (b1 :: r1) q1, .ExceptHandler (some (.Name x2 p2)) (some n) (b2 :: r2) q2] [] [] pos) (fun D τ G => tb (wAsM X.K i Wo D [(c1, ts1), (c2, ts2)]) D τ G) :=
  ps_try_asM hst hfr hN hi hln tk hb (.cons hc1 h1 (.cons hc2 h2 .nil))
end
section
variable {X : Cx} {o e : Expr} {to : TE} {t : TA} {apos cpos : Pos}
/-- o.append(e) -/
theorem pe_app1 (ho : PE X o to) (ha : PA X [e] t) (hbase : attributeBase o "append" X.env (eval o X.env) = eval o X.env := by rfl)
    (hfew : ((backTo cpos (starEach [e] X.env)).all (fun x => !x.1) && (backToKw cpos (keywordEach [] X.env)).all (fun x => x.1.isSome) && decide ([e].length + ([] : List Keyword).length + (if ([] : List Keyword).isEmpty then 0 else 1) < 30)) = true := by rfl)
    (hline : (apos.endLine == cpos.line) = true := by rfl) (hs : starEach [e] X.env = (false, eval e X.env) :: starEach [] X.env := by rfl) (hplain : (backTo cpos (starEach [] X.env)).any (·.1) = false := by rfl) :
    PE X (.Call (.Attribute o "append" apos) [e] [] cpos) (tBM X.K "list" rAppend to t) := pe_bm PySem.F.plainAttrs_list PySem.F.slot_list_append PySem.F.type_list_append mt_append ho ha hbase hfew hline hs hplain
end
end L2
set_option Elab.async false
set_option linter.all false
set_option maxRecDepth 100000
set_option maxHeartbeats 4000000
/-! a head by one run: own errors' makers, any Bool of the written part -/
namespace HeM
open PySem PySem.Spec PyProof.Rows L2 He
/-! ### looks that answer true or false -/
/-- the object of an own error class -/
def ecB (K : PySem.W.Frag) (C : Addr) : Bool := match K.lookup C with
  | some ⟨.type "type", _, .cls cd, sl⟩ => (match cd.mro, sl.toList with
    | .ref C' :: bm, [_, _, _, _, some (.builtin n), _] => C' == C && (n == "ValueError.__new__" && (!cd.hasDel && (cd.hasDict && PySem.HandSPX.refsVE bm)))
    | _, _ => false)
  | _ => false
theorem ecB_ok {K : PySem.W.Frag} {C : Addr} (q : ecB K C = true) :
    ∃ nm q N bs bm sn sub ab col dd k0 k1 k2 k3 k5, K.lookup C = some (excClassObj nm q C N bs bm true sn sub ab col dd k0 k1 k2 k3 k5 "ValueError.__new__") ∧ PySem.HandSPX.refsVE bm = true := by
  unfold ecB at q
  split at q
  · rename_i dd cd sl ho
    split at q
    · rename_i C' bm k0 k1 k2 k3 n k5 hm hs
      simp only [Bool.and_eq_true, beq_iff_eq, Bool.not_eq_true'] at q
      obtain ⟨rfl, rfl, hdel, hdict, ht⟩ := q
      obtain ⟨nm, bs, mro, ns, qn, hd, sn, sub, ab, col, del⟩ := cd
      dsimp only at hm hdel hdict
      subst hm hdel hdict
      have hsl : sl = #[k0, k1, k2, k3, some (.builtin "ValueError.__new__"), k5] := by
        obtain ⟨l⟩ := sl
        simp only at hs
        rw [hs]
      subst hsl
      exact ⟨nm, qn, ns, bs, bm, sn, sub, ab, col, dd, k0, k1, k2, k3, k5, ho, ht⟩
    · cases q
  · cases q
/-- isinstance may be asked of its errors -/
def xcB (K : PySem.W.Frag) (D : Addr) : Bool :=
  eqO (PySem.W.findIn K (.ref D) "__getattribute__") (some (some (.builtin "BaseException.__getattribute__"))) && (eqO (PySem.W.findIn K (.ref D) "__getattr__") (some none) && (decide (PySem.W.subIn K (.ref D) (.type "BaseException") = some true) && (PySem.W.hasDictIn K D &&
    (eqO (PySem.W.findIn K (.ref D) "__class__") (some (some (.builtin "object.__class__"))) && decide (PySem.W.mroIn K D (.type "object") = some true)))))
def zB (K : PySem.W.Frag) : Bool := eqO (PySem.W.specialIn K (.builtin "object.__class__") "__get__") (some (some (.builtin "getset_descriptor.__get__"))) && decide (PySem.W.takesIn K (.builtin "object.__class__") = some true)
theorem xcB_ok {K : PySem.W.Frag} {D : Addr} (h : xcB K D = true) (z : zB K = true) : ExcC K D := by
  obtain ⟨h1, h⟩ := ba h
  obtain ⟨h2, h⟩ := ba h
  obtain ⟨h3, h⟩ := ba h
  obtain ⟨h4, h⟩ := ba h
  obtain ⟨h5, h6⟩ := ba h
  obtain ⟨z1, z2⟩ := ba z
  exact ⟨eqO_ok h1, eqO_ok h2, of_decide_eq_true h3, h4, eqO_ok h5, eqO_ok z1, of_decide_eq_true z2, of_decide_eq_true h6⟩
/-- its errors may be made -/
def oxB (K : PySem.W.Frag) (C : Addr) : Bool := ecB K C && (eqO (PySem.W.findIn K (.ref C) "__setattr__") (some (some (.builtin "object.__setattr__"))) && (decide (PySem.W.subIn K (.ref C) (.type "BaseException") = some true) && (decide (PySem.W.typeIn K (.ref C) = some (.type "type")) && PySem.W.keepIn K (.ref C))))
theorem oxB_ok {K : PySem.W.Frag} {C : Addr} (h : oxB K C = true) : OexC K C := by
  obtain ⟨h1, h⟩ := ba h
  obtain ⟨h2, h⟩ := ba h
  obtain ⟨h3, h⟩ := ba h
  obtain ⟨h4, h5⟩ := ba h
  exact ⟨ecB_ok h1, eqO_ok h2, of_decide_eq_true h3, of_decide_eq_true h4, h5⟩
/-- the maker stands in the class itself -/
def inB (K : PySem.W.Frag) (C : Str) : Bool := eqO (PySem.W.findIn K (.ref (ga K C)) "__init__") (some (some (.ref (ma K (ga K C) "__init__")))) && decide (PySem.W.typeIn K (.ref (ma K (ga K C) "__init__")) = some (.type "function"))
/-- found in the class as a value that it has -/
def valIs : Option PySem.W.CFound → Value → Bool
  | some (.val u), v => decide (u = v)
  | _, _ => false
theorem valIs_ok {o : Option PySem.W.CFound} {v : Value} (h : valIs o v = true) : o = some (.val v) := by
  cases o with
  | none => cases h
  | some f =>
    cases f with
    | val u => rw [of_decide_eq_true (show decide (u = v) = true from h)]
    | get _ _ _ _ => cases h
/-! ### makers that call super -/
structure IniD where
  C : Str
  qual : Str
  params : Arguments
  body : List Stmt
  scope : Scope
abbrev IniW : Type := Option (Str × Str × Arguments × FuncBody × Scope × Addr × Addr)
def iniW (K : PySem.W.Frag) (d : IniD) : IniW := match K.lookup (ma K (ga K d.C) "__init__") with
  | some ⟨_, _, .func fd, _⟩ => some (fd.name, fd.qualname, fd.params, fd.body, fd.scope, fd.globals, fd.builtins)
  | _ => none
def IniD.val (d : IniD) : IniW := some ("__init__", d.qual, d.params, .stmts d.body, d.scope, mainGlobals, builtinsNs)
/-- its function object: no defaults, one cell -/
def fnB (file : Str) (K : PySem.W.Frag) (C : Addr) (q : Str) : Option Obj → Bool
  | some ⟨_, _, .func fd, _⟩ => (match fd.closure, fd.defaults, fd.code with
    | [(x, cc)], .none, .ref cda => decide (x = "__class__") && (PySem.W.codeIn K (.ref cda) q && ((match K.lookup cda with
      | some ⟨_, _, .fields vs, _⟩ => (match (vs[2]? : Option Value) with
        | some (Value.str f _) => file == f
        | _ => false)
      | _ => false) && (match K.lookup cc with
      | some ⟨_, _, .cell (some (.ref C')), _⟩ => C' == C
      | _ => false)))
    | _, _, _ => false)
  | _ => false
def iniB (file : Str) (K : PySem.W.Frag) (d : IniD) : Bool :=
  oxB K (ga K d.C) && (inB K d.C && (decide (PySem.W.mroIn K (ga K d.C) (.ref (ga K d.C)) = some true) && (decide (PySem.W.subIn K (.ref (ga K d.C)) (.type "ValueError") = some true) &&
    (decide (PySem.W.ks_superIn K (ga K d.C) (ga K d.C) "__init__" = some (some (.builtin "ValueError.__init__"))) && fnB file K (ga K d.C) d.qual (K.lookup (ma K (ga K d.C) "__init__"))))))
theorem iniB_ok {P : Program} {K : PySem.W.Frag} {d : IniD} (e : iniW K d = d.val) (h : iniB P.main.file K d = true) (opq : PySem.W.nsIn K cStatics "thirdparty.any" = some none) (top : (P.main.scope.names.lookup ("super" : Str)).isSome = false) :
    PySem.ErrL.SupC P K (ga K d.C) (ma K (ga K d.C) "__init__") d.qual d.params d.body d.scope := by
  obtain ⟨h1, h⟩ := ba h
  obtain ⟨h2, h⟩ := ba h
  obtain ⟨h3, h⟩ := ba h
  obtain ⟨h4, h⟩ := ba h
  obtain ⟨h5, h6⟩ := ba h
  obtain ⟨i1, i2⟩ := ba h2
  have T := oxB_ok h1
  unfold iniW at e
  refine ⟨T.cls, ?_, of_decide_eq_true h3, of_decide_eq_true h4, opq, of_decide_eq_true h5, T.sa, eqO_ok i1, of_decide_eq_true i2, top⟩
  cases q : K.lookup (ma K (ga K d.C) "__init__") with
  | none =>
    rw [q] at e
    cases e
  | some o =>
    obtain ⟨oc, od, dt, osl⟩ := o
    rw [q] at e h6
    cases dt with
    | func fd =>
      obtain ⟨n1, n2, n3, n4, n5, n6, n7, n8, n9, n10, n11, n12, n13, n14, n15⟩ := fd
      have e2 : (some (n1, n2, n3, n4, n5, n6, n15) : IniW) = some (("__init__" : Str), d.qual, d.params, FuncBody.stmts d.body, d.scope, mainGlobals, builtinsNs) := e
      simp only [Option.some.injEq, Prod.mk.injEq] at e2
      obtain ⟨g1, g2, g3, g4, g5, g6, g7⟩ := e2
      subst g1 g2 g3 g4 g5 g6 g7
      unfold fnB at h6
      dsimp only at h6
      split at h6
      · rename_i x cc cda
        obtain ⟨r1, h6⟩ := ba h6
        obtain ⟨r2, h6⟩ := ba h6
        obtain ⟨r3, r4⟩ := ba h6
        obtain rfl := of_decide_eq_true r1
        split at r3
        · rename_i ccl cdd vs ccs hl
          split at r3
          · rename_i f tf hv
            split at r4
            · rename_i cl cld C' csl hc
              obtain rfl : C' = ga K d.C := beq_iff_eq.mp r4
              exact ⟨oc, od, n9, n10, n11, n12, cda, n14, osl, cc, vs, f, tf, ccl, cdd, ccs, cl, cld, csl, rfl, r2, hl, hv, r3, hc⟩
            · cases r4
          · cases r3
        · cases r3
      · cases h6
    | _ => cases e
/-! ### properties -/
/-- the getter of the property m -/
def pg (K : PySem.W.Frag) (C : Addr) (m : Str) : Addr := match PySem.W.recIn K (ma K C m) "property" with
  | some (.ref g :: _) => g
  | _ => 0
def pgD (K : PySem.W.Frag) (d : DefD) : Addr := pg K (ga K d.at_.1) (d.at_.2.getD "")
def fnWp (K : PySem.W.Frag) (d : DefD) : FnW := match K.lookup (pgD K d) with
  | some ⟨_, _, .func fd, _⟩ => some (fd.name, fd.qualname, fd.params, fd.body, fd.scope, fd.globals, fd.closure, fd.builtins)
  | _ => none
def isSomeHd : Option (List Value) → Addr → Bool
  | some (.ref g :: _), h => g == h
  | _, _ => false
def prpB (K : PySem.W.Frag) (d : DefD) : Bool :=
  eqO (PySem.W.findIn K (.ref (ga K d.at_.1)) (d.at_.2.getD "")) (some (some (.ref (ma K (ga K d.at_.1) (d.at_.2.getD ""))))) && (eqO (PySem.W.specialIn K (.ref (ma K (ga K d.at_.1) (d.at_.2.getD ""))) "__get__") (some (some (.builtin "property.__get__"))) &&
    (decide (PySem.W.takesIn K (.ref (ma K (ga K d.at_.1) (d.at_.2.getD ""))) = some true) && (isSomeHd (PySem.W.recIn K (ma K (ga K d.at_.1) (d.at_.2.getD "")) "property") (pgD K d) && (PySem.W.keepIn K (.ref (pgD K d)) && (match K.lookup (pgD K d) with
      | some ⟨_, _, .func fd, _⟩ => PySem.W.codeIn K fd.code d.qual && decide (fd.defaults = .none)
      | _ => false)))))
theorem prp_of {K : PySem.W.Frag} {d : DefD} (h : prpB K d = true) : PropOf K (ga K d.at_.1) (d.at_.2.getD "") (ma K (ga K d.at_.1) (d.at_.2.getD "")) (pgD K d) := by
  obtain ⟨h1, h⟩ := ba h
  obtain ⟨h2, h⟩ := ba h
  obtain ⟨h3, h⟩ := ba h
  obtain ⟨h4, h⟩ := ba h
  refine ⟨eqO_ok h1, eqO_ok h2, of_decide_eq_true h3, ?_⟩
  unfold isSomeHd at h4
  split at h4
  · rename_i g rest e
    obtain rfl : g = pgD K d := beq_iff_eq.mp h4
    exact ⟨rest, e⟩
  · cases h4
theorem prp_fun {K : PySem.W.Frag} {d : DefD} {st : Stmt} (e : fnWp K d = d.val) (h : prpB K d = true) (h1 : d.params = defArgs st) (h2 : d.body = defBody st) (h3 : d.scope = defScope st) : ∃ fd, Fun K d.name d.qual st (pgD K d) fd := by
  obtain ⟨_, h⟩ := ba h
  obtain ⟨_, h⟩ := ba h
  obtain ⟨_, h⟩ := ba h
  obtain ⟨_, h⟩ := ba h
  obtain ⟨kp, h⟩ := ba h
  unfold fnWp at e
  cases q : K.lookup (pgD K d) with
  | none =>
    rw [q] at h
    cases h
  | some o =>
    obtain ⟨oc, od, dt, osl⟩ := o
    rw [q] at h e
    cases dt with
    | func fd =>
      obtain ⟨n1, n2, n3, n4, n5, n6, n7, n8, n9, n10, n11, n12, n13, n14, n15⟩ := fd
      have e2 : (some (n1, n2, n3, n4, n5, n6, n7, n15) : FnW) = some (d.name, d.qual, d.params, .stmts d.body, d.scope, mainGlobals, [], builtinsNs) := e
      simp only [Option.some.injEq, Prod.mk.injEq] at e2
      obtain ⟨g1, g2, g3, g4, g5, g6, g7, g8⟩ := e2
      subst g1 g2 g3 g4 g5 g6 g7 g8
      obtain ⟨k1, k2⟩ := ba (show (PySem.W.codeIn K n13 d.qual && decide (n8 = .none)) = true from h)
      obtain rfl : n8 = .none := of_decide_eq_true k2
      refine ⟨_, ⟨oc, od, n9, n10, n11, n12, n13, n14, osl, ?_, q, k1⟩, kp⟩
      rw [← h1, ← h2, ← h3]
    | _ => cases h
/-! ### the Hook -/
/-- what the names of the module reach in n steps, and the table of third parties -/
def asM (g : Addr → Option Obj) : Nat → List Addr
  | 0 => [mainGlobals, cStatics]
  | n + 1 => growD g (asM g n)
/-- tables with text keys; defs whose defaults are not told -/
abbrev TabM : Type := List (Str × List Str) × List DefD
/-- the only default of a def: an empty tuple -/
def dfA (K : PySem.W.Frag) (d : DefD) : Addr := match K.lookup (fAd K d.at_) with
  | some ⟨_, _, .func fd, _⟩ => (match fd.defaults with
    | .ref T => (match K.lookup T with
      | some ⟨_, _, .seq its _, _⟩ => (match its.toList with
        | [.ref a] => a
        | _ => 0)
      | _ => 0)
    | _ => 0)
  | _ => 0
def etB (K : PySem.W.Frag) (a : Addr) : Bool := match K.lookup a with
  | some ⟨.type c, _, .seq its _, _⟩ => decide (c = "tuple") && its.isEmpty
  | _ => false
theorem etB_ok {K : PySem.W.Frag} {a : Addr} (h : etB K a = true) (H : Hp) : SqT K H a [] := by
  unfold etB at h
  split at h
  · rename_i c _ its n _ e
    obtain ⟨h1, h2⟩ := ba h
    obtain rfl : its = #[] := Array.isEmpty_iff.mp h2
    exact .inr ⟨_, #[], n, e, congrArg Value.type (of_decide_eq_true h1), rfl, Nat.zero_le _, .nil⟩
  · cases h
def codB (K : PySem.W.Frag) (d : DefD) : Bool := PySem.W.keepIn K (.ref (fAd K d.at_)) && (etB K (dfA K d) && (match K.lookup (fAd K d.at_) with
  | some ⟨_, _, .func fd, _⟩ => PySem.W.codeIn K fd.code d.qual && dflB K fd.defaults [.ref (dfA K d)]
  | _ => false))
abbrev AlM : Type := AlD × (List IniW × (List FnW × (List (Option (List (Option (Str × Int)))) × (List FnW × Bool))))
def obsM (file : Str) (fa : List Fa) (fn : List DefD) (ini : List IniD) (pr : List DefD) (ts : TabM) (ex : PySem.W.Frag → Bool) (K : PySem.W.Frag) : AlM := (obsD fa fn K, (ini.map fun d => iniW K d, (pr.map fun d => fnWp K d, (ts.1.map fun t => dicW K (ga K t.1), (ts.2.map fun d => fnW K d.at_, (ini.all fun d => iniB file K d) && ((pr.all fun d => prpB K d) && ((ts.2.all fun d => codB K d) && ex K)))))))
def valM (fn : List DefD) (ini : List IniD) (pr : List DefD) (ts : TabM) (w : World) : AlM := (valD fn, (ini.map IniD.val, (pr.map DefD.val, (ts.1.map fun t => some (keysIn w.params t.2), (ts.2.map DefD.val, true)))))
def obsMG (file : Str) (n : Nat) (fa : List Fa) (fn : List DefD) (ini : List IniD) (pr : List DefD) (ts : TabM) (ex : PySem.W.Frag → Bool) (g : Addr → Option Obj) : AlM := obsM file fa fn ini pr ts ex (frG g (asM g n))
/-- what is told -/
structure SaysM (file : Str) (fa : List Fa) (fn : List DefD) (ini : List IniD) (pr : List DefD) (ts : TabM) (ex : PySem.W.Frag → Bool) (w : World) (K : PySem.W.Frag) : Prop where
  t : ts.1.map (fun t => dicW K (ga K t.1)) = ts.1.map fun t => some (keysIn w.params t.2)
  v : ts.2.map (fun d => fnW K d.at_) = ts.2.map DefD.val
  vb : ∀ d ∈ ts.2, codB K d = true
  d : SaysD fa fn K
  w : ini.map (fun d => iniW K d) = ini.map IniD.val
  p : pr.map (fun d => fnWp K d) = pr.map DefD.val
  pb : ∀ d ∈ pr, prpB K d = true
  b : ∀ d ∈ ini, iniB file K d = true
  x : ex K = true
theorem saysM_of {file : Str} {fa : List Fa} {fn : List DefD} {ini : List IniD} {pr : List DefD} {ts : TabM} {ex : PySem.W.Frag → Bool} {w : World} {K : PySem.W.Frag} (e : obsM file fa fn ini pr ts ex K = valM fn ini pr ts w) : SaysM file fa fn ini pr ts ex w K := by
  have e1 : obsD fa fn K = valD fn := congrArg (fun z : AlM => z.1) e
  have e2 : ini.map (fun d => iniW K d) = ini.map IniD.val := congrArg (fun z : AlM => z.2.1) e
  have e3 : ((ini.all fun d => iniB file K d) && ((pr.all fun d => prpB K d) && ((ts.2.all fun d => codB K d) && ex K))) = true := congrArg (fun z : AlM => z.2.2.2.2.2) e
  have e5 : ts.1.map (fun t => dicW K (ga K t.1)) = ts.1.map fun t => some (keysIn w.params t.2) := congrArg (fun z : AlM => z.2.2.2.1) e
  have e6 : ts.2.map (fun d => fnW K d.at_) = ts.2.map DefD.val := congrArg (fun z : AlM => z.2.2.2.2.1) e
  have e4 : pr.map (fun d => fnWp K d) = pr.map DefD.val := congrArg (fun z : AlM => z.2.2.1) e
  obtain ⟨h1, h2⟩ := ba e3
  obtain ⟨h2, h3⟩ := ba h2
  obtain ⟨h4, h3⟩ := ba h3
  exact ⟨e5, e6, List.all_eq_true.mp h4, e1, e2, e4, List.all_eq_true.mp h2, List.all_eq_true.mp h1, h3⟩
theorem SaysM.prp {file : Str} {fa : List Fa} {fn : List DefD} {ini : List IniD} {pr : List DefD} {ts : TabM} {ex : PySem.W.Frag → Bool} {w : World} {K : PySem.W.Frag} (c : SaysM file fa fn ini pr ts ex w K) (i : Nat) {d : DefD} {st : Stmt} (h : pr[i]? = some d) (h1 : d.params = defArgs st) (h2 : d.body = defBody st) (h3 : d.scope = defScope st) :
    PropOf K (ga K d.at_.1) (d.at_.2.getD "") (ma K (ga K d.at_.1) (d.at_.2.getD "")) (pgD K d) ∧ ∃ fd, Fun K d.name d.qual st (pgD K d) fd := by
  have e2 : (pr.map fun d => fnWp K d)[i]? = (pr.map DefD.val)[i]? := by rw [c.p]
  rw [List.getElem?_map, List.getElem?_map, h] at e2
  have b := c.pb d (List.mem_of_getElem? h)
  exact ⟨prp_of b, prp_fun (Option.some.inj e2) b h1 h2 h3⟩
theorem SaysM.ini {P : Program} {fa : List Fa} {fn : List DefD} {ini : List IniD} {pr : List DefD} {ts : TabM} {ex : PySem.W.Frag → Bool} {w : World} {K : PySem.W.Frag} (c : SaysM P.main.file fa fn ini pr ts ex w K) (i : Nat) {d : IniD} (opq : PySem.W.nsIn K cStatics "thirdparty.any" = some none) (top : (P.main.scope.names.lookup ("super" : Str)).isSome = false) (h : ini[i]? = some d := by rfl) :
    PySem.ErrL.SupC P K (ga K d.C) (ma K (ga K d.C) "__init__") d.qual d.params d.body d.scope := by
  have e2 : (ini.map fun d => iniW K d)[i]? = (ini.map IniD.val)[i]? := by rw [c.w]
  rw [List.getElem?_map, List.getElem?_map, h] at e2
  exact iniB_ok (Option.some.inj e2) (c.b d (List.mem_of_getElem? h)) opq top
theorem SaysM.ox {file : Str} {fa : List Fa} {fn : List DefD} {ini : List IniD} {pr : List DefD} {ts : TabM} {ex : PySem.W.Frag → Bool} {w : World} {K : PySem.W.Frag} (c : SaysM file fa fn ini pr ts ex w K) (i : Nat) {d : IniD} (h : ini[i]? = some d := by rfl) : OexC K (ga K d.C) :=
  oxB_ok (ba (c.b d (List.mem_of_getElem? h))).1
theorem SaysM.ex_at {file : Str} {fa : List Fa} {fn : List DefD} {ini : List IniD} {pr : List DefD} {ts : TabM} {L : List (PySem.W.Frag → Bool)} {w : World} {K : PySem.W.Frag} (c : SaysM file fa fn ini pr ts (fun K => L.all fun b => b K) w K) (i : Nat) {b : PySem.W.Frag → Bool} (h : L[i]? = some b := by rfl) : b K = true :=
  List.all_eq_true.mp c.x b (List.mem_of_getElem? h)
theorem SaysM.tab {file : Str} {fa : List Fa} {fn : List DefD} {ini : List IniD} {pr : List DefD} {ts : TabM} {ex : PySem.W.Frag → Bool} {w : World} {K : PySem.W.Frag} (c : SaysM file fa fn ini pr ts ex w K) (i : Nat) {t : Str × List Str} (h : ts.1[i]? = some t := by rfl) : dicW K (ga K t.1) = some (keysIn w.params t.2) := by
  have e2 : (ts.1.map fun t => dicW K (ga K t.1))[i]? = (ts.1.map fun t => some (keysIn w.params t.2))[i]? := by rw [c.t]
  rw [List.getElem?_map, List.getElem?_map, h] at e2
  exact Option.some.inj e2
/-- a def as it stands behind the top, its one default an empty tuple -/
def FunV (K : PySem.W.Frag) (x qual : Str) (st : Stmt) (f : Addr) (fd : FuncData) : Prop := ∃ a0, FunD K x qual (defArgs st) (defBody st) (defScope st) [.ref a0] [] f fd ∧ ∀ H, SqT K H a0 []
theorem FunV.ok {P : Program} {w : World} {K : PySem.W.Frag} {mg : Str → Option Value} {base : Heap} {x qual : Str} {st : Stmt} {f : Addr} {fd : FuncData} {CX : CXT} {N ps : List Str} {k : Nat} {sp : Sp} (F : FunV K x qual st f fd) (S : FnScope N ps (defScope st)) (len : ∀ vs H Q E, sp vs H Q E → vs.length = ps.length)
    (hbody : ∀ (cdv : Value) (A : Around) (outer : List Env) (s : Shared) (H : Hp) (vs : List V) (Q : VK) (E : XK), Room k (A.deeper (envOfC qual (defScope st) s.heap.objs.size f cdv)) → sp vs H Q E →
      ∃ t, PSs (cxOf CX P w K mg base N qual (defScope st) f cdv A outer s H E) (defBody st) t ∧ t { nx := fun _ H' => Q .non H', rt := Q } (start N vs) H) : FnOk P w K mg base CX (k + 1) f fd ps sp := by
  obtain ⟨a0, F, _⟩ := F
  exact F.ok S len hbody
theorem FunV.binds {K : PySem.W.Frag} {x qual : Str} {st : Stmt} {f : Addr} {fd : FuncData} {ps : List Str} (F : FunV K x qual st f fd)
    (h : ∀ (T : Addr) (kV doc pm : Value) (an : Option Addr) (cdv ct : Value) (us its : List Value), us.length = ps.length → its.length = 1 →
      ∃ k, bindArgs (PySem.W.fnOf x qual (defArgs st) (defBody st) (defScope st) (.ref T) kV doc pm an cdv ct) ⟨us, []⟩ = seqItems? (.ref T) >>= k ∧ k (some its.toArray) = pure (ps.zip (us ++ its.drop 1))) : Binds K fd ps [] := by
  obtain ⟨a0, F, _⟩ := F
  obtain ⟨ds, r, b⟩ := F.binds1 (ps := ps) ps.length 1 (by simp) rfl h
  cases r
  exact b
theorem funV_of {K : PySem.W.Frag} {d : DefD} {st : Stmt} (e : fnW K d.at_ = d.val) (h : codB K d = true) (h1 : d.params = defArgs st) (h2 : d.body = defBody st) (h3 : d.scope = defScope st) : ∃ fd, FunV K d.name d.qual st (fAd K d.at_) fd := by
  obtain ⟨kp, h⟩ := ba h
  obtain ⟨et, h⟩ := ba h
  unfold fnW at e
  cases q : K.lookup (fAd K d.at_) with
  | none =>
    rw [q] at h
    cases h
  | some o =>
    obtain ⟨oc, od, dt, osl⟩ := o
    rw [q] at h e
    cases dt with
    | func fd =>
      obtain ⟨n1, n2, n3, n4, n5, n6, n7, n8, n9, n10, n11, n12, n13, n14, n15⟩ := fd
      have e2 : (some (n1, n2, n3, n4, n5, n6, n7, n15) : FnW) = some (d.name, d.qual, d.params, .stmts d.body, d.scope, mainGlobals, [], builtinsNs) := e
      simp only [Option.some.injEq, Prod.mk.injEq] at e2
      obtain ⟨g1, g2, g3, g4, g5, g6, g7, g8⟩ := e2
      subst g1 g2 g3 g4 g5 g6 g7 g8
      obtain ⟨k1, k2⟩ := ba (show (PySem.W.codeIn K n13 d.qual && dflB K n8 [.ref (dfA K d)]) = true from h)
      refine ⟨_, dfA K d, ⟨⟨oc, od, n8, n9, n10, n11, n12, n13, n14, osl, ?_, q, k1, dflB_ok k2, .inl rfl⟩, kp⟩, etB_ok et⟩
      rw [← h1, ← h2, ← h3]
    | _ => cases h
theorem SaysM.var {file : Str} {fa : List Fa} {fn : List DefD} {ini : List IniD} {pr : List DefD} {ts : TabM} {ex : PySem.W.Frag → Bool} {w : World} {K : PySem.W.Frag} (c : SaysM file fa fn ini pr ts ex w K) (i : Nat) {d : DefD} {st : Stmt} (h : ts.2[i]? = some d) (h1 : d.params = defArgs st) (h2 : d.body = defBody st) (h3 : d.scope = defScope st) :
    ∃ fd, FunV K d.name d.qual st (fAd K d.at_) fd := by
  have e2 : (ts.2.map fun d => fnW K d.at_)[i]? = (ts.2.map DefD.val)[i]? := by rw [c.v]
  rw [List.getElem?_map, List.getElem?_map, h] at e2
  exact funV_of (Option.some.inj e2) (c.vb d (List.mem_of_getElem? h)) h1 h2 h3
theorem inB_ok {K : PySem.W.Frag} {C : Str} (h : inB K C = true) : PySem.W.findIn K (.ref (ga K C)) "__init__" = some (some (.ref (ma K (ga K C) "__init__"))) ∧ PySem.W.typeIn K (.ref (ma K (ga K C) "__init__")) = some (.type "function") := by
  obtain ⟨h1, h2⟩ := ba h
  exact ⟨eqO_ok h1, of_decide_eq_true h2⟩
def hookM (file : Str) (n : Nat) (fa : List Fa) (fn : List DefD) (ini : List IniD) (pr : List DefD) (ts : TabM) (ex : PySem.W.Frag → Bool) : PySem.W.Hook where
  α := AlM
  obs := fun s => obsMG file n fa fn ini pr ts ex s.heap.get?
  val := fun w => valM fn ini pr ts w
  says := fun w h => ∃ K : PySem.W.Frag, K.In h ∧ SaysM file fa fn ini pr ts ex w K
  of := fun _ _ e => ⟨_, frG_in, saysM_of e⟩
  keeps := fun _ _ _ ⟨K, hK, c⟩ k => ⟨K, PySem.W.Frag.In.keeps hK k, c⟩
theorem obsMG_eq {file : Str} {n : Nat} {fa : List Fa} {fn : List DefD} {ini : List IniD} {pr : List DefD} {ts : TabM} {ex : PySem.W.Frag → Bool} {g : Addr → Option Obj} {s : Shared} (h : ∀ a, g a = s.heap.get? a) : obsMG file n fa fn ini pr ts ex g = (hookM file n fa fn ini pr ts ex).obs s := by
  have e : g = s.heap.get? := funext h
  rw [e] <;> rfl
end HeM
namespace L2
open PySem PySem.Spec PyProof.Rows
theorem fun_of {K : PySem.W.Frag} {x qual : Str} {st : Stmt} {f : Addr} {fd : FuncData} (F : FunD K x qual (defArgs st) (defBody st) (defScope st) [] [] f fd) : Fun K x qual st f fd := by
  obtain ⟨oc, od, dV, kV, doc, pm, an, cdv, ct, osl, rfl, lk, hcd, hD, hK⟩ := F.ex
  rcases hD with ⟨_, rfl⟩ | ⟨e, _⟩
  · exact ⟨⟨oc, od, kV, doc, pm, an, cdv, ct, osl, rfl, lk, hcd⟩, F.kp⟩
  · exact absurd rfl e
theorem Fun.bindsA1 {K : PySem.W.Frag} {x qual y : Str} {st : Stmt} {f : Addr} {fd : FuncData} (F : Fun K x qual st f fd)
    (h : ∀ (kV doc pm : Value) (an : Option Addr) (cdv ct : Value) (us : List Value), us.length = [y].length → bindArgs (PySem.W.fnOf x qual (defArgs st) (defBody st) (defScope st) .none kV doc pm an cdv ct) ⟨us, []⟩ = pure ([y].zip us)) (s : Shared) (v : Value) : BindsTo s fd ⟨[v], []⟩ [(y, v)] := by
  obtain ⟨oc, od, kV, doc, pm, an, cdv, ct, osl, rfl, lk, hcd⟩ := F.ex
  exact .of_eq (h kV doc pm an cdv ct [v] rfl)
end L2
set_option Elab.async false
set_option linter.all false
set_option maxRecDepth 100000
set_option maxHeartbeats 4000000
/-! == by an own __eq__ that may say False -/
namespace L2
open PySem PySem.Spec PyProof.Rows
def rOwn (K : PySem.W.Frag) (C : Addr) (sp : Sp) : R2 := fun x y H Q => ∃ (a dx : Addr) (fs : List (Str × V)) (t : Value), x = .ref a ∧ H a = some (.ins C dx fs) ∧ TyX K H y t ∧ PySem.W.notFirst K C t = true ∧ sp [x, y] H (fun v H' => (∃ b, v = .bl b) ∧ Q v H') E0
theorem op_own {X : Cx} {CX : CXT} {C : Addr} {k : Nat} {ps : List Str} {sp : Sp} (c : CalM X.prog X.w X.K X.mg X.base CX k C "__eq__" ps sp) (hr : Room k X.A) (hx : Passes CX X E0 := by first | exact pass0 | exact passL) : OpR X (compareOp .Eq) (rOwn X.K C sp) := by
  intro pins s σ H x y v u Q I rx ry h
  obtain ⟨f, fd, h1, h2, h4⟩ := c
  obtain ⟨a, dx, fs, t, rfl, ha, hy, hn, q⟩ := h
  obtain rfl : v = Value.ref a := rx
  obtain ⟨mA, J, _⟩ := ins_get I.hok ha
  obtain ⟨od, J, _⟩ := J.look
  obtain ⟨Pz, Z, pz, _⟩ := kit_of I ry hy
  obtain ⟨m, hF⟩ := I.fr
  show wpAny (model X.prog X.w) X.A (richCompare .Eq (.ref a) u) (EP X pins σ Q) X.xe s
  refine PySem.W.cmp_K (op := .Eq) (tb := t) hr.units0 hF I.ok.mod.kin J (Z.ty _ _ I.kIn pz) hn h2.at_ h2.fn ?_
  refine wpAny_mono (run_fn (us := [.ref a, u]) (vs := [.ref a, y]) (dvs := []) h1 hr h4 .nil hx I (.cons (show RelV (.ref a) (.ref a) from rfl) (.cons ry .nil)) q) (fun r s' hq => ?_) fun _ _ z => z
  obtain ⟨v', H', I', rv, ⟨b, rfl⟩, q'⟩ := hq
  obtain rfl : r = Value.bool b := rv
  exact ⟨.bl b, H', I', rfl, q'⟩
end L2
set_option Elab.async false
set_option linter.all false
set_option maxRecDepth 100000
set_option maxHeartbeats 400000
/-! len(o), a walk over o, o.f: by the class's own __len__, __iter__, properties -/
namespace L2
open PySem PySem.Spec PyProof.Rows
section
variable {X : Cx} {CX : CXT} {C : Addr} {k : Nat} {ps : List Str} {sp : Sp}
/-- a call of a def at one more level down -/
theorem run_in1 {pins : List (Addr × Obj)} {σ : St} {H : Hp} {s : Shared} {Q : VK} {f : Addr} {fd : FuncData} {us : List Value} {vs : List V} (F : FnOk X.prog X.w X.K X.mg X.base CX k f fd ps sp) (hr : Room (k + 1) X.A) (hb : Binds X.K fd ps [])
    (hx : Passes CX X E0) (I : Inv X pins σ H s) (r : Vals vs us) (h : sp vs H Q E0) : wpAny (model X.prog X.w) X.A.in1 (call (.ref f) us) (EP X pins σ Q) X.xe s := by
  have hl : (us ++ []).length = ps.length := by
    rw [List.append_nil, ← r.length]
    exact F.len _ _ _ _ h
  have hb' := hb s us I.kIn hl
  rw [List.append_nil] at hb'
  refine wpAny_call (codeAny_mono (F.run X.A.in1 X.stack s H ⟨us, []⟩ us vs Q E0 hr.in1 I.env0.in1 hb' r h) fun z s' hq => ?_)
  match z, hq with
  | .error e, hq => exact (hx pins σ H s e s' I hq)
  | .ok (.ret u), hq => exact I.after hq
/-- len(o) -/
def rLenOwn (C : Addr) (sp : Sp) : List V → Hp → VK → Prop := fun xs H Q => ∃ (a dx : Addr) (fs : List (Str × V)), xs = [.ref a] ∧ H a = some (.ins C dx fs) ∧ sp [.ref a] H (fun v H' => ∃ n : Nat, v = .int n ∧ n < 1000000 ∧ Q (.int n) H') E0
theorem call_lenOwn (c : CalM X.prog X.w X.K X.mg X.base CX k C "__len__" ps sp) (hr : Room (k + 1) X.A) (hx : Passes CX X E0 := by first | exact pass0 | exact passL) : CallR X (.builtin "len") (rLenOwn C sp) := by
  intro pins s σ H xs us Q I r h
  obtain ⟨f, fd, h1, h2, h4⟩ := c
  obtain ⟨a, dx, fs, rfl, ha, q⟩ := h
  obtain ⟨u, rfl, ru⟩ := vals1 r
  obtain rfl : u = Value.ref a := ru
  obtain ⟨mA, J, _⟩ := ins_get I.hok ha
  obtain ⟨od, J, _⟩ := J.look
  refine Calls.call_function_entry kind_len plain_len entry_len (args_len1 _) ?_
  unfold Builtin.«len»
  refine wpAny_bind (m := oneArg "len" _) (wpAny_pure ?_)
  refine wpAny_bind (m := callSpecial? (.ref a) (Str.ofString "__len__")) (PySem.W.special_fn I.kIn J h2.at_ (beq_iff_eq.mp h2.fn) (wpAny_mono (run_in1 h1 hr h4 hx I (show Vals [V.ref a] [Value.ref a] from .cons rfl .nil) q) (fun v s' hv => ?_) fun _ _ z => z))
  obtain ⟨v', H', I', rv, n, rfl, hn, q'⟩ := hv
  obtain ⟨t, rfl⟩ := rv
  refine wpAny_bind (wpAny_holding (wpAny_pure ?_))
  refine wpAny_bind (wpAny_letGo ?_)
  show wpAny _ _ (if (n : Int) < 0 then _ else _) _ _ _
  rw [if_neg (show ¬ ((n : Int) < 0) by omega)]
  show wpAny _ _ (if (n : Int) ≥ 2 ^ 63 then _ else _) _ _ _
  rw [if_neg (show ¬ ((n : Int) ≥ 2 ^ 63) by omega)]
  exact wpAny_bind (wpAny_mkInt (wpAny_pure ⟨_, rfl, .int n, H', I'.tok _, ⟨_, rfl⟩, q'⟩))
end
/-- as FnOk, the promise told the size of the memory at the call -/
structure FnN (P : Program) (w : World) (K : PySem.W.Frag) (mg : Str → Option Value) (base : Heap) (CX : CXT) (k : Nat) (f : Addr) (fd : FuncData) (ps : List Str) (sp : Nat → Sp) : Prop where
  len : ∀ n vs H Q E, sp n vs H Q E → vs.length = ps.length
  run : ∀ (A : Around) (outer : List Env) (s : Shared) (H : Hp) (us : List Value) (vs : List V) (Q : VK) (E : XK), Room k A → Env0 P w K mg base A outer s H → BindsTo s fd ⟨us, []⟩ (ps.zip us) → Vals vs us → sp s.heap.objs.size vs H Q E →
    codeAny (model P w) A (.call (.ref f) ⟨us, []⟩) (CR CX outer P w H s Q E) s
section
variable {P : Program} {w : World} {K : PySem.W.Frag} {mg : Str → Option Value} {base : Heap}
theorem Fun.okN {x qual : Str} {st : Stmt} {f : Addr} {fd : FuncData} {N ps : List Str} {k : Nat} {sp : Nat → Sp} (F : Fun K x qual st f fd) (S : FnScope N ps (defScope st)) (len : ∀ n vs H Q E, sp n vs H Q E → vs.length = ps.length)
    (body : ∀ (cdv : Value) (A : Around) (outer : List Env) (s : Shared) (H : Hp) (vs : List V) (Q : VK) (E : XK), Room k (A.deeper (envOfC qual (defScope st) s.heap.objs.size f cdv)) → sp s.heap.objs.size vs H Q E →
      ∃ t, PSs (cxOf CX0 P w K mg base N qual (defScope st) f cdv A outer s H E).nox (defBody st) t ∧ t { nx := fun _ H' => Q .non H', rt := Q } (start N vs) H) : FnN P w K mg base CX0 (k + 1) f fd ps sp := by
  obtain ⟨oc, od, kV, doc, pm, an, cdv, ct, osl, rfl, lk, hcd⟩ := F.ex
  refine ⟨len, fun A outer s H us vs Q E room env0 binds rel promise => ?_⟩
  have hlen := len _ _ _ _ _ promise
  have kin : K.In s.heap := env0.mod.kin.keeps fun b o e => (env0.bs b o e).1
  have nolim : s.heap.NoLimit := env0.mod.nolimit.keeps fun b o e => (env0.bs b o e).1
  have kinds : ∀ y ∈ ps.zip us, (defScope st).names.lookup y.1 = some .local ∨ ((defScope st).names.lookup y.1 = some .cell ∧ ((cellsFrom (s.heap.objs.size + 1) (defScope st).names []).lookup y.1).isSome = true) := by
    rintro ⟨n, v⟩ hy
    cases S.par n (List.of_mem_zip hy).1 with
    | inl q => exact .inl q
    | inr q => exact .inr ⟨q, PySem.W.cellsFrom_some _ _ _ (.inl q)⟩
  refine codeAny_call_function room.depth (kin _ _ lk) rfl S.co S.gen rfl (PySem.W.codeRec_of kin hcd) (binds _ _ _ _ (wpAny_newFunctionEnv_cells S.kind kinds fun env he s1 x => ?_))
  subst he
  refine ⟨nolim.keeps x.toInCall.keep, codeAny_func ?_⟩
  obtain ⟨t, ht, hq⟩ := body cdv A outer s H vs Q E (room.deeper _) promise
  have start_ok := inv_start (CX := CX0) (E := E) S room.hd env0 hlen rel x
  refine wpAny_mono (ht.nox.run [] s1 (start N vs) H _ start_ok hq) (fun fl s' hs => ?_) fun e s' hs => hs
  cases fl with
  | brk => exact False.elim (let ⟨_, _, _, q⟩ := hs; q)
  | cont => exact False.elim (let ⟨_, _, _, q⟩ := hs; q)
  | next =>
    obtain ⟨σ', H', J, q⟩ := hs
    exact ⟨V.non, H', J.os, J.bare, J.base, J.hok, rfl, q⟩
  | ret u =>
    obtain ⟨v, σ', H', J, rv, q⟩ := hs
    exact ⟨v, H', J.os, J.bare, J.base, J.hok, rv, q⟩
end
/-- at it the iterator of the tuple at t -/
def ItT (t it : Addr) : HO := .ext fun h => h.get? it = some { cls := .type "tuple_iterator", data := .fields #[.ref t, .int 0 0] }
theorem itT_ok {P : Program} {w : World} {H : Hp} {h : Heap} {t it : Addr} (e : h.get? it = some { cls := .type "tuple_iterator", data := .fields #[.ref t, .int 0 0] }) : ObjOk P w H h it (ItT t it) := ⟨e, ⟨_, e⟩, fun _ _ q k => k _ q⟩
/-- iter(t), t a tuple; the new thing lies behind n -/
def rIterT (K : PySem.W.Frag) (n : Nat) : List V → Hp → VK → Prop := fun xs H Q => ∃ (l : Addr) (zs : List V), xs = [.ref l] ∧ SqT K H l zs ∧ ∀ it, H it = none → n ≤ it → Q (.ref it) (upd H it (ItT l it))
theorem call_iterT {X : Cx} : CallR X (.builtin "iter") (rIterT X.K X.s_0.heap.objs.size) := by
  intro pins s σ H xs us Q I r h
  obtain ⟨l, zs, rfl, hq, q⟩ := h
  obtain ⟨u, rfl, ru⟩ := vals1 r
  obtain rfl : u = Value.ref l := ru
  obtain ⟨its, rv, pl, hz⟩ := I.tuple hq
  refine Calls.call_function_entry (by decide +kernel) (by decide +kernel) PySem.W.kdk_entry_iter (PySem.W.kdk_args_iter _) ?_
  unfold Builtin.«iter»
  refine wpAny_bind (m := someArgs "iter" 1 2 _) (wpAny_of_eq (a := [Value.ref l]) (by first | rfl | kernel_rfl!) ?_)
  show wpAny _ _ (pyIter (.ref l) >>= _) _ _ _
  refine wpAny_bind (wpAny_pyIter_tuple (show s.heap.IsTuple l its.toArray from pl) (wpAny_pure ⟨_, rfl, ?_⟩))
  have e : (s.heap.push { cls := .type "tuple_iterator", data := .fields #[.ref l, .int 0 0] }).get? s.heap.objs.size = some { cls := .type "tuple_iterator", data := .fields #[.ref l, .int 0 0] } := Heap.get?_push_size _ rfl
  exact ⟨.ref s.heap.objs.size, _, I.laid (o := ItT l s.heap.objs.size) (t' := s.toks) (fun b u e => Heap.get?_push_of_some _ e) (Nat.le_refl _) (itT_ok e), rfl, q _ (I.hok.fresh (Nat.le_refl _)) I.sz⟩
/-- what such an __iter__ promises -/
def spItT (K : PySem.W.Frag) (C : Addr) (f : Str) (n : Nat) : Sp := fun vs H Q _ => ∃ (a dx t : Addr) (fs : List (Str × V)) (zs : List V), vs = [.ref a] ∧ H a = some (.ins C dx fs) ∧ fs.lookup f = some (.ref t) ∧ SqT K H t zs ∧ ∀ it, H it = none → n ≤ it → Q (.ref it) (upd H it (ItT t it))
/-- the class at C walks over the tuple in its field f -/
def CalI (P : Program) (w : World) (K : PySem.W.Frag) (mg : Str → Option Value) (base : Heap) (k : Nat) (C : Addr) (f : Str) : Prop :=
  ∃ (g : Addr) (fd : FuncData), FnN P w K mg base CX0 k g fd ["self"] (spItT K C f) ∧ Meth K C "__iter__" g ∧ Binds K fd ["self"] []
def iOwn (K : PySem.W.Frag) (C : Addr) (f : Str) (tl : TE) : TI := fun σ H R => tl σ H fun x H1 => ∃ (a dx t : Addr) (fs : List (Str × V)), x = .ref a ∧ H1 a = some (.ins C dx fs) ∧ fs.lookup f = some (.ref t) ∧ (∃ zs, SqT K H1 t zs) ∧ R (Itt K t) H1
theorem looks_next {M : Model} {A : Around} {E : Value → Shared → Prop} {s : Shared} {it t : Addr} {Q : Option Value → Shared → Prop} (e : s.heap.get? it = some { cls := .type "tuple_iterator", data := .fields #[.ref t, .int 0 0] }) (h : ∀ g, Q (some g) s) : wpAny M A (specialOf (.ref it) "__next__") Q E s := by
  unfold specialOf
  refine wpAny_bind (wpAny_typeOf (T := "tuple_iterator") ⟨_, e, rfl⟩ (wpAny_of_eq (F.slot_tuple_iterator_next.lookup) (h _)))
theorem pi_own {X : Cx} {tg l : Expr} {tl : TE} {k : Nat} {C : Addr} {f : Str} (c : CalI X.prog X.w X.K X.mg X.base k C f) (hr : Room k X.A) (hl : PE X l tl) : PI X tg l (iOwn X.K C f tl) := by
  refine ⟨fun pins s σ H R I h => ?_⟩
  obtain ⟨g, fd, h1, h2, h4⟩ := c
  refine thn (hl.run pins s σ H _ I h) fun v s1 ⟨x, H1, I1, r1, q1⟩ => ?_
  obtain ⟨a, dx, t, fs, e, ha, hf, ⟨zs, hz⟩, q⟩ := q1
  subst e
  obtain rfl : v = Value.ref a := r1
  obtain ⟨mA, J, _⟩ := ins_get I1.hok ha
  obtain ⟨od, J, _⟩ := J.look
  obtain ⟨m0, hF⟩ := I1.fr
  refine PySem.W.owit_iter hF I1.ok.mod.kin J h2.at_ h2.fn ?_
  have pr : spItT X.K C f s1.heap.objs.size [.ref a] H1 (fun v H' => ∃ it, v = .ref it ∧ H1 it = none ∧ s1.heap.objs.size ≤ it ∧ H' = upd H1 it (ItT t it)) E0 := ⟨a, dx, t, fs, zs, rfl, ha, hf, hz, fun it n1 n2 => ⟨it, rfl, n1, n2, rfl⟩⟩
  have hb' := h4 s1 [.ref a] I1.kIn rfl
  rw [List.append_nil] at hb'
  refine wpAny_call (codeAny_mono (h1.run X.A X.stack s1 H1 [.ref a] [.ref a] _ E0 hr I1.env0 hb' (.cons rfl .nil) pr) fun z s' hq => ?_)
  match z, hq with
  | .error e, hq => exact hq.elim
  | .ok (.ret u), hq =>
    obtain ⟨v, H', I', rv, it, rfl, n1, n2, rfl⟩ := I1.after hq
    obtain rfl : u = Value.ref it := rv
    have eo := (I'.hok it _ upd_same).1
    unfold PySem.W.OwitIt
    refine looks_next eo fun _ => ?_
    have I2 := ItX.inv_drop I' (a := it) (φ := fun h => h.get? it = some { cls := .type "tuple_iterator", data := .fields #[.ref t, .int 0 0] }) upd_same
    have fp := ItX.inv_fp I' (a := it) (u := ItT t it) upd_same (Nat.le_trans I1.sz n2)
    rw [ItX.dropH_upd n1] at I2 fp
    refine ⟨it, [it], _, _, H1, rfl, I2, turn_tuple t it, ⟨_, eo, rfl, rfl⟩, fun b hb => ?_, q⟩
    obtain rfl : b = it := by simpa using hb
    exact fp
/-- the class at C has the property f, its getter keeps sp -/
def CalP (P : Program) (w : World) (K : PySem.W.Frag) (mg : Str → Option Value) (base : Heap) (k : Nat) (C : Addr) (f : Str) (sp : Sp) : Prop :=
  ∃ (p g : Addr) (fd : FuncData), FnOk P w K mg base CX0 k g fd ["self"] sp ∧ PropOf K C f p g ∧ Binds K fd ["self"] []
/-- o.f, a property -/
theorem pe_prp {X : Cx} {e : Expr} {pos : Pos} {ta : TE} {k : Nat} {C : Addr} {f : Str} {sp : Sp} (c : Cls X.K C) (h : CalP X.prog X.w X.K X.mg X.base k C f sp) (hr : Room (k + 1) X.A) (he : PE X e ta) (hab : attributeBase e f X.env (eval e X.env) = eval e X.env := by rfl) :
    PE X (.Attribute e f pos) (tProp C sp [] E0 ta) := by
  obtain ⟨p, g, fd, h1, h2, h3⟩ := h
  exact pe_prop he c h2 h1 hr h3 .nil pass0 hab
end L2
set_option Elab.async false
set_option linter.all false
set_option maxRecDepth 100000
set_option maxHeartbeats 1000000
/-! for i, x in enumerate(v), v a list or a tuple -/
namespace EnT
open PySem
open Sem (wp)
open AutoSeq1 (wpAny_loadPart')
def itTup (l : Addr) : Obj := { cls := .type "tuple_iterator", data := .fields #[.ref l, .int 0 0] }
def enumNew (n : Nat) : Obj := { cls := .type "enumerate", data := .fields #[.none, .bool false, .ref n, rawInt 0, .none, .none] }
theorem meets_newT (l : Addr) (items : Array Value) :
    Meets (Builtin.«enumerate.__new__» ⟨[.type "enumerate", .ref l], []⟩) (fun _ R s => s.heap.IsTuple l items ∧ R (.ok (.ret (.ref (s.heap.push (itTup l)).objs.size))) { s with heap := (s.heap.push (itTup l)).push (enumNew s.heap.objs.size) }) :=
  .of_wp fun prog w A R s h => by
    obtain ⟨hp, g, d, tk, os⟩ := s
    obtain ⟨hT, h⟩ := h
    have hsub := sub_enumerate
    have q : ∀ {A : Around} {E : Value → Shared → Prop} {Q : Value → Shared → Prop}, Q (.ref hp.objs.size) ⟨hp.push (itTup l), g, d, tk, os⟩ → wpAny (model prog w) A (pyIter (.ref l)) Q E ⟨hp, g, d, tk, os⟩ := fun q => wpAny_pyIter_tuple hT q
    wp_walk using q
    refine wpAny_stack_any fun st => wpAny_pure ?_
    split
    · rename_i c _ _ _ _ _
      cases (c == Value.type "enumerate") <;> (wp_walk using q; exact ⟨_, rfl, h⟩)
    · wp_walk using q; exact ⟨_, rfl, h⟩
theorem call_enumT {prog : Program} {w : World} {A : Around} {E : Value → Shared → Prop} {s : Shared} {l : Addr} {items : Array Value} {Q : Value → Shared → Prop} (hT : s.heap.IsTuple l items)
    (h : ∀ h', IsEnum h' (s.heap.objs.size + 1) s.heap.objs.size 0 .none → h'.IsTupleIter s.heap.objs.size l 0 → (∀ b o, s.heap.get? b = some o → h'.get? b = some o) → Q (.ref (s.heap.objs.size + 1)) { s with heap := h' }) :
    wpAny (model prog w) A (call (.type "enumerate") [.ref l]) Q E s := by
  have hz : (s.heap.push (itTup l)).objs.size = s.heap.objs.size + 1 := Heap.size_push ..
  have he : IsEnum ((s.heap.push (itTup l)).push (enumNew s.heap.objs.size)) (s.heap.objs.size + 1) s.heap.objs.size 0 .none := by
    have q := Heap.get?_push_size (s.heap.push (itTup l)) (o := enumNew s.heap.objs.size) rfl
    rw [hz] at q
    exact q
  refine callType_new F.called_enumerate (by decide) (F.typeCall_enumerate_1 _) (F.newCall_enumerate_1 _) (fun obj => F.args_object_init_2 obj _) F.entry_enumerate_new (meets_newT l items) ⟨hT, ?_⟩
  show _ ∧ _
  rw [hz]
  exact ⟨⟨_, he, rfl⟩, h _ he ⟨_, Heap.get?_push_of_some _ (Heap.get?_push_size _ rfl), rfl, rfl⟩ fun b o x => Heap.get?_push_of_some _ (Heap.get?_push_of_some _ x)⟩
end EnT
namespace L2
open PySem PySem.Spec PyProof.Rows
/-- the tuple at a, each item in a new pair -/
def IteT (K : PySem.W.Frag) (a : Addr) : It :=
  ⟨fun i H => ∃ (xs : List V) (x : V), SqT K H a xs ∧ xs[i]? = some x, fun i H v H' => ∃ T x, v = .ref T ∧ H T = none ∧ H' = upd H T (.tup [.int (i : Nat), x]) ∧ ∀ xs, SqT K H a xs → xs[i]? = some x, fun i H => ∃ xs : List V, SqT K H a xs ∧ xs.length ≤ i⟩
theorem tup_inj {X : Cx} {pins : List (Addr × Obj)} {σ : St} {H : Hp} {s : Shared} {a : Addr} {xs ys : List V} (I : Inv X pins σ H s) (h1 : SqT X.K H a xs) (h2 : SqT X.K H a ys) : xs = ys := by
  obtain ⟨i1, r1, ⟨o1, p1, c1⟩, _⟩ := I.tuple h1
  obtain ⟨i2, r2, ⟨o2, p2, c2⟩, _⟩ := I.tuple h2
  rw [p1] at p2
  cases p2
  obtain ⟨_, n1, d1⟩ := c1
  obtain ⟨_, n2, d2⟩ := c2
  rw [d1] at d2
  injection d2 with e _
  have e' : i1 = i2 := by simpa using e
  subst e'
  exact r1.inj r2
theorem turn_enumT {P : Program} {w : World} {K : PySem.W.Frag} {elts : List Expr} {kk : Nat} {tpos : Pos} (a e it : Addr) :
    Turn P w K (.Tuple elts kk tpos) (IteT K a) [e, it] e (fun i h => (∃ old, IsEnum h e it ((i : Nat) : Int) old) ∧ h.IsTupleIter it a i ∧ e ≠ it) where
  mem := by simp
  obj := fun i h st b hb => by
    obtain ⟨⟨old, he⟩, ⟨o, ho, hc, hd⟩, _⟩ := st
    rcases (show b = e ∨ b = it by simpa using hb) with rfl | rfl
    · exact ⟨_, he, fun v q => nomatch q⟩
    · exact ⟨o, ho, fun v q => by rw [hd] at q; cases q⟩
  keep := fun i h h' ⟨⟨old, he⟩, hi, hne⟩ k => ⟨⟨old, k e (by simp) _ he⟩, hi.at fun o q => k it (by simp) o q, hne⟩
  item := by
    intro X hP hw hK hc i pins s σ H E I hf st hg
    subst hP hw hK
    obtain ⟨⟨old, he⟩, hit, hne⟩ := st
    obtain ⟨xs, x, hq, hx⟩ := hg
    obtain ⟨its, rv, p, hz⟩ := I.tuple hq
    obtain ⟨u, hu, ru⟩ := rv.get hx
    have hat : a ≠ it := by
      rintro rfl
      obtain ⟨o1, p1, c1, _⟩ := p
      obtain ⟨o2, p2, c2, _⟩ := hit
      rw [p1] at p2
      cases p2
      rw [c1] at c2
      simp at c2
    have hae : a ≠ e := by
      rintro rfl
      obtain ⟨o1, p1, c1, _⟩ := p
      have he' : s.heap.get? a = some _ := he
      rw [p1] at he'
      cases he'
      simp at c1
    have hel : e < s.heap.objs.size := Heap.lt_size he
    have hil : it < s.heap.objs.size := by obtain ⟨_, q, _⟩ := hit; exact Heap.lt_size q
    have D := Draws.tuple (prog := X.prog) (w := X.w) (A := X.A.in1) (I.ok.hd hc) it a hat its.toArray
    have hlt : i < its.length := (List.getElem?_eq_some_iff.mp hu).1
    refine wpAny_pyNext_enum_itemD D he ⟨hit, show s.heap.IsTuple a its.toArray from p⟩ (by simpa using hlt) hne (by simp [hne, Ne.symm hae]) fun z h' tk hP ho hs' hT hsz hk => ?_
    have hzu : z = u := by
      have h1 : its.toArray[i]? = some z := hP
      rw [List.getElem?_toArray, hu] at h1
      exact (Option.some.inj h1).symm
    subst hzu
    refine ⟨_, rfl, wpAny_letOwnedTupleGo_enum (s := { s with heap := h', toks := tk + 1 }) ho fun h'' he' sb => ?_⟩
    have hT2 : h''.get? s.heap.objs.size = some { cls := .type "tuple", data := .seq #[.int i tk, z] } := (sb.2 _ (Nat.ne_of_gt hel)).trans hT
    have new : ObjOk X.prog X.w (upd H s.heap.objs.size (.tup [.int (i : Nat), x])) h'' s.heap.objs.size (.tup [.int (i : Nat), x]) :=
      ⟨by show 2 ≤ sizeLine; decide, [.int i tk, z], .cons ⟨_, rfl⟩ (.cons ru .nil), ⟨_, hT2, rfl, _, rfl⟩⟩
    have I1 : Inv X pins σ (upd H s.heap.objs.size (.tup [.int (i : Nat), x])) { s with heap := h'', toks := tk + 1 } :=
      I.turnedNew (t' := tk + 1) (ch := [e, it]) (fun b ob hb q => (sb.2 b (fun z => hb (by simp [z]))).trans (hk b ob (fun z => hb (by simp [z])) (fun z => hb (by simp [z])) q)) hf (Nat.le_refl _) new
    refine ⟨.ref s.heap.objs.size, _, I1, rfl, ⟨_, x, rfl, I.hok.fresh (Nat.le_refl _), rfl, fun ys hy => by rw [tup_inj I hy hq]; exact hx⟩, ⟨⟨z, ?_⟩, hs'.1.at fun o q => (sb.2 it (Ne.symm hne)).trans q, hne⟩, fun b hb => ?_⟩
    · rw [show ((i + 1 : Nat) : Int) = (i : Int) + 1 by omega]
      exact he'
    · have hb' : b < s.heap.objs.size := by
        rcases (show b = e ∨ b = it by simpa using hb) with rfl | rfl
        · exact hel
        · exact hil
      rw [upd_ne (Nat.ne_of_lt hb')]
      exact (hf b hb).1
  done := by
    intro X hP hw hK hc i pins s σ H E I hf st hg
    subst hP hw hK
    obtain ⟨⟨old, he⟩, hit, hne⟩ := st
    obtain ⟨xs, hq, hx⟩ := hg
    obtain ⟨its, rv, p, hz⟩ := I.tuple hq
    obtain ⟨f0, f1, f2, f3, f4, f5⟩ := hf it (by simp)
    have hat : a ≠ it := by
      rintro rfl
      obtain ⟨o1, p1, c1, _⟩ := p
      obtain ⟨o2, p2, c2, _⟩ := hit
      rw [p1] at p2
      cases p2
      rw [c1] at c2
      simp at c2
    have hl := rv.length
    have hi : its.toArray[i]? = none := by rw [List.getElem?_toArray]; exact List.getElem?_eq_none_iff.mpr (by omega)
    have D : Draws X.prog X.w X.A.in1 it [it, a] i (fun _ _ => True) (fun j h => h.IsTupleIter it a j ∧ h.IsTuple a its.toArray ∧ j = i) := {
      live := fun _ _ st => let ⟨o, ho, _⟩ := st.1; ⟨o, ho⟩
      frame := fun _ _ _ st hk => ⟨st.1.at fun o e => hk it (by simp) o e, st.2.1.at fun o e => hk a (by simp) o e, st.2.2⟩
      item := fun j s Q E hi st hQ => absurd st.2.2 (Nat.ne_of_lt hi)
      done := fun s Q E st hE => wpAny_nextOf_tuple_end (I.ok.hd hc) st.1 st.2.1 hi hE }
    exact wpAny_pyNext_enum_endD D he ⟨hit, show s.heap.IsTuple a its.toArray from p, rfl⟩ fun h' eb => ⟨rfl, I.turned (t' := s.toks) (fun b o hb q => eb b o hb q) f0 f1 f3 f4 f5⟩
  self := fun A i s Q E ⟨⟨_, he⟩, _⟩ h => wpAny_pyIter_enum he h
/-- v a list or a tuple: its items xs in new pairs with their index -/
def iEnu2 (K : PySem.W.Frag) (ta : TA) : TI := fun σ H R => ta σ H fun vs H1 => ∃ (a : Addr) (xs : List V), vs = [.ref a] ∧ (H1 a = some (.lst xs) ∨ H1 a = some (.tup xs)) ∧
  ∀ J, Walk J xs.length (fun H' => H' a = H1 a) (YPair (fun i => some (.int (i : Nat))) (fun i => xs[i]?)) → R J H1
theorem walk_enumT {K : PySem.W.Frag} {a : Addr} {xs : List V} : Walk (IteT K a) xs.length (fun H => SqT K H a xs) (YPair (fun i => some (.int (i : Nat))) (fun i => xs[i]?)) := by
  refine ⟨fun i _ hi q => ⟨xs, xs[i], q, List.getElem?_eq_getElem hi⟩, fun _ q => ⟨xs, q, Nat.le_refl _⟩, fun i H v H' _ q y => ?_⟩
  obtain ⟨T, x, h1, h2, h3, h4⟩ := y
  exact ⟨T, .int (i : Nat), x, h1, h2, h3, rfl, h4 xs q⟩
theorem pi_enu2 {X : Cx} {e : Expr} {ta : TA} {p pos tpos : Pos} {elts : List Expr} {kk : Nat} (hg : Gl X "enumerate") (hm : X.mg "enumerate" = none) (ha : PA X [e] ta) (hs : starEach [e] X.env = [(false, eval e X.env)] := by rfl) :
    PI X (.Tuple elts kk tpos) (.Call (.Name "enumerate" p) [e] [] pos) (iEnu2 X.K ta) := by
  refine ⟨fun pins s σ H R I h => ?_⟩
  refine Call_ (ld_blt I hg hm boot_enumerate (PyProof.Rows.callWith_type1 (thn (ha.run pos pins s σ H _ I h) fun us s1 ⟨vs, H1, I1, r1, q1⟩ => ?_) hs rfl))
  obtain ⟨a, xs, rfl, ho, q⟩ := q1
  obtain ⟨u, rfl, ru⟩ := vals1 r1
  obtain rfl : u = Value.ref a := ru
  have fresh : ∀ b ∈ [s1.heap.objs.size + 1, s1.heap.objs.size], s1.heap.objs.size ≤ b := fun b hb => by
    rcases (show b = s1.heap.objs.size + 1 ∨ b = s1.heap.objs.size by simpa using hb) with rfl | rfl
    · exact Nat.le_add_right _ _
    · exact Nat.le_refl _
  rcases ho with ho | ho
  · obtain ⟨its, rv, p', hz⟩ := I1.list (SqL.of ho)
    refine call_enumerate_list p'.isList fun h' he hit hsz hk => wpAny_pyIter_enum he ?_
    exact ⟨s1.heap.objs.size + 1, [s1.heap.objs.size + 1, s1.heap.objs.size], _, _, H1, rfl, I1.kept (t' := s1.toks) hk, turn_enum a _ _, ⟨⟨.none, he⟩, hit, Nat.succ_ne_self _⟩, fun b hb => I1.fpOk (fresh b hb) (I1.hok.fresh (fresh b hb)),
      q _ (walk_enum.mono (fun H' hh => SqL.of (hh.trans ho)) fun _ _ _ _ _ _ y => y)⟩
  · obtain ⟨its, rv, p', hz⟩ := I1.tuple (SqT.of ho)
    refine EnT.call_enumT (show s1.heap.IsTuple a its.toArray from p') fun h' he hit hk => wpAny_pyIter_enum he ?_
    exact ⟨s1.heap.objs.size + 1, [s1.heap.objs.size + 1, s1.heap.objs.size], _, _, H1, rfl, I1.kept (t' := s1.toks) hk, turn_enumT a _ _, ⟨⟨.none, he⟩, hit, Nat.succ_ne_self _⟩, fun b hb => I1.fpOk (fresh b hb) (I1.hok.fresh (fresh b hb)),
      q _ (walk_enumT.mono (fun H' hh => SqT.of (hh.trans ho)) fun _ _ _ _ _ _ y => y)⟩
/-- one of two ways to take a value apart -/
theorem pg_or {X : Cx} {tg : Expr} {g1 g2 : TG} (h1 : PG X tg g1) (h2 : PG X tg g2) : PG X tg (fun v σ H Q => g1 v σ H Q ∨ g2 v σ H Q) := by
  refine ⟨fun pins s σ H v u Q I r hw => ?_⟩
  rcases hw with hw | hw
  · exact h1.run pins s σ H v u Q I r hw
  · exact h2.run pins s σ H v u Q I r hw
/-- a list or a tuple, walked -/
def iSeq (tl : TE) : TI := fun σ H R => tl σ H fun x H1 => ∃ (a : Addr) (xs : List V), x = .ref a ∧ (H1 a = some (.lst xs) ∨ H1 a = some (.tup xs)) ∧ ∀ J, Walk J xs.length (fun H' => H' a = H1 a) (YAt xs) → R J H1
theorem pi_seq {X : Cx} {tg l : Expr} {tl : TE} (hl : PE X l tl) : PI X tg l (iSeq tl) := by
  refine ⟨fun pins s σ H R I h => thn (hl.run pins s σ H _ I h) fun v s1 ⟨x, H1, I1, r1, q1⟩ => ?_⟩
  obtain ⟨a, xs, rfl, ho, q⟩ := q1
  obtain rfl : v = Value.ref a := r1
  have new : ∀ b ∈ [s1.heap.objs.size], FpOk X pins H1 b := fun b hb => by
    obtain rfl : b = s1.heap.objs.size := by simpa using hb
    exact I1.fpOk (Nat.le_refl _) (I1.hok.fresh (Nat.le_refl _))
  rcases ho with ho | ho
  · obtain ⟨its, rv, p, hz⟩ := I1.list (SqL.of ho)
    refine wpAny_pyIter_list p.isList ⟨s1.heap.objs.size, [s1.heap.objs.size], _, _, H1, rfl, I1.kept (t' := s1.toks) fun b o e => Heap.get?_push_of_some _ e, turn_list a _, ⟨_, Heap.get?_push_size _ rfl, rfl, rfl⟩, new, ?_⟩
    exact q _ (walk_list.mono (fun H' hh => SqL.of (hh.trans ho)) fun _ _ _ _ _ _ y => y)
  · obtain ⟨its, rv, p, hz⟩ := I1.tuple (SqT.of ho)
    refine wpAny_pyIter_tuple (show s1.heap.IsTuple a its.toArray from p) ⟨s1.heap.objs.size, [s1.heap.objs.size], _, _, H1, rfl, I1.kept (t' := s1.toks) fun b o e => Heap.get?_push_of_some _ e, turn_tuple a _, ⟨_, Heap.get?_push_size _ rfl, rfl, rfl⟩, new, ?_⟩
    exact q _ (walk_tup.mono (fun H' hh => SqT.of (hh.trans ho)) fun _ _ _ _ _ _ y => y)
/-- an item of a list or a tuple -/
theorem ix_either {X : Cx} : IxR X (fun x y H Q => rIxL X.K x y H Q ∨ rIxT X.K x y H Q) := ix_list.or ix_tup
theorem ix_eitherK {X : Cx} {K : PySem.W.Frag} (h : X.K = K) : IxR X (fun x y H Q => rIxL K x y H Q ∨ rIxT K x y H Q) := h ▸ ix_either
end L2
set_option Elab.async false
set_option linter.all false
set_option maxRecDepth 100000
namespace L2
open PySem PySem.Spec PyProof.Rows
theorem eqvAll_ints : ∀ ns ms : List Int, PyData.eqvAll (ns.map PyData.int) (ms.map PyData.int) = decide (ns = ms)
  | [], [] => by simp [PyData.eqvAll]
  | [], m :: ms => by simp [PyData.eqvAll]
  | n :: ns, [] => by simp [PyData.eqvAll]
  | n :: ns, m :: ms => by
    have ih := eqvAll_ints ns ms
    by_cases e : n = m
    · subst e
      simp [PyData.eqvAll, PyData.eqv, ih]
    · simp [PyData.eqvAll, PyData.eqv, e]
theorem eqv_tupI (ns ms : List Int) : PyData.eqv (.tuple (ns.map PyData.int)) (.tuple (ms.map PyData.int)) = decide (ns = ms) := by rw [← eqvAll_ints]; simp [PyData.eqv]
theorem eqv_lstI (ns ms : List Int) : PyData.eqv (.list (ns.map PyData.int)) (.list (ms.map PyData.int)) = decide (ns = ms) := by rw [← eqvAll_ints]; simp [PyData.eqv]
theorem dpAll_ints {K : PySem.W.Frag} {H : Hp} : ∀ ns : List Int, DpAll K H (ns.map V.int) (ns.map PyData.int)
  | [] => .nil
  | n :: ns => .cons (.int n) (dpAll_ints ns)
theorem depthAll_ints : ∀ ns : List Int, PyData.depthAll (ns.map PyData.int) = 0
  | [] => by simp [PyData.depthAll]
  | n :: ns => by simp [PyData.depthAll, PyData.depth, depthAll_ints ns]
theorem layAll_ints : ∀ ns : List Int, PyData.canLayAll0 (ns.map PyData.int) = true
  | [] => by simp [PyData.canLayAll0]
  | n :: ns => by simp [PyData.canLayAll0, PyData.canLay0, layAll_ints ns]
theorem shaped_tupI (ns : List Int) : SeqAt.shaped (.tuple (ns.map PyData.int)) = true := by simp [SeqAt.shaped, PyData.canLay0, PyData.depth, layAll_ints, depthAll_ints]
theorem shaped_lstI (ns : List Int) : SeqAt.shaped (.list (ns.map PyData.int)) = true := by simp [SeqAt.shaped, PyData.canLay0, PyData.depth, layAll_ints, depthAll_ints]
theorem eqD_tup {K : PySem.W.Frag} {H : Hp} {p q : Addr} {ns ms : List Int} {Q : VK} (hp : SqT K H p (ns.map V.int)) (hq : SqT K H q (ms.map V.int)) (h : Q (.bl (decide (ns = ms))) H) : rEqD K (.ref p) (.ref q) H Q :=
  ⟨_, _, .tup hp (dpAll_ints ns), .tup hq (dpAll_ints ms), shaped_tupI ns, shaped_tupI ms, by rw [eqv_tupI]; exact h⟩
theorem eqD_lst {K : PySem.W.Frag} {H : Hp} {p q : Addr} {ns ms : List Int} {Q : VK} (hp : SqL K H p (ns.map V.int)) (hq : SqL K H q (ms.map V.int)) (h : Q (.bl (decide (ns = ms))) H) : rEqD K (.ref p) (.ref q) H Q :=
  ⟨_, _, .lst hp (dpAll_ints ns), .lst hq (dpAll_ints ms), shaped_lstI ns, shaped_lstI ms, by rw [eqv_lstI]; exact h⟩
theorem neD_lst {K : PySem.W.Frag} {H : Hp} {p q : Addr} {ns ms : List Int} {Q : VK} (hp : SqL K H p (ns.map V.int)) (hq : SqL K H q (ms.map V.int)) (h : Q (.bl (!decide (ns = ms))) H) : rNeD K (.ref p) (.ref q) H Q :=
  ⟨_, _, .lst hp (dpAll_ints ns), .lst hq (dpAll_ints ms), shaped_lstI ns, shaped_lstI ms, by rw [eqv_lstI]; exact h⟩
end L2
set_option Elab.async false
set_option linter.all false
set_option maxRecDepth 100000
set_option maxHeartbeats 1000000
/-! plain values as data: shapes, equality of lists and tuples of them, two deep -/
namespace L2
open PySem PySem.Spec PyProof.Rows
def vD : V → PyData
  | .bl b => .bool b
  | .int i => .int i
  | .str x => .str x
  | _ => .none
/-- a sequence's kind: a list or a tuple of these -/
def sqD (l : Bool) (ds : List PyData) : PyData := if l then .list ds else .tuple ds
/-- a plain value whose text can be laid -/
def okV : V → Bool
  | .non => true
  | .bl _ => true
  | .int _ => true
  | .str x => PyData.strOk x
  | _ => false
theorem okV.flat {v : V} (h : okV v = true) : flatV v = true := by cases v <;> first | rfl | cases h
theorem vD_lay {v : V} (h : okV v = true) : (vD v).canLay0 = true := by cases v <;> first | (simp only [vD, PyData.canLay0]; done) | (simp only [vD, PyData.canLay0]; exact h)
theorem vD_depth (v : V) : (vD v).depth = 0 := by cases v <;> simp [vD, PyData.depth]
theorem vDs_lay : ∀ {xs : List V}, (∀ x ∈ xs, okV x = true) → PyData.canLayAll0 (xs.map vD) = true
  | [], _ => by simp [PyData.canLayAll0]
  | v :: xs, h => by simp [PyData.canLayAll0, vD_lay (h v (List.mem_cons_self)), vDs_lay fun y hy => h y (List.mem_cons_of_mem _ hy)]
theorem vDs_depth : ∀ xs : List V, PyData.depthAll (xs.map vD) = 0
  | [] => by simp [PyData.depthAll]
  | v :: xs => by simp [PyData.depthAll, vD_depth v, vDs_depth xs]
theorem vD_shaped {v : V} (h : okV v = true) : SeqAt.shaped (vD v) = true := by simp [SeqAt.shaped, vD_lay h, vD_depth]
theorem row_lay (l : Bool) {xs : List V} (h : ∀ x ∈ xs, okV x = true) : (sqD l (xs.map vD)).canLay0 = true := by cases l <;> simp [sqD, PyData.canLay0, vDs_lay h]
theorem row_depth (l : Bool) (xs : List V) : (sqD l (xs.map vD)).depth = 1 := by cases l <;> simp [sqD, PyData.depth, vDs_depth]
theorem row_shaped (l : Bool) {xs : List V} (h : ∀ x ∈ xs, okV x = true) : SeqAt.shaped (sqD l (xs.map vD)) = true := by simp [SeqAt.shaped, row_lay l h, row_depth]
/-- data of one level: a plain value, a list or tuple of such -/
def Fl1 (d : PyData) : Prop := d.canLay0 = true ∧ d.depth ≤ 1
theorem fl_v {v : V} (h : okV v = true) : Fl1 (vD v) := ⟨vD_lay h, by rw [vD_depth]; omega⟩
theorem fl_row (l : Bool) {xs : List V} (h : ∀ x ∈ xs, okV x = true) : Fl1 (sqD l (xs.map vD)) := ⟨row_lay l h, by rw [row_depth]; omega⟩
theorem fls_lay : ∀ {ds : List PyData}, (∀ d ∈ ds, Fl1 d) → PyData.canLayAll0 ds = true
  | [], _ => by simp [PyData.canLayAll0]
  | d :: ds, h => by simp [PyData.canLayAll0, (h d (List.mem_cons_self)).1, fls_lay fun e he => h e (List.mem_cons_of_mem _ he)]
theorem fls_depth : ∀ {ds : List PyData}, (∀ d ∈ ds, Fl1 d) → PyData.depthAll ds ≤ 1
  | [], _ => by simp [PyData.depthAll]
  | d :: ds, h => by
    have h1 := (h d (List.mem_cons_self)).2
    have h2 := fls_depth fun e he => h e (List.mem_cons_of_mem d he)
    simp only [PyData.depthAll]
    omega
theorem fls_shaped (l : Bool) {ds : List PyData} (h : ∀ d ∈ ds, Fl1 d) : SeqAt.shaped (sqD l ds) = true := by
  have h1 := fls_lay h
  have h2 := fls_depth h
  cases l with
  | true =>
    show ((PyData.list ds).canLay0 && decide ((PyData.list ds).depth ≤ 64)) = true
    have e : (PyData.list ds).depth ≤ 64 := by
      have : (PyData.list ds).depth = PyData.depthAll ds + 1 := by simp only [PyData.depth]
      omega
    rw [decide_eq_true e, Bool.and_true]
    simp only [PyData.canLay0, h1]
  | false =>
    show ((PyData.tuple ds).canLay0 && decide ((PyData.tuple ds).depth ≤ 64)) = true
    have e : (PyData.tuple ds).depth ≤ 64 := by
      have : (PyData.tuple ds).depth = PyData.depthAll ds + 1 := by simp only [PyData.depth]
      omega
    rw [decide_eq_true e, Bool.and_true]
    simp only [PyData.canLay0, h1]
theorem vD_self (v : V) : PyData.eqv (vD v) (vD v) = true := by cases v <;> simp [vD, PyData.eqv]
theorem eqvAll_self : ∀ {ds : List PyData}, (∀ d ∈ ds, PyData.eqv d d = true) → PyData.eqvAll ds ds = true
  | [], _ => by simp [PyData.eqvAll]
  | d :: ds, h => by simp [PyData.eqvAll, h d (List.mem_cons_self), eqvAll_self fun e he => h e (List.mem_cons_of_mem _ he)]
theorem sqD_self (l : Bool) {ds : List PyData} (h : ∀ d ∈ ds, PyData.eqv d d = true) : PyData.eqv (sqD l ds) (sqD l ds) = true := by
  cases l <;> (simp only [sqD, PyData.eqv]; exact eqvAll_self h)
theorem row_self (l : Bool) (xs : List V) : PyData.eqv (sqD l (xs.map vD)) (sqD l (xs.map vD)) = true := sqD_self l fun d hd => by
  obtain ⟨v, _, rfl⟩ := List.mem_map.mp hd
  exact vD_self v
theorem eqvAll_append : ∀ {as bs cs ds : List PyData}, as.length = cs.length → PyData.eqvAll (as ++ bs) (cs ++ ds) = (PyData.eqvAll as cs && PyData.eqvAll bs ds)
  | [], bs, [], ds, _ => by simp [PyData.eqvAll]
  | [], _, _ :: _, _, h => by simp at h
  | _ :: _, _, [], _, h => by simp at h
  | a :: as, bs, c :: cs, ds, h => by
    have ih := eqvAll_append (as := as) (bs := bs) (cs := cs) (ds := ds) (by simpa using h)
    simp only [List.cons_append, PyData.eqvAll, ih, Bool.and_assoc]
section
variable {K : PySem.W.Frag} {H : Hp}
theorem dpv {v : V} (h : flatV v = true) : Dp K H v (vD v) := by
  cases v with
  | non => exact .non
  | bl b => exact .bl b
  | int i => exact .int i
  | str x => exact .str x
  | _ => cases h
theorem dpvs : ∀ {xs : List V}, (∀ x ∈ xs, flatV x = true) → DpAll K H xs (xs.map vD)
  | [], _ => .nil
  | x :: xs, h => .cons (dpv (h x (List.mem_cons_self))) (dpvs fun y hy => h y (List.mem_cons_of_mem _ hy))
theorem dp_lst {a : Addr} {xs : List V} {ds : List PyData} (h : SqL K H a xs) (d : DpAll K H xs ds) : Dp K H (.ref a) (sqD true ds) := .lst h d
theorem dp_tup {a : Addr} {xs : List V} {ds : List PyData} (h : SqT K H a xs) (d : DpAll K H xs ds) : Dp K H (.ref a) (sqD false ds) := .tup h d
end
end L2
set_option Elab.async false
set_option linter.all false
set_option maxRecDepth 100000
set_option maxHeartbeats 1000000
/-! comprehensions whose elements make nothing; lists side by side -/
namespace L2
open PySem PySem.Spec PyProof.Rows
def PvF (H : Hp) (D : Addr) (xs : List V) (f : V → Option V) (i : Nat) (H' : Hp) : Prop := H' = upd H D (.lst ((xs.take i).filterMap f))
section
variable {H : Hp} {D : Addr} {xs : List V} {f : V → Option V} {i : Nat} {x y : V}
theorem take_snoc {α : Type} {xs : List α} {i : Nat} {x : α} (hx : xs[i]? = some x) : xs.take (i + 1) = xs.take i ++ [x] := by rw [List.take_add_one, hx]; rfl
theorem fm_put (hx : xs[i]? = some x) (hf : f x = some y) (hz : xs.length < sizeLine) : ∃ acc, (upd H D (.lst ((xs.take i).filterMap f))) D = some (.lst acc) ∧ acc.length < sizeLine ∧ PvF H D xs f (i + 1) (upd (upd H D (.lst ((xs.take i).filterMap f))) D (.lst (acc ++ [y]))) := by
  refine ⟨_, upd_same, Nat.lt_of_le_of_lt (Nat.le_trans (List.length_filterMap_le _ _) (List.length_take_le' _ _)) hz, ?_⟩
  unfold PvF
  rw [upd_upd, take_snoc hx, List.filterMap_append]
  rw [show List.filterMap f [x] = [y] by rw [List.filterMap_cons, hf]; rfl]
theorem fm_skip (hx : xs[i]? = some x) (hf : f x = none) : PvF H D xs f (i + 1) (upd H D (.lst ((xs.take i).filterMap f))) := by
  unfold PvF
  rw [take_snoc hx, List.filterMap_append, show List.filterMap f [x] = [] by rw [List.filterMap_cons, hf]; rfl, List.append_nil]
theorem fm_end {H' : Hp} (h : PvF H D xs f xs.length H') : H' = upd H D (.lst (xs.filterMap f)) := by
  unfold PvF at h
  rw [List.take_length] at h
  exact h
end
theorem Paired.at {α β : Type} {F : α → β → Prop} : ∀ {xs : List α} {ys : List β} {i : Nat} {x : α}, Paired F xs ys → xs[i]? = some x → ∃ y, ys[i]? = some y ∧ F x y
  | _, _, i, _, .nil, h => by simp at h
  | _, _, 0, _, .cons h _, e => by
    cases (show some _ = some _ from e)
    exact ⟨_, rfl, h⟩
  | _, _, i + 1, _, .cons _ t, e => Paired.at (i := i) t e
theorem Paired.at' {α β : Type} {F : α → β → Prop} : ∀ {xs : List α} {ys : List β} {i : Nat} {y : β}, Paired F xs ys → ys[i]? = some y → ∃ x, xs[i]? = some x ∧ F x y
  | _, _, i, _, .nil, h => by simp at h
  | _, _, 0, _, .cons h _, e => by
    cases (show some _ = some _ from e)
    exact ⟨_, rfl, h⟩
  | _, _, i + 1, _, .cons _ t, e => Paired.at' (i := i) t e
theorem Paired.takeP {α β : Type} {F : α → β → Prop} : ∀ {xs : List α} {ys : List β} (n : Nat), Paired F xs ys → Paired F (xs.take n) (ys.take n)
  | _, _, 0, _ => .nil
  | _, _, _ + 1, .nil => .nil
  | _, _, n + 1, .cons h t => .cons h (Paired.takeP n t)
theorem Paired.appendP {α β : Type} {F : α → β → Prop} : ∀ {xs xs' : List α} {ys ys' : List β}, Paired F xs ys → Paired F xs' ys' → Paired F (xs ++ xs') (ys ++ ys')
  | _, _, _, _, .nil, s => s
  | _, _, _, _, .cons h t, s => .cons h (Paired.appendP t s)
theorem Paired.mapL {α β γ : Type} {F : α → β → Prop} {f : α → γ} {g : β → γ} (h : ∀ a b, F a b → f a = g b) : ∀ {xs : List α} {ys : List β}, Paired F xs ys → xs.map f = ys.map g
  | _, _, .nil => rfl
  | _, _, .cons r t => by rw [List.map_cons, List.map_cons, h _ _ r, Paired.mapL h t]
theorem call_tuple_ofK {X : Cx} {K : PySem.W.Frag} (h : X.K = K) : CallR X (.type "tuple") (fun xs H Q => ∃ p ys, xs = [.ref p] ∧ ((SqL K H p ys ∧ ∀ l, H l = none → Q (.ref l) (upd H l (.tup ys))) ∨ (SqT K H p ys ∧ Q (.ref p) H))) := h ▸ call_tuple_of
theorem call_list_ofK {X : Cx} {K : PySem.W.Frag} (h : X.K = K) : CallR X (.type "list") (fun xs H Q => ∃ p ys, xs = [.ref p] ∧ (SqL K H p ys ∨ SqT K H p ys) ∧ ∀ l, H l = none → Q (.ref l) (upd H l (.lst ys))) := h ▸ call_list_of
/-- what is known of the value, and no more, goes on -/
def tCutE (t : TE) : TE := fun σ H Q => ∃ R : V → Hp → Prop, t σ H R ∧ ∀ v H', R v H' → Q v H'
theorem pe_cut {X : Cx} {e : Expr} {t : TE} (h : PE X e t) : PE X e (tCutE t) := ⟨fun pins s σ H Q I ⟨R, h1, h2⟩ => wpAny_mono (h.run pins s σ H R I h1) (fun u s' ⟨v, H', I', r, q⟩ => ⟨v, H', I', r, h2 _ _ q⟩) fun _ _ z => z⟩
end L2
set_option Elab.async false
set_option linter.all false
set_option maxRecDepth 100000
set_option maxHeartbeats 1000000
/-! <= of places (year, kind, text); list.index, tuple.index; a written dict from texts to ints -/
namespace Ob
open PySem
theorem RcOp.le_str {A : Around} {s : Shared} (a b : Str) (t u : Tok) : RcOp .LtE A s (.str a t) (.str b u) (!decide (b.cps.toList < a.cps.toList)) := fun _ _ _ _ h => PySem.P.le_str h
end Ob
namespace L2
open PySem PySem.Spec PyProof.Rows
/-- a place is not behind another one -/
def leP (p q : Int × Int × Str) : Bool := if p.1 = q.1 then if p.2.1 = q.2.1 then (if p.2.2 = q.2.2 then true else !decide (q.2.2.cps.toList < p.2.2.cps.toList)) else decide (p.2.1 ≤ q.2.1) else decide (p.1 ≤ q.1)
def plV (p : Int × Int × Str) : List V := [.int p.1, .int p.2.1, .str p.2.2]
def rLeP (K : PySem.W.Frag) : R2 := fun x y H Q => ∃ (a b : Addr) (p q : Int × Int × Str), x = .ref a ∧ y = .ref b ∧ SqT K H a (plV p) ∧ SqT K H b (plV q) ∧ Q (.bl (leP p q)) H
theorem vals3x {x y z : V} {us : List Value} (h : Vals [x, y, z] us) : ∃ a b c, us = [a, b, c] ∧ RelV x a ∧ RelV y b ∧ RelV z c := by
  cases h with
  | cons ra h =>
    cases h with
    | cons rb h =>
      cases h with
      | cons rc h =>
        cases h
        exact ⟨_, _, _, rfl, ra, rb, rc⟩
theorem op_leP {X : Cx} (hu : X.A.units + 64 < cLine) : OpR X (compareOp .LtE) (rLeP X.K) := by
  intro pins s σ H x y v u Q I rx ry h
  obtain ⟨a, b, p, q, rfl, rfl, ha, hb, k⟩ := h
  obtain ⟨y1, k1, s1⟩ := p
  obtain ⟨y2, k2, s2⟩ := q
  cases rx
  cases ry
  obtain ⟨its, r1, p1, _⟩ := I.tuple ha
  obtain ⟨its2, r2, p2, _⟩ := I.tuple hb
  obtain ⟨_, _, _, rfl, ⟨ta, rfl⟩, ⟨tb, rfl⟩, ⟨tc, rfl⟩⟩ := vals3x (show Vals [V.int y1, .int k1, .str s1] its from r1)
  obtain ⟨_, _, _, rfl, ⟨ua, rfl⟩, ⟨ub, rfl⟩, ⟨uc, rfl⟩⟩ := vals3x (show Vals [V.int y2, .int k2, .str s2] its2 from r2)
  have ii : ∀ i j : Int, (i == j) = decide (i = j) := fun i j => by
    by_cases q : i = j
    · rw [decide_eq_true q]; exact beq_iff_eq.mpr q
    · rw [decide_eq_false q]; exact beq_eq_false_iff_ne.mpr q
  have ss : ∀ i j : Str, (i == j) = decide (i = j) := fun i j => by
    by_cases q : i = j
    · rw [decide_eq_true q]; exact beq_iff_eq.mpr q
    · rw [decide_eq_false q]; exact beq_eq_false_iff_ne.mpr q
  have R := Ob.RcOp.tuples_le (A := X.A) (s := s) (e := fun j => match j with | 0 => decide (y1 = y2) | 1 => decide (k1 = k2) | _ => decide (s1 = s2))
    (r := fun j => match j with | 0 => decide (y1 ≤ y2) | 1 => decide (k1 ≤ k2) | _ => !decide (s2.cps.toList < s1.cps.toList)) p1 p2 (Nat.lt_of_le_of_lt (Nat.le_add_right _ _) hu) (fun j h1 h2 => by
      match j, h1, h2 with
      | 0, _, _ => show SeqAt.EqAt _ _ _ _ (decide (y1 = y2)); rw [← ii]; exact SeqAt.EqAt.int_int _ _ _ _
      | 1, _, _ => show SeqAt.EqAt _ _ _ _ (decide (k1 = k2)); rw [← ii]; exact SeqAt.EqAt.int_int _ _ _ _
      | 2, _, _ => show SeqAt.EqAt _ _ _ _ (decide (s1 = s2)); rw [← ss]; exact SeqAt.EqAt.str_str _ _ _ _
      | j + 3, h1, _ => simp at h1; omega) (fun j h1 h2 _ => by
      match j, h1, h2 with
      | 0, _, _ => exact Ob.RcOp.le_int _ _ _ _
      | 1, _, _ => exact Ob.RcOp.le_int _ _ _ _
      | 2, _, _ => exact Ob.RcOp.le_str _ _ _ _
      | j + 3, h1, _ => simp at h1; omega)
  have z : wpAny (model X.prog X.w) X.A (compareOp .LtE (.ref a) (.ref b)) (EP X pins σ Q) X.xe s := R X.prog X.w X.xe (EP X pins σ Q) ⟨.bl _, H, I, rfl, by
    have e : leP (y1, k1, s1) (y2, k2, s2) = Ob.lexAt (fun j => match j with | 0 => decide (y1 = y2) | 1 => decide (k1 = k2) | _ => decide (s1 = s2)) (fun j => match j with | 0 => decide (y1 ≤ y2) | 1 => decide (k1 ≤ k2) | _ => !decide (s2.cps.toList < s1.cps.toList)) true 0 3 := by
      simp only [leP, Ob.lexAt, decide_eq_true_eq]
    rw [e] at k
    exact k⟩
  exact z
/-- a written tuple is one by its object -/
def tyB (K : PySem.W.Frag) (a : Addr) : Bool := match K.lookup a with
  | some ⟨.type c, none, _, _⟩ => decide (c = "tuple")
  | _ => false
theorem tyB_ok {K : PySem.W.Frag} {a : Addr} (h : tyB K a = true) : ∃ o, K.lookup a = some o ∧ o.cls = .type "tuple" ∧ o.dict = none := by
  unfold tyB at h
  split at h
  · rename_i c _ _ e
    exact ⟨_, e, congrArg Value.type (of_decide_eq_true h), rfl⟩
  · cases h
/-- d: a written dict from texts to ints -/
structure WD (K : PySem.W.Frag) (w : World) (d : Addr) (L : List (Str × Int)) : Prop where
  ex : ∃ es n, KDict K w d es n
  get : ∀ z, ∃ r, PySem.W.nsIn K d z = some r ∧ (match L.lookup z with | some i => ∃ u, r = some u ∧ RelV (.int i) u | none => r = none)
theorem keys_none {P : Params} {z : Str} : ∀ {l : List DictEntry} {ks : List Str}, l.map He.keyOf = He.keysIn P ks → z ∉ ks → l.find? (·.key.isStr z) = none ∧ l.any (·.refKey) = false
  | [], _, _, _ => ⟨rfl, rfl⟩
  | e :: r, [], h, _ => by cases h
  | e :: r, k :: ks, h, hz => by
    have h1 : He.keyOf e :: r.map He.keyOf = some (k, PyData.keyHash P k) :: He.keysIn P ks := h
    injection h1 with h2 h3
    obtain ⟨g1, g2⟩ := keys_none h3 (fun q => hz (List.mem_cons_of_mem _ q))
    unfold He.keyOf at h2
    split at h2
    · rename_i x t q
      have h4 := Option.some.inj h2
      obtain ⟨h5, h6⟩ := Prod.mk.inj h4
      have ne : (x == z) = false := beq_eq_false_iff_ne.mpr fun e => hz (by rw [← e, h5]; exact List.mem_cons_self)
      refine ⟨?_, ?_⟩
      · rw [List.find?_cons_of_neg (by rw [q]; show ¬ (x == z) = true; rw [ne]; decide)]
        exact g1
      · rw [List.any_cons, g2, Bool.or_false]
        show (match e.key with | .ref _ => true | _ => false) = false
        rw [q]
    · cases h2
theorem look_none_mem {α : Type} {z : Str} : ∀ {L : List (Str × α)}, L.lookup z = none → z ∉ L.map (·.1)
  | [], _ => by simp
  | (t, a) :: L, h => by
    rw [List.lookup_cons] at h
    cases e : z == t with
    | true => rw [e] at h; cases h
    | false =>
      rw [e] at h
      intro q
      rcases List.mem_cons.mp q with q | q
      · rw [beq_eq_false_iff_ne] at e; exact e q
      · exact look_none_mem h q
theorem look_some_mem {α : Type} {z : Str} {i : α} : ∀ {L : List (Str × α)}, L.lookup z = some i → (z, i) ∈ L
  | [], h => by cases h
  | (t, a) :: L, h => by
    rw [List.lookup_cons] at h
    cases e : z == t with
    | true => rw [e] at h; cases h; rw [beq_iff_eq] at e; rw [e]; exact List.mem_cons_self
    | false => rw [e] at h; exact List.mem_cons_of_mem _ (look_some_mem h)
theorem wd_of {K : PySem.W.Frag} {w : World} {d : Addr} {L : List (Str × Int)} (h1 : He.dicW K d = some (He.keysIn w.params (L.map (·.1)))) (h2 : He.valsB K d (L.map fun q => (q.1, .int q.2)) = true) : WD K w d L := by
  refine ⟨He.dicW_ok h1, fun z => ?_⟩
  cases e : L.lookup z with
  | some i =>
    obtain ⟨u, g1, g2⟩ := He.valsB_ok h2 (q := (z, .int i)) (List.mem_map.mpr ⟨(z, i), look_some_mem e, rfl⟩)
    exact ⟨some u, g1, u, rfl, g2⟩
  | none =>
    refine ⟨none, ?_, rfl⟩
    have hz := look_none_mem e
    unfold He.dicW at h1
    cases q : K.lookup d with
    | none => rw [q] at h1; cases h1
    | some o =>
      obtain ⟨oc, od, dt, osl⟩ := o
      rw [q] at h1
      cases oc with
      | type c =>
        cases od with
        | none =>
          cases dt with
          | dict es n =>
            have h1 : (match decide (c = "dict") && (osl.isEmpty && !(d == sysModules)) with
              | true => some (es.toList.map He.keyOf)
              | false => none) = some (He.keysIn w.params (L.map (·.1))) := h1
            cases zz : decide (c = "dict") && (osl.isEmpty && !(d == sysModules)) with
            | false => rw [zz] at h1; cases h1
            | true =>
              rw [zz] at h1
              obtain ⟨k1, k2⟩ := keys_none (Option.some.inj h1) hz
              unfold PySem.W.nsIn
              rw [q]
              show (match es.toList.find? (·.key.isStr z) with | some e => some (some e.val) | none => if es.toList.any (·.refKey) then none else some none) = _
              rw [k1, k2]
              rfl
          | _ => cases h1
        | some b => cases dt <;> cases h1
      | _ => cases od <;> cases dt <;> cases h1
theorem cut_drop (xs : List V) (n : Nat) : cutV xs (some (n : Int)) none = xs.drop n := by
  unfold cutV
  rw [HT.sIx_nat, HT.sIx_none]
  by_cases h : n ≤ xs.length
  · rw [Nat.min_eq_left h, List.take_of_length_le (by rw [List.length_drop]; exact Nat.le_refl _)]
  · rw [Nat.min_eq_right (by omega), List.drop_of_length_le (Nat.le_refl _), List.drop_of_length_le (by omega)]
    exact List.take_nil
theorem slOr {K : PySem.W.Frag} {H : Hp} {b : Addr} {xs : List V} {n : Nat} {Q : VK} (hb : H b = some (.lst xs) ∨ H b = some (.tup xs)) (h0 : 0 < n) (hl : n ≤ xs.length)
    (k : ∀ l o, H l = none → (o = .lst (xs.drop n) ∨ o = .tup (xs.drop n)) → Q (.ref l) (upd H l o)) : rSlL K (.ref b) (some (n : Int)) none H Q ∨ rSlA K (.ref b) (some (n : Int)) none H Q := by
  rcases hb with hb | hb
  · exact .inl ⟨b, xs, rfl, SqL.of hb, fun l h => by rw [cut_drop]; exact k l _ h (.inl rfl)⟩
  · refine .inr ⟨b, xs, rfl, SqT.of hb, fun h => ?_, fun _ l h => by rw [cut_drop]; exact k l _ h (.inr rfl)⟩
    rw [HT.sIx_nat, Nat.min_eq_left hl] at h
    omega
/-- a part of a list or a tuple -/
theorem sl_eitherK {X : Cx} {K : PySem.W.Frag} (h : X.K = K) : SlR X (fun x lo hi H Q => rSlL K x lo hi H Q ∨ rSlA K x lo hi H Q) := h ▸ sl_list.or sl_tupA
theorem sl_either {X : Cx} : SlR X (fun x lo hi H Q => rSlL X.K x lo hi H Q ∨ rSlA X.K x lo hi H Q) := sl_list.or sl_tupA
section
variable {X : Cx} {K : PySem.W.Frag} {w : World} {d : Addr} {L : List (Str × Int)}
theorem op_notIn_wd (D : WD X.K X.w d L) : OpR X (compareOp .NotIn) (fun x y H Q => ∃ z : Str, x = .str z ∧ y = .ref d ∧ Q (.bl (!(L.lookup z).isSome)) H) := by
  intro pins s σ H x y v u Q I rx ry h
  obtain ⟨z, rfl, rfl, q⟩ := h
  obtain ⟨es, n, kd⟩ := D.ex
  obtain ⟨r, g1, g2⟩ := D.get z
  refine op_notIn_kd kd pins s σ H _ _ v u Q I rx ry ⟨z, r, rfl, rfl, g1, ?_⟩
  cases e : L.lookup z with
  | none => rw [e] at g2 q; subst g2; exact q
  | some i => rw [e] at g2 q; obtain ⟨u', rfl, _⟩ := g2; exact q
theorem ix_wd (D : WD X.K X.w d L) : IxR X (fun x y H Q => ∃ (z : Str) (i : Int), x = .ref d ∧ y = .str z ∧ L.lookup z = some i ∧ Q (.int i) H) := by
  intro value slice pins s σ H x y v u Q I rx ry h hs
  obtain ⟨z, i, rfl, rfl, e, q⟩ := h
  obtain ⟨es, n, kd⟩ := D.ex
  obtain ⟨r, g1, g2⟩ := D.get z
  rw [e] at g2
  obtain ⟨u', rfl, g2⟩ := g2
  exact ix_kdict value slice pins s σ H _ _ v u Q I rx ry ⟨d, z, .int i, rfl, rfl, ⟨es, n, u', kd.at_, kd.lit, g1, g2⟩, q⟩ hs
end
end L2
set_option Elab.async false
set_option linter.all false
set_option maxRecDepth 100000
set_option maxHeartbeats 1000000
/-! methods with a star parameter -/
namespace L2
open PySem PySem.Spec PyProof.Rows StX
section
variable {X : Cx} {CX : CXT} {k : Nat} {f C : Addr} {sp : Sp} {E : St → XK} {m : Str} {pos apos : Pos} {e o : Expr} {es : List Expr} {ta : TE} {t : TA}
theorem run_fnRS {pins : List (Addr × Obj)} {σ : St} {H : Hp} {s : Shared} {Q : VK} {us : List Value} {vs : List V} (F : FnR X.prog X.w X.K X.mg X.base CX k f sp) (hr : Room k X.A) (hx : PassesAt CX X σ (E σ))
    (I : Inv X pins σ H s) (r : Vals vs us) (h : sp vs H Q (E σ)) : wpAny (model X.prog X.w) X.A (call (.ref f) us) (EP X pins σ Q) X.xe s := by
  refine wpAny_call (codeAny_mono (F X.A X.stack s H us vs Q (E σ) hr I.env0 r h) fun r s' hq => ?_)
  cases r with
  | error e => exact hx pins H s e s' I hq
  | ok fl =>
    cases fl with
    | ret u => exact I.after hq
    | next => exact False.elim hq
    | brk => exact False.elim hq
    | cont => exact False.elim hq
/-- the class at C has the method m, its promise told of the values as they are written -/
def CalS (P : Program) (w : World) (K : PySem.W.Frag) (mg : Str → Option Value) (base : Heap) (CX : CXT) (k : Nat) (C : Addr) (m : Str) (sp : Sp) : Prop := ∃ f, FnR P w K mg base CX k f sp ∧ Meth K C m f
def tMethX (C : Addr) (m : Str) (sp : Sp) (E : St → XK) (ta : TE) (t : TA) : TE := fun σ H Q => ta σ H fun x H1 => ∃ a dx fs, x = .ref a ∧ H1 a = some (.ins C dx fs) ∧ fs.lookup m = none ∧
  t σ H1 fun vs H2 => sp (x :: vs) H2 Q (E σ)
theorem pe_mthR {pl : Sem Bool} (cl : Cls X.K C) (c : CalS X.prog X.w X.K X.mg X.base CX k C m sp) (hr : Room k X.A) (ho : PE X o ta) (hx : ∀ σ, PassesAt CX X σ (E σ)) (ha : PA X (e :: es) t)
    (hst : starEach (e :: es) X.env = (false, eval e X.env) :: starEach es X.env := by rfl) (hpl : (backTo pos (starEach es X.env)).any (·.1) = false := by rfl)
    (ht : eval (.Call (.Attribute o m apos) (e :: es) [] pos) X.env = (do
      let v0 ← eval o X.env
      standAt apos.atName
      let (f1, first) ← holding [v0] (getMethod v0 m pl)
      callWith pos f1 first (backTo pos (starEach (e :: es) X.env)) (backToKw pos (keywordEach [] X.env))) := by rfl) :
    PE X (.Call (.Attribute o m apos) (e :: es) [] pos) (tMethX C m sp E ta t) := by
  obtain ⟨f, F, hm⟩ := c
  refine ⟨fun pins s σ H Q I h => PySem.W.methodCall_KW (pl := pl) (thn (ho.run pins s σ H _ I h) fun u s1 hh => ?_) ht⟩
  obtain ⟨x, H1, I1, rx, a, dx, fs, ex, ea, l, q⟩ := hh
  subst ex
  obtain rfl : u = Value.ref a := rx
  refine getmeth_ok I1 ea cl hm l (PySem.W.callWith_K (first := [.ref a]) (h₀ := X.base) I.ok.mod.kin hm.kp (thn (ha.run pos pins s1 σ H1 _ I1 q) fun us s2 hh2 => ?_) hst hpl)
  obtain ⟨vs, H2, I2, r, q2⟩ := hh2
  exact ⟨I2.kIn, run_fnRS (us := .ref a :: us) (vs := .ref a :: vs) F hr (hx σ) I2 (.cons rfl r) q2⟩
theorem pe_mthR0 {pl : Sem Bool} (cl : Cls X.K C) (c : CalS X.prog X.w X.K X.mg X.base CX k C m sp) (hr : Room k X.A) (ho : PE X o ta) (hx : ∀ σ, PassesAt CX X σ (E σ))
    (ht : eval (.Call (.Attribute o m apos) [] [] pos) X.env = (do
      let v0 ← eval o X.env
      standAt apos.atName
      let (f1, first) ← holding [v0] (getMethod v0 m pl)
      callWith pos f1 first (backTo pos (starEach [] X.env)) (backToKw pos (keywordEach [] X.env))) := by rfl) :
    PE X (.Call (.Attribute o m apos) [] [] pos) (tMethX C m sp E ta tNil) := by
  obtain ⟨f, F, hm⟩ := c
  refine ⟨fun pins s σ H Q I h => PySem.W.methodCall_KW (pl := pl) (thn (ho.run pins s σ H _ I h) fun u s1 hh => ?_) ht⟩
  obtain ⟨x, H1, I1, rx, a, dx, fs, ex, ea, l, q⟩ := hh
  subst ex
  obtain rfl : u = Value.ref a := rx
  exact getmeth_ok I1 ea cl hm l (PySem.W.callWith_K0 (first := [.ref a]) I1.kIn hm.kp (run_fnRS (us := [.ref a]) (vs := [.ref a]) F hr (hx σ) I1 (.cons rfl .nil) q))
end
theorem call_len_seqK {X : Cx} {K : PySem.W.Frag} (h : X.K = K) : CallR X (.builtin "len") (fun xs H Q => ∃ p ys, xs = [V.ref p] ∧ (SqL K H p ys ∨ SqT K H p ys) ∧ Q (V.int ys.length) H) := h ▸ call_len_seq
/-- a def with one parameter and a star -/
theorem Fun.star1 {P : Program} {w : World} {K : PySem.W.Frag} {mg : Str → Option Value} {base : Heap} {CX : CXT} {x qual : Str} {st : Stmt} {f : Addr} {fd : FuncData} {N : List Str} {p1 pv : Str} {k : Nat} {sp : Sp} (F : Fun K x qual st f fd) (S : FnScope N ([p1] ++ [pv]) (defScope st)) (hCX : CXUp CX)
    (h0 : ∀ (kV doc pm : Value) (an : Option Addr) (cdv ct : Value) a, bindArgs (PySem.W.fnOf x qual (defArgs st) (defBody st) (defScope st) .none kV doc pm an cdv ct) ⟨[a], []⟩ = (newTuple [] >>= fun t => pure [(p1, a), (pv, t)]))
    (h1 : ∀ (kV doc pm : Value) (an : Option Addr) (cdv ct : Value) a r rs, bindArgs (PySem.W.fnOf x qual (defArgs st) (defBody st) (defScope st) .none kV doc pm an cdv ct) ⟨a :: r :: rs, []⟩ = (newTuple (r :: rs) >>= fun t => pure [(p1, a), (pv, t)]))
    (hbody : ∀ (cdv : Value) (A : Around) (outer : List Env) (s : Shared) (H : Hp) (vs : List V) (Q : VK) (E : XK), Room k (A.deeper (envOfC qual (defScope st) s.heap.objs.size f cdv)) → sp vs H Q E →
      ∃ t, PSs (cxOf CX P w K mg base N qual (defScope st) f cdv A outer s H E) (defBody st) t ∧ t { nx := fun _ H' => Q .non H', rt := Q } (start N vs) H) :
    FnR P w K mg base CX (k + 1) f (fun vs H Q E => ∃ ws rest, vs = ws ++ rest ∧ ws.length = [p1].length ∧ rest.length ≤ sizeLine ∧ ∀ p, H p = Option.none → sp (ws ++ [V.ref p]) (upd H p (.tup rest)) Q E) := by
  obtain ⟨oc, od, kV, doc, pm, an, cdv, ct, osl, rfl, lk, hcd⟩ := F.ex
  exact fn_star lk hcd S hCX (bind_star1 (B := fun us => bindArgs (PySem.W.fnOf x qual (defArgs st) (defBody st) (defScope st) .none kV doc pm an cdv ct) ⟨us, []⟩) (h0 kV doc pm an cdv ct) (h1 kV doc pm an cdv ct)) (hbody cdv)
end L2
set_option Elab.async false
set_option linter.all false
set_option maxRecDepth 100000
set_option maxHeartbeats 1000000
/-! steps of a walk that keep the new heap opaque: what stood stands, and the new thing stands at its place -/
namespace Wp
open PySem L2 Dw
theorem new_ok {H H' : Hp} {p : Addr} {o : HO} (n : H p = none) (e : upd H p o = H') : Same H H' ∧ H' p = some o := e ▸ ⟨sNew n, upd_same⟩
theorem pe_fldK {X : Cx} {K : PySem.W.Frag} {e : Expr} {ta : TE} {f : Str} {pos : Pos} (hk : X.K = K) (he : PE X e ta) (hb : attributeBase e f X.env (eval e X.env) = eval e X.env) : PE X (.Attribute e f pos) (tFld K ta f) := hk ▸ pe_fld he hb
theorem op_eqDK {X : Cx} {K : PySem.W.Frag} (hk : X.K = K) (hu : X.A.units + 64 < cLine) : OpR X (compareOp .Eq) (rEqD K) := hk ▸ op_eqD hu
theorem op_neDK {X : Cx} {K : PySem.W.Frag} (hk : X.K = K) (hu : X.A.units + 64 < cLine) : OpR X (compareOp .NotEq) (rNeD K) := hk ▸ op_neD hu
theorem pe_app1K {X : Cx} {K : PySem.W.Frag} {o e : Expr} {to : TE} {t : TA} {apos cpos : Pos} (hk : X.K = K) (ho : PE X o to) (ha : PA X [e] t) (hbase : attributeBase o "append" X.env (eval o X.env) = eval o X.env := by rfl)
    (hfew : ((backTo cpos (starEach [e] X.env)).all (fun x => !x.1) && (backToKw cpos (keywordEach [] X.env)).all (fun x => x.1.isSome) && decide ([e].length + ([] : List Keyword).length + (if ([] : List Keyword).isEmpty then 0 else 1) < 30)) = true := by rfl)
    (hline : (apos.endLine == cpos.line) = true := by rfl) (hs : starEach [e] X.env = (false, eval e X.env) :: starEach [] X.env := by rfl) (hplain : (backTo cpos (starEach [] X.env)).any (·.1) = false := by rfl) :
    PE X (.Call (.Attribute o "append" apos) [e] [] cpos) (tBM K "list" rAppend to t) := hk ▸ pe_app1 ho ha hbase hfew hline hs hplain
theorem tup_of {xs : List V} {H : Hp} {Q : VK} (hl : xs.length ≤ 1000) (q : ∀ p H', Same H H' → H p = none → H' p = some (.tup xs) → Q (.ref p) H') : xs.length ≤ sizeLine ∧ ∀ p, H p = none → Q (.ref p) (upd H p (.tup xs)) :=
  ⟨Nat.le_of_lt (small1000 hl), fun p h => q p _ (sNew h) h upd_same⟩
theorem lst_of {xs : List V} {H : Hp} {Q : VK} (hl : xs.length ≤ 1000) (q : ∀ p H', Same H H' → H p = none → H' p = some (.lst xs) → Q (.ref p) H') : xs.length ≤ sizeLine ∧ ∀ p, H p = none → Q (.ref p) (upd H p (.lst xs)) :=
  ⟨Nat.le_of_lt (small1000 hl), fun p h => q p _ (sNew h) h upd_same⟩
theorem catT_of {K : PySem.W.Frag} {H : Hp} {a b : Addr} {xs ys : List V} {Q : VK} (ha : H a = some (.tup xs)) (hb : H b = some (.tup ys)) (nx : xs ≠ []) (ny : ys ≠ []) (hl : xs.length + ys.length ≤ 1000)
    (q : ∀ p H', Same H H' → H p = none → H' p = some (.tup (xs ++ ys)) → Q (.ref p) H') : rCatT K (.ref a) (.ref b) H Q :=
  ⟨a, b, xs, ys, rfl, rfl, SqT.of ha, SqT.of hb, nx, Nat.le_of_lt (small1000 hl), fun z => absurd z ny, fun _ p h => q p _ (sNew h) h upd_same⟩
theorem slT_of {K : PySem.W.Frag} {H : Hp} {a : Addr} {xs : List V} {lo hi : Option Int} {Q : VK} (ha : H a = some (.tup xs)) (nw : ¬ (HT.sIx xs.length 0 lo = 0 ∧ HT.sIx xs.length xs.length hi = xs.length))
    (q : ∀ p H', Same H H' → H p = none → H' p = some (.tup (cutV xs lo hi)) → Q (.ref p) H') : rSlT K (.ref a) lo hi H Q :=
  ⟨a, xs, rfl, SqT.of ha, nw, fun p h => q p _ (sNew h) h upd_same⟩
theorem cat_of {H : Hp} {a b : Addr} {xs ys : List V} {Q : VK} (ha : H a = some (.lst xs)) (hb : H b = some (.lst ys)) (hl : xs.length + ys.length ≤ 1000)
    (q : ∀ p H', Same H H' → H p = none → H' p = some (.lst (xs ++ ys)) → Q (.ref p) H') : rCat (.ref a) (.ref b) H Q :=
  ⟨a, b, xs, ys, rfl, rfl, ha, hb, Nat.le_of_lt (small1000 hl), fun p h => q p _ (sNew h) h upd_same⟩
theorem slL_of {K : PySem.W.Frag} {H : Hp} {a : Addr} {xs : List V} {lo hi : Option Int} {Q : VK} (ha : H a = some (.lst xs))
    (q : ∀ p H', Same H H' → H p = none → H' p = some (.lst (cutV xs lo hi)) → Q (.ref p) H') : rSlL K (.ref a) lo hi H Q :=
  ⟨a, xs, rfl, SqL.of ha, fun p h => q p _ (sNew h) h upd_same⟩
theorem ixL_of {K : PySem.W.Frag} {H : Hp} {a : Addr} {xs : List V} {i : Int} {n : Nat} {v : V} {Q : VK} (ha : H a = some (.lst xs)) (e : i = (n : Int)) (hv : xs[n]? = some v) (q : Q v H) : rIxL K (.ref a) (.int i) H Q :=
  ⟨a, xs, i, v, rfl, rfl, SqL.of ha, by rw [e]; exact atI_nat hv, q⟩
theorem ixT_of {K : PySem.W.Frag} {H : Hp} {a : Addr} {xs : List V} {i : Int} {n : Nat} {v : V} {Q : VK} (ha : H a = some (.tup xs)) (e : i = (n : Int)) (hv : xs[n]? = some v) (q : Q v H) : rIxT K (.ref a) (.int i) H Q :=
  ⟨a, xs, i, v, rfl, rfl, SqT.of ha, by rw [e]; exact atI_nat hv, q⟩
theorem next_of {H : Hp} {d c : Addr} {many : Int} {Q : VK} {E : XK} (D : Dr H d c) (h1 : 1 ≤ many) (h2 : many < 1073741824) (q : ∀ (m : Nat) H', (m : Int) < many → Dr H' d c → But d H H' → Q (.int (m : Int)) H') : spNext [.ref d, .int many] H Q E :=
  ⟨d, c, many, rfl, D, h1, h2, fun k H' k0 k1 D' B' => by
    obtain ⟨m, rfl⟩ : ∃ m : Nat, k = (m : Int) := ⟨k.toNat, by omega⟩
    exact q m H' k1 D' B'⟩
theorem lcopy_of {K : PySem.W.Frag} {H : Hp} {p : Addr} {ys : List V} {Q : VK} (hp : H p = some (.lst ys) ∨ H p = some (.tup ys)) (q : ∀ l H', Same H H' → H l = none → H' l = some (.lst ys) → Q (.ref l) H') :
    ∃ p' ys', [V.ref p] = [.ref p'] ∧ (SqL K H p' ys' ∨ SqT K H p' ys') ∧ ∀ l, H l = none → Q (.ref l) (upd H l (.lst ys')) :=
  ⟨p, ys, rfl, hp.imp SqL.of SqT.of, fun l h => q l _ (sNew h) h upd_same⟩
theorem dput_of {α : Type} {f : α → V} {H : Hp} {a : Addr} {L : List (Key × V)} {x : Key} {v : V} {Q : Hp → Prop} (h : H a = some (.dK L)) (hl : L.length ≤ 1000) (q : Q (upd H a (.dK (putK L x v)))) : ∃ a' H', V.ref a = .ref a' ∧ DPut H a' (kV x) v H' ∧ Q H' :=
  ⟨a, _, rfl, DPut.k h (small1000 hl), q⟩
end Wp
set_option Elab.async false
set_option linter.all false
set_option maxRecDepth 100000
set_option maxHeartbeats 4000000
/-! raise of errors whose maker is walked -/
namespace L2
open PySem PySem.Spec PyProof.Rows
section
variable {X : Cx} {C : Addr} {x : Str} {e : Expr} {es : List Expr} {ta : TA} {te : TE} {p pos pos2 : Pos} {W : WX}
/-- what gives a new error without a dict makes an exception -/
theorem pmk_retO (hx : X.ex = []) (he : PE X e te) :
    PMk X e (fun σ H Q => te σ H fun x H1 => ∃ a C, x = .ref a ∧ H1 a = some (exo a C none) ∧ Fr0 X.H_0 a ∧ Raises X (.ref C) ∧ Q (.ref C) none (delH H1 a)) := by
  intro pins s σ H Q I h
  refine wpAny_mono (he.run pins s σ H _ I h) (fun u s1 hu => ?_) fun _ _ x => x
  obtain ⟨v, H1, I1, r1, a, C, rfl, ha, h0, hr, q⟩ := hu
  obtain rfl : u = Value.ref a := r1
  obtain ⟨t1, ho⟩ := exo_at I1.hok ha
  obtain ⟨G, gs, ga, J⟩ := I1.untrack ha h0 hx
  exact ⟨a, _, _, { s1 with heap := G }, delH H1 a, .ref C, none, rfl, J, gs, ga, ho, ⟨rfl, rfl⟩, rfl, rfl, delH_same, rfl, I1.bare, hr, q⟩
/-- raise X(e, ..), X's maker walked, fields stored -/
theorem ps_raiseO {k : Nat} {ps : List Str} {sp : Sp} (hc : X.calm = true) (c : CalO X.prog X.w X.K X.mg X.base k C ps sp) (hm : X.mg x = some (.ref C)) (hr : Room (k + 1) X.A) (tk : Takes X W) (ha : PA X (e :: es) ta) (hx : Passes CX0 X (fun _ _ _ => False) := by first | exact pass0 | exact passL) (hg : Gl X x := by rfl)
    (hdb : (x == ("__debug__" : Str)) = false := by decide) (he : starEach (e :: es) X.env = (false, eval e X.env) :: starEach es X.env := by rfl) (hpl : (backTo pos (starEach es X.env)).any (·.1) = false := by rfl) :
    PS X (.Raise (some (.Call (.Name x p) (e :: es) [] pos)) none pos2) (fun _ σ H => tMkO C sp [] ta σ H fun cls d H' => W cls d σ H') := by
  obtain ⟨T, f, fd, h1, h2, h3, h4⟩ := c
  exact ps_raise hc tk (pmk_oex T h2 h3 h1 hr h4 .nil hx hg hm ha hdb he hpl)
/-- raise X(), X's maker walked, no field -/
theorem ps_raiseO0 {k : Nat} {ps : List Str} {sp : Sp} (hc : X.calm = true) (hex : X.ex = []) (c : CalO X.prog X.w X.K X.mg X.base k C ps sp) (hm : X.mg x = some (.ref C)) (hr : Room (k + 1) X.A) (tk : Takes X W) (hx : Passes CX0 X (fun _ _ _ => False) := by first | exact pass0 | exact passL) (hg : Gl X x := by rfl) (hdb : (x == ("__debug__" : Str)) = false := by decide) :
    PS X (.Raise (some (.Call (.Name x p) [] [] pos)) none pos2) (fun _ σ H => tOeV C sp [] tNil σ H fun x H1 => ∃ a C, x = .ref a ∧ H1 a = some (exo a C none) ∧ Fr0 X.H_0 a ∧ Raises X (.ref C) ∧ W (.ref C) none σ (delH H1 a)) :=
  ps_raise hc tk (pmk_retO hex (pe_calO0 c hm hr hx hg hdb))
end
end L2
set_option Elab.async false
set_option linter.all false
set_option maxRecDepth 100000
set_option maxHeartbeats 4000000
/-! != by an own __eq__ (no own __ne__) -/
namespace OwN
open PySem PySem.Spec PyProof.Rows
section
variable {prog : Program} {w : World} {A : Around} {E : Value → Shared → Prop} {s : Shared} {K : PySem.W.Frag} {x C L f : Addr} {h₀ : Heap} {m : Str → Option Value} {ox : Obj} {od : Option Obj} {b tb : Value}
def NeB (Q : Value → Shared → Prop) (v : Value) (s' : Shared) : Prop := ∃ k, v = .bool k ∧ Q (.bool (!k)) s'
theorem ne_entry {Q : Fin → Shared → Prop} (X : K.In s.heap) (I : PySem.W.InstAt s.heap x ox C od) (hs : PySem.W.findIn K (.ref C) "__eq__" = some (some (.ref f))) (hf : PySem.W.isFn K (.ref f) = true) (hu : A.units < cLine)
    (h : wpAny (model prog w) A (call (.ref f) [.ref x, b]) (fun v s' => ∃ k, v = .bool k ∧ Q (.done (.ret (.bool (!k)))) s') E s) : wpAny (model prog w) A (Builtin.«object.__ne__» ⟨[.ref x, b], []⟩) Q E s := by
  unfold Builtin.«object.__ne__»
  repeat (first
    | with_reducible refine wpAny_cRoomFor hu ?_
    | (refine wpAny_bind (m := callSpecialIfBound? (.ref x) (Str.ofString "__eq__") [b]) (PySem.W.ifBound_K X I hs hf (wpAny_mono h (fun r s' hr => by
        obtain ⟨k, rfl, hq⟩ := hr
        repeat (first | exact hq | exact wpAny_pure hq | exact wpAny_truthy_bool hq | (refine wpAny_bind (m := truthy (.bool _)) (wpAny_truthy_bool ?_)) | wp_step)) fun _ _ e => e)))
    | wp_step)
theorem call_ne {Q : Value → Shared → Prop} (X : K.In s.heap) (I : PySem.W.InstAt s.heap x ox C od) (hs : PySem.W.findIn K (.ref C) "__eq__" = some (some (.ref f))) (hf : PySem.W.isFn K (.ref f) = true) (hm : PySem.W.mroIn K C (.type "object") = some true) (hu : A.in1.units < cLine)
    (h : wpAny (model prog w) A.in1 (call (.ref f) [.ref x, b]) (NeB Q) E s) : wpAny (model prog w) A (call (.builtin "object.__ne__") [.ref x, b]) Q E s :=
  wpAny_call (codeAny_call_builtin F.cmp_object.ne.plain F.cmpEntry_ne (PySem.W.check_slot F.cmpKind_ne F.cmpSplit_ne (I.type.andThen (PySem.W.looks_mroIn X hm)) (F.cmpArgs_ne _ _) (ne_entry X I hs hf hu h)))
theorem ifBound_ne {M : Model} {args : List Value} {Q : Option Value → Shared → Prop} (X : K.In s.heap) (I : PySem.W.InstAt s.heap x ox C od) (hs : PySem.W.findIn K (.ref C) "__ne__" = some (some (.builtin "object.__ne__")))
    (h : wpAny M A (call (.builtin "object.__ne__") (.ref x :: args)) (fun v => Q (some v)) E s) : wpAny M A (callSpecialIfBound? (.ref x) "__ne__" args) Q E s := by
  simp only [callSpecialIfBound?, bindSpecialIfBound?]
  refine wpAny_holding (wpAny_bind (wpAny_bind (wpAny_bind (I.type.here ((PySem.W.looks_findIn X hs).here ?_)))))
  refine wpAny_bind (wpAny_askSetting (wpAny_ite ?_))
  have fin : wpAny M A (call (.builtin "object.__ne__") ([.ref x] ++ args) >>= fun v => pure (some v)) Q E s := wpAny_bind (wpAny_mono h (fun v s' h' => wpAny_pure h') fun _ _ h' => h')
  split
  · exact wpAny_bind (wpAny_of_eq (F.cmp_object.ne.bind _) (wpAny_pure (by exact fin)))
  · exact wpAny_tryCatch (wpAny_bind (wpAny_of_eq (F.cmp_object.ne.bind _) (wpAny_pure (by exact fin))))
theorem ne_K {Q : Value → Shared → Prop} (hu : A.in1.units < cLine) (F : Fr h₀ L s.heap m) (X₀ : K.In h₀) (I : PySem.W.InstAt s.heap x ox C od) (hb : PySem.W.Looks (model prog w) s.heap (typeOf b) tb) (hn : PySem.W.notFirst K C tb = true)
    (hs : PySem.W.findIn K (.ref C) "__eq__" = some (some (.ref f))) (hf : PySem.W.isFn K (.ref f) = true) (hm : PySem.W.mroIn K C (.type "object") = some true) (hne : PySem.W.findIn K (.ref C) "__ne__" = some (some (.builtin "object.__ne__")))
    (h : wpAny (model prog w) A.in1 (call (.ref f) [.ref x, b]) (NeB Q) E s) : wpAny (model prog w) A (richCompare .NotEq (.ref x) b) Q E s := by
  have X := X₀.keeps F.keep
  have hu0 : A.units < cLine := Nat.lt_of_le_of_lt (by show A.units ≤ A.units + 1; omega) hu
  have one : wpAny (model prog w) A (tryCompare (.ref x) "__ne__" b) (fun r s' => ∃ v, r = some v ∧ Q v s') E s := by
    unfold tryCompare
    refine wpAny_bind (ifBound_ne X I hne (call_ne X I hs hf hm hu (wpAny_mono h (fun v s' hv => ?_) fun _ _ e => e)))
    obtain ⟨k, rfl, hq⟩ := hv
    exact ⟨k, rfl, wpAny_pure ⟨_, rfl, hq⟩⟩
  unfold richCompare
  simp only [oneThing_ref]
  refine wpAny_holding (wpAny_bind (wpAny_cRoomFor hu0 ?_))
  refine wpAny_bind (I.type.here (wpAny_bind (hb.here ?_)))
  split
  · rename_i q
    have e : PySem.W.subIn K tb (.ref C) = some false := by
      rcases Bool.or_eq_true_iff.mp hn with e | e
      · rw [beq_iff_eq.mp e] at q; simp at q
      · exact beq_iff_eq.mp e
    refine wpAny_bind ((PySem.W.looks_subIn X e).here ?_)
    simp only [Bool.false_eq_true, if_false]
    refine wpAny_bind (wpAny_mono one (fun r s' z => ?_) fun _ _ e => e)
    obtain ⟨v, rfl, hq⟩ := z
    exact wpAny_pure hq
  · refine wpAny_bind (wpAny_pure ?_)
    simp only [Bool.false_eq_true, if_false]
    refine wpAny_bind (wpAny_mono one (fun r s' z => ?_) fun _ _ e => e)
    obtain ⟨v, rfl, hq⟩ := z
    exact wpAny_pure hq
end
end OwN
namespace L2
open PySem PySem.Spec PyProof.Rows
/-- what != asks of the class at C, besides its __eq__ -/
structure NeOf (K : PySem.W.Frag) (C : Addr) : Prop where
  ob : PySem.W.mroIn K C (.type "object") = some true
  ne : PySem.W.findIn K (.ref C) "__ne__" = some (some (.builtin "object.__ne__"))
theorem run_fn1 {X : Cx} {CX : CXT} {k : Nat} {f : Addr} {fd : FuncData} {ps : List Str} {sp : Sp} {E : XK} {pins : List (Addr × Obj)} {σ : St} {H : Hp} {s : Shared} {Q : VK} {us : List Value} {vs : List V} (F : FnOk X.prog X.w X.K X.mg X.base CX k f fd ps sp) (hr : Room (k + 1) X.A) (hb : Binds X.K fd ps []) (hx : Passes CX X E)
    (I : Inv X pins σ H s) (r : Vals vs us) (h : sp vs H Q E) : wpAny (model X.prog X.w) X.A.in1 (call (.ref f) us) (EP X pins σ Q) X.xe s := by
  have r2 : Vals (vs ++ []) (us ++ []) := r.append .nil
  rw [← List.append_nil vs] at h
  have hl : (us ++ []).length = ps.length := by rw [← r2.length]; exact F.len _ _ _ _ h
  refine wpAny_call (codeAny_mono (F.run X.A.in1 X.stack s H ⟨us, []⟩ (us ++ []) (vs ++ []) Q E hr.in1 I.env0.in1 (hb s us I.kIn hl) r2 h) fun r s' hq => ?_)
  cases r with
  | error e => exact hx pins σ H s e s' I hq
  | ok fl =>
    cases fl with
    | ret u => exact I.after hq
    | next => exact False.elim hq
    | brk => exact False.elim hq
    | cont => exact False.elim hq
def rOwnNe (K : PySem.W.Frag) (C : Addr) (sp : Sp) : R2 := fun x y H Q => ∃ (a dx : Addr) (fs : List (Str × V)) (t : Value), x = .ref a ∧ H a = some (.ins C dx fs) ∧ TyX K H y t ∧ PySem.W.notFirst K C t = true ∧ sp [x, y] H (fun v H' => ∃ b, v = .bl b ∧ Q (.bl (!b)) H') E0
theorem op_ownNe {X : Cx} {CX : CXT} {C : Addr} {k : Nat} {ps : List Str} {sp : Sp} (c : CalM X.prog X.w X.K X.mg X.base CX k C "__eq__" ps sp) (n : NeOf X.K C) (hr : Room (k + 1) X.A) (hx : Passes CX X E0 := by first | exact pass0 | exact passL) : OpR X (compareOp .NotEq) (rOwnNe X.K C sp) := by
  intro pins s σ H x y v u Q I rx ry h
  obtain ⟨f, fd, h1, h2, h4⟩ := c
  obtain ⟨a, dx, fs, t, rfl, ha, hy, hn, q⟩ := h
  obtain rfl : v = Value.ref a := rx
  obtain ⟨mA, J, _⟩ := ins_get I.hok ha
  obtain ⟨od, J, _⟩ := J.look
  obtain ⟨Pz, Z, pz, _⟩ := kit_of I ry hy
  obtain ⟨m, hF⟩ := I.fr
  show wpAny (model X.prog X.w) X.A (richCompare .NotEq (.ref a) u) (EP X pins σ Q) X.xe s
  refine OwN.ne_K (tb := t) hr.in1.units0 hF I.ok.mod.kin J (Z.ty _ _ I.kIn pz) hn h2.at_ h2.fn n.ob n.ne ?_
  refine wpAny_mono (run_fn1 (us := [.ref a, u]) (vs := [.ref a, y]) h1 hr h4 hx I (.cons (show RelV (.ref a) (.ref a) from rfl) (.cons ry .nil)) q) (fun r s' hq => ?_) fun _ _ z => z
  obtain ⟨v', H', I', rv, b, rfl, q'⟩ := hq
  obtain rfl : r = Value.bool b := rv
  exact ⟨b, rfl, .bl (!b), H', I', rfl, q'⟩
end L2
namespace L2
open PySem PySem.Spec PyProof.Rows
/-- a text times an int -/
def rRepS : R2 := fun x y H Q => ∃ (z : Str) (k : Int), x = .str z ∧ y = .int k ∧ MulOk z k ∧ Q (.str (PySem.Txt.mul z k)) H
theorem op_repS {X : Cx} : OpR X (binaryOp .Mult) rRepS := by
  intro pins s σ H x y v u Q I rx ry h
  obtain ⟨z, k, rfl, rfl, hok, q⟩ := h
  obtain ⟨t, rfl⟩ := rx
  obtain ⟨t2, rfl⟩ := ry
  exact SB.mul hok fun t' k' => ⟨.str _, H, I.tok k', ⟨t', rfl⟩, q⟩
theorem zero_mul {k : Int} (h1 : 1 ≤ k) (h2 : k ≤ 12) : MulOk "0" k ∧ (PySem.Txt.mul "0" k).length ≤ 1000 := by
  have h : k = 1 ∨ k = 2 ∨ k = 3 ∨ k = 4 ∨ k = 5 ∨ k = 6 ∨ k = 7 ∨ k = 8 ∨ k = 9 ∨ k = 10 ∨ k = 11 ∨ k = 12 := by omega
  rcases h with rfl | rfl | rfl | rfl | rfl | rfl | rfl | rfl | rfl | rfl | rfl | rfl <;> exact ⟨⟨by decide +kernel, fun _ _ => by decide +kernel, fun _ _ => by decide +kernel⟩, by decide +kernel⟩
end L2
namespace L2
open PySem PySem.Spec PyProof.Rows
theorem passN {X : Cx} (σ : St) : PassesAt (L2.CX X.prog X.w) X σ E0 := fun pins H s e s' I c => passL pins σ H s e s' I c
end L2
set_option Elab.async false
set_option linter.all false
set_option maxRecDepth 100000
set_option maxHeartbeats 1000000
/-! list(o): o with an own __iter__ over a tuple and an own __len__ -/
namespace L2
open PySem PySem.Spec PyProof.Rows
section
variable {X : Cx} {pins : List (Addr × Obj)} {σ : St} {A1 : Around} {H0 : Hp}
theorem tup_loop {it t q : Addr} {zs : List V} {Rs : Result → Shared → Prop} (hd : A1.handled = none) (hz : ∀ ys, SqT X.K (upd H0 q (.lst ys)) t zs) (hf : ∀ ys, FpOk X pins (upd H0 q (.lst ys)) it) (zl : zs.length ≤ sizeLine)
    (hdone : ∀ s', Inv X pins σ (upd H0 q (.lst zs)) s' → Rs (.ok (.ret .none)) s') :
    ∀ (k i : Nat) (s : Shared), zs.length = i + k → Inv X pins σ (upd H0 q (.lst (zs.take i))) s → s.heap.IsTupleIter it t i → codeAny (model X.prog X.w) A1 (.builtin "list.extend.loop" ⟨[.ref q, .ref it, .none], []⟩) Rs s := by
  intro k
  induction k with
  | zero =>
    intro i s hl I hit
    obtain ⟨its, rv, pl, _⟩ := I.tuple (hz _)
    refine codeAny_builtin PySem.F.entry_extend_loop ?_
    rw [Around.under_plainId PySem.F.plain_extend_loop _]
    show wpAny _ A1.in1 (pyNext (.ref it) >>= _) _ _ s
    have lr := rv.length
    refine wpAny_bind (wpAny_pyNext_tuple_end (items := its.toArray) (i := i) hd hit (show s.heap.IsTuple t its.toArray from pl) (by simp; omega) fun h' e => ?_)
    refine wpAny_pure (hdone _ ?_)
    have e0 : zs.take i = zs := List.take_of_length_le (by omega)
    rw [e0] at I
    exact I.turnedL (t' := s.toks) (ch := [it]) (fun b o hb q => (e b o (fun z => hb (by simp [z])) q)) fun b hb => (show b = it by simpa using hb) ▸ hf zs
  | succ k ih =>
    intro i s hl I hit
    obtain ⟨its, rv, pl, _⟩ := I.tuple (hz _)
    have lr := rv.length
    have hi : i < zs.length := by omega
    obtain ⟨u, eu, ru⟩ := rv.get (List.getElem?_eq_getElem hi)
    refine codeAny_builtin PySem.F.entry_extend_loop ?_
    rw [Around.under_plainId PySem.F.plain_extend_loop _]
    show wpAny _ A1.in1 (pyNext (.ref it) >>= _) _ _ s
    refine wpAny_bind (wpAny_pyNext_tuple_item (items := its.toArray) (i := i) (x := u) hit (show s.heap.IsTuple t its.toArray from pl) (by simpa using eu) fun h' hit' e => ?_)
    have I2 : Inv X pins σ (upd H0 q (.lst (zs.take i))) { s with heap := h' } := I.turnedL (t' := s.toks) (ch := [it]) (fun b o hb q => e.extBut b o (fun z => hb (by simp [z])) q) fun b hb => (show b = it by simpa using hb) ▸ hf _
    show wpAny _ A1.in1 (updateSeq q (·.push u) >>= _) _ _ _
    obtain ⟨z, its2, c, r2, hl2, e2⟩ := I2.lstM upd_same
    have lz : (zs.take i).length = i := by rw [List.length_take]; omega
    have I3 := I2.lset (f := (·.push u)) (its' := its2 ++ [u]) (ys := zs.take i ++ [zs[i]]) (t' := s.toks) upd_same e2 (by simp) (r2.append (.cons ru .nil)) (by rw [List.length_append, lz, List.length_singleton]; omega)
    have et : zs.take i ++ [zs[i]] = zs.take (i + 1) := by rw [List.take_succ, List.getElem?_eq_getElem hi]; rfl
    rw [upd_upd, et] at I3
    have ne : it ≠ q := by
      intro z
      have := (hf []).1
      rw [z, upd_same] at this
      cases this
    refine wpAny_bind (wpAny_updateSeq e2 rfl (wpAny_pure ⟨plainId_quiet PySem.F.plain_extend_loop _, ih (i + 1) _ (by omega) I3 ?_⟩) (by rw [List.size_toArray]; omega) (by show (its2.toArray.push u).size ≤ sizeLine + 1; rw [Array.size_push, List.size_toArray]; omega))
    exact hit'.at fun o e => (Heap.get?_update_other _ _ (Ne.symm ne)).trans e
/-- a call of a def below -/
theorem run_sub {CX : CXT} {k : Nat} {ps : List Str} {sp : Sp} {H : Hp} {s : Shared} {Q : VK} {A : Around} {f : Addr} {fd : FuncData} {us : List Value} {vs : List V} {E : Value → Shared → Prop} (F : FnOk X.prog X.w X.K X.mg X.base CX0 k f fd ps sp) (hr : Room k A) (e0 : Env0 X.prog X.w X.K X.mg X.base A X.stack s H) (hb : Binds X.K fd ps [])
    (I : Inv X pins σ H s) (r : Vals vs us) (h : sp vs H Q E0) : wpAny (model X.prog X.w) A (call (.ref f) us) (EP X pins σ Q) E s := by
  have hl : (us ++ []).length = ps.length := by
    rw [List.append_nil, ← r.length]
    exact F.len _ _ _ _ h
  have hb' := hb s us I.kIn hl
  rw [List.append_nil] at hb'
  refine wpAny_call (codeAny_mono (F.run A X.stack s H ⟨us, []⟩ us vs Q E0 hr e0 hb' r h) fun z s' hq => ?_)
  match z, hq with
  | .error e, hq => exact hq.elim
  | .ok (.ret u), hq => exact I.after hq
/-- a promise of a length: the memory stays -/
def LenIs (sp : Sp) (H : Hp) (a : Addr) : Prop := sp [.ref a] H (fun v H' => ∃ n : Nat, v = .int n ∧ n < 1000000 ∧ H' = H) E0
theorem hint_len {C : Addr} {k : Nat} {ps : List Str} {sp : Sp} {H : Hp} {s : Shared} {A : Around} {a dx : Addr} {fs : List (Str × V)} {Q : Bool → Shared → Prop} {E : Value → Shared → Prop} (c : CalM X.prog X.w X.K X.mg X.base CX0 k C "__len__" ps sp) (hr : Room k A.in1) (e0 : Env0 X.prog X.w X.K X.mg X.base A.in1 X.stack s H)
    (I : Inv X pins σ H s) (ha : H a = some (.ins C dx fs)) (hl : LenIs sp H a) (q : ∀ b s', Inv X pins σ H s' → Q b s') : wpAny (model X.prog X.w) A (Builtin.List.listLengthHint (.ref a)) Q E s := by
  obtain ⟨f, fd, h1, h2, h4⟩ := c
  obtain ⟨mA, J, _⟩ := ins_get I.hok ha
  obtain ⟨od, J, _⟩ := J.look
  unfold Builtin.List.listLengthHint
  refine wpAny_bind (wpAny_bind (J.type.here ((PySem.W.looks_findIn I.kIn h2.at_).here ?_)))
  refine PySem.W.KFB.if_not rfl ?_
  refine PySem.W.KFB.if_so rfl ?_
  refine wpAny_bind (wpAny_rule ?_)
  refine wpAny_bind (wpAny_attempt (Calls.call_function_entry kind_len plain_len entry_len (args_len1 _) ?_))
  unfold Builtin.«len»
  refine wpAny_bind (m := oneArg "len" _) (wpAny_pure ?_)
  refine wpAny_bind (m := callSpecial? (.ref a) (Str.ofString "__len__")) (PySem.W.special_fn I.kIn J h2.at_ (beq_iff_eq.mp h2.fn) (wpAny_mono (run_sub (CX := CX0) h1 hr e0 h4 I (show Vals [V.ref a] [Value.ref a] from .cons rfl .nil) hl) (fun v s' hv => ?_) fun _ _ z => z))
  obtain ⟨v', H', I', rv, n, rfl, hn, rfl⟩ := hv
  obtain ⟨t, rfl⟩ := rv
  refine wpAny_bind (wpAny_holding (wpAny_pure ?_))
  refine wpAny_bind (wpAny_letGo ?_)
  show wpAny _ _ (if (n : Int) < 0 then _ else _) _ _ _
  rw [if_neg (show ¬ ((n : Int) < 0) by omega)]
  show wpAny _ _ (if (n : Int) ≥ 2 ^ 63 then _ else _) _ _ _
  rw [if_neg (show ¬ ((n : Int) ≥ 2 ^ 63) by omega)]
  refine wpAny_bind (wpAny_mkInt (wpAny_pure ⟨_, rfl, ?_⟩))
  show wpAny _ _ (asInt? _ >>= _) _ _ _
  refine wpAny_bind (wpAny_of_eq (a := some (n : Int)) rfl ?_)
  have lt : Builtin.List.listTooLong (n : Int).toNat = false := by
    have : n ≤ sizeLine := by
      have : (1000000 : Nat) ≤ sizeLine := by decide
      omega
    simpa using notLongL this
  show wpAny _ _ (if Builtin.List.listTooLong (n : Int).toNat = true then _ else _) _ _ _
  rw [if_neg (by rw [lt]; exact Bool.false_ne_true)]
  exact wpAny_pure (q _ _ (I'.tok _))
def rListI (K : PySem.W.Frag) (C : Addr) (f : Str) (sp : Sp) : List V → Hp → VK → Prop := fun xs H Q => ∃ (a dx t : Addr) (fs : List (Str × V)) (zs : List V), xs = [.ref a] ∧ H a = some (.ins C dx fs) ∧ fs.lookup f = some (.ref t) ∧ H t = some (.tup zs) ∧ (∀ H', Same H H' → LenIs sp H' a) ∧ ∀ l, H l = none → Q (.ref l) (upd H l (.lst zs))
theorem call_listI {C : Addr} {f : Str} {k : Nat} {ps : List Str} {sp : Sp} (ci : CalI X.prog X.w X.K X.mg X.base k C f) (cn : CalM X.prog X.w X.K X.mg X.base CX0 k C "__len__" ps sp) (hr : Room (k + 3) X.A) : CallR X (.type "list") (rListI X.K C f sp) := by
  intro pins s σ H xs us Q I rv h
  obtain ⟨a, dx, t, fs, zs, rfl, ha, hft, ht, hln, hq⟩ := h
  obtain ⟨u, rfl, ru⟩ := rv.one
  cases ru
  obtain ⟨g, fd, h1, h2, h4⟩ := ci
  refine callType_codes (Q₁ := fun obj s₁ => obj = .ref s.heap.objs.size ∧ s₁ = { s with heap := s.heap.push { cls := .type "list", data := .seq #[] } }) PySem.F.called_list (PySem.F.typeCall_list_1 _) PySem.F.entry_list_init
    (code_list_new _ ⟨rfl, rfl⟩) fun obj s₁ h₁ => ?_
  obtain ⟨rfl, rfl⟩ := h₁
  have hS : (s.heap.push { cls := .type "list", data := .seq #[] }).get? s.heap.objs.size = some { cls := .type "list", data := .seq #[] } := Heap.get?_push_size _ rfl
  refine ⟨⟨_, hS, rfl⟩, PySem.F.args_list_init_2 _ _, ?_⟩
  have fr : H s.heap.objs.size = none := I.hok.fresh (Nat.le_refl _)
  have I1 : Inv X pins σ (upd H s.heap.objs.size (.lst [])) { s with heap := s.heap.push { cls := .type "list", data := .seq #[] } } := I.lnew (its := []) (t' := s.toks) .nil (Nat.zero_le _)
  show wpAny _ _ (do let old ← Builtin.List.listItems (.ref s.heap.objs.size); Builtin.List.listUpdate (.ref s.heap.objs.size) (fun _ => #[]); letGo old.toList.reverse; Builtin.List.listExtendWith (.ref s.heap.objs.size) (.ref a) .none) _ _ _
  refine wpAny_bind ?_
  unfold Builtin.List.listItems
  refine wpAny_bind (wpAny_seqItems hS rfl (wpAny_pure ?_))
  show wpAny _ _ (updateSeq s.heap.objs.size (fun _ => #[]) >>= fun _ => letGo (#[] : Array Value).toList.reverse >>= fun _ => Builtin.List.listExtendWith (.ref s.heap.objs.size) (.ref a) .none) _ _ _
  refine wpAny_bind (wpAny_updateSeq hS rfl ?_)
  have I2 := I1.lset (f := fun _ => #[]) (its := []) (its' := []) (ys := []) (t' := s.toks) upd_same hS rfl .nil (Nat.zero_le _)
  rw [upd_upd] at I2
  refine wpAny_bind (wpAny_letGo ?_)
  have S1 : Same H (upd H s.heap.objs.size (.lst [])) := sNew fr
  have ha2 := S1 _ _ ha
  have hfin := hq _ fr
  have hqq : (upd H s.heap.objs.size (.lst [])) s.heap.objs.size = some (.lst []) := upd_same
  have nta : s.heap.objs.size ≠ a := Ne.symm (ne_of_none ha fr)
  have ntt : t ≠ s.heap.objs.size := ne_of_none ht fr
  generalize eq : s.heap.objs.size = q at *
  obtain ⟨mA, J, _⟩ := ins_get I2.hok ha2
  obtain ⟨od, J, _⟩ := J.look
  obtain ⟨m0, hF⟩ := I2.fr
  unfold Builtin.List.listExtendWith
  refine wpAny_bind (J.type.here ?_)
  have e1 : Builtin.List.listSameRef (.ref q) (.ref a) = false := by simp [Builtin.List.listSameRef, nta]
  have e2 : (Value.ref C == Value.type "list") = false := rfl
  have e3 : (Value.ref C == Value.type "tuple") = false := rfl
  simp only [e1, e2, e3, Bool.or_false, Bool.false_eq_true, if_false]
  refine wpAny_bind (PySem.W.owit_iter hF I2.ok.mod.kin J h2.at_ h2.fn ?_)
  have hb' := fun s1 (kin : X.K.In s1.heap) => h4 s1 [.ref a] kin rfl
  have hr2 : Room k X.A.in1.in1 := (show Room (k + 2) X.A from hr.mono (by omega)).in1.in1
  have hr3 : Room k X.A.in1.in1.in1 := hr.in1.in1.in1
  refine wpAny_call (codeAny_mono (h1.run X.A.in1.in1 X.stack _ (upd H q (.lst [])) [.ref a] [.ref a] (fun v H' => ∃ it, v = .ref it ∧ (upd H q (.lst [])) it = none ∧ X.s_0.heap.objs.size ≤ it ∧ H' = upd (upd H q (.lst [])) it (ItT t it)) E0 hr2 I2.env0.in1.in1 (by
    have := hb' _ I2.kIn
    rw [List.append_nil] at this
    exact this) (.cons rfl .nil) ⟨a, dx, t, fs, zs, rfl, ha2, hft, SqT.of (S1 _ _ ht), fun it n1 n2 => ⟨it, rfl, n1, Nat.le_trans I2.sz n2, rfl⟩⟩) fun z s' hq' => ?_)
  match z, hq' with
  | .error e, hq' => exact hq'.elim
  | .ok (.ret u), hq' =>
    obtain ⟨v, H', I', rv, it, rfl, n1, n2, rfl⟩ := I2.after hq'
    obtain rfl : u = Value.ref it := rv
    have eo := (I'.hok it _ upd_same).1
    unfold PySem.W.OwitIt
    refine looks_next eo fun _ => ?_
    have S2 : Same (upd H q (.lst [])) (upd (upd H q (.lst [])) it (ItT t it)) := sNew n1
    refine wpAny_bind (wpAny_holding (hint_len cn hr3 I'.env0.in1.in1.in1 I' (S2 _ _ ha2) (hln _ (S1.trans S2)) fun b s2 I4 => ?_))
    have eo := (I4.hok it _ upd_same).1
    have nqi : q ≠ it := ne_of_none hqq n1
    have h4q : (upd (upd H q (.lst [])) it (ItT t it)) q = some (.lst []) := S2 _ _ hqq
    have fin : ∀ s3, Inv X pins σ (upd (upd H q (.lst [])) it (ItT t it)) s3 → s3.heap.get? it = some { cls := .type "tuple_iterator", data := .fields #[.ref t, .int 0 0] } →
        codeAny (model X.prog X.w) X.A.in1 (.builtin "list.extend.loop" ⟨[.ref q, .ref it, .none], []⟩) (wants (fun r s₂ => r = .none ∧ EP X pins σ Q (.ref q) s₂) X.xe) s3 := fun s3 I5 eo => by
      have I6 := ItX.inv_drop I5 (a := it) (φ := fun h => h.get? it = some { cls := .type "tuple_iterator", data := .fields #[.ref t, .int 0 0] }) upd_same
      have fp := ItX.inv_fp I5 (a := it) (u := ItT t it) upd_same n2
      rw [ItX.dropH_upd n1] at I6 fp
      have hi0 : H it = none := by rw [upd_ne (Ne.symm nqi)] at n1; exact n1
      have hzt := I.tuple (SqT.of ht)
      obtain ⟨itsz, rvz, _, hzl⟩ := hzt
      have hzl2 := rvz.length
      refine tup_loop (H0 := H) (zs := zs) (t := t) (q := q) (it := it) (A1 := X.A.in1) hr.hd (fun ys => SqT.of (by rw [upd_ne ntt]; exact ht)) (fun ys => ⟨by rw [upd_ne (Ne.symm nqi)]; exact hi0, fp.2⟩) ?_ (fun s' J => ?_) zs.length 0 s3 (by omega) I6 ⟨_, eo, rfl, rfl⟩
      · first | exact hzl | omega
      · exact ⟨rfl, .ref q, _, J, rfl, hfin⟩
    refine wpAny_ite_split (fun _ => ?_) (fun _ => wpAny_pure ⟨plainId_quiet PySem.F.plain_extend_loop _, fin s2 I4 eo⟩)
    refine wpAny_bind (wpAny_rule ?_)
    refine wpAny_bind ?_
    show wpAny _ _ (updateSeq q (·.push .none) >>= fun _ => updateSeq q (·.pop)) _ _ _
    obtain ⟨z3, its3, k3, r3, hl3, e3⟩ := I4.lstM h4q
    cases r3
    refine wpAny_bind (wpAny_updateSeq e3 rfl ?_)
    have I5 := I4.lset (f := (·.push Value.none)) (its' := [Value.none]) (ys := [.non]) (t' := s2.toks) h4q e3 (by simp) (.cons rfl .nil) (by rw [List.length_singleton, sizeLine_eq]; decide)
    obtain ⟨z4, its4, k4, r4, hl4, e4⟩ := I5.lstM upd_same
    obtain ⟨u4, rfl, ru4⟩ := r4.one
    refine wpAny_updateSeq e4 rfl ?_ (by show 1 ≤ sizeLine; rw [sizeLine_eq]; decide) (by show 0 ≤ sizeLine + 1; exact Nat.zero_le _)
    have I6 := I5.lset (f := (·.pop)) (its := [u4]) (its' := []) (ys := []) (t' := s2.toks) upd_same e4 (by rfl) .nil (Nat.zero_le _)
    rw [upd_upd] at I6
    have hH : upd (upd (upd H q (.lst [])) it (ItT t it)) q (.lst []) = upd (upd H q (.lst [])) it (ItT t it) := by
      funext b
      by_cases hb : b = q
      · rw [hb, upd_same, h4q]
      · rw [upd_ne hb]
    rw [hH] at I6
    exact wpAny_pure ⟨plainId_quiet PySem.F.plain_extend_loop _, fin _ I6 (I6.hok it _ upd_same).1⟩
end
end L2
set_option Elab.async false
set_option linter.all false
set_option maxRecDepth 100000
set_option maxHeartbeats 1000000
/-! enumerate over a tuple of the module; a class made with its defaults -/
namespace L2
open PySem PySem.Spec PyProof.Rows
def iEnuK (K : PySem.W.Frag) (ta : TA) : TI := fun σ H R => ta σ H fun vs H1 => ∃ (a : Addr) (xs : List V), vs = [.ref a] ∧ SqT K H1 a xs ∧ ∀ J, Walk J xs.length (fun H' => SqT K H' a xs) (YPair (fun i => some (.int (i : Nat))) (fun i => xs[i]?)) → R J H1
theorem pi_enuK {X : Cx} {e : Expr} {ta : TA} {p pos tpos : Pos} {elts : List Expr} {kk : Nat} (hg : Gl X "enumerate") (hm : X.mg "enumerate" = none) (ha : PA X [e] ta) (hs : starEach [e] X.env = [(false, eval e X.env)] := by rfl) :
    PI X (.Tuple elts kk tpos) (.Call (.Name "enumerate" p) [e] [] pos) (iEnuK X.K ta) := by
  refine ⟨fun pins s σ H R I h => ?_⟩
  refine Call_ (ld_blt I hg hm boot_enumerate (PyProof.Rows.callWith_type1 (thn (ha.run pos pins s σ H _ I h) fun us s1 ⟨vs, H1, I1, r1, q1⟩ => ?_) hs rfl))
  obtain ⟨a, xs, rfl, ho, q⟩ := q1
  obtain ⟨u, rfl, ru⟩ := vals1 r1
  obtain rfl : u = Value.ref a := ru
  have fresh : ∀ b ∈ [s1.heap.objs.size + 1, s1.heap.objs.size], s1.heap.objs.size ≤ b := fun b hb => by
    rcases (show b = s1.heap.objs.size + 1 ∨ b = s1.heap.objs.size by simpa using hb) with rfl | rfl
    · exact Nat.le_add_right _ _
    · exact Nat.le_refl _
  obtain ⟨its, rv, p', hz⟩ := I1.tuple ho
  refine EnT.call_enumT (show s1.heap.IsTuple a its.toArray from p') fun h' he hit hk => wpAny_pyIter_enum he ?_
  exact ⟨s1.heap.objs.size + 1, [s1.heap.objs.size + 1, s1.heap.objs.size], _, _, H1, rfl, I1.kept (t' := s1.toks) hk, turn_enumT a _ _, ⟨⟨.none, he⟩, hit, Nat.succ_ne_self _⟩, fun b hb => I1.fpOk (fresh b hb) (I1.hok.fresh (fresh b hb)), q _ walk_enumT⟩
/-- the class at C makes its instances by sp, its last parameters by their defaults -/
def CalCD (P : Program) (w : World) (K : PySem.W.Frag) (mg : Str → Option Value) (base : Heap) (CX : CXT) (k : Nat) (C : Addr) (ps : List Str) (sp : Sp) (dvs : List V) : Prop :=
  ∃ (f : Addr) (fd : FuncData) (ds : List Value), FnOk P w K mg base CX k f fd ps sp ∧ Mk K C f ∧ Vals dvs ds ∧ Binds K fd ps ds
theorem pe_mkD {X : Cx} {CX : CXT} {k : Nat} {ps : List Str} {sp : Sp} {dvs : List V} {x : Str} {p pos : Pos} {e : Expr} {es : List Expr} {t : TA} {C : Addr} (c : CalCD X.prog X.w X.K X.mg X.base CX k C ps sp dvs) (hm : X.mg x = some (.ref C)) (hr : Room (k + 1) X.A) (ha : PA X (e :: es) t) (hx : Passes CX X E0 := by first | exact pass0 | exact passL) (hg : Gl X x := by rfl) (hdb : (x == ("__debug__" : Str)) = false := by decide) (he : starEach (e :: es) X.env = (false, eval e X.env) :: starEach es X.env := by rfl)
    (hpl : (backTo pos (starEach es X.env)).any (·.1) = false := by rfl) : PE X (.Call (.Name x p) (e :: es) [] pos) (tMake C sp dvs E0 t) := by
  obtain ⟨f, fd, ds, h1, h2, h3, h4⟩ := c
  exact pe_make h2 h1 hr hg hm h4 h3 hx ha hdb he hpl
/-- a tuple that stands in the frame -/
theorem tyK0 {K : PySem.W.Frag} {a : Addr} {xs : List V} (h : ∀ H, SqT K H a xs) (H : Hp) : TyX K H (.ref a) (.type "tuple") := by
  rcases h (fun _ => none) with h | ⟨o, its, n, h1, h2, _⟩
  · rcases h with h | ⟨o, h⟩ <;> cases h
  · exact .kTuple h1 h2
end L2
set_option Elab.async false
set_option linter.all false
set_option maxRecDepth 100000
set_option maxHeartbeats 4000000
/-! tuple * 1 is the tuple itself -/
namespace L2
open PySem PySem.Spec PyProof.Rows
theorem tuple_mul1 (l : Addr) (items : Array Value) (n : Nat) (dd : Option Addr) (sl : Array (Option Value)) (u : Tok) :
    Meets (Builtin.«tuple.__mul__» ⟨[.ref l, .int 1 u], []⟩) (fun _ R s => s.heap.get? l = some { cls := .type "tuple", dict := dd, data := .seq items n, slots := sl } ∧
      R (.ok (.ret (Value.ref l))) s) :=
  .of_wp fun prog w A R s h => by
    obtain ⟨hp, g, d, tk, os⟩ := s
    obtain ⟨hl, h⟩ := h
    have f1 := AutoSeq1.idx_int
    have c1 : (items.isEmpty || (1 : Int) == 1) = true := by cases items.isEmpty <;> rfl
    wp_walk using wpAny_loadPart' hl
    repeat (first
      | (refine wpAny_ite_false (decide_eq_false (by decide)) ?_; wp_walk using wpAny_loadPart' hl)
      | (refine wpAny_ite_true (decide_eq_true c1) ?_; wp_walk using wpAny_loadPart' hl))
    exact ⟨_, rfl, h⟩
def rRepA (K : PySem.W.Frag) : R2 := fun x y H Q => ∃ l k xs, x = .ref l ∧ y = .int k ∧ SqT K H l xs ∧ xs ≠ [] ∧ 1 ≤ k ∧ k ≤ 1000 ∧ xs.length ≤ 1000 ∧ (k = 1 → Q (.ref l) H) ∧ (2 ≤ k → ∀ p, H p = none → Q (.ref p) (upd H p (.tup (List.replicate k.toNat xs).flatten)))
theorem op_repA {X : Cx} : OpR X (binaryOp .Mult) (rRepA X.K) := by
  intro pins s σ H x y v u Q I rx ry h
  obtain ⟨l, k, xs, rfl, rfl, hT, hne, h1, h2, hz, q1, q2⟩ := h
  by_cases g : 2 ≤ k
  · exact op_repT pins s σ H _ _ v u Q I rx ry ⟨l, k, xs, rfl, rfl, hT, hne, g, h2, hz, q2 g⟩
  obtain rfl : k = 1 := by omega
  cases rx
  obtain ⟨t, rfl⟩ := ry
  obtain ⟨its, r, ⟨⟨cls, dd, data, sl⟩, ho, hc, n, hd⟩, hs⟩ := I.tuple hT
  simp only at hc hd
  subst hc hd
  refine wpAny_binaryOp_repeat_ref (T := "tuple") (U := "int") (by decide) ⟨_, ho, rfl⟩ (fun s' => typeIs_int s' 1 t) noFill_tuple_mul F.fills_int_mul F.slot_int_rmul repeat_tuple F.slot_int_index.lookup
    (call_meets F.slot_int_rmul (typeIs_int s 1 t) F.entry_int_rmul (F.args_int_rmul_2 _ _) (int_rmul_tuple 1 t l its.toArray n dd sl)
      ⟨ho, rfl, ⟨_, ho, rfl⟩, call_meets F.slot_tuple_mul ⟨_, ho, rfl⟩ F.entry_tuple_mul (F.args_tuple_mul_2 _ _) (tuple_mul1 l its.toArray n dd sl t) ⟨ho, ?_⟩⟩)
  exact ⟨.ref l, H, I, rfl, q1 rfl⟩
theorem op_repAK {X : Cx} {K : PySem.W.Frag} (h : X.K = K) : OpR X (binaryOp .Mult) (rRepA K) := h ▸ op_repA
/-- a lone try under a name of its own -/
def tW (t : TS) : TS := fun D σ H => t D σ H
theorem pss_oneW {X : Cx} {st : Stmt} {t : TS} (h : PS X st t) : PSs X [st] (tW t) := pss_one h
end L2
set_option Elab.async false
set_option linter.all false
set_option maxRecDepth 100000
set_option maxHeartbeats 4000000
/-! t[::-1] of a tuple -/
namespace RvT
open PySem PySem.Spec PyProof.Rows HT
section
variable {prog : Program} {w : World} {A : Around} {E : Value → Shared → Prop} {s : Shared}
theorem places_rev (n : Nat) : Builtin.Slice.slicePlaces ((n : Int) - 1) (-1) (-1) = n := by
  unfold Builtin.Slice.slicePlaces
  rw [if_neg (by decide)]
  split
  · show ((((n : Int) - 1 - (-1) - 1) / (-(-1)) + 1)).toNat = n
    have : (-(-1 : Int)) = 1 := by decide
    rw [this, Int.ediv_one]
    omega
  · show (0 : Int).toNat = n
    have : n = 0 := by omega
    rw [this]
    rfl
theorem fm_congr {α β : Type} {f g : α → Option β} : ∀ {l : List α}, (∀ x ∈ l, f x = g x) → l.filterMap f = l.filterMap g
  | [], _ => rfl
  | x :: l, h => by
    rw [List.filterMap_cons, List.filterMap_cons, h x List.mem_cons_self, fm_congr fun y hy => h y (List.mem_cons_of_mem _ hy)]
theorem pick_rev (xs : Array Value) : ((List.range xs.size).filterMap fun (m : Nat) => xs[((xs.size : Int) - 1 + (m : Int) * (-1)).toNat]?).toArray = xs.toList.reverse.toArray := by
  have h := pick_gen xs.toList.reverse.toArray 0 xs.size
  have e : (List.range xs.size).filterMap (fun (m : Nat) => xs[((xs.size : Int) - 1 + (m : Int) * (-1)).toNat]?) = (List.range xs.size).filterMap fun (m : Nat) => xs.toList.reverse.toArray[(((0 : Nat) : Int) + (m : Int) * 1).toNat]? := by
    refine fm_congr fun m hm => ?_
    have hm := List.mem_range.mp hm
    rw [show ((xs.size : Int) - 1 + (m : Int) * (-1)).toNat = xs.size - 1 - m by omega, show (((0 : Nat) : Int) + (m : Int) * 1).toNat = m by omega]
    have e1 : xs.toList.reverse.toArray[m]? = xs.toList.reverse[m]? := by simp
    have e2 : xs[xs.size - 1 - m]? = xs.toList[xs.size - 1 - m]? := by simp
    rw [e1, e2, List.getElem?_reverse (by rw [Array.length_toList]; exact hm), Array.length_toList]
  rw [e, h]
  rw [List.drop_zero, List.take_of_length_le]
  rw [List.length_reverse, Array.length_toList]
  exact Nat.le_refl _
theorem applied_rev {sl : Addr} {vs : Value} {n : Nat} {Q : Int × Int × Nat → Shared → Prop} (hs : s.heap.IsSliceOf sl .none .none vs) (ps : IsPart vs (some (-1)))
    (h : Q ((n : Int) - 1, -1, n) s) : wpAny (model prog w) A (Builtin.Slice.sliceApplied (.ref sl) (pure (n : Int))) Q E s := by
  obtain ⟨os, hos, hcs, hds⟩ := id hs
  unfold Builtin.Slice.sliceApplied Builtin.Slice.sliceFields
  refine wpAny_bind (wpAny_bind (wpAny_field hos hds (x := .none) rfl (wpAny_bind (wpAny_field hos hds (x := .none) rfl (wpAny_bind (wpAny_field hos hds (x := vs) rfl (wpAny_pure ?_)))))))
  refine wpAny_bind (slicePart_ ps ?_)
  show wpAny _ _ (if ((-1 : Int) == 0) = true then _ else _) _ _ s
  rw [if_neg (by decide)]
  refine wpAny_bind (slicePart_ .none (wpAny_bind (slicePart_ .none (wpAny_bind (wpAny_pure ?_)))))
  show wpAny _ _ (pure ((n : Int) - 1, (-1 : Int), Builtin.Slice.slicePlaces ((n : Int) - 1) (-1) (-1))) _ _ s
  rw [places_rev]
  exact wpAny_pure h
theorem getItem_tuple_rev {t sl : Addr} {items : Array Value} {vs : Value} {Q : Value → Shared → Prop} (ht : IsTup s.heap t items) (hs : s.heap.IsSliceOf sl .none .none vs) (ps : IsPart vs (some (-1)))
    (h : Q (.ref s.heap.objs.size) { s with heap := s.heap.push { cls := .type "tuple", data := .seq items.toList.reverse.toArray } })
    (hsz : items.size ≤ sizeLine) : wpAny (model prog w) A (getItem (.ref t) (.ref sl)) Q E s := by
  have htake : sizeOk (.seq items.toList.reverse.toArray) := by
    show items.toList.reverse.toArray.size ≤ sizeLine
    rw [List.size_toArray, List.length_reverse, Array.length_toList]
    exact hsz
  obtain ⟨os, hos, hcs, hds⟩ := id hs
  have hTs : s.TypeIs (.ref sl) "slice" := ⟨os, hos, hcs⟩
  unfold getItem
  try with_reducible refine wpAny_holding ?_
  first | refine wpAny_bind (wpAny_pure ?_) | skip
  refine wpAny_bind (wpAny_sequenceKey ht.typeIs (by decide) ?_)
  refine wpAny_bind (wpAny_callSpecial?_slot (name := Str.ofString "__getitem__") ht.typeIs PyProof.Rows.slot_tuple_getitem
    (wpAny_call_entry PyProof.Rows.slot_tuple_getitem ht.typeIs entry_tuple_getitem ?_ (args_tuple_getitem _ _)))
  show wpAny _ _ (Builtin.Tuple.tupleItemsOf (.ref t) >>= _) _ _ s
  refine wpAny_bind (tupleItemsOf_ ht ?_)
  refine wpAny_bind (wpAny_typeOf hTs ?_)
  rw [if_pos (by decide)]
  refine wpAny_bind (applied_rev hs ps ?_)
  have hno : ¬ ((((items.size : Int) - 1) == 0 && (-1 : Int) == 1 && items.size == items.size) = true) := by
    intro q
    rw [Bool.and_eq_true, Bool.and_eq_true] at q
    exact absurd q.1.2 (by decide)
  show wpAny _ _ (if (((items.size : Int) - 1) == 0 && (-1 : Int) == 1 && items.size == items.size) = true then _ else _) _ _ s
  rw [if_neg hno, pick_rev]
  first
    | exact wpAny_bind (m := Builtin.Tuple.tupleExact _) (wpAny_newObj_type (wpAny_pure ⟨_, rfl, wpAny_pure h⟩) htake)
    | exact wpAny_bind (m := Builtin.Tuple.tupleExact _) (wpAny_newObj_type (wpAny_bind (wpAny_pure (wpAny_pure ⟨_, rfl, wpAny_pure h⟩))) htake)
    | exact wpAny_bind (wpAny_bind (m := Builtin.Tuple.tupleExact _) (wpAny_newObj_type (wpAny_pure (wpAny_pure ⟨_, rfl, wpAny_pure h⟩)) htake))
    | exact wpAny_bind (wpAny_bind (m := Builtin.Tuple.tupleExact _) (wpAny_newObj_type (wpAny_pure ⟨_, rfl, wpAny_pure h⟩) htake))
end
end RvT
namespace L2
open PySem PySem.Spec PyProof.Rows
section
variable {X : Cx}
def tRevT (K : PySem.W.Frag) (te : TE) : TE := fun σ H Q => te σ H fun x H1 => ∃ a xs, x = .ref a ∧ SqT K H1 a xs ∧ ∀ l, H1 l = none → Q (.ref l) (upd H1 l (.tup xs.reverse))
theorem pe_revT {e : Expr} {te : TE} {k : Nat} {p1 p2 p3 pos : Pos} (he : PE X e te) : PE X (.Subscript e (.Slice none none (some (.UnaryOp .USub (.Constant (.int 1) k p1) p2)) p3) pos) (tRevT X.K te) := by
  refine ⟨fun pins s σ H Q I h => ?_⟩
  refine Subscript_ (thn (he.run pins s σ H _ I h) fun v s1 ⟨x, H1, I1, r1, q1⟩ => ?_)
  obtain ⟨a, xs, ex, hx, q⟩ := q1
  subst ex
  cases r1
  have hst : PO X (some (.UnaryOp .USub (.Constant (.int 1) k p1) p2)) (tPart (tUn (rU fun i => .int (-i)) (tC (.int 1)))) := po_some (pe_un un_neg pe_int)
  refine wpAny_Slice (thn (po_none.run pins s1 σ H1 (fun o H2 => o = none ∧ H2 = H1) I1 ⟨rfl, rfl⟩) fun vl s2 ⟨l, H2, I2, pl, el, e2⟩ => ?_)
  subst el e2
  refine thn (po_none.run pins s2 σ H2 (fun o H3 => o = none ∧ H3 = H2) I2 ⟨rfl, rfl⟩) fun vu s3 ⟨u, H3, I3, pu, eu, e3⟩ => ?_
  subst eu e3
  refine thn (hst.run pins s3 σ H3 (fun o H4 => o = some (-1) ∧ H4 = H3) I3 ⟨1, rfl, -1, rfl, rfl, rfl⟩) fun vs s4 ⟨o, H4, I4, ps, eo, e4⟩ => ?_
  subst eo e4
  cases pl
  cases pu
  have I5 : Inv X pins σ H4 { s4 with heap := s4.heap.push { cls := .type "slice", data := .fields #[.none, .none, vs] } } := I4.kept (t' := s4.toks) fun b ob q => Heap.get?_push_of_some _ q
  obtain ⟨its, r, ht, hz⟩ := I5.tuple hx
  have hlen := r.length
  show wpAny (model X.prog X.w) X.A (subscriptTail e (.Slice none none (some (.UnaryOp .USub (.Constant (.int 1) k p1) p2)) p3) (.ref a) (.ref s4.heap.objs.size)) (EP X pins σ Q) X.xe { s4 with heap := s4.heap.push { cls := .type "slice", data := .fields #[.none, .none, vs] } }
  refine tail_any (ops := [.ref a, .ref s4.heap.objs.size]) ht.typeIs (PyProof.Rows.slot_tuple_getitem.lookup) ?_ (by with_unfolding_all rfl)
  refine RvT.getItem_tuple_rev ht (Heap.IsSliceOf.new _ .none .none vs) ps ?_ (by rw [List.size_toArray]; omega)
  refine ⟨.ref _, _, I5.laid (t' := s4.toks) (o := .tup xs.reverse) (fun b ob q => Heap.get?_push_of_some _ q) (Nat.le_refl _) ?_, rfl, q _ (I5.hok.fresh (Nat.le_refl _))⟩
  exact ⟨by rw [List.length_reverse]; exact hz, _, r.reverse, IsTup.new _ _⟩
end
end L2
set_option Elab.async false
set_option linter.all false
set_option maxRecDepth 100000
/-! systems of differences: lowering times round by round (plain) -/
namespace Bf
abbrev NL := Nat × Nat × Int
def gO {α : Type} (xs : List (Option α)) (i : Nat) : Option α := (xs[i]?).join
theorem gO_set {α : Type} {xs : List (Option α)} {i j : Nat} {x : Option α} (h : i < xs.length) : gO (xs.set i x) j = if i = j then x else gO xs j := by
  unfold gO
  rw [List.getElem?_set]
  by_cases e : i = j
  · subst e
    simp [h]
  · simp [e]
theorem gO_lt {α : Type} {xs : List (Option α)} {i : Nat} {x : α} (h : gO xs i = some x) : i < xs.length := by
  unfold gO at h
  cases e : xs[i]? with
  | none => rw [e] at h; cases h
  | some y => exact (List.getElem?_eq_some_iff.mp e).1
theorem gO_at {α : Type} {xs : List (Option α)} {i : Nat} (h : i < xs.length) : gO xs i = xs[i] := by
  unfold gO
  rw [List.getElem?_eq_getElem h]
  rfl
structure BS where
  ts : List (Option Int)
  cm : List (Option Nat)
  lo : Option Nat
def rl (i : Nat) (l : NL) (s : BS) : BS := match gO s.ts l.2.1 with
  | none => s
  | some t => match gO s.ts l.1 with
    | none => ⟨s.ts.set l.1 (some (t + l.2.2)), s.cm.set l.1 (some i), some l.1⟩
    | some v => if v > t + l.2.2 then ⟨s.ts.set l.1 (some (t + l.2.2)), s.cm.set l.1 (some i), some l.1⟩ else s
def rls : Nat → List NL → BS → BS
  | _, [], s => s
  | i, l :: ls, s => rls (i + 1) ls (rl i l s)
def rnd (ls : List NL) (s : BS) : BS := rls 0 ls { s with lo := none }
/-- the rounds: where they end, and whether without a lowering -/
def run (ls : List NL) : Nat → BS → BS × Bool
  | 0, s => (s, false)
  | k + 1, s => if (rnd ls s).lo = none then (rnd ls s, true) else run ls k (rnd ls s)
/-- the times keep a link -/
def Sat (ts : List (Option Int)) (l : NL) : Prop := ∀ t, gO ts l.2.1 = some t → ∃ v, gO ts l.1 = some v ∧ v ≤ t + l.2.2
def Unsat (s : BS) (l : NL) (t : Int) : Prop := gO s.ts l.2.1 = some t ∧ ∀ v, gO s.ts l.1 = some v → t + l.2.2 < v
def low (i : Nat) (l : NL) (t : Int) (s : BS) : BS := ⟨s.ts.set l.1 (some (t + l.2.2)), s.cm.set l.1 (some i), some l.1⟩
theorem rl_cases (i : Nat) (l : NL) (s : BS) : (Sat s.ts l ∧ rl i l s = s) ∨ ∃ t, Unsat s l t ∧ rl i l s = low i l t s := by
  unfold rl
  cases h : gO s.ts l.2.1 with
  | none => exact .inl ⟨fun t e => (by rw [h] at e; cases e), rfl⟩
  | some t =>
    cases h1 : gO s.ts l.1 with
    | none => exact .inr ⟨t, ⟨h, fun v e => (by rw [h1] at e; cases e)⟩, rfl⟩
    | some v =>
      by_cases g : v > t + l.2.2
      · refine .inr ⟨t, ⟨h, fun v' e => ?_⟩, ?_⟩
        · rw [h1] at e
          cases e
          exact g
        · show (if v > t + l.2.2 then _ else s) = _
          rw [if_pos g]
          rfl
      · refine .inl ⟨fun t' e => ?_, ?_⟩
        · rw [h] at e
          cases e
          exact ⟨v, h1, by omega⟩
        · show (if v > t + l.2.2 then _ else s) = _
          rw [if_neg g]
theorem rls_some : ∀ (ls : List NL) (i : Nat) (s : BS), s.lo ≠ none → (rls i ls s).lo ≠ none
  | [], _, _, h => h
  | l :: ls, i, s, h => by
    refine rls_some ls (i + 1) _ ?_
    rcases rl_cases i l s with ⟨_, e⟩ | ⟨t, _, e⟩
    · rw [e]; exact h
    · rw [e]; exact fun z => nomatch z
theorem rls_none : ∀ (ls : List NL) (i : Nat) (s : BS), (rls i ls s).lo = none → rls i ls s = s ∧ ∀ l ∈ ls, Sat s.ts l
  | [], _, _, _ => ⟨rfl, fun l h => by cases h⟩
  | l :: ls, i, s, h => by
    have h : (rls (i + 1) ls (rl i l s)).lo = none := h
    rcases rl_cases i l s with ⟨st, e⟩ | ⟨t, _, e⟩
    · rw [e] at h
      obtain ⟨h1, h2⟩ := rls_none ls (i + 1) s h
      refine ⟨?_, fun x hx => ?_⟩
      · show rls (i + 1) ls (rl i l s) = s
        rw [e, h1]
      · rcases List.mem_cons.mp hx with rfl | hx
        · exact st
        · exact h2 x hx
    · rw [e] at h
      exact absurd h (rls_some ls (i + 1) _ fun z => nomatch z)
/-- what holds amid round r, the links below j being done; T the clock of the last lowering, L its round -/
structure Iv (ls : List NL) (bg : List (Option Int)) (n r j c : Nat) (T L : Nat → Nat) (s : BS) : Prop where
  lt : s.ts.length = n
  lc : s.cm.length = n
  ok : ∀ l ∈ ls, l.1 < n ∧ l.2.1 < n
  cm : ∀ v i, gO s.cm v = some i → ∃ (l : NL) (tv tu : Int), ls[i]? = some l ∧ l.1 = v ∧ gO s.ts v = some tv ∧ gO s.ts l.2.1 = some tu ∧ tu + l.2.2 ≤ tv ∧ (tu + l.2.2 = tv → T l.2.1 < T v) ∧ L v ≤ L l.2.1 + 1
  no : ∀ v, gO s.cm v = none → gO s.ts v = gO bg v
  cl : ∀ v, T v ≤ c
  lr : ∀ v, L v ≤ r
  l1 : ∀ v, 1 ≤ L v → gO s.cm v ≠ none
  lo : ∀ v, s.lo = some v → L v = r
  dn : ∀ i l, ls[i]? = some l → i < j → L l.2.1 < r → Sat s.ts l
  un : ∀ i l, ls[i]? = some l → j ≤ i → L l.2.1 + 1 < r → Sat s.ts l
  so : ∀ v, (gO bg v).isSome = true → (gO s.ts v).isSome = true
theorem Iv.step {ls : List NL} {bg : List (Option Int)} {n r j c : Nat} {T L : Nat → Nat} {s : BS} {l : NL} (V : Iv ls bg n r j c T L s) (hl : ls[j]? = some l) : ∃ c' T' L', Iv ls bg n r (j + 1) c' T' L' (rl j l s) := by
  rcases rl_cases j l s with ⟨st, e⟩ | ⟨t, ⟨ht, hv⟩, e⟩
  · rw [e]
    refine ⟨c, T, L, { V with dn := fun i l' h1 h2 h3 => ?_, un := fun i l' h1 h2 h3 => V.un i l' h1 (by omega) h3 }⟩
    by_cases g : i = j
    · subst g
      rw [hl] at h1
      cases h1
      exact st
    · exact V.dn i l' h1 (by omega) h3
  · rw [e]
    obtain ⟨o1, o2⟩ := V.ok l (List.mem_of_getElem? hl)
    have lr1 : r ≤ L l.2.1 + 1 := by
      refine Nat.le_of_not_lt fun z => ?_
      obtain ⟨v, h1, h2⟩ := V.un j l hl (Nat.le_refl _) (by omega) t ht
      have := hv v h1
      omega
    have gt : ∀ x, gO (low j l t s).ts x = if l.1 = x then some (t + l.2.2) else gO s.ts x := fun x => gO_set (by rw [V.lt]; exact o1)
    have gc : ∀ x, gO (low j l t s).cm x = if l.1 = x then some j else gO s.cm x := fun x => gO_set (by rw [V.lc]; exact o1)
    -- a time that was there is lower or the same
    have dec : ∀ x w, gO s.ts x = some w → ∃ w', gO (low j l t s).ts x = some w' ∧ w' ≤ w ∧ (l.1 = x → w' < w) ∧ (l.1 ≠ x → w' = w) := fun x w hw => by
      rw [gt]
      by_cases g : l.1 = x
      · rw [if_pos g]
        subst g
        have := hv w hw
        exact ⟨_, rfl, by omega, fun _ => this, fun z => absurd rfl z⟩
      · rw [if_neg g]
        exact ⟨w, hw, Int.le_refl _, fun z => absurd z g, fun _ => rfl⟩
    have satk : ∀ l' : NL, l'.2.1 ≠ l.1 → Sat s.ts l' → Sat (low j l t s).ts l' := fun l' g h t' ht' => by
      rw [gt, if_neg (Ne.symm g)] at ht'
      obtain ⟨w, h1, h2⟩ := h t' ht'
      obtain ⟨w', h3, h4, _⟩ := dec _ _ h1
      exact ⟨w', h3, by omega⟩
    refine ⟨c + 1, fun x => if l.1 = x then c + 1 else T x, fun x => if l.1 = x then r else L x, ?_⟩
    refine ⟨by rw [← V.lt]; exact List.length_set, by rw [← V.lc]; exact List.length_set, V.ok, fun v i hi => ?_, fun v h => ?_, fun v => ?_, fun v => ?_, fun v h => ?_, fun v h => ?_, fun i l' h1 h2 h3 => ?_, fun i l' h1 h2 h3 => ?_, fun v h => ?_⟩
    · rw [gc] at hi
      by_cases g : l.1 = v
      · subst g
        rw [if_pos rfl] at hi
        cases hi
        obtain ⟨tu, h1, h2, h3, h4⟩ := dec _ _ ht
        refine ⟨l, t + l.2.2, tu, hl, rfl, by rw [gt, if_pos rfl], h1, by omega, fun q => ?_, ?_⟩
        · by_cases g2 : l.1 = l.2.1
          · have := h3 g2
            omega
          · show (if l.1 = l.2.1 then c + 1 else T l.2.1) < (if l.1 = l.1 then c + 1 else T l.1)
            rw [if_neg g2, if_pos rfl]
            have := V.cl l.2.1
            omega
        · show (if l.1 = l.1 then r else L l.1) ≤ (if l.1 = l.2.1 then r else L l.2.1) + 1
          rw [if_pos rfl]
          split <;> omega
      · rw [if_neg g] at hi
        obtain ⟨l', tv, tu, h1, h2, h3, h4, h5, h6, h7⟩ := V.cm v i hi
        obtain ⟨tu', k1, k2, k3, k4⟩ := dec _ _ h4
        refine ⟨l', tv, tu', h1, h2, by rw [gt, if_neg g]; exact h3, k1, by omega, fun q => ?_, ?_⟩
        · by_cases g2 : l.1 = l'.2.1
          · have := k3 g2
            omega
          · have := k4 g2
            show (if l.1 = l'.2.1 then c + 1 else T l'.2.1) < (if l.1 = v then c + 1 else T v)
            rw [if_neg g2, if_neg g]
            exact h6 (by omega)
        · show (if l.1 = v then r else L v) ≤ (if l.1 = l'.2.1 then r else L l'.2.1) + 1
          rw [if_neg g]
          have := V.lr v
          split <;> omega
    · rw [gc] at h
      by_cases g : l.1 = v
      · rw [if_pos g] at h
        cases h
      · rw [if_neg g] at h
        rw [gt, if_neg g]
        exact V.no v h
    · show (if l.1 = v then c + 1 else T v) ≤ c + 1
      have := V.cl v
      split <;> omega
    · show (if l.1 = v then r else L v) ≤ r
      have := V.lr v
      split <;> omega
    · rw [gc]
      by_cases g : l.1 = v
      · rw [if_pos g]
        exact fun z => nomatch z
      · rw [if_neg g]
        have h : 1 ≤ (if l.1 = v then r else L v) := h
        rw [if_neg g] at h
        exact V.l1 v h
    · have h : some l.1 = some v := h
      cases h
      show (if l.1 = l.1 then r else L l.1) = r
      rw [if_pos rfl]
    · have h3 : (if l.1 = l'.2.1 then r else L l'.2.1) < r := h3
      have g : ¬ l.1 = l'.2.1 := fun z => by rw [if_pos z] at h3; omega
      rw [if_neg g] at h3
      by_cases gj : i = j
      · subst gj
        rw [hl] at h1
        cases h1
        intro t' ht'
        rw [gt, if_neg g, ht] at ht'
        cases ht'
        exact ⟨t + l.2.2, by rw [gt, if_pos rfl], Int.le_refl _⟩
      · exact satk l' (Ne.symm g) (V.dn i l' h1 (by omega) h3)
    · have h3 : (if l.1 = l'.2.1 then r else L l'.2.1) + 1 < r := h3
      have g : ¬ l.1 = l'.2.1 := fun z => by rw [if_pos z] at h3; omega
      rw [if_neg g] at h3
      exact satk l' (Ne.symm g) (V.un i l' h1 (by omega) h3)
    · obtain ⟨w, hw⟩ := Option.isSome_iff_exists.mp (V.so v h)
      obtain ⟨w', h1, _⟩ := dec v w hw
      rw [h1]
      rfl
theorem Iv.steps {ls : List NL} {bg : List (Option Int)} {n r : Nat} : ∀ (xs : List NL) (j c : Nat) (T L : Nat → Nat) (s : BS), ls.drop j = xs → Iv ls bg n r j c T L s → ∃ c' T' L', Iv ls bg n r ls.length c' T' L' (rls j xs s)
  | [], j, c, T, L, s, e, V => by
    have : ls.length ≤ j := by
      have := congrArg List.length e
      rw [List.length_drop] at this
      simp at this
      omega
    refine ⟨c, T, L, { V with dn := fun i l h1 h2 h3 => V.dn i l h1 (by omega) h3, un := fun i l h1 h2 h3 => ?_ }⟩
    have := (List.getElem?_eq_some_iff.mp h1).1
    omega
  | x :: xs, j, c, T, L, s, e, V => by
    have hx : ls[j]? = some x := by
      have := congrArg List.head? e
      rw [List.head?_drop] at this
      exact this
    obtain ⟨c', T', L', V'⟩ := V.step hx
    refine Iv.steps xs (j + 1) c' T' L' _ ?_ V'
    rw [← List.drop_drop, e]
    rfl
/-- a whole round -/
theorem Iv.round {ls : List NL} {bg : List (Option Int)} {n r c : Nat} {T L : Nat → Nat} {s : BS} (V : Iv ls bg n r ls.length c T L s) : ∃ c' T' L', Iv ls bg n (r + 1) ls.length c' T' L' (rnd ls s) := by
  refine Iv.steps ls 0 c T L _ rfl { V with lr := fun v => Nat.le_succ_of_le (V.lr v), lo := fun v h => (by cases h), dn := fun i l h1 h2 h3 => absurd h2 (Nat.not_lt_zero i), un := fun i l h1 h2 h3 => V.dn i l h1 (List.getElem?_eq_some_iff.mp h1).1 (by omega) }
end Bf
set_option Elab.async false
set_option linter.all false
set_option maxRecDepth 100000
/-! the ends of the rounds: times that keep all links, or a ring below 0 -/
namespace Bf
def bs0 (bg : List (Option Int)) : BS := ⟨bg, bg.map fun _ => none, none⟩
def IxOk (n : Nat) (ls : List NL) : Prop := ∀ l ∈ ls, l.1 < n ∧ l.2.1 < n
theorem gO_none {α β : Type} (xs : List β) (i : Nat) : gO (xs.map fun _ => (none : Option α)) i = none := by
  unfold gO
  rw [List.getElem?_map]
  cases xs[i]? <;> rfl
theorem Iv.start {ls : List NL} {bg : List (Option Int)} (ok : IxOk bg.length ls) : Iv ls bg bg.length 0 ls.length 0 (fun _ => 0) (fun _ => 0) (bs0 bg) :=
  ⟨rfl, List.length_map _, ok, fun v i h => (by rw [show gO (bs0 bg).cm v = none from gO_none bg v] at h; cases h), fun v _ => rfl, fun v => Nat.le_refl _, fun v => Nat.le_refl _, fun v h => (by cases h), fun v h => (by cases h), fun i l h1 h2 h3 => absurd h3 (Nat.not_lt_zero _), fun i l h1 h2 h3 => absurd h3 (Nat.not_lt_zero _), fun v h => h⟩
theorem Iv.runs {ls : List NL} {bg : List (Option Int)} {n : Nat} : ∀ (k r c : Nat) (T L : Nat → Nat) (s : BS), Iv ls bg n r ls.length c T L s →
    ((run ls k s).2 = true → ∃ r' c' T' L', Iv ls bg n r' ls.length c' T' L' (run ls k s).1 ∧ (run ls k s).1.lo = none ∧ ∀ l ∈ ls, Sat (run ls k s).1.ts l) ∧
    ((run ls k s).2 = false → 1 ≤ k → ∃ c' T' L', Iv ls bg n (r + k) ls.length c' T' L' (run ls k s).1 ∧ (run ls k s).1.lo ≠ none)
  | 0, r, c, T, L, s, V => ⟨fun h => (by cases h), fun _ h => absurd h (Nat.not_succ_le_zero 0)⟩
  | k + 1, r, c, T, L, s, V => by
    obtain ⟨c', T', L', V'⟩ := V.round
    have un : run ls (k + 1) s = if (rnd ls s).lo = none then (rnd ls s, true) else run ls k (rnd ls s) := rfl
    by_cases g : (rnd ls s).lo = none
    · rw [un, if_pos g]
      refine ⟨fun _ => ⟨_, _, _, _, V', g, ?_⟩, fun h => (by cases h)⟩
      obtain ⟨h1, h2⟩ := rls_none ls 0 _ g
      have e : (rnd ls s).ts = s.ts := by
        unfold rnd
        rw [h1]
      rw [e]
      exact h2
    · rw [un, if_neg g]
      obtain ⟨h1, h2⟩ := Iv.runs k (r + 1) c' T' L' _ V'
      refine ⟨h1, fun h _ => ?_⟩
      by_cases k0 : k = 0
      · subst k0
        exact ⟨c', T', L', V', g⟩
      · obtain ⟨c2, T2, L2, V2, q⟩ := h2 h (by omega)
        refine ⟨c2, T2, L2, ?_, q⟩
        rw [show r + (k + 1) = r + 1 + k by omega]
        exact V2
/-! going back -/
def nx (ls : List NL) (cm : List (Option Nat)) (x : Nat) : Nat := (((gO cm x).bind fun i => ls[i]?).map fun l => l.2.1).getD 0
def wt (ls : List NL) (cm : List (Option Nat)) (x : Nat) : Int := (((gO cm x).bind fun i => ls[i]?).map fun l => l.2.2).getD 0
def ic (cm : List (Option Nat)) (x : Nat) : Nat := (gO cm x).getD 0
def itN (ls : List NL) (cm : List (Option Nat)) : Nat → Nat → Nat
  | 0, x => x
  | k + 1, x => itN ls cm k (nx ls cm x)
def smW (ls : List NL) (cm : List (Option Nat)) : Nat → Nat → Int
  | 0, _ => 0
  | k + 1, x => wt ls cm x + smW ls cm k (nx ls cm x)
def pth (ls : List NL) (cm : List (Option Nat)) : Nat → Nat → List Nat
  | 0, _ => []
  | k + 1, x => ic cm x :: pth ls cm k (nx ls cm x)
section
variable {ls : List NL} {cm : List (Option Nat)}
theorem nx_at {x i : Nat} {l : NL} (h : gO cm x = some i) (hl : ls[i]? = some l) : nx ls cm x = l.2.1 ∧ wt ls cm x = l.2.2 ∧ ic cm x = i := by
  unfold nx wt ic
  rw [h]
  show ((ls[i]?).map _).getD 0 = _ ∧ ((ls[i]?).map _).getD 0 = _ ∧ _
  rw [hl]
  exact ⟨rfl, rfl, rfl⟩
theorem itN_add : ∀ (a b x : Nat), itN ls cm (a + b) x = itN ls cm b (itN ls cm a x)
  | 0, b, x => by rw [Nat.zero_add]; rfl
  | a + 1, b, x => by
    rw [show a + 1 + b = (a + b) + 1 by omega]
    exact itN_add a b (nx ls cm x)
theorem itN_succ (k x : Nat) : itN ls cm (k + 1) x = nx ls cm (itN ls cm k x) := itN_add k 1 x
theorem pth_snoc : ∀ (k x : Nat), pth ls cm (k + 1) x = pth ls cm k x ++ [ic cm (itN ls cm k x)]
  | 0, x => rfl
  | k + 1, x => by
    show ic cm x :: pth ls cm (k + 1) (nx ls cm x) = _
    rw [pth_snoc k]
    rfl
end
/-- indexes of links that lead on from a to b -/
def Leads (ls : List NL) : List Nat → Nat → Nat → Prop
  | [], a, b => a = b
  | i :: is, a, b => ∃ l, ls[i]? = some l ∧ l.2.1 = a ∧ Leads ls is l.1 b
def smI (ls : List NL) (is : List Nat) : Int := (is.map fun i => (ls[i]?.map fun l => l.2.2).getD 0).sum
theorem Leads.app {ls : List NL} : ∀ {is js : List Nat} {a b c : Nat}, Leads ls is a b → Leads ls js b c → Leads ls (is ++ js) a c
  | [], _, _, _, _, h, k => by cases h; exact k
  | _ :: _, _, _, _, _, ⟨l, h1, h2, h3⟩, k => ⟨l, h1, h2, h3.app k⟩
theorem smI_app {ls : List NL} (is js : List Nat) : smI ls (is ++ js) = smI ls is + smI ls js := by
  unfold smI
  rw [List.map_append, List.sum_append]
/-- times φ keep all links -/
def Keeps (ls : List NL) (φ : Nat → Int) : Prop := ∀ l ∈ ls, φ l.1 - φ l.2.1 ≤ l.2.2
theorem Leads.bound {ls : List NL} {φ : Nat → Int} (K : Keeps ls φ) : ∀ {is : List Nat} {a b : Nat}, Leads ls is a b → φ b - φ a ≤ smI ls is
  | [], a, b, h => by
    cases h
    show φ a - φ a ≤ 0
    omega
  | i :: is, a, b, ⟨l, h1, h2, h3⟩ => by
    have h := h3.bound K
    have k := K l (List.mem_of_getElem? h1)
    have e : smI ls (i :: is) = l.2.2 + smI ls is := by
      unfold smI
      rw [List.map_cons, List.sum_cons, h1]
      rfl
    subst h2
    omega
theorem pth_leads {ls : List NL} {cm : List (Option Nat)} : ∀ (k x : Nat), (∀ m, m < k → ∃ i l, gO cm (itN ls cm m x) = some i ∧ ls[i]? = some l ∧ l.1 = itN ls cm m x) → Leads ls (pth ls cm k x).reverse (itN ls cm k x) x ∧ smI ls (pth ls cm k x).reverse = smW ls cm k x
  | 0, x, _ => ⟨rfl, rfl⟩
  | k + 1, x, h => by
    obtain ⟨i, l, h1, h2, h3⟩ := h 0 (by omega)
    obtain ⟨e1, e2, e3⟩ := nx_at h1 h2
    have h3 : l.1 = x := h3
    obtain ⟨k1, k2⟩ := pth_leads k (nx ls cm x) fun m hm => h (m + 1) (by omega)
    show Leads ls (ic cm x :: pth ls cm k (nx ls cm x)).reverse (itN ls cm k (nx ls cm x)) x ∧ smI ls (ic cm x :: pth ls cm k (nx ls cm x)).reverse = wt ls cm x + smW ls cm k (nx ls cm x)
    have e3 : ic cm x = i := e3
    have e2 : wt ls cm x = l.2.2 := e2
    rw [List.reverse_cons, e3]
    refine ⟨k1.app ⟨l, h2, e1.symm, h3⟩, ?_⟩
    rw [smI_app, k2, e2]
    have : smI ls [i] = l.2.2 := by
      unfold smI
      rw [List.map_cons, List.map_nil, List.sum_cons, List.sum_nil, h2]
      show l.2.2 + 0 = l.2.2
      omega
    omega
/-- numbers below n that differ are n at most -/
theorem pigeon : ∀ (n : Nat) (xs : List Nat), xs.Nodup → (∀ x ∈ xs, x < n) → xs.length ≤ n
  | 0, xs, _, h => by
    cases xs with
    | nil => exact Nat.le_refl _
    | cons x xs => exact absurd (h x List.mem_cons_self) (Nat.not_lt_zero _)
  | n + 1, xs, d, h => by
    have d2 : (xs.erase n).Nodup := d.erase n
    have k := pigeon n (xs.erase n) d2 fun x hx => by
      have h1 := h x (List.mem_of_mem_erase hx)
      have h2 : x ≠ n := fun e => by
        subst e
        exact (List.Nodup.mem_erase_iff d).mp hx |>.1 rfl
      omega
    by_cases g : n ∈ xs
    · rw [List.length_erase_of_mem g] at k
      omega
    · rw [List.erase_of_not_mem g] at k
      omega
theorem twice (n : Nat) (f : Nat → Nat) (h : ∀ k, k ≤ n → f k < n) : ∃ i j, i < j ∧ j ≤ n ∧ f i = f j := by
  refine Classical.byContradiction fun z => ?_
  have nd : ((List.range (n + 1)).map f).Nodup := by
    refine List.pairwise_map.mpr (List.Pairwise.imp_of_mem (R := fun a b => a < b) (fun {a b} ha hb hab => fun e => z ⟨a, b, hab, by have := List.mem_range.mp hb; omega, e⟩) List.pairwise_lt_range)
  have := pigeon n _ nd fun x hx => by
    obtain ⟨k, hk, rfl⟩ := List.mem_map.mp hx
    exact h k (by have := List.mem_range.mp hk; omega)
  rw [List.length_map, List.length_range] at this
  omega
end Bf
namespace Bf
/-- what came before is there -/
def Has (ls : List NL) (cm : List (Option Nat)) (x : Nat) : Prop := ∃ i l, gO cm x = some i ∧ ls[i]? = some l ∧ l.1 = x
section
variable {ls : List NL} {bg : List (Option Int)} {n r j c : Nat} {T L : Nat → Nat} {s : BS}
theorem Iv.has (V : Iv ls bg n r j c T L s) {x : Nat} (h : gO s.cm x ≠ none) : Has ls s.cm x := by
  cases e : gO s.cm x with
  | none => exact absurd e h
  | some i =>
    obtain ⟨l, _, _, h1, h2, _⟩ := V.cm x i e
    exact ⟨i, l, e, h1, h2⟩
theorem Iv.lt_of (V : Iv ls bg n r j c T L s) {x : Nat} (h : gO s.cm x ≠ none) : x < n := by
  cases e : gO s.cm x with
  | none => exact absurd e h
  | some i =>
    have := gO_lt e
    rw [V.lc] at this
    exact this
/-- one step back -/
theorem Iv.one (V : Iv ls bg n r j c T L s) {x : Nat} (h : gO s.cm x ≠ none) : ∃ tv tu, gO s.ts x = some tv ∧ gO s.ts (nx ls s.cm x) = some tu ∧ tu + wt ls s.cm x ≤ tv ∧ (tu + wt ls s.cm x = tv → T (nx ls s.cm x) < T x) ∧ L x ≤ L (nx ls s.cm x) + 1 := by
  cases e : gO s.cm x with
  | none => exact absurd e h
  | some i =>
    obtain ⟨l, tv, tu, h1, h2, h3, h4, h5, h6, h7⟩ := V.cm x i e
    obtain ⟨e1, e2, _⟩ := nx_at e h1
    rw [e1, e2]
    exact ⟨tv, tu, h3, h4, h5, h6, h7⟩
theorem Iv.chainL (V : Iv ls bg n r j c T L s) : ∀ (k x : Nat), k < L x → gO s.cm (itN ls s.cm k x) ≠ none ∧ L x ≤ L (itN ls s.cm k x) + k
  | 0, x, h => ⟨V.l1 x h, Nat.le_refl _⟩
  | k + 1, x, h => by
    obtain ⟨tv, tu, _, _, _, _, h7⟩ := V.one (V.l1 x (by omega))
    obtain ⟨h1, h2⟩ := V.chainL k (nx ls s.cm x) (by omega)
    exact ⟨h1, by show L x ≤ L (itN ls s.cm k (nx ls s.cm x)) + (k + 1); omega⟩
theorem Iv.chainT (V : Iv ls bg n r j c T L s) : ∀ (k x : Nat), (∀ m, m ≤ k → gO s.cm (itN ls s.cm m x) ≠ none) → ∃ tx ty, gO s.ts x = some tx ∧ gO s.ts (itN ls s.cm (k + 1) x) = some ty ∧ ty + smW ls s.cm (k + 1) x ≤ tx ∧ (ty + smW ls s.cm (k + 1) x = tx → T (itN ls s.cm (k + 1) x) < T x)
  | 0, x, h => by
    obtain ⟨tv, tu, h1, h2, h3, h4, _⟩ := V.one (x := x) (h 0 (Nat.le_refl _))
    exact ⟨tv, tu, h1, h2, by show tu + (wt ls s.cm x + 0) ≤ tv; omega, fun e => h4 (by have e : tu + (wt ls s.cm x + 0) = tv := e; omega)⟩
  | k + 1, x, h => by
    obtain ⟨tv, tu, h1, h2, h3, h4, _⟩ := V.one (x := x) (h 0 (Nat.zero_le _))
    obtain ⟨tx, ty, k1, k2, k3, k4⟩ := V.chainT k (nx ls s.cm x) fun m hm => h (m + 1) (by omega)
    rw [h2] at k1
    cases k1
    have h3 : tu + wt ls s.cm x ≤ tv := h3
    have h4 : tu + wt ls s.cm x = tv → T (nx ls s.cm x) < T x := h4
    refine ⟨tv, ty, h1, k2, ?_, fun e => ?_⟩
    · show ty + (wt ls s.cm x + smW ls s.cm (k + 1) (nx ls s.cm x)) ≤ tv
      omega
    · have e : ty + (wt ls s.cm x + smW ls s.cm (k + 1) (nx ls s.cm x)) = tv := e
      have := k4 (by omega)
      have := h4 (by omega)
      exact Nat.lt_trans ‹T (itN ls s.cm (k + 1) (nx ls s.cm x)) < _› this
/-- a ring in what came before is below 0 -/
theorem Iv.ring (V : Iv ls bg n r j c T L s) {x d : Nat} (h : ∀ m, gO s.cm (itN ls s.cm m x) ≠ none) (d1 : 1 ≤ d) (e : itN ls s.cm d x = x) : smW ls s.cm d x < 0 := by
  obtain ⟨k, rfl⟩ : ∃ k, d = k + 1 := ⟨d - 1, by omega⟩
  obtain ⟨tx, ty, h1, h2, h3, h4⟩ := V.chainT k x fun m _ => h m
  rw [e] at h2 h4
  rw [h1] at h2
  cases h2
  by_cases g : smW ls s.cm (k + 1) x = 0
  · have := h4 (by omega)
    omega
  · omega
/-- behind n rounds and one more, each with a lowering: n steps back there is a ring -/
theorem Iv.found (V : Iv ls bg n (n + 1) j c T L s) {v : Nat} (hv : s.lo = some v) : (∀ m, gO s.cm (itN ls s.cm m v) ≠ none) ∧ ∃ d, 1 ≤ d ∧ itN ls s.cm d (itN ls s.cm n v) = itN ls s.cm n v := by
  have lv := V.lo v hv
  have has : ∀ k, k ≤ n → gO s.cm (itN ls s.cm k v) ≠ none := fun k hk => (V.chainL k v (by omega)).1
  obtain ⟨i, jj, h1, h2, h3⟩ := twice n (fun k => itN ls s.cm k v) fun k hk => V.lt_of (has k hk)
  have h3 : itN ls s.cm i v = itN ls s.cm jj v := h3
  have per : ∀ m, itN ls s.cm (jj + m) v = itN ls s.cm (i + m) v := fun m => by rw [itN_add, itN_add, h3]
  have back : ∀ k, ∃ k', k' ≤ n ∧ itN ls s.cm k v = itN ls s.cm k' v := fun k => by
    induction k using Nat.strongRecOn with
    | _ k ih =>
      by_cases g : k ≤ n
      · exact ⟨k, g, rfl⟩
      · obtain ⟨k', q1, q2⟩ := ih (i + (k - jj)) (by omega)
        refine ⟨k', q1, ?_⟩
        rw [← q2, ← per, show jj + (k - jj) = k by omega]
  refine ⟨fun m => ?_, jj - i, by omega, ?_⟩
  · obtain ⟨k', q1, q2⟩ := back m
    rw [q2]
    exact has k' q1
  · rw [← itN_add, show n + (jj - i) = jj + (n - i) by omega, per, show i + (n - i) = n by omega]
end
end Bf
set_option Elab.async false
set_option linter.all false
set_option maxRecDepth 100000
/-! what the rounds end with -/
namespace Bf
/-- the rounds from bg: n and one more -/
def sett (ls : List NL) (bg : List (Option Int)) : BS × Bool := run ls (bg.length + 1) (bs0 bg)
section
variable {ls : List NL} {bg : List (Option Int)}
/-- a ring: n steps back from the place lowered last -/
theorem sett_ring (ok : IxOk bg.length ls) (h : (sett ls bg).2 = false) : ∃ v, (sett ls bg).1.lo = some v ∧ (∀ m, Has ls (sett ls bg).1.cm (itN ls (sett ls bg).1.cm m v)) ∧ (∃ d, 1 ≤ d ∧ itN ls (sett ls bg).1.cm d (itN ls (sett ls bg).1.cm bg.length v) = itN ls (sett ls bg).1.cm bg.length v) ∧
    (∀ d, 1 ≤ d → itN ls (sett ls bg).1.cm d (itN ls (sett ls bg).1.cm bg.length v) = itN ls (sett ls bg).1.cm bg.length v → smW ls (sett ls bg).1.cm d (itN ls (sett ls bg).1.cm bg.length v) < 0) := by
  obtain ⟨c, T, L, V, nl⟩ := ((Iv.start ok).runs (bg.length + 1) 0 0 _ _ _).2 h (by omega)
  rw [Nat.zero_add] at V
  have V : Iv ls bg bg.length (bg.length + 1) ls.length c T L (sett ls bg).1 := V
  have nl : (sett ls bg).1.lo ≠ none := nl
  obtain ⟨v, hv⟩ := Option.ne_none_iff_exists'.mp nl
  obtain ⟨h1, h2⟩ := V.found hv
  refine ⟨v, hv, fun m => V.has (h1 m), h2, fun d d1 e => V.ring (fun m => ?_) d1 e⟩
  rw [← itN_add]
  exact h1 _
/-- times that keep all links, so far as they are -/
theorem sett_kept (ok : IxOk bg.length ls) (h : (sett ls bg).2 = true) : (sett ls bg).1.ts.length = bg.length ∧ (sett ls bg).1.cm.length = bg.length ∧ (sett ls bg).1.lo = none ∧ (∀ l ∈ ls, Sat (sett ls bg).1.ts l) ∧ (∀ v, (gO bg v).isSome = true → (gO (sett ls bg).1.ts v).isSome = true) ∧
    ∃ T : Nat → Nat, (∀ v, gO (sett ls bg).1.cm v = none → gO (sett ls bg).1.ts v = gO bg v) ∧ ∀ v, gO (sett ls bg).1.cm v ≠ none → ∃ i l tv tu, gO (sett ls bg).1.cm v = some i ∧ ls[i]? = some l ∧ l.1 = v ∧ gO (sett ls bg).1.ts v = some tv ∧ gO (sett ls bg).1.ts l.2.1 = some tu ∧ tu + l.2.2 = tv ∧ T l.2.1 < T v := by
  obtain ⟨r, c, T, L, V, hlo, hs⟩ := ((Iv.start ok).runs (bg.length + 1) 0 0 _ _ _).1 h
  have V : Iv ls bg bg.length r ls.length c T L (sett ls bg).1 := V
  have hs : ∀ l ∈ ls, Sat (sett ls bg).1.ts l := hs
  refine ⟨V.lt, V.lc, hlo, hs, V.so, T, V.no, fun v hv => ?_⟩
  cases e : gO (sett ls bg).1.cm v with
  | none => exact absurd e hv
  | some i =>
    obtain ⟨l, tv, tu, h1, h2, h3, h4, h5, h6, _⟩ := V.cm v i e
    obtain ⟨w, k1, k2⟩ := hs l (List.mem_of_getElem? h1) tu h4
    rw [h2, h3] at k1
    cases k1
    have eq : tu + l.2.2 = tv := by omega
    exact ⟨i, l, tv, tu, rfl, h1, h2, h3, h4, eq, h6 eq⟩
/-- the path of a ring, told from its start -/
theorem ring_path {cm : List (Option Nat)} {p d : Nat} (h : ∀ m, Has ls cm (itN ls cm m p)) (e : itN ls cm d p = p) : Leads ls (pth ls cm d p).reverse p p ∧ smI ls (pth ls cm d p).reverse = smW ls cm d p := by
  obtain ⟨h1, h2⟩ := pth_leads d p fun m _ => h m
  rw [e] at h1
  exact ⟨h1, h2⟩
/-- where times keep all links, no ring is found -/
theorem sett_keeps {φ : Nat → Int} (ok : IxOk bg.length ls) (K : Keeps ls φ) : (sett ls bg).2 = true := by
  cases h : (sett ls bg).2 with
  | true => rfl
  | false =>
    obtain ⟨v, _, h1, ⟨d, d1, e⟩, h2⟩ := sett_ring ok h
    have neg := h2 d d1 e
    obtain ⟨k1, k2⟩ := ring_path (fun m => by rw [← itN_add]; exact h1 _) e
    have := k1.bound K
    omega
/-- all begun: the times keep all links -/
theorem sett_all (ok : IxOk bg.length ls) (h : (sett ls bg).2 = true) (al : ∀ v, v < bg.length → (gO bg v).isSome = true) : Keeps ls fun v => (gO (sett ls bg).1.ts v).getD 0 := fun l hl => by
  obtain ⟨_, _, _, h3, h4, _⟩ := sett_kept ok h
  obtain ⟨o1, o2⟩ := ok l hl
  obtain ⟨t, ht⟩ := Option.isSome_iff_exists.mp (h4 l.2.1 (al _ o2))
  obtain ⟨v, k1, k2⟩ := h3 l hl t ht
  show (gO _ l.1).getD 0 - (gO _ l.2.1).getD 0 ≤ l.2.2
  rw [ht, k1]
  show v - t ≤ l.2.2
  omega
end
end Bf
set_option Elab.async false
set_option linter.all false
set_option maxRecDepth 100000
/-! rings cut at their first return; times from one place; times with a difference -/
namespace Bf
theorem first_ret {f : Nat → Nat} {p : Nat} : ∀ d, 1 ≤ d → f d = p → ∃ d', 1 ≤ d' ∧ d' ≤ d ∧ f d' = p ∧ ∀ m, 1 ≤ m → m < d' → f m ≠ p := by
  intro d
  induction d using Nat.strongRecOn with
  | _ d ih =>
    intro d1 e
    by_cases g : ∃ m, 1 ≤ m ∧ m < d ∧ f m = p
    · obtain ⟨m, m1, m2, em⟩ := g
      obtain ⟨d', h1, h2, h3⟩ := ih m m2 m1 em
      exact ⟨d', h1, by omega, h3⟩
    · exact ⟨d, d1, Nat.le_refl _, e, fun m m1 m2 em => g ⟨m, m1, m2, em⟩⟩
section
variable {ls : List NL} {cm : List (Option Nat)}
theorem Has.lt {x : Nat} (h : Has ls cm x) : x < cm.length := by
  obtain ⟨i, l, h1, _⟩ := h
  exact gO_lt h1
/-- a walk back that does not come to p before d steps is short -/
theorem walk_short {x p d : Nat} (h : ∀ m, m < d → Has ls cm (itN ls cm m x)) (e : itN ls cm d x = p) (f : ∀ m, 1 ≤ m → m < d → itN ls cm m x ≠ p) : d ≤ cm.length := by
  refine Nat.le_of_not_lt fun z => ?_
  obtain ⟨i, j, h1, h2, h3⟩ := twice cm.length (fun k => itN ls cm k x) fun k hk => (h k (by omega)).lt
  have h3 : itN ls cm i x = itN ls cm j x := h3
  refine f (i + (d - j)) (by omega) (by omega) ?_
  rw [itN_add, h3, ← itN_add, show j + (d - j) = d by omega, e]
end
/-- one place begun -/
def og (c o : Nat) : List (Option Int) := (List.range c).map fun i => if i = o then some 0 else none
theorem og_len (c o : Nat) : (og c o).length = c := by unfold og; rw [List.length_map, List.length_range]
theorem og_at {c o v : Nat} : gO (og c o) v = if v < c then (if v = o then some 0 else none) else none := by
  unfold gO og
  rw [List.getElem?_map]
  by_cases h : v < c
  · rw [List.getElem?_range h, if_pos h]
    rfl
  · rw [List.getElem?_eq_none (by rw [List.length_range]; omega), if_neg h]
    rfl
section
variable {ls : List NL} {c o : Nat}
/-- from a place that is reached the way leads back to the origin -/
theorem og_chain (ok : IxOk c ls) (oc : o < c) (h : (sett ls (og c o)).2 = true) : gO (sett ls (og c o)).1.cm o = none ∧ gO (sett ls (og c o)).1.ts o = some 0 ∧
    ∀ v t, gO (sett ls (og c o)).1.ts v = some t → ∃ k, k ≤ c ∧ itN ls (sett ls (og c o)).1.cm k v = o ∧ (∀ m, m < k → Has ls (sett ls (og c o)).1.cm (itN ls (sett ls (og c o)).1.cm m v) ∧ itN ls (sett ls (og c o)).1.cm m v ≠ o) ∧ smW ls (sett ls (og c o)).1.cm k v = t := by
  have ok' : IxOk (og c o).length ls := by rw [og_len]; exact ok
  obtain ⟨l1, l2, _, sat, so, T, k1, k2⟩ := sett_kept ok' h
  rw [og_len] at l1 l2
  generalize (sett ls (og c o)).1 = s at *
  obtain ⟨t0, ht0⟩ := Option.isSome_iff_exists.mp (so o (by rw [og_at, if_pos oc, if_pos rfl]; rfl))
  have main : ∀ n v t, T v = n → gO s.ts v = some t → ∃ k, itN ls s.cm k v = o ∧ (∀ m, m < k → Has ls s.cm (itN ls s.cm m v)) ∧ smW ls s.cm k v + t0 = t ∧ (1 ≤ k → T o < T v) ∧ (gO s.cm v ≠ none → 1 ≤ k) := by
    intro n
    induction n using Nat.strongRecOn with
    | _ n ih =>
      intro v t hn ht
      cases hc : gO s.cm v with
      | none =>
        have e := k1 v hc
        rw [ht, og_at] at e
        by_cases g : v < c
        · rw [if_pos g] at e
          by_cases g2 : v = o
          · subst g2
            rw [ht0] at ht
            cases ht
            exact ⟨0, rfl, fun m hm => absurd hm (Nat.not_lt_zero m), Int.zero_add _, fun z => absurd z (by decide), fun z => absurd rfl z⟩
          · rw [if_neg g2] at e
            cases e
        · rw [if_neg g] at e
          cases e
      | some i =>
        obtain ⟨i', l, tv, tu, h1, h2, h3, h4, h5, h6, h7⟩ := k2 v (by rw [hc]; exact fun z => nomatch z)
        obtain ⟨e1, e2, _⟩ := nx_at h1 h2
        rw [h4] at ht
        cases ht
        obtain ⟨k, q1, q2, q3, q4, q5⟩ := ih (T l.2.1) (by omega) l.2.1 tu rfl h5
        refine ⟨k + 1, ?_, fun m hm => ?_, ?_, fun _ => ?_, fun _ => by omega⟩
        · show itN ls s.cm k (nx ls s.cm v) = o
          rw [e1]
          exact q1
        · cases m with
          | zero => exact ⟨i', l, h1, h2, h3⟩
          | succ m =>
            show Has ls s.cm (itN ls s.cm m (nx ls s.cm v))
            rw [e1]
            exact q2 m (by omega)
        · show wt ls s.cm v + smW ls s.cm k (nx ls s.cm v) + t0 = t
          rw [e1, e2]
          omega
        · by_cases g : 1 ≤ k
          · have := q4 g
            omega
          · have : k = 0 := by omega
            subst this
            have q1 : l.2.1 = o := q1
            rw [q1] at h7
            exact h7
  have c0 : gO s.cm o = none := by
    cases hc : gO s.cm o with
    | none => rfl
    | some i =>
      obtain ⟨k, _, _, _, q4, q5⟩ := main _ o t0 rfl ht0
      have := q4 (q5 (by rw [hc]; exact fun z => nomatch z))
      omega
  have z0 : t0 = 0 := by
    have := k1 o c0
    rw [ht0, og_at, if_pos oc, if_pos rfl] at this
    exact Option.some.inj this
  subst z0
  refine ⟨c0, ht0, fun v t ht => ?_⟩
  obtain ⟨k, q1, q2, q3, _⟩ := main _ v t rfl ht
  have q2' : ∀ m, m < k → Has ls s.cm (itN ls s.cm m v) ∧ itN ls s.cm m v ≠ o := fun m hm => ⟨q2 m hm, fun z => by
    obtain ⟨i, l, h1, _⟩ := q2 m hm
    rw [z, c0] at h1
    cases h1⟩
  refine ⟨k, ?_, q1, q2', by omega⟩
  have := walk_short q2 q1 fun m _ hm => (q2' m hm).2
  rw [l2] at this
  exact this
end
/-! times raised where nothing leads; the times of two, joined -/
def rz (ts : List (Option Int)) (base : Nat → Int) : List NL → Int → Int
  | [], r => r
  | l :: ls, r => rz ts base ls (match gO ts l.1, gO ts l.2.1 with
    | some t, none => max r (t - l.2.2 - base l.2.1)
    | _, _ => r)
def cpl (ts : List (Option Int)) (base : Nat → Int) (r : Int) (v : Nat) : Int := match gO ts v with
  | some t => t
  | none => base v + r
theorem rz_ge (ts : List (Option Int)) (base : Nat → Int) : ∀ (ls : List NL) (r : Int), r ≤ rz ts base ls r ∧ ∀ l ∈ ls, ∀ t, gO ts l.1 = some t → gO ts l.2.1 = none → t - l.2.2 - base l.2.1 ≤ rz ts base ls r
  | [], r => ⟨Int.le_refl _, fun l h => by cases h⟩
  | x :: ls, r => by
    have un : rz ts base (x :: ls) r = rz ts base ls (match gO ts x.1, gO ts x.2.1 with
      | some t, none => max r (t - x.2.2 - base x.2.1)
      | _, _ => r) := rfl
    obtain ⟨h1, h2⟩ := rz_ge ts base ls (match gO ts x.1, gO ts x.2.1 with
      | some t, none => max r (t - x.2.2 - base x.2.1)
      | _, _ => r)
    rw [un]
    refine ⟨Int.le_trans ?_ h1, fun l hl t ht hn => ?_⟩
    · split
      · omega
      · exact Int.le_refl _
    · rcases List.mem_cons.mp hl with rfl | hl
      · refine Int.le_trans ?_ h1
        rw [ht, hn]
        show _ ≤ max r (t - l.2.2 - base l.2.1)
        omega
      · exact h2 l hl t ht hn
theorem cpl_keeps {ls : List NL} {ts : List (Option Int)} {base : Nat → Int} (K : Keeps ls base) (S : ∀ l ∈ ls, Sat ts l) : Keeps ls (cpl ts base (rz ts base ls 0)) := fun l hl => by
  have s := S l hl
  have k := K l hl
  have r := (rz_ge ts base ls 0).2 l hl
  unfold cpl
  cases h1 : gO ts l.1 with
  | none =>
    cases h2 : gO ts l.2.1 with
    | none =>
      show base l.1 + _ - (base l.2.1 + _) ≤ l.2.2
      omega
    | some t =>
      obtain ⟨v, q, _⟩ := s t h2
      rw [h1] at q
      cases q
  | some t1 =>
    cases h2 : gO ts l.2.1 with
    | none =>
      have := r t1 h1 h2
      show t1 - (base l.2.1 + _) ≤ l.2.2
      omega
    | some t =>
      obtain ⟨v, q, q2⟩ := s t h2
      rw [h1] at q
      cases q
      show t1 - t ≤ l.2.2
      omega
/-- places not reached can be raised -/
theorem up_keeps {ls : List NL} {ts : List (Option Int)} {base : Nat → Int} (K : Keeps ls base) (S : ∀ l ∈ ls, Sat ts l) {r : Int} (r0 : 0 ≤ r) : Keeps ls fun v => if gO ts v = none then base v + r else base v := fun l hl => by
  have s := S l hl
  have k := K l hl
  show (if gO ts l.1 = none then base l.1 + r else base l.1) - (if gO ts l.2.1 = none then base l.2.1 + r else base l.2.1) ≤ l.2.2
  by_cases h1 : gO ts l.1 = none
  · by_cases h2 : gO ts l.2.1 = none
    · rw [if_pos h1, if_pos h2]
      omega
    · obtain ⟨t, ht⟩ := Option.ne_none_iff_exists'.mp h2
      obtain ⟨v, q, _⟩ := s t ht
      rw [h1] at q
      cases q
  · rw [if_neg h1]
    split <;> omega
theorem min_keeps {ls : List NL} {f g : Nat → Int} (F : Keeps ls f) (G : Keeps ls g) : Keeps ls fun v => min (f v) (g v) := fun l hl => by
  have a := F l hl
  have b := G l hl
  show min (f l.1) (g l.1) - min (f l.2.1) (g l.2.1) ≤ l.2.2
  omega
theorem max_keeps {ls : List NL} {f g : Nat → Int} (F : Keeps ls f) (G : Keeps ls g) : Keeps ls fun v => max (f v) (g v) := fun l hl => by
  have a := F l hl
  have b := G l hl
  show max (f l.1) (g l.1) - max (f l.2.1) (g l.2.1) ≤ l.2.2
  omega
theorem add_keeps {ls : List NL} {f : Nat → Int} (F : Keeps ls f) (r : Int) : Keeps ls fun v => f v + r := fun l hl => by
  have a := F l hl
  show f l.1 + r - (f l.2.1 + r) ≤ l.2.2
  omega
/-- between two differences there is each -/
theorem between {ls : List NL} {f g : Nat → Int} {a b : Nat} {m : Int} (F : Keeps ls f) (G : Keeps ls g) (h1 : g a - g b ≤ m) (h2 : m ≤ f a - f b) : ∃ φ, Keeps ls φ ∧ φ a - φ b = m := by
  refine ⟨_, min_keeps (add_keeps F (- f b)) (add_keeps G (m - g a)), ?_⟩
  show min (f a + -f b) (g a + (m - g a)) - min (f b + -f b) (g b + (m - g a)) = m
  omega
/-- two links that tie a difference -/
def tie (a b : Nat) (m : Int) : List NL := [(a, b, m), (b, a, -m)]
theorem tie_keeps {ls : List NL} {φ : Nat → Int} {a b : Nat} {m : Int} : Keeps (ls ++ tie a b m) φ ↔ Keeps ls φ ∧ φ a - φ b = m := by
  constructor
  · intro K
    refine ⟨fun l hl => K l (List.mem_append_left _ hl), ?_⟩
    have h1 := K (a, b, m) (by simp [tie])
    have h2 := K (b, a, -m) (by simp [tie])
    have h1 : φ a - φ b ≤ m := h1
    have h2 : φ b - φ a ≤ -m := h2
    omega
  · rintro ⟨K, e⟩ l hl
    rcases List.mem_append.mp hl with hl | hl
    · exact K l hl
    · simp only [tie, List.mem_cons, List.not_mem_nil, or_false] at hl
      rcases hl with rfl | rfl
      · show φ a - φ b ≤ m
        omega
      · show φ b - φ a ≤ -m
        omega
def zr (c : Nat) : List (Option Int) := (List.range c).map fun _ => some 0
theorem zr_len (c : Nat) : (zr c).length = c := by unfold zr; rw [List.length_map, List.length_range]
theorem zr_at {c v : Nat} (h : v < c) : (gO (zr c) v).isSome = true := by
  unfold gO zr
  rw [List.getElem?_map, List.getElem?_range h]
  rfl
/-- the difference m is had by times exactly if no ring is found -/
theorem tied {ls : List NL} {c a b : Nat} {m : Int} (ok : IxOk c ls) (ha : a < c) (hb : b < c) : ((sett (ls ++ tie a b m) (zr c)).2 = true ↔ ∃ φ, Keeps ls φ ∧ φ a - φ b = m) ∧
    ((sett (ls ++ tie a b m) (zr c)).2 = true → Keeps ls (fun v => (gO (sett (ls ++ tie a b m) (zr c)).1.ts v).getD 0) ∧ (gO (sett (ls ++ tie a b m) (zr c)).1.ts a).getD 0 - (gO (sett (ls ++ tie a b m) (zr c)).1.ts b).getD 0 = m) := by
  have ok' : IxOk (zr c).length (ls ++ tie a b m) := by
    rw [zr_len]
    intro l hl
    rcases List.mem_append.mp hl with hl | hl
    · exact ok l hl
    · simp only [tie, List.mem_cons, List.not_mem_nil, or_false] at hl
      rcases hl with rfl | rfl
      · exact ⟨ha, hb⟩
      · exact ⟨hb, ha⟩
  have all : (sett (ls ++ tie a b m) (zr c)).2 = true → _ := fun h => tie_keeps.mp (sett_all ok' h fun v hv => zr_at (by rw [zr_len] at hv; exact hv))
  exact ⟨⟨fun h => ⟨_, all h⟩, fun ⟨φ, K, e⟩ => sett_keeps ok' (tie_keeps.mpr ⟨K, e⟩)⟩, all⟩
end Bf
set_option Elab.async false
set_option linter.all false
set_option maxRecDepth 100000
set_option maxHeartbeats 1000000
namespace My
open PySem L2 Dw Wp
open C8 (pss_cut tCut)
def top (i : Nat) : Stmt := PySem.Challenge.pw_lastlife_k35_whole_greatest_differences.main.body.getD i (.Pass ⟨0, 0, 0, 0⟩)
abbrev s__wall : Stmt := top 0
theorem sc__wall : FnScope ["k"] ["k"] (defScope s__wall) := ⟨rfl, rfl, rfl, by decide +kernel, rfl, by decide +kernel, by decide +kernel⟩
abbrev s_BadSystem_init : Stmt := inClass (top 3) 0
theorem sc_BadSystem_init : FnScope ["self", "index", "what"] ["self", "index", "what"] (defScope s_BadSystem_init) := ⟨rfl, rfl, rfl, by decide +kernel, rfl, by decide +kernel, by decide +kernel⟩
abbrev s_BadTimes_init : Stmt := inClass (top 4) 0
theorem sc_BadTimes_init : FnScope ["self"] ["self"] (defScope s_BadTimes_init) := ⟨rfl, rfl, rfl, by decide +kernel, rfl, by decide +kernel, by decide +kernel⟩
abbrev s_NoInstant_init : Stmt := inClass (top 5) 0
theorem sc_NoInstant_init : FnScope ["self", "instant"] ["self", "instant"] (defScope s_NoInstant_init) := ⟨rfl, rfl, rfl, by decide +kernel, rfl, by decide +kernel, by decide +kernel⟩
abbrev s_NoTimes_init : Stmt := inClass (top 6) 0
theorem sc_NoTimes_init : FnScope ["self", "path"] ["self", "path"] (defScope s_NoTimes_init) := ⟨rfl, rfl, rfl, by decide +kernel, rfl, by decide +kernel, by decide +kernel⟩
abbrev s_is_integer : Stmt := top 10
theorem sc_is_integer : FnScope ["thing"] ["thing"] (defScope s_is_integer) := ⟨rfl, rfl, rfl, by decide +kernel, rfl, by decide +kernel, by decide +kernel⟩
abbrev s_is_instant : Stmt := top 11
theorem sc_is_instant : FnScope ["thing", "count"] ["thing", "count"] (defScope s_is_instant) := ⟨rfl, rfl, rfl, by decide +kernel, rfl, by decide +kernel, by decide +kernel⟩
abbrev s_are_times : Stmt := top 12
theorem sc_are_times : FnScope ["thing", "count", "time"] ["thing", "count"] (defScope s_are_times) := ⟨rfl, rfl, rfl, by decide +kernel, rfl, by decide +kernel, by decide +kernel⟩
abbrev s_link_fault : Stmt := top 13
theorem sc_link_fault : FnScope ["link", "count", "part"] ["link", "count"] (defScope s_link_fault) := ⟨rfl, rfl, rfl, by decide +kernel, rfl, by decide +kernel, by decide +kernel⟩
abbrev s_keeps_link : Stmt := top 14
theorem sc_keeps_link : FnScope ["times", "link", "one", "other", "amount"] ["times", "link"] (defScope s_keeps_link) := ⟨rfl, rfl, rfl, by decide +kernel, rfl, by decide +kernel, by decide +kernel⟩
abbrev s_System_init : Stmt := inClass (top 15) 0
theorem sc_System_init : FnScope ["self", "count", "links", "index", "link", "word"] ["self", "count", "links"] (defScope s_System_init) := ⟨rfl, rfl, rfl, by decide +kernel, rfl, by decide +kernel, by decide +kernel⟩
abbrev s_System_broken : Stmt := inClass (top 15) 1
theorem sc_System_broken : FnScope ["self", "times", "index", "link"] ["self", "times"] (defScope s_System_broken) := ⟨rfl, rfl, rfl, by decide +kernel, rfl, by decide +kernel, by decide +kernel⟩
abbrev s_System_keeps : Stmt := inClass (top 15) 2
theorem sc_System_keeps : FnScope ["self", "times"] ["self", "times"] (defScope s_System_keeps) := ⟨rfl, rfl, rfl, by decide +kernel, rfl, by decide +kernel, by decide +kernel⟩
abbrev s_System_with_links : Stmt := inClass (top 15) 3
theorem sc_System_with_links : FnScope ["self", "links"] ["self", "links"] (defScope s_System_with_links) := ⟨rfl, rfl, rfl, by decide +kernel, rfl, by decide +kernel, by decide +kernel⟩
abbrev s_System_eq : Stmt := inClass (top 15) 4
theorem sc_System_eq : FnScope ["self", "other"] ["self", "other"] (defScope s_System_eq) := ⟨rfl, rfl, rfl, by decide +kernel, rfl, by decide +kernel, by decide +kernel⟩
abbrev s_System_len : Stmt := inClass (top 15) 5
theorem sc_System_len : FnScope ["self"] ["self"] (defScope s_System_len) := ⟨rfl, rfl, rfl, by decide +kernel, rfl, by decide +kernel, by decide +kernel⟩
abbrev s_System_iter : Stmt := inClass (top 15) 6
theorem sc_System_iter : FnScope ["self"] ["self"] (defScope s_System_iter) := ⟨rfl, rfl, rfl, by decide +kernel, rfl, by decide +kernel, by decide +kernel⟩
abbrev s_check_instant : Stmt := top 16
theorem sc_check_instant : FnScope ["system", "instant"] ["system", "instant"] (defScope s_check_instant) := ⟨rfl, rfl, rfl, by decide +kernel, rfl, by decide +kernel, by decide +kernel⟩
abbrev s_are_indexes : Stmt := top 17
theorem sc_are_indexes : FnScope ["links", "path", "index"] ["links", "path"] (defScope s_are_indexes) := ⟨rfl, rfl, rfl, by decide +kernel, rfl, by decide +kernel, by decide +kernel⟩
abbrev s_has_joints : Stmt := top 18
theorem sc_has_joints : FnScope ["links", "path", "place"] ["links", "path"] (defScope s_has_joints) := ⟨rfl, rfl, rfl, by decide +kernel, rfl, by decide +kernel, by decide +kernel⟩
abbrev s_sum_of : Stmt := top 19
theorem sc_sum_of : FnScope ["links", "path", "index"] ["links", "path"] (defScope s_sum_of) := ⟨rfl, rfl, rfl, by decide +kernel, rfl, by decide +kernel, by decide +kernel⟩
abbrev s_path_fault : Stmt := top 20
theorem sc_path_fault : FnScope ["system", "path", "start", "end", "links"] ["system", "path", "start", "end"] (defScope s_path_fault) := ⟨rfl, rfl, rfl, by decide +kernel, rfl, by decide +kernel, by decide +kernel⟩
abbrev s_ring_fault : Stmt := top 21
theorem sc_ring_fault : FnScope ["links", "path"] ["links", "path"] (defScope s_ring_fault) := ⟨rfl, rfl, rfl, by decide +kernel, rfl, by decide +kernel, by decide +kernel⟩
abbrev s_times_fault : Stmt := top 22
theorem sc_times_fault : FnScope ["system", "times"] ["system", "times"] (defScope s_times_fault) := ⟨rfl, rfl, rfl, by decide +kernel, rfl, by decide +kernel, by decide +kernel⟩
abbrev s_Kept_init : Stmt := inClass (top 24) 0
theorem sc_Kept_init : FnScope ["self", "times"] ["self", "times"] (defScope s_Kept_init) := ⟨rfl, rfl, rfl, by decide +kernel, rfl, by decide +kernel, by decide +kernel⟩
abbrev s_Ring_init : Stmt := inClass (top 25) 0
theorem sc_Ring_init : FnScope ["self", "path"] ["self", "path"] (defScope s_Ring_init) := ⟨rfl, rfl, rfl, by decide +kernel, rfl, by decide +kernel, by decide +kernel⟩
abbrev s_ring_behind : Stmt := top 26
theorem sc_ring_behind : FnScope ["links", "came", "place", "_", "path", "back"] ["links", "came", "place"] (defScope s_ring_behind) := ⟨rfl, rfl, rfl, by decide +kernel, rfl, by decide +kernel, by decide +kernel⟩
abbrev s_settle : Stmt := top 27
theorem sc_settle : FnScope ["links", "begun", "times", "came", "lowered", "_", "index", "one", "other", "amount", "limit", "time"] ["links", "begun"] (defScope s_settle) := ⟨rfl, rfl, rfl, by decide +kernel, rfl, by decide +kernel, by decide +kernel⟩
abbrev s_settled_from : Stmt := top 28
theorem sc_settled_from : FnScope ["count", "links", "origin", "times", "came", "_", "place"] ["count", "links", "origin"] (defScope s_settled_from) := ⟨rfl, rfl, rfl, by decide +kernel, rfl, by decide +kernel, by decide +kernel⟩
abbrev s_solved : Stmt := top 29
theorem sc_solved : FnScope ["system", "times", "_", "ring", "place"] ["system"] (defScope s_solved) := ⟨rfl, rfl, rfl, by decide +kernel, rfl, by decide +kernel, by decide +kernel⟩
abbrev s_kept_times : Stmt := top 30
theorem sc_kept_times : FnScope ["system", "answer"] ["system"] (defScope s_kept_times) := ⟨rfl, rfl, rfl, by decide +kernel, rfl, by decide +kernel, by decide +kernel⟩
abbrev s_solved_fault : Stmt := top 31
theorem sc_solved_fault : FnScope ["system", "answer"] ["system", "answer"] (defScope s_solved_fault) := ⟨rfl, rfl, rfl, by decide +kernel, rfl, by decide +kernel, by decide +kernel⟩
abbrev s_Greatest_init : Stmt := inClass (top 33) 0
theorem sc_Greatest_init : FnScope ["self", "amount", "path", "times"] ["self", "amount", "path", "times"] (defScope s_Greatest_init) := ⟨rfl, rfl, rfl, by decide +kernel, rfl, by decide +kernel, by decide +kernel⟩
abbrev s_Endless_init : Stmt := inClass (top 34) 0
theorem sc_Endless_init : FnScope ["self", "apart", "times"] ["self", "apart", "times"] (defScope s_Endless_init) := ⟨rfl, rfl, rfl, by decide +kernel, rfl, by decide +kernel, by decide +kernel⟩
abbrev s_path_back : Stmt := top 35
theorem sc_path_back : FnScope ["links", "came", "start", "end", "path", "place"] ["links", "came", "start", "end"] (defScope s_path_back) := ⟨rfl, rfl, rfl, by decide +kernel, rfl, by decide +kernel, by decide +kernel⟩
abbrev s_completed : Stmt := top 36
theorem sc_completed : FnScope ["links", "reached", "base", "raised", "one", "other", "amount", "place", "time"] ["links", "reached", "base"] (defScope s_completed) := ⟨rfl, rfl, rfl, by decide +kernel, rfl, by decide +kernel, by decide +kernel⟩
abbrev s_greatest : Stmt := top 37
theorem sc_greatest : FnScope ["system", "one", "other", "base", "reached", "came", "path", "place", "time"] ["system", "one", "other"] (defScope s_greatest) := ⟨rfl, rfl, rfl, by decide +kernel, rfl, by decide +kernel, by decide +kernel⟩
abbrev s_apart_fault : Stmt := top 38
theorem sc_apart_fault : FnScope ["system", "one", "other", "apart", "known", "first", "second", "_", "place"] ["system", "one", "other", "apart"] (defScope s_apart_fault) := ⟨rfl, rfl, rfl, by decide +kernel, rfl, by decide +kernel, by decide +kernel⟩
abbrev s_greatest_fault : Stmt := top 39
theorem sc_greatest_fault : FnScope ["system", "one", "other", "answer", "times", "word"] ["system", "one", "other", "answer"] (defScope s_greatest_fault) := ⟨rfl, rfl, rfl, by decide +kernel, rfl, by decide +kernel, by decide +kernel⟩
abbrev s_times_with : Stmt := top 40
theorem sc_times_with : FnScope ["system", "one", "other", "amount", "links", "times", "_", "ring", "place"] ["system", "one", "other", "amount"] (defScope s_times_with) := ⟨rfl, rfl, rfl, by decide +kernel, rfl, by decide +kernel, by decide +kernel⟩
abbrev s_spans : Stmt := top 41
theorem sc_spans : FnScope ["system", "columns", "other", "one", "column"] ["system"] (defScope s_spans) := ⟨rfl, rfl, rfl, by decide +kernel, rfl, by decide +kernel, by decide +kernel⟩
abbrev s_bag : Stmt := top 43
theorem sc_bag : FnScope ["_law_script", "_law_at", "_law_cell", "_law_seed", "_law_k"] ["_law_script", "_law_at"] (defScope s_bag) := ⟨rfl, rfl, rfl, by decide +kernel, rfl, by decide +kernel, by decide +kernel⟩
abbrev s_take : Stmt := top 44
theorem sc_take : FnScope ["_law_bag_here", "_law_many", "_law_digit"] ["_law_bag_here", "_law_many"] (defScope s_take) := ⟨rfl, rfl, rfl, by decide +kernel, rfl, by decide +kernel, by decide +kernel⟩
abbrev s_of : Stmt := top 45
theorem sc_of : FnScope ["_law_bag_here", "_law_some"] ["_law_bag_here", "_law_some"] (defScope s_of) := ⟨rfl, rfl, rfl, by decide +kernel, rfl, by decide +kernel, by decide +kernel⟩
abbrev s_amount : Stmt := top 46
theorem sc_amount : FnScope ["_law_bag_here", "_law_kind", "_law_worth"] ["_law_bag_here"] (defScope s_amount) := ⟨rfl, rfl, rfl, by decide +kernel, rfl, by decide +kernel, by decide +kernel⟩
abbrev s_times : Stmt := top 47
theorem sc_times : FnScope ["_law_bag_here", "_law_count", "_law_wide", "_law_found", "_law_k"] ["_law_bag_here", "_law_count"] (defScope s_times) := ⟨rfl, rfl, rfl, by decide +kernel, rfl, by decide +kernel, by decide +kernel⟩
abbrev s_links : Stmt := top 48
theorem sc_links : FnScope ["_law_bag_here", "_law_count", "_law_many", "_law_times_here", "_law_found", "_law_k", "_law_one", "_law_other"] ["_law_bag_here", "_law_count", "_law_many", "_law_times_here"] (defScope s_links) := ⟨rfl, rfl, rfl, by decide +kernel, rfl, by decide +kernel, by decide +kernel⟩
abbrev s_is_whole : Stmt := top 49
theorem sc_is_whole : FnScope ["_law_thing"] ["_law_thing"] (defScope s_is_whole) := ⟨rfl, rfl, rfl, by decide +kernel, rfl, by decide +kernel, by decide +kernel⟩
abbrev s_L_are_times : Stmt := top 50
theorem sc_L_are_times : FnScope ["_law_thing", "_law_count", "_law_x"] ["_law_thing", "_law_count"] (defScope s_L_are_times) := ⟨rfl, rfl, rfl, by decide +kernel, rfl, by decide +kernel, by decide +kernel⟩
abbrev s_keep : Stmt := top 51
theorem sc_keep : FnScope ["_law_links_here", "_law_times_here", "_law_x"] ["_law_links_here", "_law_times_here"] (defScope s_keep) := ⟨rfl, rfl, rfl, by decide +kernel, rfl, by decide +kernel, by decide +kernel⟩
abbrev s_leads : Stmt := top 52
theorem sc_leads : FnScope ["_law_links_here", "_law_path", "_law_start", "_law_end_here", "_law_here", "_law_x"] ["_law_links_here", "_law_path", "_law_start", "_law_end_here"] (defScope s_leads) := ⟨rfl, rfl, rfl, by decide +kernel, rfl, by decide +kernel, by decide +kernel⟩
abbrev s_sum : Stmt := top 53
theorem sc_sum : FnScope ["_law_links_here", "_law_path", "_law_x"] ["_law_links_here", "_law_path"] (defScope s_sum) := ⟨rfl, rfl, rfl, by decide +kernel, rfl, by decide +kernel, by decide +kernel⟩
abbrev s_bars : Stmt := top 54
theorem sc_bars : FnScope ["_law_links_here", "_law_path", "_law_start"] ["_law_links_here", "_law_path"] (defScope s_bars) := ⟨rfl, rfl, rfl, by decide +kernel, rfl, by decide +kernel, by decide +kernel⟩
abbrev s_reached : Stmt := top 55
theorem sc_reached : FnScope ["_law_count", "_law_links_here", "_law_start", "_law_found", "_law_turn", "_law_many", "_law_one", "_law_other", "_law_amount_here"] ["_law_count", "_law_links_here", "_law_start"] (defScope s_reached) := ⟨rfl, rfl, rfl, by decide +kernel, rfl, by decide +kernel, by decide +kernel⟩
abbrev s_barred : Stmt := top 56
theorem sc_barred : FnScope ["_law_system", "_law_one", "_law_other", "_law_found", "e"] ["_law_system", "_law_one", "_law_other"] (defScope s_barred) := ⟨rfl, rfl, rfl, by decide +kernel, rfl, by decide +kernel, by decide +kernel⟩
abbrev s_no_instant : Stmt := top 57
theorem sc_no_instant : FnScope ["_law_system", "_law_one", "_law_other", "_law_many", "_law_found", "_law_kind", "e"] ["_law_system", "_law_one", "_law_other", "_law_many"] (defScope s_no_instant) := ⟨rfl, rfl, rfl, by decide +kernel, rfl, by decide +kernel, by decide +kernel⟩
abbrev s_impossible : Stmt := top 58
theorem sc_impossible : FnScope ["_law_bag_here", "_law_system", "_law_count", "_law_links_here", "_law_one", "_law_other", "_law_paths", "_law_x"] ["_law_bag_here", "_law_system", "_law_count", "_law_links_here"] (defScope s_impossible) := ⟨rfl, rfl, rfl, by decide +kernel, rfl, by decide +kernel, by decide +kernel⟩
abbrev s_has : Stmt := top 59
theorem sc_has : FnScope ["_law_count", "_law_links_here", "_law_times_here", "_law_one", "_law_other", "_law_amount_here"] ["_law_count", "_law_links_here", "_law_times_here", "_law_one", "_law_other", "_law_amount_here"] (defScope s_has) := ⟨rfl, rfl, rfl, by decide +kernel, rfl, by decide +kernel, by decide +kernel⟩
abbrev s_is_greatest : Stmt := top 60
theorem sc_is_greatest : FnScope ["_law_bag_here", "_law_count", "_law_links_here", "_law_one", "_law_other", "_law_answer", "_law_reached_here", "_law_apart", "_law_times_here", "_law_more", "_law_x"] ["_law_bag_here", "_law_count", "_law_links_here", "_law_one", "_law_other", "_law_answer"] (defScope s_is_greatest) := ⟨rfl, rfl, rfl, by decide +kernel, rfl, by decide +kernel, by decide +kernel⟩
abbrev s_between : Stmt := top 61
theorem sc_between : FnScope ["_law_bag_here", "_law_system", "_law_count", "_law_links_here", "_law_one", "_law_other", "_law_high", "_law_low", "_law_middle"] ["_law_bag_here", "_law_system", "_law_count", "_law_links_here", "_law_one", "_law_other", "_law_high", "_law_low"] (defScope s_between) := ⟨rfl, rfl, rfl, by decide +kernel, rfl, by decide +kernel, by decide +kernel⟩
abbrev s_end : Stmt := top 62
theorem sc_end : FnScope ["_law_answer"] ["_law_answer"] (defScope s_end) := ⟨rfl, rfl, rfl, by decide +kernel, rfl, by decide +kernel, by decide +kernel⟩
abbrev s_pair : Stmt := top 63
theorem sc_pair : FnScope ["_law_bag_here", "_law_system", "_law_count", "_law_links_here", "_law_table", "_law_one", "_law_other", "_law_first", "_law_second", "_law_high", "_law_back", "_law_row", "_law_turned", "_law_least", "_law_most", "_law_x", "_law_y"] ["_law_bag_here", "_law_system", "_law_count", "_law_links_here", "_law_table", "_law_one", "_law_other"] (defScope s_pair) := ⟨rfl, rfl, rfl, by decide +kernel, rfl, by decide +kernel, by decide +kernel⟩
abbrev s_path_due : Stmt := top 64
theorem sc_path_due : FnScope ["_law_links_here", "_law_path", "_law_start", "_law_end_here", "_law_x", "_law_k"] ["_law_links_here", "_law_path", "_law_start", "_law_end_here"] (defScope s_path_due) := ⟨rfl, rfl, rfl, by decide +kernel, rfl, by decide +kernel, by decide +kernel⟩
abbrev s_times_due : Stmt := top 65
theorem sc_times_due : FnScope ["_law_count", "_law_links_here", "_law_times_here"] ["_law_count", "_law_links_here", "_law_times_here"] (defScope s_times_due) := ⟨rfl, rfl, rfl, by decide +kernel, rfl, by decide +kernel, by decide +kernel⟩
abbrev s_greatest_due : Stmt := top 66
theorem sc_greatest_due : FnScope ["_law_count", "_law_links_here", "_law_one", "_law_other", "_law_answer", "_law_word"] ["_law_count", "_law_links_here", "_law_one", "_law_other", "_law_answer"] (defScope s_greatest_due) := ⟨rfl, rfl, rfl, by decide +kernel, rfl, by decide +kernel, by decide +kernel⟩
abbrev s_endless_due : Stmt := top 67
theorem sc_endless_due : FnScope ["_law_count", "_law_links_here", "_law_one", "_law_other", "_law_answer", "_law_apart", "_law_x"] ["_law_count", "_law_links_here", "_law_one", "_law_other", "_law_answer"] (defScope s_endless_due) := ⟨rfl, rfl, rfl, by decide +kernel, rfl, by decide +kernel, by decide +kernel⟩
abbrev s_bent : Stmt := top 68
theorem sc_bent : FnScope ["_law_bag_here", "_law_row", "_law_most", "_law_kind", "_law_at", "_law_worth"] ["_law_bag_here", "_law_row", "_law_most"] (defScope s_bent) := ⟨rfl, rfl, rfl, by decide +kernel, rfl, by decide +kernel, by decide +kernel⟩
abbrev s_judged : Stmt := top 69
theorem sc_judged : FnScope ["_law_bag_here", "_law_system", "_law_count", "_law_links_here", "_law_one", "_law_other", "_law_told", "_law_times_here", "_law_path", "_law_fits", "_law_amount_here", "_law_answer", "_law_apart", "_law_x"] ["_law_bag_here", "_law_system", "_law_count", "_law_links_here", "_law_one", "_law_other"] (defScope s_judged) := ⟨rfl, rfl, rfl, by decide +kernel, rfl, by decide +kernel, by decide +kernel⟩
abbrev s_errors : Stmt := top 70
theorem sc_errors : FnScope ["_law_bag_here", "_law_system", "_law_count", "_law_many", "_law_far", "_law_near", "_law_last"] ["_law_bag_here", "_law_system", "_law_count", "_law_many"] (defScope s_errors) := ⟨rfl, rfl, rfl, by decide +kernel, rfl, by decide +kernel, by decide +kernel⟩
abbrev s_law : Stmt := top 71
theorem sc_law : FnScope ["_law_script", "_law_at", "_law_bag_here", "_law_is_large", "_law_count", "_law_times_here", "_law_links_here", "_law_system", "_law_answer", "_law_table", "_law_pairs", "_law_one", "_law_other", "_law_x", "_law_k"] ["_law_script"] (defScope s_law) := ⟨rfl, rfl, rfl, by decide +kernel, rfl, by decide +kernel, by decide +kernel⟩
/-- what the top has written -/
structure Txt (P : Program) (w : World) (K : PySem.W.Frag) (mg : Str → Option Value) (cl : String → Addr) : Prop where
  n_len : mg "len" = none
  n_int : mg "int" = none
  n_bool : mg "bool" = none
  n_list : mg "list" = none
  n_tuple : mg "tuple" = none
  n_isinstance : mg "isinstance" = none
  n_range : mg "range" = none
  n_ValueError : mg "ValueError" = none
  n_abs : mg "abs" = none
  n_min : mg "min" = none
  n_max : mg "max" = none
  n_sum : mg "sum" = none
  n_iter : mg "iter" = none
  n_enumerate : mg "enumerate" = none
  n_zip : mg "zip" = none
  c_MOST_INSTANTS : ∃ u, mg "MOST_INSTANTS" = some u ∧ RelV (.int 12) u
  c_MOST_LINKS : ∃ u, mg "MOST_LINKS" = some u ∧ RelV (.int 200) u
  m_DeedError : mg "DeedError" = some (.ref (cl "DeedError"))
  m_BadSystem : mg "BadSystem" = some (.ref (cl "BadSystem"))
  m_BadTimes : mg "BadTimes" = some (.ref (cl "BadTimes"))
  m_NoInstant : mg "NoInstant" = some (.ref (cl "NoInstant"))
  m_NoTimes : mg "NoTimes" = some (.ref (cl "NoTimes"))
  m_System : mg "System" = some (.ref (cl "System"))
  m_Kept : mg "Kept" = some (.ref (cl "Kept"))
  m_Ring : mg "Ring" = some (.ref (cl "Ring"))
  m_Greatest : mg "Greatest" = some (.ref (cl "Greatest"))
  m_Endless : mg "Endless" = some (.ref (cl "Endless"))
  o_BadSystem : OexC K (cl "BadSystem")
  i_BadSystem : ∃ (f : Addr) (fd : FuncData), Fun K "__init__" "BadSystem.__init__" s_BadSystem_init f fd ∧ PySem.W.findIn K (.ref (cl "BadSystem")) "__init__" = some (some (.ref f)) ∧ PySem.W.typeIn K (.ref f) = some (.type "function")
  o_BadTimes : OexC K (cl "BadTimes")
  i_BadTimes : ∃ (f : Addr) (fd : FuncData), Fun K "__init__" "BadTimes.__init__" s_BadTimes_init f fd ∧ PySem.W.findIn K (.ref (cl "BadTimes")) "__init__" = some (some (.ref f)) ∧ PySem.W.typeIn K (.ref f) = some (.type "function")
  o_NoInstant : OexC K (cl "NoInstant")
  i_NoInstant : ∃ (f : Addr) (fd : FuncData), Fun K "__init__" "NoInstant.__init__" s_NoInstant_init f fd ∧ PySem.W.findIn K (.ref (cl "NoInstant")) "__init__" = some (some (.ref f)) ∧ PySem.W.typeIn K (.ref f) = some (.type "function")
  o_NoTimes : OexC K (cl "NoTimes")
  i_NoTimes : ∃ (f : Addr) (fd : FuncData), Fun K "__init__" "NoTimes.__init__" s_NoTimes_init f fd ∧ PySem.W.findIn K (.ref (cl "NoTimes")) "__init__" = some (some (.ref f)) ∧ PySem.W.typeIn K (.ref f) = some (.type "function")
  xf_BadSystem_index : PySem.W.findIn K (.ref (cl "BadSystem")) "index" = some none
  xf_BadSystem_what : PySem.W.findIn K (.ref (cl "BadSystem")) "what" = some none
  cr : ClX.CRead K (cl "DeedError") (.type "type")
  vi : PySem.W.findCls K (.ref (cl "DeedError")) (.type "type") "__init__" = some (.val (.builtin "ValueError.__init__"))
  x_BadSystem : ExcC K (cl "BadSystem")
  x_BadTimes : ExcC K (cl "BadTimes")
  x_NoInstant : ExcC K (cl "NoInstant")
  x_NoTimes : ExcC K (cl "NoTimes")
  is_BadSystem : PySem.W.exmOne K (.ref (cl "BadSystem")) (.ref (cl "BadSystem")) = some true
  is_BadTimes : PySem.W.exmOne K (.ref (cl "BadTimes")) (.ref (cl "BadTimes")) = some true
  ne_System : NeOf K (cl "System")
  cl_System : Cls K (cl "System")
  na_System : ∀ f : Str, f ∈ (["count", "links"] : List Str) → NoAttr K (cl "System") f
  y_System : PySem.W.findIn K (.ref (cl "System")) "__class__" = some (some (.builtin "object.__class__"))
  z3_System : PySem.W.mroIn K (cl "System") (.type "object") = some true
  cl_Kept : Cls K (cl "Kept")
  na_Kept : ∀ f : Str, f ∈ (["times"] : List Str) → NoAttr K (cl "Kept") f
  y_Kept : PySem.W.findIn K (.ref (cl "Kept")) "__class__" = some (some (.builtin "object.__class__"))
  z3_Kept : PySem.W.mroIn K (cl "Kept") (.type "object") = some true
  cl_Ring : Cls K (cl "Ring")
  na_Ring : ∀ f : Str, f ∈ (["path"] : List Str) → NoAttr K (cl "Ring") f
  y_Ring : PySem.W.findIn K (.ref (cl "Ring")) "__class__" = some (some (.builtin "object.__class__"))
  z3_Ring : PySem.W.mroIn K (cl "Ring") (.type "object") = some true
  k_in_Sy : ∀ n : String, n ∈ (["NoneType", "bool", "int", "str", "list", "tuple"] : List String) → PySem.W.kitOne K (.type n) (.ref (cl "System")) = some false
  nf_System : ∀ n : String, n ∈ (["NoneType", "bool", "int", "str", "list", "tuple"] : List String) → PySem.W.notFirst K (cl "System") (.type n) = true
  nf2_System : PySem.W.notFirst K (cl "System") (.ref (cl "System")) = true
  k_Sy_Sy : PySem.W.kitOne K (.ref (cl "System")) (.ref (cl "System")) = some true
  k_Ri_Ri : PySem.W.kitOne K (.ref (cl "Ring")) (.ref (cl "Ring")) = some true
  k_Ke_Ri : PySem.W.kitOne K (.ref (cl "Kept")) (.ref (cl "Ring")) = some false
  i_System : ∃ (f : Addr) (fd : FuncData), HeM.FunV K "__init__" "System.__init__" s_System_init f fd ∧ Mk K (cl "System") f
  i_Kept : DefC K (cl "Kept") "Kept.__init__" s_Kept_init
  i_Ring : DefC K (cl "Ring") "Ring.__init__" s_Ring_init
  d_System_broken : DefM K (cl "System") "broken" "System.broken" s_System_broken
  d_System_eq : DefM K (cl "System") "__eq__" "System.__eq__" s_System_eq
  d_System_len : DefM K (cl "System") "__len__" "System.__len__" s_System_len
  d_System_iter : DefM K (cl "System") "__iter__" "System.__iter__" s_System_iter
  d_is_integer : Def K mg "is_integer" s_is_integer
  d_is_instant : Def K mg "is_instant" s_is_instant
  d_are_times : Def K mg "are_times" s_are_times
  d_link_fault : Def K mg "link_fault" s_link_fault
  d_keeps_link : Def K mg "keeps_link" s_keeps_link
  d_check_instant : Def K mg "check_instant" s_check_instant
  d_are_indexes : Def K mg "are_indexes" s_are_indexes
  d_has_joints : Def K mg "has_joints" s_has_joints
  d_sum_of : Def K mg "sum_of" s_sum_of
  d_path_fault : Def K mg "path_fault" s_path_fault
  d_ring_fault : Def K mg "ring_fault" s_ring_fault
  d_times_fault : Def K mg "times_fault" s_times_fault
  d_ring_behind : Def K mg "ring_behind" s_ring_behind
  d_settle : Def K mg "settle" s_settle
  d_settled_from : Def K mg "settled_from" s_settled_from
  d_solved : Def K mg "solved" s_solved
  d_kept_times : Def K mg "kept_times" s_kept_times
  d_solved_fault : Def K mg "solved_fault" s_solved_fault
  d_path_back : Def K mg "path_back" s_path_back
  d_completed : Def K mg "completed" s_completed
  d_greatest : Def K mg "greatest" s_greatest
  d_apart_fault : Def K mg "apart_fault" s_apart_fault
  d_greatest_fault : Def K mg "greatest_fault" s_greatest_fault
  d_times_with : Def K mg "times_with" s_times_with
  d_spans : Def K mg "spans" s_spans
  d_bag : Def K mg "_law_bag" s_bag
  d_take : Def K mg "_law_take" s_take
  d_of : Def K mg "_law_of" s_of
  d_amount : Def K mg "_law_amount" s_amount
  d_times : Def K mg "_law_times" s_times
  d_links : Def K mg "_law_links" s_links
  d_is_whole : Def K mg "_law_is_whole" s_is_whole
  d_L_are_times : Def K mg "_law_are_times" s_L_are_times
  d_keep : Def K mg "_law_keep" s_keep
  d_leads : Def K mg "_law_leads" s_leads
  d_sum : Def K mg "_law_sum" s_sum
  d_bars : Def K mg "_law_bars" s_bars
  d_reached : Def K mg "_law_reached" s_reached
  d_barred : Def K mg "_law_barred" s_barred
  d_no_instant : Def K mg "_law_no_instant" s_no_instant
  d_impossible : Def K mg "_law_impossible" s_impossible
  d_has : Def K mg "_law_has" s_has
  d_is_greatest : Def K mg "_law_is_greatest" s_is_greatest
  d_between : Def K mg "_law_between" s_between
  d_end : Def K mg "_law_end" s_end
  d_pair : Def K mg "_law_pair" s_pair
  d_path_due : Def K mg "_law_path_due" s_path_due
  d_times_due : Def K mg "_law_times_due" s_times_due
  d_greatest_due : Def K mg "_law_greatest_due" s_greatest_due
  d_endless_due : Def K mg "_law_endless_due" s_endless_due
  d_bent : Def K mg "_law_bent" s_bent
  d_judged : Def K mg "_law_judged" s_judged
  d_errors : Def K mg "_law_errors" s_errors
  d_law : Def K mg "law" s_law
  xf_NoInstant_instant : PySem.W.findIn K (.ref (cl "NoInstant")) "instant" = some none
  xf_NoTimes_path : PySem.W.findIn K (.ref (cl "NoTimes")) "path" = some none
  is_NoInstant : PySem.W.exmOne K (.ref (cl "NoInstant")) (.ref (cl "NoInstant")) = some true
  is_NoTimes : PySem.W.exmOne K (.ref (cl "NoTimes")) (.ref (cl "NoTimes")) = some true
  cl_Greatest : Cls K (cl "Greatest")
  na_Greatest : ∀ f : Str, f ∈ (["amount", "path", "times"] : List Str) → NoAttr K (cl "Greatest") f
  y_Greatest : PySem.W.findIn K (.ref (cl "Greatest")) "__class__" = some (some (.builtin "object.__class__"))
  z3_Greatest : PySem.W.mroIn K (cl "Greatest") (.type "object") = some true
  cl_Endless : Cls K (cl "Endless")
  na_Endless : ∀ f : Str, f ∈ (["apart", "times"] : List Str) → NoAttr K (cl "Endless") f
  y_Endless : PySem.W.findIn K (.ref (cl "Endless")) "__class__" = some (some (.builtin "object.__class__"))
  z3_Endless : PySem.W.mroIn K (cl "Endless") (.type "object") = some true
  i_Greatest : DefC K (cl "Greatest") "Greatest.__init__" s_Greatest_init
  i_Endless : DefC K (cl "Endless") "Endless.__init__" s_Endless_init
  k_Gr_En : PySem.W.kitOne K (.ref (cl "Greatest")) (.ref (cl "Endless")) = some false
  k_En_En : PySem.W.kitOne K (.ref (cl "Endless")) (.ref (cl "Endless")) = some true
  k_Gr_Gr : PySem.W.kitOne K (.ref (cl "Greatest")) (.ref (cl "Greatest")) = some true
  k_En_Gr : PySem.W.kitOne K (.ref (cl "Endless")) (.ref (cl "Greatest")) = some false
  k_Ke_Ke : PySem.W.kitOne K (.ref (cl "Kept")) (.ref (cl "Kept")) = some true
  k_Ri_Ke : PySem.W.kitOne K (.ref (cl "Ring")) (.ref (cl "Kept")) = some false
  z1 : PySem.W.specialIn K (.builtin "object.__class__") "__get__" = some (some (.builtin "getset_descriptor.__get__"))
  z2 : PySem.W.takesIn K (.builtin "object.__class__") = some true
end My
set_option Elab.async false
set_option linter.all false
set_option maxRecDepth 100000
set_option maxHeartbeats 8000000
namespace My
open PySem L2 Dw He
def faL : List He.Fa := [.free "len", .free "int", .free "bool", .free "list", .free "tuple", .free "isinstance", .free "range", .free "ValueError", .free "abs", .free "min", .free "max", .free "sum", .free "iter", .free "enumerate", .free "zip", .int "MOST_INSTANTS" (12), .int "MOST_LINKS" (200), .glo "DeedError", .glo "BadSystem", .glo "BadTimes", .glo "NoInstant", .glo "NoTimes", .glo "System", .glo "Kept", .glo "Ring", .glo "Greatest", .glo "Endless", .cls "System", .cls "Kept", .cls "Ring", .mkr "System", .mkr "Kept", .mkr "Ring", .meth "System" "broken", .meth "System" "__eq__", .meth "System" "__len__", .meth "System" "__iter__", .glo "is_integer", .glo "is_instant", .glo "are_times", .glo "link_fault", .glo "keeps_link", .glo "check_instant", .glo "are_indexes", .glo "has_joints", .glo "sum_of", .glo "path_fault", .glo "ring_fault", .glo "times_fault", .glo "ring_behind", .glo "settle", .glo "settled_from", .glo "solved", .glo "kept_times", .glo "solved_fault", .glo "path_back", .glo "completed", .glo "greatest", .glo "apart_fault", .glo "greatest_fault", .glo "times_with", .glo "spans", .glo "_law_bag", .glo "_law_take", .glo "_law_of", .glo "_law_amount", .glo "_law_times", .glo "_law_links", .glo "_law_is_whole", .glo "_law_are_times", .glo "_law_keep", .glo "_law_leads", .glo "_law_sum", .glo "_law_bars", .glo "_law_reached", .glo "_law_barred", .glo "_law_no_instant", .glo "_law_impossible", .glo "_law_has", .glo "_law_is_greatest", .glo "_law_between", .glo "_law_end", .glo "_law_pair", .glo "_law_path_due", .glo "_law_times_due", .glo "_law_greatest_due", .glo "_law_endless_due", .glo "_law_bent", .glo "_law_judged", .glo "_law_errors", .glo "law", .cls "Greatest", .cls "Endless", .mkr "Greatest", .mkr "Endless"]
def fnL : List He.DefD := [⟨("BadSystem", some "__init__"), "__init__", "BadSystem.__init__", defArgs s_BadSystem_init, defBody s_BadSystem_init, defScope s_BadSystem_init, [], []⟩,
  ⟨("BadTimes", some "__init__"), "__init__", "BadTimes.__init__", defArgs s_BadTimes_init, defBody s_BadTimes_init, defScope s_BadTimes_init, [], []⟩,
  ⟨("NoInstant", some "__init__"), "__init__", "NoInstant.__init__", defArgs s_NoInstant_init, defBody s_NoInstant_init, defScope s_NoInstant_init, [], []⟩,
  ⟨("NoTimes", some "__init__"), "__init__", "NoTimes.__init__", defArgs s_NoTimes_init, defBody s_NoTimes_init, defScope s_NoTimes_init, [], []⟩,
  ⟨("Kept", some "__init__"), "__init__", "Kept.__init__", defArgs s_Kept_init, defBody s_Kept_init, defScope s_Kept_init, [], []⟩,
  ⟨("Ring", some "__init__"), "__init__", "Ring.__init__", defArgs s_Ring_init, defBody s_Ring_init, defScope s_Ring_init, [], []⟩,
  ⟨("System", some "broken"), "broken", "System.broken", defArgs s_System_broken, defBody s_System_broken, defScope s_System_broken, [], []⟩,
  ⟨("System", some "__eq__"), "__eq__", "System.__eq__", defArgs s_System_eq, defBody s_System_eq, defScope s_System_eq, [], []⟩,
  ⟨("System", some "__len__"), "__len__", "System.__len__", defArgs s_System_len, defBody s_System_len, defScope s_System_len, [], []⟩,
  ⟨("System", some "__iter__"), "__iter__", "System.__iter__", defArgs s_System_iter, defBody s_System_iter, defScope s_System_iter, [], []⟩,
  ⟨("is_integer", none), "is_integer", "is_integer", defArgs s_is_integer, defBody s_is_integer, defScope s_is_integer, [], []⟩,
  ⟨("is_instant", none), "is_instant", "is_instant", defArgs s_is_instant, defBody s_is_instant, defScope s_is_instant, [], []⟩,
  ⟨("are_times", none), "are_times", "are_times", defArgs s_are_times, defBody s_are_times, defScope s_are_times, [], []⟩,
  ⟨("link_fault", none), "link_fault", "link_fault", defArgs s_link_fault, defBody s_link_fault, defScope s_link_fault, [], []⟩,
  ⟨("keeps_link", none), "keeps_link", "keeps_link", defArgs s_keeps_link, defBody s_keeps_link, defScope s_keeps_link, [], []⟩,
  ⟨("check_instant", none), "check_instant", "check_instant", defArgs s_check_instant, defBody s_check_instant, defScope s_check_instant, [], []⟩,
  ⟨("are_indexes", none), "are_indexes", "are_indexes", defArgs s_are_indexes, defBody s_are_indexes, defScope s_are_indexes, [], []⟩,
  ⟨("has_joints", none), "has_joints", "has_joints", defArgs s_has_joints, defBody s_has_joints, defScope s_has_joints, [], []⟩,
  ⟨("sum_of", none), "sum_of", "sum_of", defArgs s_sum_of, defBody s_sum_of, defScope s_sum_of, [], []⟩,
  ⟨("path_fault", none), "path_fault", "path_fault", defArgs s_path_fault, defBody s_path_fault, defScope s_path_fault, [], []⟩,
  ⟨("ring_fault", none), "ring_fault", "ring_fault", defArgs s_ring_fault, defBody s_ring_fault, defScope s_ring_fault, [], []⟩,
  ⟨("times_fault", none), "times_fault", "times_fault", defArgs s_times_fault, defBody s_times_fault, defScope s_times_fault, [], []⟩,
  ⟨("ring_behind", none), "ring_behind", "ring_behind", defArgs s_ring_behind, defBody s_ring_behind, defScope s_ring_behind, [], []⟩,
  ⟨("settle", none), "settle", "settle", defArgs s_settle, defBody s_settle, defScope s_settle, [], []⟩,
  ⟨("settled_from", none), "settled_from", "settled_from", defArgs s_settled_from, defBody s_settled_from, defScope s_settled_from, [], []⟩,
  ⟨("solved", none), "solved", "solved", defArgs s_solved, defBody s_solved, defScope s_solved, [], []⟩,
  ⟨("kept_times", none), "kept_times", "kept_times", defArgs s_kept_times, defBody s_kept_times, defScope s_kept_times, [], []⟩,
  ⟨("solved_fault", none), "solved_fault", "solved_fault", defArgs s_solved_fault, defBody s_solved_fault, defScope s_solved_fault, [], []⟩,
  ⟨("path_back", none), "path_back", "path_back", defArgs s_path_back, defBody s_path_back, defScope s_path_back, [], []⟩,
  ⟨("completed", none), "completed", "completed", defArgs s_completed, defBody s_completed, defScope s_completed, [], []⟩,
  ⟨("greatest", none), "greatest", "greatest", defArgs s_greatest, defBody s_greatest, defScope s_greatest, [], []⟩,
  ⟨("apart_fault", none), "apart_fault", "apart_fault", defArgs s_apart_fault, defBody s_apart_fault, defScope s_apart_fault, [], []⟩,
  ⟨("greatest_fault", none), "greatest_fault", "greatest_fault", defArgs s_greatest_fault, defBody s_greatest_fault, defScope s_greatest_fault, [], []⟩,
  ⟨("times_with", none), "times_with", "times_with", defArgs s_times_with, defBody s_times_with, defScope s_times_with, [], []⟩,
  ⟨("spans", none), "spans", "spans", defArgs s_spans, defBody s_spans, defScope s_spans, [], []⟩,
  ⟨("_law_bag", none), "_law_bag", "_law_bag", defArgs s_bag, defBody s_bag, defScope s_bag, [], []⟩,
  ⟨("_law_take", none), "_law_take", "_law_take", defArgs s_take, defBody s_take, defScope s_take, [], []⟩,
  ⟨("_law_of", none), "_law_of", "_law_of", defArgs s_of, defBody s_of, defScope s_of, [], []⟩,
  ⟨("_law_amount", none), "_law_amount", "_law_amount", defArgs s_amount, defBody s_amount, defScope s_amount, [], []⟩,
  ⟨("_law_times", none), "_law_times", "_law_times", defArgs s_times, defBody s_times, defScope s_times, [], []⟩,
  ⟨("_law_links", none), "_law_links", "_law_links", defArgs s_links, defBody s_links, defScope s_links, [], []⟩,
  ⟨("_law_is_whole", none), "_law_is_whole", "_law_is_whole", defArgs s_is_whole, defBody s_is_whole, defScope s_is_whole, [], []⟩,
  ⟨("_law_are_times", none), "_law_are_times", "_law_are_times", defArgs s_L_are_times, defBody s_L_are_times, defScope s_L_are_times, [], []⟩,
  ⟨("_law_keep", none), "_law_keep", "_law_keep", defArgs s_keep, defBody s_keep, defScope s_keep, [], []⟩,
  ⟨("_law_leads", none), "_law_leads", "_law_leads", defArgs s_leads, defBody s_leads, defScope s_leads, [], []⟩,
  ⟨("_law_sum", none), "_law_sum", "_law_sum", defArgs s_sum, defBody s_sum, defScope s_sum, [], []⟩,
  ⟨("_law_bars", none), "_law_bars", "_law_bars", defArgs s_bars, defBody s_bars, defScope s_bars, [], []⟩,
  ⟨("_law_reached", none), "_law_reached", "_law_reached", defArgs s_reached, defBody s_reached, defScope s_reached, [], []⟩,
  ⟨("_law_barred", none), "_law_barred", "_law_barred", defArgs s_barred, defBody s_barred, defScope s_barred, [], []⟩,
  ⟨("_law_no_instant", none), "_law_no_instant", "_law_no_instant", defArgs s_no_instant, defBody s_no_instant, defScope s_no_instant, [], []⟩,
  ⟨("_law_impossible", none), "_law_impossible", "_law_impossible", defArgs s_impossible, defBody s_impossible, defScope s_impossible, [], []⟩,
  ⟨("_law_has", none), "_law_has", "_law_has", defArgs s_has, defBody s_has, defScope s_has, [], []⟩,
  ⟨("_law_is_greatest", none), "_law_is_greatest", "_law_is_greatest", defArgs s_is_greatest, defBody s_is_greatest, defScope s_is_greatest, [], []⟩,
  ⟨("_law_between", none), "_law_between", "_law_between", defArgs s_between, defBody s_between, defScope s_between, [], []⟩,
  ⟨("_law_end", none), "_law_end", "_law_end", defArgs s_end, defBody s_end, defScope s_end, [], []⟩,
  ⟨("_law_pair", none), "_law_pair", "_law_pair", defArgs s_pair, defBody s_pair, defScope s_pair, [], []⟩,
  ⟨("_law_path_due", none), "_law_path_due", "_law_path_due", defArgs s_path_due, defBody s_path_due, defScope s_path_due, [], []⟩,
  ⟨("_law_times_due", none), "_law_times_due", "_law_times_due", defArgs s_times_due, defBody s_times_due, defScope s_times_due, [], []⟩,
  ⟨("_law_greatest_due", none), "_law_greatest_due", "_law_greatest_due", defArgs s_greatest_due, defBody s_greatest_due, defScope s_greatest_due, [], []⟩,
  ⟨("_law_endless_due", none), "_law_endless_due", "_law_endless_due", defArgs s_endless_due, defBody s_endless_due, defScope s_endless_due, [], []⟩,
  ⟨("_law_bent", none), "_law_bent", "_law_bent", defArgs s_bent, defBody s_bent, defScope s_bent, [], []⟩,
  ⟨("_law_judged", none), "_law_judged", "_law_judged", defArgs s_judged, defBody s_judged, defScope s_judged, [], []⟩,
  ⟨("_law_errors", none), "_law_errors", "_law_errors", defArgs s_errors, defBody s_errors, defScope s_errors, [], []⟩,
  ⟨("law", none), "law", "law", defArgs s_law, defBody s_law, defScope s_law, [], []⟩,
  ⟨("Greatest", some "__init__"), "__init__", "Greatest.__init__", defArgs s_Greatest_init, defBody s_Greatest_init, defScope s_Greatest_init, [], []⟩,
  ⟨("Endless", some "__init__"), "__init__", "Endless.__init__", defArgs s_Endless_init, defBody s_Endless_init, defScope s_Endless_init, [], []⟩]
def iniL : List HeM.IniD := []
def prpL : List He.DefD := []
def tsL : HeM.TabM := ([], [⟨("System", some "__init__"), "__init__", "System.__init__", defArgs s_System_init, defBody s_System_init, defScope s_System_init, [], []⟩])
def exL : List (PySem.W.Frag → Bool) := [fun K => HeM.zB K,
  fun K => eqO (PySem.W.nsIn K cStatics "thirdparty.any") (some none),
  fun K => HeM.oxB K (ga K "BadSystem"),
  fun K => HeM.inB K "BadSystem",
  fun K => HeM.oxB K (ga K "BadTimes"),
  fun K => HeM.inB K "BadTimes",
  fun K => HeM.oxB K (ga K "NoInstant"),
  fun K => HeM.inB K "NoInstant",
  fun K => HeM.oxB K (ga K "NoTimes"),
  fun K => HeM.inB K "NoTimes",
  fun K => eqO (PySem.W.findIn K (.ref (ga K "BadSystem")) "index") (some none),
  fun K => eqO (PySem.W.findIn K (.ref (ga K "BadSystem")) "what") (some none),
  fun K => PySem.W.readsIn K (ga K "DeedError") (.type "type"),
  fun K => eqO (PySem.W.specialIn K (.ref (ga K "DeedError")) "__getattribute__") (some (some (.builtin "type.__getattribute__"))),
  fun K => HeM.valIs (PySem.W.findCls K (.ref (ga K "DeedError")) (.type "type") "__init__") (.builtin "ValueError.__init__"),
  fun K => HeM.xcB K (ga K "BadSystem"),
  fun K => HeM.xcB K (ga K "BadTimes"),
  fun K => HeM.xcB K (ga K "NoInstant"),
  fun K => HeM.xcB K (ga K "NoTimes"),
  fun K => decide (PySem.W.exmOne K (.ref (ga K "BadSystem")) (.ref (ga K "BadSystem")) = some true),
  fun K => decide (PySem.W.exmOne K (.ref (ga K "BadTimes")) (.ref (ga K "BadTimes")) = some true),
  fun K => decide (PySem.W.mroIn K (ga K "System") (.type "object") = some true),
  fun K => eqO (PySem.W.findIn K (.ref (ga K "System")) "__ne__") (some (some (.builtin "object.__ne__"))),
  fun K => (["count", "links"] : List Str).all fun f => eqO (PySem.W.findIn K (.ref (ga K "System")) f) (some none),
  fun K => eqO (PySem.W.findIn K (.ref (ga K "System")) "__class__") (some (some (.builtin "object.__class__"))),
  fun K => (["times"] : List Str).all fun f => eqO (PySem.W.findIn K (.ref (ga K "Kept")) f) (some none),
  fun K => eqO (PySem.W.findIn K (.ref (ga K "Kept")) "__class__") (some (some (.builtin "object.__class__"))),
  fun K => decide (PySem.W.mroIn K (ga K "Kept") (.type "object") = some true),
  fun K => (["path"] : List Str).all fun f => eqO (PySem.W.findIn K (.ref (ga K "Ring")) f) (some none),
  fun K => eqO (PySem.W.findIn K (.ref (ga K "Ring")) "__class__") (some (some (.builtin "object.__class__"))),
  fun K => decide (PySem.W.mroIn K (ga K "Ring") (.type "object") = some true),
  fun K => (["NoneType", "bool", "int", "str", "list", "tuple"] : List String).all fun n => decide (PySem.W.kitOne K (.type n) (.ref (ga K "System")) = some false),
  fun K => (["NoneType", "bool", "int", "str", "list", "tuple"] : List String).all fun n => PySem.W.notFirst K (ga K "System") (.type n),
  fun K => PySem.W.notFirst K (ga K "System") (.ref (ga K "System")),
  fun K => decide (PySem.W.kitOne K (.ref (ga K "System")) (.ref (ga K "System")) = some true),
  fun K => decide (PySem.W.kitOne K (.ref (ga K "Ring")) (.ref (ga K "Ring")) = some true),
  fun K => decide (PySem.W.kitOne K (.ref (ga K "Kept")) (.ref (ga K "Ring")) = some false),
  fun K => eqO (PySem.W.findIn K (.ref (ga K "NoInstant")) "instant") (some none),
  fun K => eqO (PySem.W.findIn K (.ref (ga K "NoTimes")) "path") (some none),
  fun K => decide (PySem.W.exmOne K (.ref (ga K "NoInstant")) (.ref (ga K "NoInstant")) = some true),
  fun K => decide (PySem.W.exmOne K (.ref (ga K "NoTimes")) (.ref (ga K "NoTimes")) = some true),
  fun K => (["amount", "path", "times"] : List Str).all fun f => eqO (PySem.W.findIn K (.ref (ga K "Greatest")) f) (some none),
  fun K => eqO (PySem.W.findIn K (.ref (ga K "Greatest")) "__class__") (some (some (.builtin "object.__class__"))),
  fun K => decide (PySem.W.mroIn K (ga K "Greatest") (.type "object") = some true),
  fun K => (["apart", "times"] : List Str).all fun f => eqO (PySem.W.findIn K (.ref (ga K "Endless")) f) (some none),
  fun K => eqO (PySem.W.findIn K (.ref (ga K "Endless")) "__class__") (some (some (.builtin "object.__class__"))),
  fun K => decide (PySem.W.mroIn K (ga K "Endless") (.type "object") = some true),
  fun K => decide (PySem.W.kitOne K (.ref (ga K "Greatest")) (.ref (ga K "Endless")) = some false),
  fun K => decide (PySem.W.kitOne K (.ref (ga K "Endless")) (.ref (ga K "Endless")) = some true),
  fun K => decide (PySem.W.kitOne K (.ref (ga K "Greatest")) (.ref (ga K "Greatest")) = some true),
  fun K => decide (PySem.W.kitOne K (.ref (ga K "Endless")) (.ref (ga K "Greatest")) = some false),
  fun K => decide (PySem.W.kitOne K (.ref (ga K "Kept")) (.ref (ga K "Kept")) = some true),
  fun K => decide (PySem.W.kitOne K (.ref (ga K "Ring")) (.ref (ga K "Kept")) = some false)]
def exB (K : PySem.W.Frag) : Bool := exL.all fun b => b K
abbrev Rw : PySem.W.OpenRow := PySem.W.OpenLaw.row PySem.Challenge.rw_lastlife_k35_whole_greatest_differences
def lawFile : Str := Rw.prog.main.file
abbrev hkM : PySem.W.Hook := HeM.hookM lawFile 5 faL fnL iniL prpL tsL exB
def obM (s : PySem.W.SharedT) : HeM.AlM := HeM.obsMG lawFile 5 faL fnL iniL prpL tsL exB (HandSHeadRun.getT s)
theorem obM_eq (s : PySem.W.SharedT) : obM s = hkM.obs s.abs := HeM.obsMG_eq (HandSHeadRun.getT_eq s)
def looseL : List PySem.Str := (["_wall", "DeedError", "BadSystem", "BadTimes", "NoInstant", "NoTimes", "MOST_INSTANTS", "MOST_LINKS", "is_integer", "is_instant", "are_times", "link_fault", "keeps_link", "System", "check_instant", "are_indexes", "has_joints", "sum_of", "path_fault", "ring_fault", "times_fault", "Kept", "Ring", "ring_behind", "settle", "settled_from", "solved", "kept_times", "solved_fault", "Greatest"] : List PySem.Str) ++ (["Endless", "path_back", "completed", "greatest", "apart_fault", "greatest_fault", "times_with", "spans", "_law_bag", "_law_take", "_law_of", "_law_amount", "_law_times", "_law_links", "_law_is_whole", "_law_are_times", "_law_keep", "_law_leads", "_law_sum", "_law_bars", "_law_reached", "_law_barred", "_law_no_instant", "_law_impossible", "_law_has", "_law_is_greatest", "_law_between", "_law_end", "_law_pair", "_law_path_due"] : List PySem.Str) ++ (["_law_times_due", "_law_greatest_due", "_law_endless_due", "_law_bent", "_law_judged", "_law_errors"] : List PySem.Str)
theorem runM (w : World) : HandSHeadRun.RunEq Rw (PySem.W.view Rw.prog [71]) hkM obM 12000 looseL w := by
  intro os
  kernel_rfl

end My
set_option Elab.async false
set_option linter.all false
set_option maxRecDepth 100000
set_option maxHeartbeats 1000000
namespace My
open PySem L2 Dw Wp
open C8 (pss_cut tCut)
set_option pp.maxSteps 600
theorem isLT {K : PySem.W.Frag} {H : Hp} {v : V} {n : String} (dm : Dm K H v n) : PySem.W.kitAny K (.type n) [.type "list", .type "tuple"] = some (decide (n = "list") || decide (n = "tuple")) := by
  cases dm <;> first | (exact kitAny_cons (b := false) (kit_ty (by decide +kernel)) (fun _ => kitAny_cons (b := false) (kit_ty (by decide +kernel)) (fun _ => kitAny_nil) (fun h => nomatch h)) (fun h => nomatch h)) | (exact kitAny_cons (b := true) (kit_ty (by decide +kernel)) (fun h => nomatch h) (fun _ => rfl)) | (exact kitAny_cons (b := false) (kit_ty (by decide +kernel)) (fun _ => kitAny_cons (b := true) (kit_ty (by decide +kernel)) (fun h => nomatch h) (fun _ => rfl)) (fun h => nomatch h))
theorem gOr {K : PySem.W.Frag} {n : Nat} {t : TGs} {b : Addr} {xs : List V} {σ : St} {H : Hp} {Q : St → Hp → Prop} (hb : H b = some (.lst xs) ∨ H b = some (.tup xs)) (hl : xs.length = n) (k : t xs σ H Q) : gTup K n t (.ref b) σ H Q ∨ gLst K n t (.ref b) σ H Q :=
  hb.elim (fun h => .inr ⟨b, xs, rfl, SqL.of h, hl, k⟩) fun h => .inl ⟨b, xs, rfl, SqT.of h, hl, k⟩
/-- a row handed in: a list or tuple of plain things, or a plain thing -/
inductive Rd where
  | sq (xs : List V)
  | pl (v : V)
/-- plain -/
def Sr : V → Prop
  | .non => True
  | .bl _ => True
  | .int _ => True
  | .str x => x.length ≤ 1000 ∧ PyData.strOk x = true
  | _ => False
theorem Sr.ok {v : V} (h : Sr v) : okV v = true := by
  cases v with
  | str x => exact h.2
  | _ => first | rfl | exact h.elim
theorem Sr.dm {K : PySem.W.Frag} {H : Hp} {v : V} (h : Sr v) : ∃ n, Dm K H v n ∧ n ≠ "list" ∧ n ≠ "tuple" := by
  cases v with
  | non => exact ⟨_, .non, by decide, by decide⟩
  | bl b => exact ⟨_, .bl b, by decide, by decide⟩
  | int i => exact ⟨_, .int i, by decide, by decide⟩
  | str x => exact ⟨_, .str x (Nat.le_of_lt (small1000 h.1)), by decide, by decide⟩
  | _ => exact h.elim
def RdOk : Rd → Prop
  | .sq xs => xs.length ≤ 6 ∧ ∀ x ∈ xs, Sr x
  | .pl v => Sr v
def RdAt (H : Hp) (v : V) : Rd → Prop
  | .sq xs => ∃ b, v = .ref b ∧ (H b = some (.lst xs) ∨ H b = some (.tup xs))
  | .pl x => v = x
theorem RdAt.same {H H' : Hp} {v : V} {r : Rd} (h : RdAt H v r) (S : Same H H') : RdAt H' v r := by
  cases r with
  | sq xs =>
    obtain ⟨b, e, hb⟩ := h
    exact ⟨b, e, hb.imp (S _ _) (S _ _)⟩
  | pl x => exact h
def isSqR : Rd → Bool
  | .sq _ => true
  | .pl _ => false
theorem isLT_rd {K : PySem.W.Frag} {H : Hp} {v : V} {r : Rd} (h : RdAt H v r) (ok : RdOk r) : ∃ n, Dm K H v n ∧ PySem.W.kitAny K (.type n) [.type "list", .type "tuple"] = some (isSqR r) := by
  cases r with
  | sq xs =>
    obtain ⟨b, rfl, hb | hb⟩ := h
    · exact ⟨_, .lst hb, isLT (K := K) (H := H) (.lst hb)⟩
    · exact ⟨_, .tup hb, isLT (K := K) (H := H) (.tup hb)⟩
  | pl x =>
    obtain rfl : v = x := h
    obtain ⟨n, d, h1, h2⟩ := Sr.dm (K := K) (H := H) (show Sr v from ok)
    refine ⟨n, d, ?_⟩
    rw [isLT d, decide_eq_false h1, decide_eq_false h2]
    rfl

/-! whole numbers, instants -/
def isI : V → Bool
  | .int _ => true
  | _ => false
def isT (c : Int) : V → Bool
  | .int i => decide (0 ≤ i) && decide (i < c)
  | _ => false
def spIsI (K : PySem.W.Frag) : Sp := fun vs H Q _ => ∃ (v : V) (n : String), vs = [v] ∧ Dm K H v n ∧ Q (.bl (isI v)) H
def spInst (K : PySem.W.Frag) : Sp := fun vs H Q _ => ∃ (v : V) (n : String) (c : Int), vs = [v, .int c] ∧ Dm K H v n ∧ Q (.bl (isT c v)) H
section
variable {P : Program} {w : World} {K : PySem.W.Frag} {mg : Str → Option Value} {base : Heap} {cl : String → Addr}
theorem ok_is_integer {f : Addr} {fd : FuncData} (F : Fun K "is_integer" "is_integer" s_is_integer f fd) (T : Txt P w K mg cl) : FnOk P w K mg base CX0 1 f fd ["thing"] (spIsI K) := by
  refine F.ok sc_is_integer (fun vs H Q E h => ?_) (fun cdv A outer s H vs Q E hr h => ?_)
  · obtain ⟨v, n, rfl, _⟩ := h
    rfl
  · obtain ⟨v, n, rfl, d, k⟩ := h
    refine ⟨_, (pss_one (ps_ret (pe_and (pe_callB call_isi (by rfl) T.n_isinstance (by decide +kernel) (pa_cons (pv 0) (pa_cons (pe_ty "int" T.n_int) pa_nil))) (pe_one (pe_not (pe_callB call_isi (by rfl) T.n_isinstance (by decide +kernel) (pa_cons (pv 0) (pa_cons (pe_ty "bool" T.n_bool) pa_nil)))))))), ?_⟩
    cases d with
    | int i =>
      refine ⟨_, rfl, _, _, _, _, _, rfl, .ty "int", .base (.int i), kit_ty (by decide +kernel), true, rfl, iteT ?_⟩
      exact ⟨_, rfl, _, _, _, _, _, rfl, .ty "bool", .base (.int i), kit_ty (by decide +kernel), false, rfl, k⟩
    | bl b =>
      refine ⟨_, rfl, _, _, _, _, _, rfl, .ty "int", .base (.bl b), kit_ty (by decide +kernel), true, rfl, iteT ?_⟩
      exact ⟨_, rfl, _, _, _, _, _, rfl, .ty "bool", .base (.bl b), kit_ty (by decide +kernel), true, rfl, k⟩
    | non => exact ⟨_, rfl, _, _, _, _, _, rfl, .ty "int", .base .non, kit_ty (by decide +kernel), false, rfl, iteF k⟩
    | str x hx => exact ⟨_, rfl, _, _, _, _, _, rfl, .ty "int", .base (.str x), kit_ty (by decide +kernel), false, rfl, iteF k⟩
    | lst e => exact ⟨_, rfl, _, _, _, _, _, rfl, .ty "int", .base (.lst e), kit_ty (by decide +kernel), false, rfl, iteF k⟩
    | tup e => exact ⟨_, rfl, _, _, _, _, _, rfl, .ty "int", .base (.tup e), kit_ty (by decide +kernel), false, rfl, iteF k⟩
theorem cal_is_integer (T : Txt P w K mg cl) : Cal P w K mg base CX0 1 "is_integer" ["thing"] (spIsI K) := by
  obtain ⟨f, fd, F, m⟩ := T.d_is_integer
  exact ⟨f, fd, ok_is_integer F T, m, F.kp, F.binds fun _ _ _ _ _ _ us hl => match us, hl with | [_], _ => rfl⟩
theorem ok_is_whole {f : Addr} {fd : FuncData} (F : Fun K "_law_is_whole" "_law_is_whole" s_is_whole f fd) (T : Txt P w K mg cl) : FnOk P w K mg base CX0 1 f fd ["_law_thing"] (spIsI K) := by
  refine F.ok sc_is_whole (fun vs H Q E h => ?_) (fun cdv A outer s H vs Q E hr h => ?_)
  · obtain ⟨v, n, rfl, _⟩ := h
    rfl
  · obtain ⟨v, n, rfl, d, k⟩ := h
    refine ⟨_, (pss_one (ps_ret (pe_and (pe_callB call_isi (by rfl) T.n_isinstance (by decide +kernel) (pa_cons (pv 0) (pa_cons (pe_ty "int" T.n_int) pa_nil))) (pe_one (pe_not (pe_callB call_isi (by rfl) T.n_isinstance (by decide +kernel) (pa_cons (pv 0) (pa_cons (pe_ty "bool" T.n_bool) pa_nil)))))))), ?_⟩
    cases d with
    | int i =>
      refine ⟨_, rfl, _, _, _, _, _, rfl, .ty "int", .base (.int i), kit_ty (by decide +kernel), true, rfl, iteT ?_⟩
      exact ⟨_, rfl, _, _, _, _, _, rfl, .ty "bool", .base (.int i), kit_ty (by decide +kernel), false, rfl, k⟩
    | bl b =>
      refine ⟨_, rfl, _, _, _, _, _, rfl, .ty "int", .base (.bl b), kit_ty (by decide +kernel), true, rfl, iteT ?_⟩
      exact ⟨_, rfl, _, _, _, _, _, rfl, .ty "bool", .base (.bl b), kit_ty (by decide +kernel), true, rfl, k⟩
    | non => exact ⟨_, rfl, _, _, _, _, _, rfl, .ty "int", .base .non, kit_ty (by decide +kernel), false, rfl, iteF k⟩
    | str x hx => exact ⟨_, rfl, _, _, _, _, _, rfl, .ty "int", .base (.str x), kit_ty (by decide +kernel), false, rfl, iteF k⟩
    | lst e => exact ⟨_, rfl, _, _, _, _, _, rfl, .ty "int", .base (.lst e), kit_ty (by decide +kernel), false, rfl, iteF k⟩
    | tup e => exact ⟨_, rfl, _, _, _, _, _, rfl, .ty "int", .base (.tup e), kit_ty (by decide +kernel), false, rfl, iteF k⟩
theorem cal_is_whole (T : Txt P w K mg cl) : Cal P w K mg base CX0 1 "_law_is_whole" ["_law_thing"] (spIsI K) := by
  obtain ⟨f, fd, F, m⟩ := T.d_is_whole
  exact ⟨f, fd, ok_is_whole F T, m, F.kp, F.binds fun _ _ _ _ _ _ us hl => match us, hl with | [_], _ => rfl⟩
theorem ok_is_instant {f : Addr} {fd : FuncData} (F : Fun K "is_instant" "is_instant" s_is_instant f fd) (T : Txt P w K mg cl) : FnOk P w K mg base CX0 2 f fd ["thing", "count"] (spInst K) := by
  refine F.ok sc_is_instant (fun vs H Q E h => ?_) (fun cdv A outer s H vs Q E hr h => ?_)
  · obtain ⟨v, n, c, rfl, _⟩ := h
    rfl
  · obtain ⟨v, n, c, rfl, d, k⟩ := h
    have C_is_integer : Cal P w K mg base CX0 1 "is_integer" _ (spIsI K) := cal_is_integer T
    refine ⟨_, (pss_one (ps_ret (pe_and (pe_cal C_is_integer (hr.mono (by decide)) (pa_cons (pv 0) pa_nil)) (pe_one (pe_chain op_le op_lt pe_int (pv 0) (pv 1)))))), ?_⟩
    refine ⟨_, rfl, v, n, rfl, d, _, rfl, ?_⟩
    cases d with
    | int i =>
      refine iteT ⟨_, rfl, _, _, rfl, rfl, _, rfl, ?_⟩
      have k : Q (.bl (decide (0 ≤ i) && decide (i < c))) H := k
      refine ite2 (fun h => ?_) (fun h => ?_)
      · rw [h] at k
        exact ⟨_, rfl, _, _, rfl, rfl, k⟩
      · rw [Bool.eq_false_iff.mpr h] at k
        exact k
    | bl b => exact iteF k
    | non => exact iteF k
    | str x hx => exact iteF k
    | lst e => exact iteF k
    | tup e => exact iteF k
theorem cal_is_instant (T : Txt P w K mg cl) : Cal P w K mg base CX0 2 "is_instant" ["thing", "count"] (spInst K) := by
  obtain ⟨f, fd, F, m⟩ := T.d_is_instant
  exact ⟨f, fd, ok_is_instant F T, m, F.kp, F.binds fun _ _ _ _ _ _ us hl => match us, hl with | [_, _], _ => rfl⟩
end
end My
set_option Elab.async false
set_option linter.all false
set_option maxRecDepth 100000
set_option maxHeartbeats 1000000
namespace My
open PySem L2 Dw Wp
open C8 (pss_cut tCut)
set_option pp.maxSteps 600
def optV : Option Str → V
  | some s => .str s
  | none => .non
theorem ixOr {K : PySem.W.Frag} {H : Hp} {b : Addr} {xs : List V} {j : Nat} {v : V} {Q : VK} (hb : H b = some (.lst xs) ∨ H b = some (.tup xs)) (ha : xs[j]? = some v) (q : Q v H) : rIxL K (.ref b) (.int (j : Int)) H Q ∨ rIxT K (.ref b) (.int (j : Int)) H Q :=
  hb.imp (fun h => ⟨b, xs, j, v, rfl, rfl, SqL.of h, atI_nat ha, q⟩) fun h => ⟨b, xs, j, v, rfl, rfl, SqT.of h, atI_nat ha, q⟩
/-! the first word of a link -/
def linkV (c : Int) (xs : List V) : Option Str := if xs.all isI = false then some "link" else if (isT c (xs[0]?.getD .non) && isT c (xs[1]?.getD .non)) = true then none else some "instant"
def linkW (c : Int) : Rd → Option Str
  | .pl _ => some "link"
  | .sq xs => if xs.length = 3 then linkV c xs else some "link"
def oddF (v : V) : Option V := if isI v = true then none else some v
theorem odd_all : ∀ xs : List V, (xs.filterMap oddF).isEmpty = xs.all isI
  | [] => rfl
  | x :: xs => by
    have ih := odd_all xs
    cases h : isI x with
    | true => rw [List.filterMap_cons_none (show oddF x = none from if_pos h), List.all_cons, h, Bool.true_and]; exact ih
    | false => rw [List.filterMap_cons_some (show oddF x = some x from if_neg (by rw [h]; decide)), List.all_cons, h]; rfl
def spLkF (K : PySem.W.Frag) : Sp := fun vs H Q _ => ∃ (v : V) (r : Rd) (c : Int), vs = [v, .int c] ∧ RdAt H v r ∧ RdOk r ∧ ∀ H', Same H H' → Q (optV (linkW c r)) H'
section
variable {P : Program} {w : World} {K : PySem.W.Frag} {mg : Str → Option Value} {base : Heap} {cl : String → Addr}
theorem ok_link_fault {f : Addr} {fd : FuncData} (F : Fun K "link_fault" "link_fault" s_link_fault f fd) (T : Txt P w K mg cl) : FnOk P w K mg base CX0 3 f fd ["link", "count"] (spLkF K) := by
  refine F.ok sc_link_fault (fun vs H Q E h => ?_) (fun cdv A outer s H vs Q E hr h => ?_)
  · obtain ⟨v, r, c, rfl, _⟩ := h
    rfl
  · obtain ⟨v, r, c, rfl, hv, ok, k⟩ := h
    have C_is_integer : Cal P w K mg base CX0 1 "is_integer" _ (spIsI K) := cal_is_integer T
    have C_is_instant : Cal P w K mg base CX0 2 "is_instant" _ (spInst K) := cal_is_instant T
    refine ⟨_, (pss_cons (ps_if (PW.pt (pw_or (pt_not (pt_val (pe_callB call_isiT (by rfl) T.n_isinstance (by decide +kernel) (pa_cons (pv 0) (pa_cons (pe_tup (pa_cons (pe_ty "list" T.n_list) (pa_cons (pe_ty "tuple" T.n_tuple) pa_nil))) pa_nil))))) (pw_or1 (pt_cmpR op_ne (pe_callB call_len_seq (by rfl) T.n_len PySem.boot_len (pa_cons (pv 0) pa_nil)) pe_int (nomark _)))))
          (pss_one (ps_ret pe_str)) pss_nil)
        (pss_cons (ps_if (pt_truth (pe_lc (own := [("part", 2)]) (g := gName 2)  rfl sc_link_fault.nd (pi_seq (pv 0)) (blkOk_by (own := [("part", 2)]) (N := ["link", "count", "part"]) (sc := defScope s_link_fault) (by decide +kernel)) (fun _ _ _ _ _ => pg_name (i := 2) sc_link_fault.nd rfl (Or.inl rfl)) (fun _ _ _ _ _ => pts_one (pt_not (pt_val (pe_cal C_is_integer (hr.mono (by decide)) (pa_cons (pv 2) pa_nil))))) (fun _ _ _ _ _ => (pv 2))) (by intro _; rfl))
          (pss_one (ps_ret pe_str)) pss_nil)
        (pss_cons (ps_if (PW.pt (pw_or (pt_not (pt_val (pe_cal C_is_instant (hr.mono (by decide)) (pa_cons (pe_ix ix_either (pv 0) pe_int (fun _ _ => rfl)) (pa_cons (pv 1) pa_nil))))) (pw_or1 (pt_not (pt_val (pe_cal C_is_instant (hr.mono (by decide)) (pa_cons (pe_ix ix_either (pv 0) pe_int (fun _ _ => rfl)) (pa_cons (pv 1) pa_nil))))))))
          (pss_one (ps_ret pe_str)) pss_nil)
        (pss_one (ps_ret pe_non))))), ?_⟩
    refine ⟨_, rfl, by show 2 ≤ sizeLine; decide, fun tp htp => ?_⟩
    have S0 := sNew (o := .tup [.ty "list", .ty "tuple"]) htp
    obtain ⟨nv, dv, ka⟩ := isLT_rd (K := K) (hv.same S0) ok
    refine ⟨v, tp, _, .type nv, _, _, rfl, upd_same, .cons (.ty "list") (.cons (.ty "tuple") .nil), dv.ty, ka, _, rfl, ?_⟩
    cases r with
    | pl x => exact iteT (iteT (k _ S0))
    | sq xs =>
      refine iteF ?_
      obtain ⟨b, rfl, hb⟩ := hv.same S0
      generalize upd H tp (.tup [.ty "list", .ty "tuple"]) = H1 at S0 hb
      refine ⟨_, rfl, b, xs, rfl, hb.imp SqL.of SqT.of, rfl, _, rfl, ?_⟩
      refine ite2 (fun g => ?_) (fun g => ?_)
      · have k := k _ S0
        have g : ¬ xs.length = 3 := fun e => by rw [e] at g; exact absurd g (by decide)
        rw [show linkW c (.sq xs) = some "link" from if_neg g] at k
        exact k
      have g : xs.length = 3 := by
        simp only [Bool.not_eq_true', decide_eq_false_iff_not, Decidable.not_not] at g
        exact Int.ofNat.inj (V.int.inj g)
      have keep : ∀ {D : Addr} {o : HO}, H1 D = none → upd H1 D o b = H1 b := fun {D o} nD => by
        rcases hb with h | h <;> exact upd_ne (ne_of_none h nD)
      refine ⟨_, rfl, b, xs, rfl, hb, fun J wk D nD => lc_it wk (PvF H1 D xs oddF) rfl (fun i H'' _ q => by rw [q]; exact keep nD) ?_ ?_⟩
      · rintro i x H2 H3 hi rfl ⟨rfl, hx⟩
        obtain ⟨tn, dn, _⟩ := (ok.2 x (List.mem_of_getElem? hx)).dm (K := K) (H := upd H1 D (.lst ((xs.take i).filterMap oddF)))
        refine ⟨rfl, _, rfl, x, tn, rfl, dn, _, rfl, ?_⟩
        refine ite2 (fun h => ?_) (fun h => ?_)
        · exact ⟨_, rfl, fm_put hx (if_neg (by simpa using h)) (small1000 (by have := ok.1; omega))⟩
        · exact fm_skip hx (if_pos (by simpa using h))
      · intro H' q
        obtain rfl := fm_end q
        have S1 := S0.trans (sNew (o := .lst (xs.filterMap oddF)) nD)
        have oa := odd_all xs
        have k := k _ S1
        rw [show linkW c (.sq xs) = linkV c xs from if_pos g] at k
        unfold linkV at k
        refine ⟨_, .inl ⟨_, SqL.of upd_same, rfl⟩, ?_⟩
        rw [oa]
        cases ha : xs.all isI with
        | false =>
          rw [if_pos ha] at k
          exact iteT k
        | true =>
          rw [if_neg (by rw [ha]; decide)] at k
          refine iteF ?_
          obtain ⟨x0, x1, x2, rfl⟩ : ∃ x0 x1 x2, xs = [x0, x1, x2] := by
            match xs, g with
            | [x0, x1, x2], _ => exact ⟨_, _, _, rfl⟩
          have hb2 := hb.imp (sNew (o := .lst ([x0, x1, x2].filterMap oddF)) nD _ _) (sNew (o := .lst ([x0, x1, x2].filterMap oddF)) nD _ _)
          generalize upd H1 D (.lst ([x0, x1, x2].filterMap oddF)) = H2 at hb2 k
          obtain ⟨t0, d0, _⟩ := (ok.2 x0 (by simp)).dm (K := K) (H := H2)
          obtain ⟨t1, d1, _⟩ := (ok.2 x1 (by simp)).dm (K := K) (H := H2)
          have k : Q (optV (if (isT c x0 && isT c x1) = true then (none : Option Str) else some ("instant" : Str))) H2 := k
          refine ⟨_, rfl, ixOr hb2 (j := 0) rfl ?_⟩
          refine ⟨_, rfl, x0, t0, c, rfl, d0, _, rfl, ?_⟩
          cases h0 : isT c x0 with
          | false =>
            rw [h0] at k
            exact iteT k
          | true =>
            rw [h0] at k
            refine iteF ⟨_, rfl, ixOr hb2 (j := 1) rfl ⟨_, rfl, x1, t1, c, rfl, d1, _, rfl, ?_⟩⟩
            cases h1 : isT c x1 with
            | false =>
              rw [h1] at k
              exact iteT k
            | true =>
              rw [h1] at k
              exact iteF k
theorem cal_link_fault (T : Txt P w K mg cl) : Cal P w K mg base CX0 3 "link_fault" ["link", "count"] (spLkF K) := by
  obtain ⟨f, fd, F, m⟩ := T.d_link_fault
  exact ⟨f, fd, ok_link_fault F T, m, F.kp, F.binds fun _ _ _ _ _ _ us hl => match us, hl with | [_, _], _ => rfl⟩
end
end My
set_option Elab.async false
set_option linter.all false
set_option maxRecDepth 100000
set_option maxHeartbeats 1000000
namespace My
open PySem L2 Dw Wp
open C8 (pss_cut tCut)
set_option pp.maxSteps 600
section
variable {P : Program} {w : World} {K : PySem.W.Frag} {mg : Str → Option Value} {base : Heap} {cl : String → Addr}
theorem oki_BadSystem {f : Addr} {fd : FuncData} (F : Fun K "__init__" "BadSystem.__init__" s_BadSystem_init f fd) (T : Txt P w K mg cl) : FnOk P w K mg base CX0 1 f fd ["self", "index", "what"] (spIni (cl "BadSystem") ["index", "what"]) := by
  refine F.ok sc_BadSystem_init (fun vs H Q E h => ?_) (fun cdv A outer s H vs Q E hr h => ?_)
  · obtain ⟨a, us, rfl, hl, _⟩ := h
    rw [List.length_cons, hl]
    rfl
  · obtain ⟨a, us, rfl, hl, ha, h0, k⟩ := h
    match us, hl with
    | [u0, u1], _ =>
      refine ⟨_, (pss_cons (ps_expr (pe_deinit T.cr T.vi T.m_DeedError (pa_cons (pv 0) (pa_cons pe_str pa_nil))))
        (pss_cons (ps_ost (pv 0) (pv 1))
        (pss_one (ps_ost (pv 0) (pv 2))))), ?_⟩
      refine ⟨_, rfl, a, cl "BadSystem", [.str _], rfl, by decide, T.o_BadSystem, ha, ?_⟩
      refine ⟨_, rfl, _, rfl, a, cl "BadSystem", rfl, T.o_BadSystem, T.xf_BadSystem_index, .inl ⟨ha, fun dx nd ne => ?_⟩⟩
      refine ⟨_, rfl, _, rfl, a, cl "BadSystem", rfl, T.o_BadSystem, T.xf_BadSystem_what, .inr ⟨dx, _, upd_same, by rw [upd_ne ne]; exact upd_same, by show 1 ≤ 900; decide, ?_⟩⟩
      exact k dx _ nd ne (fun b o q nb => by rw [upd_ne (ne_of_none q nd), upd_ne nb, upd_ne (ne_of_none q nd)]; exact q) (by rw [upd_ne (Ne.symm ne)]; exact upd_same) upd_same
theorem ini_BadSystem (T : Txt P w K mg cl) : CalO P w K mg base 1 (cl "BadSystem") ["self", "index", "what"] (spIni (cl "BadSystem") ["index", "what"]) := by
  obtain ⟨f, fd, F, h1, h2⟩ := T.i_BadSystem
  exact ⟨T.o_BadSystem, f, fd, oki_BadSystem F T, h1, h2, F.binds fun _ _ _ _ _ _ us hl => match us, hl with | [_, _, _], _ => rfl⟩
theorem oki_BadTimes {f : Addr} {fd : FuncData} (F : Fun K "__init__" "BadTimes.__init__" s_BadTimes_init f fd) (T : Txt P w K mg cl) : FnOk P w K mg base CX0 1 f fd ["self"] (spIni (cl "BadTimes") []) := by
  refine F.ok sc_BadTimes_init (fun vs H Q E h => ?_) (fun cdv A outer s H vs Q E hr h => ?_)
  · obtain ⟨a, us, rfl, hl, _⟩ := h
    rw [List.length_cons, hl]
    rfl
  · obtain ⟨a, us, rfl, hl, ha, h0, k⟩ := h
    match us, hl with
    | [], _ =>
      refine ⟨_, (pss_one (ps_expr (pe_deinit T.cr T.vi T.m_DeedError (pa_cons (pv 0) (pa_cons pe_str pa_nil))))), ?_⟩
      refine ⟨_, rfl, a, cl "BadTimes", [.str _], rfl, by decide, T.o_BadTimes, ha, ?_⟩
      exact h0 rfl
theorem ini_BadTimes (T : Txt P w K mg cl) : CalO P w K mg base 1 (cl "BadTimes") ["self"] (spIni (cl "BadTimes") []) := by
  obtain ⟨f, fd, F, h1, h2⟩ := T.i_BadTimes
  exact ⟨T.o_BadTimes, f, fd, oki_BadTimes F T, h1, h2, F.binds fun _ _ _ _ _ _ us hl => match us, hl with | [_], _ => rfl⟩
end
end My
set_option Elab.async false
set_option linter.all false
set_option maxRecDepth 100000
set_option maxHeartbeats 1000000
namespace My
open PySem L2 Dw Wp
open C8 (pss_cut tCut)
set_option pp.maxSteps 600
/-! a system in the memory -/
abbrev Lk := Int × Int × Int
def lkV (l : Lk) : List V := [.int l.1, .int l.2.1, .int l.2.2]
def lkR (l : Lk) : Rd := .sq (lkV l)
def LkT (H : Hp) (v : V) (l : Lk) : Prop := ∃ b, v = .ref b ∧ H b = some (.tup (lkV l))
def syF (c : Int) (t : Addr) : List (Str × V) := [("count", .int c), ("links", .ref t)]
structure SyAt (C : Addr) (H : Hp) (p : Addr) (c : Int) (t : Addr) (us : List V) (ls : List Lk) : Prop where
  self : ∃ dx, H p = some (.ins C dx (syF c t))
  rows : H t = some (.tup us)
  each : Paired (LkT H) us ls
theorem Paired.impP {α β : Type} {F G : α → β → Prop} (h : ∀ a b, F a b → G a b) : ∀ {xs : List α} {ys : List β}, Paired F xs ys → Paired G xs ys
  | _, _, .nil => .nil
  | _, _, .cons a t => .cons (h _ _ a) (Paired.impP h t)
theorem SyAt.same {C : Addr} {H H' : Hp} {p t : Addr} {c : Int} {us : List V} {ls : List Lk} (h : SyAt C H p c t us ls) (S : Same H H') : SyAt C H' p c t us ls := by
  obtain ⟨⟨dx, h1⟩, h2, h3⟩ := h
  exact ⟨⟨dx, S _ _ h1⟩, S _ _ h2, Paired.impP (fun _ _ ⟨b, q1, q2⟩ => ⟨b, q1, S _ _ q2⟩) h3⟩
/-- the first word of links -/
def linksW (c : Int) : Nat → List Rd → Option (V × Str)
  | _, [] => none
  | i, r :: rs => match linkW c r with
    | some w => some (.int (i : Nat), w)
    | none => linksW c (i + 1) rs
def isCt : V → Bool
  | .int c => decide (1 ≤ c) && decide (c ≤ 12)
  | _ => false
def ctI : V → Int
  | .int c => c
  | _ => 0
def sysW (cv : V) (ro : Option (List Rd)) : Option (V × Str) :=
  if isCt cv = false then some (.non, "count") else match ro with
    | none => some (.non, "links")
    | some rs => if 200 < rs.length then some (.non, "links") else linksW (ctI cv) 0 rs
/-- a thing that is neither list nor tuple -/
def NotLT (K : PySem.W.Frag) (H : Hp) (v : V) : Prop := ∀ H', Same H H' → ∃ t, TyX K H' v t ∧ PySem.W.kitAny K t [.type "list", .type "tuple"] = some false
def LsAt (K : PySem.W.Frag) (H : Hp) (v : V) : Option (List Rd) → Prop
  | some rs => ∃ r ws, v = .ref r ∧ (H r = some (.lst ws) ∨ H r = some (.tup ws)) ∧ Paired (RdAt H) ws rs ∧ (∀ x ∈ rs, RdOk x) ∧ rs.length ≤ 300
  | none => NotLT K H v
theorem LsAt.same {K : PySem.W.Frag} {H H' : Hp} {v : V} {ro : Option (List Rd)} (h : LsAt K H v ro) (S : Same H H') : LsAt K H' v ro := by
  cases ro with
  | none => exact fun H2 S2 => h H2 (S.trans S2)
  | some rs =>
    obtain ⟨r, ws, e, h1, h2, h3, h4⟩ := h
    exact ⟨r, ws, e, h1.imp (S _ _) (S _ _), Paired.impP (fun _ _ q => q.same S) h2, h3, h4⟩
def spSys (K : PySem.W.Frag) (C CB : Addr) : Sp := fun vs H Q E => ∃ (p dx : Addr) (cv lv : V) (n : String) (ro : Option (List Rd)), vs = [.ref p, cv, lv] ∧ H p = some (.ins C dx []) ∧ Dm K H cv n ∧ LsAt K H lv ro ∧
  (∀ i w G e, sysW cv ro = some (i, w) → Same H G → H e = none → E (.ref CB) (some e) (upd G e (.xd [("what", .str w), ("index", i)]))) ∧
  (∀ c ls t us H', cv = .int c → ro = some (ls.map lkR) → sysW cv ro = none → But p H H' → SyAt C H' p c t us ls → Q .non H')
theorem sysW_n {c : Int} (h : (decide (1 ≤ c) && decide (c ≤ 12)) = true) : sysW (.int c) none = some (V.non, ("links" : Str)) := by
  have h : isCt (.int c) = true := h
  unfold sysW
  rw [if_neg (by rw [h]; decide)]
theorem sysW_s {c : Int} {rs : List Rd} (h : (decide (1 ≤ c) && decide (c ≤ 12)) = true) : sysW (.int c) (some rs) = if 200 < rs.length then some (V.non, ("links" : Str)) else linksW c 0 rs := by
  have h : isCt (.int c) = true := h
  unfold sysW
  rw [if_neg (by rw [h]; decide)]
  rfl
/-- an error with its two fields is made and raised -/
theorem raise2 {H H1 : Hp} {C : Addr} {i w : V} {E : XK} (S : Same H H1) (k : ∀ G e, Same H G → H e = none → E (.ref C) (some e) (upd G e (.xd [("what", w), ("index", i)]))) :
    ([i, w] : List V).length ≤ 1000 ∧ ∀ a, H1 a = none → spIni C ["index", "what"] (.ref a :: ([i, w] ++ [])) (upd H1 a (exo a C none)) (fun v H2 => v = .non ∧ ∃ (d : Addr) (fs : List (Str × V)), H2 a = some (exo a C (some d)) ∧ H2 d = some (exd d fs) ∧ H1 d = none ∧ E (.ref C) (some d) (upd (del H2 a) d (.xd fs))) (fun _ _ _ => False) := by
  refine ⟨by show 2 ≤ 1000; decide, fun a na => ⟨a, [i, w], rfl, rfl, upd_same, (fun z => by cases z), fun d H' nd ne kp h1 h2 => ⟨rfl, d, _, h1, h2, ?_, k (del H' a) d (fun b o q => ?_) ?_⟩⟩⟩
  · rw [upd_ne ne] at nd
    exact nd
  · have nb : b ≠ a := ne_of_none (S _ _ q) na
    rw [del_ne nb]
    exact kp b o (by rw [upd_ne nb]; exact S _ _ q) nb
  · rw [upd_ne ne] at nd
    cases q : H d with
    | none => rfl
    | some o => rw [S _ _ q] at nd; cases nd
theorem take_drop_at {α : Type} {xs : List α} {i : Nat} {x : α} (h : xs[i]? = some x) : xs.drop i = x :: xs.drop (i + 1) := by
  obtain ⟨h1, h2⟩ := List.getElem?_eq_some_iff.mp h
  rw [List.drop_eq_getElem_cons h1, h2]
theorem linkW_good {c : Int} {r : Rd} (h : linkW c r = none) : ∃ l : Lk, r = lkR l ∧ (0 ≤ l.1 ∧ l.1 < c) ∧ (0 ≤ l.2.1 ∧ l.2.1 < c) := by
  cases r with
  | pl v => cases h
  | sq xs =>
    have h : (if xs.length = 3 then linkV c xs else some "link") = none := h
    split at h
    · rename_i g
      obtain ⟨x0, x1, x2, rfl⟩ : ∃ x0 x1 x2, xs = [x0, x1, x2] := by
        match xs, g with
        | [x0, x1, x2], _ => exact ⟨_, _, _, rfl⟩
      unfold linkV at h
      split at h
      · cases h
      · rename_i ha
        split at h
        · rename_i hb
          have ha : [x0, x1, x2].all isI = true := by simpa using ha
          simp only [List.all_cons, List.all_nil, Bool.and_true, Bool.and_eq_true] at ha
          obtain ⟨a0, a1, a2⟩ := ha
          obtain ⟨i0, rfl⟩ : ∃ i, x0 = .int i := by cases x0 with
            | int i => exact ⟨i, rfl⟩
            | _ => cases a0
          obtain ⟨i1, rfl⟩ : ∃ i, x1 = .int i := by cases x1 with
            | int i => exact ⟨i, rfl⟩
            | _ => cases a1
          obtain ⟨i2, rfl⟩ : ∃ i, x2 = .int i := by cases x2 with
            | int i => exact ⟨i, rfl⟩
            | _ => cases a2
          have hb : ((decide (0 ≤ i0) && decide (i0 < c)) && (decide (0 ≤ i1) && decide (i1 < c))) = true := hb
          simp only [Bool.and_eq_true, decide_eq_true_eq] at hb
          exact ⟨(i0, i1, i2), rfl, hb.1, hb.2⟩
        · cases h
    · cases h
def LkOk (c : Int) (l : Lk) : Prop := (0 ≤ l.1 ∧ l.1 < c) ∧ (0 ≤ l.2.1 ∧ l.2.1 < c)
theorem linksW_good {c : Int} : ∀ {rs : List Rd} {i : Nat}, linksW c i rs = none → ∃ ls : List Lk, rs = ls.map lkR ∧ ∀ l ∈ ls, LkOk c l
  | [], _, _ => ⟨[], rfl, fun l h => by cases h⟩
  | r :: rs, i, h => by
    have st0 : linksW c i (r :: rs) = (match linkW c r with
      | some w => some (V.int (i : Nat), w)
      | none => linksW c (i + 1) rs) := rfl
    cases e : linkW c r with
    | some w => rw [st0, e] at h; cases h
    | none =>
      rw [st0, e] at h
      have h : linksW c (i + 1) rs = none := h
      obtain ⟨l, e1, hl⟩ := linkW_good e
      rw [e1]
      obtain ⟨ls, e2, hls⟩ := linksW_good h
      exact ⟨l :: ls, by rw [e2]; rfl, fun x hx => by
        rcases List.mem_cons.mp hx with rfl | hx
        · exact hl
        · exact hls x hx⟩
section
variable {P : Program} {w : World} {K : PySem.W.Frag} {mg : Str → Option Value} {base : Heap} {cl : String → Addr}
theorem ok_System_init {f : Addr} {fd : FuncData} (F : HeM.FunV K "__init__" "System.__init__" s_System_init f fd) (T : Txt P w K mg cl) : FnOk P w K mg base (L2.CX P w) 4 f fd ["self", "count", "links"] (spSys K (cl "System") (cl "BadSystem")) := by
  refine HeM.FunV.ok F sc_System_init (fun vs H Q E h => ?_) (fun cdv A outer s H vs Q E hr h => ?_)
  · obtain ⟨p, dx, cv, lv, n, ro, rfl, _⟩ := h
    rfl
  · obtain ⟨p, dx, cv, lv, n, ro, rfl, hp, dc, hl, bad, good⟩ := h
    have C_is_integer : Cal P w K mg base CX0 1 "is_integer" _ (spIsI K) := cal_is_integer T
    have C_link_fault : Cal P w K mg base CX0 3 "link_fault" _ (spLkF K) := cal_link_fault T
    refine ⟨_, (pss_cons (ps_if (PW.pt (pw_or (pt_not (pt_val (pe_cal C_is_integer (hr.mono (by decide)) (pa_cons (pv 1) pa_nil)))) (pw_or1 (pt_not (pt_chain op_le op_le pe_int (pv 1) (pe_gl T.c_MOST_INSTANTS))))))
          (pss_one (ps_raiseO rfl (ini_BadSystem (base := base) T) T.m_BadSystem (hr.mono (by decide)) (takes_of rfl rfl rfl rfl) (by exact (pa_cons pe_non (pa_cons pe_str pa_nil))))) pss_nil)
        (pss_cons (ps_if (PW.pt (pw_or (pt_not (pt_val (pe_callB call_isiT (by rfl) T.n_isinstance (by decide +kernel) (pa_cons (pv 2) (pa_cons (pe_tup (pa_cons (pe_ty "list" T.n_list) (pa_cons (pe_ty "tuple" T.n_tuple) pa_nil))) pa_nil))))) (pw_or1 (pt_cmpR op_gt (pe_callB call_len_seq (by rfl) T.n_len PySem.boot_len (pa_cons (pv 2) pa_nil)) (pe_gl T.c_MOST_LINKS) (nomark _)))))
          (pss_one (ps_raiseO rfl (ini_BadSystem (base := base) T) T.m_BadSystem (hr.mono (by decide)) (takes_of rfl rfl rfl rfl) (by exact (pa_cons pe_non (pa_cons pe_str pa_nil))))) pss_nil)
        (pss_cons (ps_for (passes_of rfl) rfl (pi_enu2 (by rfl) T.n_enumerate (pa_cons (pv 2) pa_nil)) (pg_tup rfl (pgs_cons (pg_name (i := 3) sc_System_init.nd rfl (Or.inl rfl)) (pgs_cons (pg_name (i := 4) sc_System_init.nd rfl (Or.inl rfl)) pgs_nil)))
          (pss_cons (ps_set (i := 5) sc_System_init.nd rfl (Or.inl rfl) (pe_cal C_link_fault (hr.mono (by decide)) (pa_cons (pv 4) (pa_cons (pv 1) pa_nil))))
            (pss_one (ps_if (pt_cmpR op_notN (pv 5) pe_non (nomark _))
              (pss_one (ps_raiseO rfl (ini_BadSystem (base := base) T) T.m_BadSystem (hr.mono (by decide)) (takes_of rfl rfl rfl rfl) (by exact (pa_cons (pv 3) (pa_cons (pv 5) pa_nil))))) pss_nil))))
        (pss_cons (ps_fld (pv 0) (pv 1) rfl)
        (pss_one (ps_fld (pv 0) (pe_callTy call_tuple_of (by rfl) T.n_tuple (by decide +kernel) (pa_cons (pe_lc (own := [("link", 4)]) (g := gName 4) (tt := tYes) rfl sc_System_init.nd (pi_seq (pv 2)) (blkOk_by (own := [("link", 4)]) (N := ["self", "count", "links", "index", "link", "word"]) (sc := defScope s_System_init) (by decide +kernel)) (fun _ _ _ _ _ => pg_name (i := 4) sc_System_init.nd rfl (Or.inl rfl)) (fun _ _ _ _ _ => pts_nil) (fun _ _ _ _ _ => (pe_callTy (call_tuple_ofK (K := K) rfl) (by rfl) T.n_tuple (by decide +kernel) (pa_cons (pv 4) pa_nil)))) pa_nil)) rfl)))))), ?_⟩
    refine ⟨_, rfl, cv, n, rfl, dc, _, rfl, ?_⟩
    have bad0 : ∀ {i : V} {w : Str} {H1 : Hp}, sysW cv ro = some (i, w) → Same H H1 → ∀ G e, Same H G → H e = none → E (.ref (cl "BadSystem")) (some e) (upd G e (.xd [("what", .str w), ("index", i)])) := fun h _ G e S q => bad _ _ G e h S q
    by_cases hc : isCt cv = true
    rotate_left
    · have hs : sysW cv ro = some (V.non, ("count" : Str)) := by
        unfold sysW
        exact if_pos (by simpa using hc)
      have fin := raise2 (C := cl "BadSystem") (E := E) (Same.refl H) (fun G e => bad _ _ G e hs)
      cases dc with
      | int c =>
        have hc : ¬ (decide (1 ≤ c) && decide (c ≤ 12)) = true := hc
        refine iteF ⟨_, rfl, _, _, rfl, rfl, _, rfl, ?_⟩
        refine ite2 (fun h1 => ?_) (fun h1 => ?_)
        · have h2 : decide (c ≤ 12) = false := by
            rw [h1, Bool.true_and] at hc
            exact Bool.eq_false_iff.mpr hc
          refine ⟨_, _, rfl, rfl, _, rfl, ?_⟩
          rw [h2]
          exact iteT fin
        · exact ⟨_, rfl, iteT fin⟩
      | bl b => exact iteT (iteT fin)
      | non => exact iteT (iteT fin)
      | str x hx => exact iteT (iteT fin)
      | lst e => exact iteT (iteT fin)
      | tup e => exact iteT (iteT fin)
    obtain ⟨c, rfl⟩ : ∃ c, cv = .int c := by
      cases cv with
      | int c => exact ⟨c, rfl⟩
      | _ => cases hc
    have hc : (decide (1 ≤ c) && decide (c ≤ 12)) = true := hc
    obtain ⟨c1, c2⟩ := Bool.and_eq_true_iff.mp hc
    cases dc
    refine iteF ⟨_, rfl, _, _, rfl, rfl, _, rfl, ?_⟩
    rw [c1]
    refine iteT ⟨_, _, rfl, rfl, _, rfl, ?_⟩
    rw [c2]
    refine iteF ?_
    refine ⟨_, rfl, by show 2 ≤ sizeLine; decide, fun tp htp => ?_⟩
    have S0 := sNew (o := .tup [.ty "list", .ty "tuple"]) htp
    cases ro with
    | none =>
      obtain ⟨ty, d1, d2⟩ := hl _ S0
      refine ⟨lv, tp, _, ty, _, _, rfl, upd_same, .cons (.ty "list") (.cons (.ty "tuple") .nil), d1, d2, _, rfl, iteT (iteT ?_)⟩
      exact raise2 S0 (fun G e => bad _ _ G e (sysW_n hc))
    | some rs =>
      obtain ⟨r, ws, rfl, hr0, hpw0, _, _⟩ := id hl
      obtain ⟨r', ws', e', hr1, hpw, rok, rl⟩ := hl.same S0
      have er : r = r' := V.ref.inj e'
      subst er
      have ew : ws = ws' := by
        rcases hr0 with h | h <;> rcases hr1 with h' | h' <;> (have h'' := S0 _ _ h; rw [h''] at h'; cases h' <;> rfl)
      subst ew
      have lw := hpw.length
      obtain ⟨ty, d1, d2⟩ : ∃ t, TyX K (upd H tp (.tup [.ty "list", .ty "tuple"])) (.ref r) t ∧ PySem.W.kitAny K t [.type "list", .type "tuple"] = some true := by
        rcases hr1 with h | h
        · exact ⟨_, (Dm.lst h : Dm K _ (.ref r) "list").ty, isLT (.lst h)⟩
        · exact ⟨_, (Dm.tup h : Dm K _ (.ref r) "tuple").ty, isLT (.tup h)⟩
      refine ⟨_, tp, _, ty, _, _, rfl, upd_same, .cons (.ty "list") (.cons (.ty "tuple") .nil), d1, d2, _, rfl, iteF ?_⟩
      refine ⟨_, rfl, r, ws, rfl, hr1.imp SqL.of SqT.of, _, _, rfl, rfl, _, rfl, ?_⟩
      generalize upd H tp (.tup [.ty "list", .ty "tuple"]) = H1 at S0 hr1 hpw d1
      have us := sysW_s (rs := rs) hc
      refine ite2 (fun g => ?_) (fun g => ?_)
      · have g : (200 : Int) < ws.length := of_decide_eq_true g
        rw [if_pos (by omega)] at us
        exact raise2 S0 (fun G e => bad _ _ G e us)
      have g : ¬ (200 : Int) < ws.length := fun z => g (decide_eq_true z)
      rw [if_neg (by omega)] at us
      refine ⟨_, rfl, r, ws, rfl, hr1, fun J wk => for_it wk (fun i σ H' => Same H1 H' ∧ linksW c 0 rs = linksW c i (rs.drop i) ∧ ∃ (v3 v4 v5 : Option V), σ = [some (.ref p), some (.int c), some (.ref r), v3, v4, v5]) ⟨Same.refl _, rfl, _, _, _, rfl⟩ (fun i σ H' _ q => ?_) ?_ ?_⟩
      · rcases hr1 with h | h
        · rw [h, q.1 _ _ h]
        · rw [h, q.1 _ _ h]
      · rintro i xv σ H3 H4 hi ⟨S3, hg, v3, v4, v5, rfl⟩ ⟨Tt, x1, y1, rfl, hT, rfl, e1, e2⟩
        cases e1
        obtain ⟨x, hx, hvx⟩ := Paired.at hpw e2
        have S4 := S3.trans (sNew (o := .tup [.int (i : Nat), y1]) hT)
        refine ⟨Tt, _, rfl, SqT.of upd_same, rfl, _, _, rfl, _, _, rfl, rfl, ?_⟩
        refine ⟨_, rfl, _, rfl, y1, x, c, rfl, hvx.same S4, rok x (List.mem_of_getElem? hx), fun H5 S5 => ?_⟩
        have S6 := S4.trans S5
        rw [take_drop_at hx] at hg
        have st : linksW c i (x :: rs.drop (i + 1)) = (match linkW c x with
          | some w => some (.int (i : Nat), w)
          | none => linksW c (i + 1) (rs.drop (i + 1))) := rfl
        rw [st] at hg
        cases e : linkW c x with
        | some w =>
          rw [e] at hg
          refine ⟨_, rfl, rfl, _, rfl, iteT ⟨_, rfl, _, rfl, ?_⟩⟩
          exact raise2 (S0.trans S6) (fun G e => bad _ _ G e (us.trans hg))
        | none =>
          rw [e] at hg
          exact ⟨_, rfl, rfl, _, rfl, iteF ⟨S6, hg, _, _, _, rfl⟩⟩
      · rintro σ H3 ⟨S3, hg, v3, v4, v5, rfl⟩
        rw [List.drop_of_length_le (Nat.le_of_eq lw.symm)] at hg
        have un : sysW (.int c) (some rs) = none := us.trans hg
        obtain ⟨ls, rfl, lsok⟩ := linksW_good hg
        have S3 := S0.trans S3
        have hw : H r = some (.lst ws) ∨ H r = some (.tup ws) := hr0
        have hself := S3 _ _ hp
        refine ⟨_, rfl, _, rfl, p, _, dx, _, rfl, hself, T.cl_System, T.na_System _ (by decide), (by show 0 < 1000; decide), ?_⟩
        have npr : r ≠ p := by rcases hw with h | h <;> exact ne_of h hp (fun z => nomatch z)
        have ws3 := hw.imp (S3 _ _) (S3 _ _)
        have hw4 : ∀ o, (upd H3 p o) r = some (.lst ws) ∨ (upd H3 p o) r = some (.tup ws) := fun o => ws3.imp (fun h => (upd_ne npr).trans h) fun h => (upd_ne npr).trans h
        have B4 : ∀ o, But p H (upd H3 p o) := fun o b u e n => (upd_ne n).trans (S3 _ _ e)
        have self4 : ∀ o, (upd H3 p o) p = some o := fun o => upd_same
        have hpw4 : ∀ o, Paired (RdAt (upd H3 p o)) ws (ls.map lkR) := fun o => Paired.impP (fun v x h => by
          cases x with
          | sq xs =>
            obtain ⟨b, e, hb⟩ := h
            have nb : b ≠ p := by rcases hb with h | h <;> exact ne_of h hp (fun z => nomatch z)
            exact ⟨b, e, hb.imp (fun h => (upd_ne nb).trans (S3 _ _ h)) fun h => (upd_ne nb).trans (S3 _ _ h)⟩
          | pl x => exact h) hpw0
        refine ⟨_, rfl, r, ws, rfl, hw4 _, fun J wk D hD => lc_it wk (fun i H' => ∃ us, H' D = some (.lst us) ∧ us.length = i ∧ Paired (LkT H') us (ls.take i) ∧ Same (upd H3 p (.ins (cl "System") dx [("count", .int c)])) H') ⟨[], upd_same, rfl, .nil, sNew hD⟩ (fun i H' _ ⟨us, _, _, _, S⟩ => ?_) ?_ ?_⟩
        · rcases hw4 (.ins (cl "System") dx [("count", .int c)]) with h | h
          · exact (S _ _ h).trans h.symm
          · exact (S _ _ h).trans h.symm
        · rintro i v H5 H6 hi ⟨us, hD5, hlen, hp5, S5⟩ ⟨rfl, hv⟩
          obtain ⟨x, hx, hvx⟩ := Paired.at (hpw4 (.ins (cl "System") dx [("count", .int c)])) hv
          rw [List.getElem?_map] at hx
          obtain ⟨l, hl0, rfl⟩ : ∃ l, ls[i]? = some l ∧ lkR l = x := by
            cases e : ls[i]? with
            | none => rw [e] at hx; cases hx
            | some l => rw [e] at hx; exact ⟨l, rfl, Option.some.inj hx⟩
          obtain ⟨b, rfl, hb⟩ := hvx.same S5
          have hlz : us.length < sizeLine := small1000 (by rw [List.length_map] at rl; omega)
          refine ⟨rfl, _, rfl, b, lkV l, rfl, ?_⟩
          rcases hb with hb | hb
          · refine .inl ⟨SqL.of hb, fun q hq => ⟨us, by rw [upd_ne (ne_of_none hD5 hq)]; exact hD5, hlz, us ++ [.ref q], upd_same, by simp [hlen], ?_, fun b' o e => ?_⟩⟩
            · rw [take_snoc hl0]
              have nlD : q ≠ D := Ne.symm (ne_of_none hD5 hq)
              refine Paired.appendP (Paired.impP (fun _ _ ⟨b', e1, e2⟩ => ⟨b', e1, ?_⟩) hp5) (.cons ⟨q, rfl, by rw [upd_ne nlD]; exact upd_same⟩ .nil)
              rw [upd_ne (ne_of e2 hD5 (fun z => nomatch z)), upd_ne (ne_of_none e2 hq)]
              exact e2
            · rw [upd_ne (ne_of_none e hD), upd_ne (ne_of_none (S5 _ _ e) hq)]
              exact S5 _ _ e
          · refine .inr ⟨SqT.of hb, us, hD5, hlz, us ++ [.ref b], upd_same, by simp [hlen], ?_, fun b' o e => ?_⟩
            · rw [take_snoc hl0]
              have nbD : b ≠ D := ne_of hb hD5 (fun z => nomatch z)
              refine Paired.appendP (Paired.impP (fun _ _ ⟨b', e1, e2⟩ => ⟨b', e1, ?_⟩) hp5) (.cons ⟨b, rfl, by rw [upd_ne nbD]; exact hb⟩ .nil)
              rw [upd_ne (ne_of e2 hD5 (fun z => nomatch z))]
              exact e2
            · rw [upd_ne (ne_of_none e hD)]
              exact S5 _ _ e
        · rintro H5 ⟨us, hD5, hlen, hp5, S5⟩
          rw [List.take_of_length_le (by rw [lw, List.length_map]; exact Nat.le_refl _)] at hp5
          refine ⟨D, us, rfl, .inl ⟨SqL.of hD5, fun t ht => ?_⟩⟩
          have hs5 := S5 _ _ (self4 (.ins (cl "System") dx [("count", .int c)]))
          have npt : p ≠ t := ne_of_none hs5 ht
          refine ⟨_, rfl, p, _, dx, _, rfl, (upd_ne npt).trans hs5, T.cl_System, T.na_System _ (by decide), (by show 1 < 1000; decide), ?_⟩
          have stay : ∀ b u, H5 b = some u → b ≠ p → ∀ o, (upd (upd H5 t (.tup us)) p o) b = some u := fun b u e n o => (upd_ne n).trans ((upd_ne (ne_of_none e ht)).trans e)
          exact good c ls t us _ rfl rfl un (fun b u e n => stay _ _ (S5 _ _ (B4 _ _ _ e n)) n _) ⟨⟨dx, upd_same⟩, (upd_ne (Ne.symm npt)).trans upd_same, Paired.impP (fun _ _ ⟨b', e1, e2⟩ => ⟨b', e1, stay _ _ e2 (ne_of e2 hs5 (fun z => nomatch z)) _⟩) hp5⟩
theorem cal_System_init (T : Txt P w K mg cl) : CalC P w K mg base (L2.CX P w) 4 (cl "System") ["self", "count", "links"] (spSys K (cl "System") (cl "BadSystem")) := by
  obtain ⟨f, fd, F, m⟩ := T.i_System
  exact ⟨f, fd, ok_System_init F T, m, HeM.FunV.binds F fun _ _ _ _ _ _ _ us its hl hi => match us, its, hl, hi with | [_, _, _], [_], _, _ => ⟨_, rfl, rfl⟩⟩
end
end My
set_option Elab.async false
set_option linter.all false
set_option maxRecDepth 100000
set_option maxHeartbeats 1000000
namespace My
open PySem L2 Dw Wp
open C8 (pss_cut tCut)
set_option pp.maxSteps 600
/-! whole numbers in a list or tuple; links in a tuple -/
def IsAt (H : Hp) (a : Addr) (ns : List Int) : Prop := H a = some (.lst (ns.map V.int)) ∨ H a = some (.tup (ns.map V.int))
theorem IsAt.same {H H' : Hp} {a : Addr} {ns : List Int} (h : IsAt H a ns) (S : Same H H') : IsAt H' a ns := h.imp (S _ _) (S _ _)
def LsT (H : Hp) (t : Addr) (us : List V) (ls : List Lk) : Prop := H t = some (.tup us) ∧ Paired (LkT H) us ls
theorem LsT.same {H H' : Hp} {t : Addr} {us : List V} {ls : List Lk} (h : LsT H t us ls) (S : Same H H') : LsT H' t us ls := ⟨S _ _ h.1, Paired.impP (fun _ _ ⟨b, q1, q2⟩ => ⟨b, q1, S _ _ q2⟩) h.2⟩
theorem is_at {ns : List Int} {j : Nat} {x : Int} (h : ns[j]? = some x) : (ns.map V.int)[j]? = some (.int x) := by rw [List.getElem?_map, h]; rfl
def spKeep : Sp := fun vs H Q _ => ∃ (a b : Addr) (ns : List Int) (i j : Nat) (x y m : Int), vs = [.ref a, .ref b] ∧ IsAt H a ns ∧ H b = some (.tup (lkV ((i : Int), (j : Int), m))) ∧ ns[i]? = some x ∧ ns[j]? = some y ∧ Q (.bl (decide (x - y ≤ m))) H
section
variable {P : Program} {w : World} {K : PySem.W.Frag} {mg : Str → Option Value} {base : Heap} {cl : String → Addr}
theorem ok_keeps_link {f : Addr} {fd : FuncData} (F : Fun K "keeps_link" "keeps_link" s_keeps_link f fd) (T : Txt P w K mg cl) : FnOk P w K mg base CX0 1 f fd ["times", "link"] spKeep := by
  refine F.ok sc_keeps_link (fun vs H Q E h => ?_) (fun cdv A outer s H vs Q E hr h => ?_)
  · obtain ⟨a, b, ns, i, j, x, y, m, rfl, _⟩ := h
    rfl
  · obtain ⟨a, b, ns, i, j, x, y, m, rfl, ha, hb, hx, hy, k⟩ := h
    refine ⟨_, (pss_cons (ps_asg (pv 1) (pg_tup rfl (pgs_cons (pg_name (i := 2) sc_keeps_link.nd rfl (Or.inl rfl)) (pgs_cons (pg_name (i := 3) sc_keeps_link.nd rfl (Or.inl rfl)) (pgs_cons (pg_name (i := 4) sc_keeps_link.nd rfl (Or.inl rfl)) pgs_nil)))))
        (pss_one (ps_ret (pe_cmpR op_le (pe_op op_sub (pe_ix ix_either (pv 0) (pv 2) (fun _ _ => rfl)) (pe_ix ix_either (pv 0) (pv 3) (fun _ _ => rfl))) (pv 4) (nomark _))))), ?_⟩
    refine ⟨_, rfl, b, _, rfl, SqT.of hb, rfl, _, _, rfl, _, _, rfl, _, _, rfl, rfl, ?_⟩
    refine ⟨_, rfl, _, rfl, ixOr ha (j := i) (is_at hx) ⟨_, rfl, _, rfl, ixOr ha (j := j) (is_at hy) ⟨_, _, rfl, rfl, _, rfl, _, _, rfl, rfl, k⟩⟩⟩
theorem cal_keeps_link (T : Txt P w K mg cl) : Cal P w K mg base CX0 1 "keeps_link" ["times", "link"] (spKeep) := by
  obtain ⟨f, fd, F, m⟩ := T.d_keeps_link
  exact ⟨f, fd, ok_keeps_link F T, m, F.kp, F.binds fun _ _ _ _ _ _ us hl => match us, hl with | [_, _], _ => rfl⟩
end
end My
set_option Elab.async false
set_option linter.all false
set_option maxRecDepth 100000
set_option maxHeartbeats 1000000
namespace My
open PySem L2 Dw Wp
open C8 (pss_cut tCut)
set_option pp.maxSteps 600
def isIx (n : Nat) (i : Int) : Bool := decide (0 ≤ i) && decide (i < (n : Int))
def ixF (n : Nat) : V → Option V
  | .int i => if isIx n i = true then none else some (.int i)
  | _ => none
theorem ix_all (n : Nat) : ∀ is : List Int, ((is.map V.int).filterMap (ixF n)).isEmpty = is.all (isIx n)
  | [] => rfl
  | i :: is => by
    have ih := ix_all n is
    rw [List.map_cons]
    cases h : isIx n i with
    | true => rw [List.filterMap_cons_none (show ixF n (.int i) = none from if_pos h), List.all_cons, h, Bool.true_and]; exact ih
    | false => rw [List.filterMap_cons_some (show ixF n (.int i) = some (.int i) from if_neg (by rw [h]; decide)), List.all_cons, h]; rfl
def spAre : Sp := fun vs H Q _ => ∃ (t a : Addr) (us : List V) (ls : List Lk) (is : List Int), vs = [.ref t, .ref a] ∧ LsT H t us ls ∧ ls.length ≤ 900 ∧ IsAt H a is ∧ is.length ≤ 900 ∧ ∀ H', Same H H' → Q (.bl (is.all (isIx ls.length))) H'
def sumO (ls : List Lk) (is : List Nat) : Int := (is.map fun i => (ls[i]?.map fun l => l.2.2).getD 0).sum
def spSum : Sp := fun vs H Q _ => ∃ (t a : Addr) (us : List V) (ls : List Lk) (is : List Nat), vs = [.ref t, .ref a] ∧ LsT H t us ls ∧ IsAt H a (is.map fun (i : Nat) => (i : Int)) ∧ is.length ≤ 900 ∧ (∀ i ∈ is, i < ls.length) ∧ ∀ H', Same H H' → Q (.int (sumO ls is)) H'
section
variable {P : Program} {w : World} {K : PySem.W.Frag} {mg : Str → Option Value} {base : Heap} {cl : String → Addr}
theorem ok_are_indexes {f : Addr} {fd : FuncData} (F : Fun K "are_indexes" "are_indexes" s_are_indexes f fd) (T : Txt P w K mg cl) : FnOk P w K mg base CX0 2 f fd ["links", "path"] spAre := by
  refine F.ok sc_are_indexes (fun vs H Q E h => ?_) (fun cdv A outer s H vs Q E hr h => ?_)
  · obtain ⟨t, a, us, ls, is, rfl, _⟩ := h
    rfl
  · obtain ⟨t, a, us, ls, is, rfl, hL, ln, ha, le, k⟩ := h
    have C_is_integer : Cal P w K mg base CX0 1 "is_integer" _ (spIsI K) := cal_is_integer T
    refine ⟨_, (pss_one (ps_ret (pe_notT (pe_lc (own := [("index", 2)]) (g := gName 2)  rfl sc_are_indexes.nd (pi_seq (pv 1)) (blkOk_by (own := [("index", 2)]) (N := ["links", "path", "index"]) (sc := defScope s_are_indexes) (by decide +kernel)) (fun _ _ _ _ _ => pg_name (i := 2) sc_are_indexes.nd rfl (Or.inl rfl)) (fun _ _ _ _ _ => pts_one (PW.pt (pw_or (pt_not (pt_val (pe_cal C_is_integer (hr.mono (by decide)) (pa_cons (pv 2) pa_nil)))) (pw_or1 (pt_not (pt_chain op_le op_lt pe_int (pv 2) (pe_callB (call_len_seqK (K := K) rfl) (by rfl) T.n_len PySem.boot_len (pa_cons (pv 0) pa_nil)))))))) (fun _ _ _ _ _ => (pv 2)))))), ?_⟩
    have keep : ∀ {D : Addr} {o : HO}, H D = none → upd H D o a = H a := fun {D o} nD => by
      rcases ha with h | h <;> exact upd_ne (ne_of_none h nD)
    have lu := hL.2.length
    refine ⟨_, rfl, a, is.map V.int, rfl, ha, fun J wk D nD => lc_it wk (PvF H D (is.map V.int) (ixF ls.length)) rfl (fun i H'' _ q => by rw [q]; exact keep nD) ?_ ?_⟩
    · rintro j x H2 H3 hi rfl ⟨rfl, hx⟩
      rw [List.getElem?_map] at hx
      obtain ⟨i, hi2, rfl⟩ : ∃ i, is[j]? = some i ∧ V.int i = x := by
        cases e : is[j]? with
        | none => rw [e] at hx; cases hx
        | some i => rw [e] at hx; exact ⟨i, rfl, Option.some.inj hx⟩
      have hx2 : (is.map V.int)[j]? = some (.int i) := is_at hi2
      have hz : (is.map V.int).length < sizeLine := small1000 (by rw [List.length_map]; omega)
      have hL := hL.same (sNew (o := .lst (((is.map V.int).take j).filterMap (ixF ls.length))) nD)
      refine ⟨rfl, _, rfl, _, _, rfl, (.int i : Dm K _ (.int i) "int"), _, rfl, iteF ?_⟩
      refine ⟨_, rfl, _, _, rfl, rfl, _, rfl, ?_⟩
      refine ite2 (fun h1 => ?_) (fun h1 => ?_)
      · refine ⟨_, rfl, t, us, rfl, .inr (SqT.of hL.1), _, _, rfl, rfl, _, rfl, ?_⟩
        rw [lu]
        cases h2 : decide (i < (ls.length : Int)) with
        | true => exact iteF (fm_skip hx2 (show (if isIx ls.length i = true then none else some (V.int i)) = none from if_pos (by unfold isIx; rw [h1, h2]; rfl)))
        | false => exact iteT ⟨_, rfl, fm_put hx2 (show (if isIx ls.length i = true then none else some (V.int i)) = some (V.int i) from if_neg (by unfold isIx; rw [h1, h2]; decide)) hz⟩
      · exact ⟨_, rfl, iteT ⟨_, rfl, fm_put hx2 (show (if isIx ls.length i = true then none else some (V.int i)) = some (V.int i) from if_neg (by unfold isIx; rw [Bool.eq_false_iff.mpr h1]; simp)) hz⟩⟩
    · intro H' q
      obtain rfl := fm_end q
      have k := k _ (sNew (o := .lst ((is.map V.int).filterMap (ixF ls.length))) nD)
      rw [← ix_all] at k
      refine ⟨_, .inl ⟨_, SqL.of upd_same, rfl⟩, ?_⟩
      rw [Bool.not_not]
      exact k
theorem cal_are_indexes (T : Txt P w K mg cl) : Cal P w K mg base CX0 2 "are_indexes" ["links", "path"] (spAre) := by
  obtain ⟨f, fd, F, m⟩ := T.d_are_indexes
  exact ⟨f, fd, ok_are_indexes F T, m, F.kp, F.binds fun _ _ _ _ _ _ us hl => match us, hl with | [_, _], _ => rfl⟩
theorem ok_sum_of {f : Addr} {fd : FuncData} (F : Fun K "sum_of" "sum_of" s_sum_of f fd) (T : Txt P w K mg cl) : FnOk P w K mg base CX0 1 f fd ["links", "path"] spSum := by
  refine F.ok sc_sum_of (fun vs H Q E h => ?_) (fun cdv A outer s H vs Q E hr h => ?_)
  · obtain ⟨t, a, us, ls, is, rfl, _⟩ := h
    rfl
  · obtain ⟨t, a, us, ls, is, rfl, hL, ha, le, hix, k⟩ := h
    refine ⟨_, (pss_one (ps_ret (pe_callB (cr_sum rfl) (by rfl) T.n_sum (by decide +kernel) (pa_cons (pe_lc (own := [("index", 2)]) (g := gName 2) (tt := tYes) rfl sc_sum_of.nd (pi_seq (pv 1)) (blkOk_by (own := [("index", 2)]) (N := ["links", "path", "index"]) (sc := defScope s_sum_of) (by decide +kernel)) (fun _ _ _ _ _ => pg_name (i := 2) sc_sum_of.nd rfl (Or.inl rfl)) (fun _ _ _ _ _ => pts_nil) (fun _ _ _ _ _ => (pe_ix (ix_tupK (K := K) rfl) (pe_ix (ix_tupK (K := K) rfl) (pv 0) (pv 2) (fun _ _ => rfl)) pe_int (fun _ _ => rfl)))) pa_nil)))), ?_⟩
    have keep : ∀ {D : Addr} {o : HO}, H D = none → upd H D o a = H a := fun {D o} nD => by
      rcases ha with h | h <;> exact upd_ne (ne_of_none h nD)
    let g : Nat → Int := fun i => (ls[i]?.map fun l => l.2.2).getD 0
    refine ⟨_, rfl, a, (is.map fun (i : Nat) => (i : Int)).map V.int, rfl, ha, fun J wk D nD => lc_it wk (fun j H' => H' = upd H D (.lst (((is.take j).map g).map V.int))) rfl (fun i H'' _ q => by rw [q]; exact keep nD) ?_ ?_⟩
    · rintro j x H2 H3 hi rfl ⟨rfl, hx⟩
      rw [List.getElem?_map, List.getElem?_map] at hx
      obtain ⟨i, hi2, rfl⟩ : ∃ i, is[j]? = some i ∧ V.int (i : Nat) = x := by
        cases e : is[j]? with
        | none => rw [e] at hx; cases hx
        | some i => rw [e] at hx; exact ⟨i, rfl, Option.some.inj hx⟩
      have hl := hix i (List.mem_of_getElem? hi2)
      have hL := hL.same (sNew (o := .lst (((is.take j).map g).map V.int)) nD)
      obtain ⟨v, hv, b, rfl, hb⟩ := Paired.at' (i := i) (y := ls[i]) hL.2 (List.getElem?_eq_getElem hl)
      refine ⟨rfl, _, rfl, _, rfl, t, _, _, _, rfl, rfl, SqT.of hL.1, atI_nat hv, b, _, _, _, rfl, rfl, SqT.of hb, atI_nat (j := 2) rfl, ?_⟩
      refine ⟨_, upd_same, small1000 (by rw [List.length_map, List.length_map, List.length_take]; omega), ?_⟩
      rw [upd_upd, take_snoc hi2, List.map_append, List.map_append]
      show _ = upd H D (.lst (_ ++ [V.int (g i)]))
      rw [show g i = ls[i].2.2 by show (ls[i]?.map fun l => l.2.2).getD 0 = _; rw [List.getElem?_eq_getElem hl]; rfl]
    · intro H' q
      rw [List.length_map, List.length_map, List.take_length] at q
      subst q
      exact ⟨D, is.map g, rfl, SqL.of upd_same, k _ (sNew nD)⟩
theorem cal_sum_of (T : Txt P w K mg cl) : Cal P w K mg base CX0 1 "sum_of" ["links", "path"] (spSum) := by
  obtain ⟨f, fd, F, m⟩ := T.d_sum_of
  exact ⟨f, fd, ok_sum_of F T, m, F.kp, F.binds fun _ _ _ _ _ _ us hl => match us, hl with | [_, _], _ => rfl⟩
end
end My
set_option Elab.async false
set_option linter.all false
set_option maxRecDepth 100000
set_option maxHeartbeats 1000000
namespace My
open PySem L2 Dw Wp
open C8 (pss_cut tCut)
set_option pp.maxSteps 600
/-- a maker without a field -/
def spIni0 (C : Addr) : Sp := fun vs H Q _ => ∃ a : Addr, vs = [.ref a] ∧ H a = some (exo a C none) ∧ Q .non H
/-- a thing handed in as times -/
def TsAt (K : PySem.W.Frag) (H : Hp) (v : V) : Option (List V) → Prop
  | some xs => ∃ r, v = .ref r ∧ (H r = some (.lst xs) ∨ H r = some (.tup xs)) ∧ (∀ x ∈ xs, ∃ n, Dm K H x n) ∧ xs.length ≤ 900
  | none => NotLT K H v
theorem TsAt.same {K : PySem.W.Frag} {H H' : Hp} {v : V} {to : Option (List V)} (h : TsAt K H v to) (S : Same H H') : TsAt K H' v to := by
  cases to with
  | none => exact fun H2 S2 => h H2 (S.trans S2)
  | some xs =>
    obtain ⟨r, e, h1, h2, h3⟩ := h
    exact ⟨r, e, h1.imp (S _ _) (S _ _), fun x hx => (h2 x hx).imp fun n d => d.same S, h3⟩
def tmsB (c : Int) : Option (List V) → Bool
  | none => false
  | some xs => decide ((xs.length : Int) = c) && xs.all isI
def spTms (K : PySem.W.Frag) : Sp := fun vs H Q _ => ∃ (v : V) (to : Option (List V)) (c : Int), vs = [v, .int c] ∧ TsAt K H v to ∧ ∀ H', Same H H' → Q (.bl (tmsB c to)) H'
section
variable {P : Program} {w : World} {K : PySem.W.Frag} {mg : Str → Option Value} {base : Heap} {cl : String → Addr}
theorem oki0_BadTimes {f : Addr} {fd : FuncData} (F : Fun K "__init__" "BadTimes.__init__" s_BadTimes_init f fd) (T : Txt P w K mg cl) : FnOk P w K mg base CX0 1 f fd ["self"] (spIni0 (cl "BadTimes")) := by
  refine F.ok sc_BadTimes_init (fun vs H Q E h => ?_) (fun cdv A outer s H vs Q E hr h => ?_)
  · obtain ⟨a, rfl, _⟩ := h
    rfl
  · obtain ⟨a, rfl, ha, k⟩ := h
    refine ⟨_, (pss_one (ps_expr (pe_deinit T.cr T.vi T.m_DeedError (pa_cons (pv 0) (pa_cons pe_str pa_nil))))), ?_⟩
    exact ⟨_, rfl, a, cl "BadTimes", [.str _], rfl, by decide, T.o_BadTimes, ha, k⟩
theorem ini0_BadTimes (T : Txt P w K mg cl) : CalO P w K mg base 1 (cl "BadTimes") ["self"] (spIni0 (cl "BadTimes")) := by
  obtain ⟨f, fd, F, h1, h2⟩ := T.i_BadTimes
  exact ⟨T.o_BadTimes, f, fd, oki0_BadTimes F T, h1, h2, F.binds fun _ _ _ _ _ _ us hl => match us, hl with | [_], _ => rfl⟩
theorem ok_are_times {f : Addr} {fd : FuncData} (F : Fun K "are_times" "are_times" s_are_times f fd) (T : Txt P w K mg cl) : FnOk P w K mg base CX0 2 f fd ["thing", "count"] (spTms K) := by
  refine F.ok sc_are_times (fun vs H Q E h => ?_) (fun cdv A outer s H vs Q E hr h => ?_)
  · obtain ⟨v, to, c, rfl, _⟩ := h
    rfl
  · obtain ⟨v, to, c, rfl, hv, k⟩ := h
    have C_is_integer : Cal P w K mg base CX0 1 "is_integer" _ (spIsI K) := cal_is_integer T
    refine ⟨_, (pss_cons (ps_if (PW.pt (pw_or (pt_not (pt_val (pe_callB call_isiT (by rfl) T.n_isinstance (by decide +kernel) (pa_cons (pv 0) (pa_cons (pe_tup (pa_cons (pe_ty "list" T.n_list) (pa_cons (pe_ty "tuple" T.n_tuple) pa_nil))) pa_nil))))) (pw_or1 (pt_cmpR op_ne (pe_callB call_len_seq (by rfl) T.n_len PySem.boot_len (pa_cons (pv 0) pa_nil)) (pv 1) (nomark _)))))
          (pss_one (ps_ret pe_bl)) pss_nil)
        (pss_one (ps_ret (pe_notT (pe_lc (own := [("time", 2)]) (g := gName 2)  rfl sc_are_times.nd (pi_seq (pv 0)) (blkOk_by (own := [("time", 2)]) (N := ["thing", "count", "time"]) (sc := defScope s_are_times) (by decide +kernel)) (fun _ _ _ _ _ => pg_name (i := 2) sc_are_times.nd rfl (Or.inl rfl)) (fun _ _ _ _ _ => pts_one (pt_not (pt_val (pe_cal C_is_integer (hr.mono (by decide)) (pa_cons (pv 2) pa_nil))))) (fun _ _ _ _ _ => (pv 2))))))), ?_⟩
    refine ⟨_, rfl, by show 2 ≤ sizeLine; decide, fun tp htp => ?_⟩
    have S0 := sNew (o := .tup [.ty "list", .ty "tuple"]) htp
    cases to with
    | none =>
      obtain ⟨ty, d1, d2⟩ := hv _ S0
      exact ⟨v, tp, _, ty, _, _, rfl, upd_same, .cons (.ty "list") (.cons (.ty "tuple") .nil), d1, d2, _, rfl, iteT (iteT (k _ S0))⟩
    | some xs =>
      obtain ⟨r, rfl, hb, dm, le⟩ := hv.same S0
      obtain ⟨ty, d1, d2⟩ : ∃ t, TyX K (upd H tp (.tup [.ty "list", .ty "tuple"])) (.ref r) t ∧ PySem.W.kitAny K t [.type "list", .type "tuple"] = some true := by
        rcases hb with h | h
        · exact ⟨_, (Dm.lst h : Dm K _ (.ref r) "list").ty, isLT (.lst h)⟩
        · exact ⟨_, (Dm.tup h : Dm K _ (.ref r) "tuple").ty, isLT (.tup h)⟩
      refine ⟨_, tp, _, ty, _, _, rfl, upd_same, .cons (.ty "list") (.cons (.ty "tuple") .nil), d1, d2, _, rfl, iteF ?_⟩
      generalize upd H tp (.tup [.ty "list", .ty "tuple"]) = H1 at S0 hb dm d1
      refine ⟨_, rfl, r, xs, rfl, hb.imp SqL.of SqT.of, _, rfl, rfl, _, rfl, ?_⟩
      have e0 : tmsB c (some xs) = (decide ((xs.length : Int) = c) && xs.all isI) := rfl
      rw [e0] at k
      refine ite2 (fun g => ?_) (fun g => ?_)
      · have g : ¬ (xs.length : Int) = c := fun e => by rw [e] at g; simp at g
        rw [decide_eq_false g] at k
        exact k _ S0
      have g : (xs.length : Int) = c := by
        simp only [Bool.not_eq_true', decide_eq_false_iff_not, Decidable.not_not] at g
        exact V.int.inj g
      rw [decide_eq_true g, Bool.true_and] at k
      have keep : ∀ {D : Addr} {o : HO}, H1 D = none → upd H1 D o r = H1 r := fun {D o} nD => by
        rcases hb with h | h <;> exact upd_ne (ne_of_none h nD)
      refine ⟨_, rfl, r, xs, rfl, hb, fun J wk D nD => lc_it wk (PvF H1 D xs oddF) rfl (fun i H'' _ q => by rw [q]; exact keep nD) ?_ ?_⟩
      · rintro i x H2 H3 hi rfl ⟨rfl, hx⟩
        obtain ⟨tn, dn⟩ := dm x (List.mem_of_getElem? hx)
        refine ⟨rfl, _, rfl, x, tn, rfl, dn.same (sNew nD), _, rfl, ?_⟩
        refine ite2 (fun h => ?_) (fun h => ?_)
        · exact ⟨_, rfl, fm_put hx (if_neg (by simpa using h)) (small1000 (by omega))⟩
        · exact fm_skip hx (if_pos (by simpa using h))
      · intro H' q
        obtain rfl := fm_end q
        have k := k _ (S0.trans (sNew (o := .lst (xs.filterMap oddF)) nD))
        rw [← odd_all] at k
        refine ⟨_, .inl ⟨_, SqL.of upd_same, rfl⟩, ?_⟩
        rw [Bool.not_not]
        exact k
theorem cal_are_times (T : Txt P w K mg cl) : Cal P w K mg base CX0 2 "are_times" ["thing", "count"] (spTms K) := by
  obtain ⟨f, fd, F, m⟩ := T.d_are_times
  exact ⟨f, fd, ok_are_times F T, m, F.kp, F.binds fun _ _ _ _ _ _ us hl => match us, hl with | [_, _], _ => rfl⟩
end
end My
set_option Elab.async false
set_option linter.all false
set_option maxRecDepth 100000
set_option maxHeartbeats 1000000
namespace My
open PySem L2 Dw Wp
open C8 (pss_cut tCut)
set_option pp.maxSteps 600
theorem same_upd {H H' : Hp} {a : Addr} {o : HO} (S : Same H H') (h : H a = none) : Same H (upd H' a o) := fun b u e => by rw [upd_ne (ne_of_none e h)]; exact S _ _ e
def keepB (ts : List Int) (l : Lk) : Bool := decide ((ts[l.1.toNat]?.getD 0) - (ts[l.2.1.toNat]?.getD 0) ≤ l.2.2)
def brkTo (ls : List Lk) (ts : List Int) (n : Nat) : List Nat := (List.range n).filter fun i => !((ls[i]?.map (keepB ts)).getD true)
theorem brkTo_succ {ls : List Lk} {ts : List Int} {i : Nat} {l : Lk} (h : ls[i]? = some l) : brkTo ls ts (i + 1) = brkTo ls ts i ++ (if keepB ts l = true then [] else [i]) := by
  unfold brkTo
  rw [List.range_succ, List.filter_append]
  congr 1
  cases e : keepB ts l <;> simp [h, e]
def brk (ls : List Lk) (ts : List Int) : List Nat := brkTo ls ts ls.length
def spBrk (K : PySem.W.Frag) (C CT : Addr) : Sp := fun vs H Q E => ∃ (p t : Addr) (c : Int) (us : List V) (ls : List Lk) (v : V) (to : Option (List V)), vs = [.ref p, v] ∧ SyAt C H p c t us ls ∧ (∀ l ∈ ls, LkOk c l) ∧ ls.length ≤ 900 ∧ TsAt K H v to ∧
  (tmsB c to = false → ∀ G, Same H G → E (.ref CT) none G) ∧
  (∀ ts : List Int, to = some (ts.map V.int) → (ts.length : Int) = c → ∀ t' H', Same H H' → H' t' = some (.tup ((brk ls ts).map fun (i : Nat) => V.int i)) → Q (.ref t') H')
theorem tms_ints {c : Int} {to : Option (List V)} (h : tmsB c to = true) : ∃ ts : List Int, to = some (ts.map V.int) ∧ (ts.length : Int) = c := by
  cases to with
  | none => cases h
  | some xs =>
    have h : (decide ((xs.length : Int) = c) && xs.all isI) = true := h
    obtain ⟨h1, h2⟩ := Bool.and_eq_true_iff.mp h
    have go : ∀ xs : List V, xs.all isI = true → ∃ ts : List Int, xs = ts.map V.int := fun xs => by
      induction xs with
      | nil => exact fun _ => ⟨[], rfl⟩
      | cons x xs ih =>
        intro h
        rw [List.all_cons] at h
        obtain ⟨a, b⟩ := Bool.and_eq_true_iff.mp h
        obtain ⟨ts, e⟩ := ih b
        cases x with
        | int i => exact ⟨i :: ts, by rw [e]; rfl⟩
        | _ => cases a
    obtain ⟨ts, rfl⟩ := go xs h2
    refine ⟨ts, rfl, ?_⟩
    have := of_decide_eq_true h1
    rw [List.length_map] at this
    exact this
theorem raise0 {H H1 H0 : Hp} {C : Addr} {E : XK} {X : Cx} (S : Same H H1) (e0 : X.H_0 = H) (R : Raises X (.ref C)) (k : ∀ G, Same H G → E (.ref C) none G) :
    ([] : List V).length ≤ 1000 ∧ ∀ a, H1 a = none → spIni0 C (.ref a :: ([] ++ [])) (upd H1 a (exo a C none)) (fun v H2 => v = .non ∧ ∃ b C', V.ref a = .ref b ∧ H2 b = some (exo b C' none) ∧ Fr0 X.H_0 b ∧ Raises X (.ref C') ∧ E (.ref C') none (delH H2 b)) (fun _ _ _ => False) := by
  refine ⟨by decide, fun a na => ⟨a, rfl, upd_same, rfl, a, C, rfl, upd_same, fun u e => ?_, R, k _ fun b o q => ?_⟩⟩
  · rw [e0] at e
    rw [S _ _ e] at na
    cases na
  · have nb : b ≠ a := ne_of_none (S _ _ q) na
    rw [delH_ne nb, upd_ne nb]
    exact S _ _ q
section
variable {P : Program} {w : World} {K : PySem.W.Frag} {mg : Str → Option Value} {base : Heap} {cl : String → Addr}
theorem ok_System_broken {f : Addr} {fd : FuncData} (F : Fun K "broken" "System.broken" s_System_broken f fd) (T : Txt P w K mg cl) : FnOk P w K mg base (L2.CX P w) 3 f fd ["self", "times"] (spBrk K (cl "System") (cl "BadTimes")) := by
  refine F.okX sc_System_broken (fun vs H Q E h => ?_) (fun cdv A outer s H vs Q E hr h => ?_)
  · obtain ⟨p, t, c, us, ls, v, to, rfl, _⟩ := h
    rfl
  · obtain ⟨p, t, c, us, ls, v, to, rfl, X, lok, le, hv, bad, good⟩ := h
    have C_are_times : Cal P w K mg base CX0 2 "are_times" _ (spTms K) := cal_are_times T
    have C_keeps_link : Cal P w K mg base CX0 1 "keeps_link" _ spKeep := cal_keeps_link T
    refine ⟨_, (pss_cons (ps_if (pt_not (pt_val (pe_cal C_are_times (hr.mono (by decide)) (pa_cons (pv 1) (pa_cons (pe_fld (pv 0) rfl) pa_nil)))))
          (pss_one (ps_raiseO0 rfl rfl (ini0_BadTimes (base := base) T) T.m_BadTimes (hr.mono (by decide)) (takes_of rfl rfl rfl rfl))) pss_nil)
        (pss_one (ps_ret (pe_callTy call_tuple_of (by rfl) T.n_tuple (by decide +kernel) (pa_cons (pe_lc (own := [("index", 2), ("link", 3)]) (g := gTup K 2 (gCons (gName 2) (gCons (gName 3) gNil)))  rfl sc_System_broken.nd (pi_enu2 (by rfl) T.n_enumerate (pa_cons (pe_fld (pv 0) rfl) pa_nil)) (blkOk_by (own := [("index", 2), ("link", 3)]) (N := ["self", "times", "index", "link"]) (sc := defScope s_System_broken) (by decide +kernel)) (fun _ _ _ _ _ => (pg_tup rfl (pgs_cons (pg_name (i := 2) sc_System_broken.nd rfl (Or.inl rfl)) (pgs_cons (pg_name (i := 3) sc_System_broken.nd rfl (Or.inl rfl)) pgs_nil)))) (fun _ _ _ _ _ => pts_one (pt_not (pt_val (pe_cal C_keeps_link (hr.mono (by decide)) (pa_cons (pv 1) (pa_cons (pv 3) pa_nil)))))) (fun _ _ _ _ _ => (pv 2))) pa_nil))))), ?_⟩
    obtain ⟨dx, hself⟩ := X.self
    refine ⟨_, rfl, _, rfl, p, _, _, _, _, rfl, hself, T.cl_System, T.na_System _ (by decide), rfl, v, to, c, rfl, hv, fun H1 S1 => ⟨_, rfl, ?_⟩⟩
    cases hb : tmsB c to with
    | false => exact iteT (raise0 (H0 := H) S1 rfl (raises_own T.o_BadTimes.exC T.o_BadTimes.tyC) (bad hb))
    | true =>
      obtain ⟨ts, rfl, lt⟩ := tms_ints hb
      refine iteF ?_
      have X := X.same S1
      have hself := S1 _ _ hself
      have hv := hv.same S1
      obtain ⟨r, rfl, hr2, _, _⟩ := hv
      refine ⟨_, rfl, p, _, _, _, _, rfl, hself, T.cl_System, T.na_System _ (by decide), rfl, t, us, rfl, .inr X.rows, fun J wk D nD => lc_it wk (fun i H' => H' D = some (.lst ((brkTo ls ts i).map fun (i : Nat) => V.int i)) ∧ Same H1 H') ⟨upd_same, sNew nD⟩ (fun i H' _ q => by rw [q.2 _ _ X.rows]; exact X.rows.symm) ?_ ?_⟩
      · rintro i x H2 H3 hi ⟨hD, S2⟩ ⟨Tt, x1, y1, rfl, hT, rfl, e1, e2⟩
        cases e1
        obtain ⟨l, hl, b, rfl, hb⟩ := Paired.at X.each e2
        have ST := sNew (o := .tup [.int (i : Nat), .ref b]) hT
        have S3 := S2.trans ST
        obtain ⟨⟨a1, a2⟩, a3, a4⟩ := lok l (List.mem_of_getElem? hl)
        have j1 : l.1.toNat < ts.length := by omega
        have j2 : l.2.1.toNat < ts.length := by omega
        have el : lkV ((l.1.toNat : Int), (l.2.1.toNat : Int), l.2.2) = lkV l := by
          unfold lkV
          rw [Int.toNat_of_nonneg a1, Int.toNat_of_nonneg a3]
        have bs := brkTo_succ (ts := ts) hl
        have kb : keepB ts l = decide (ts[l.1.toNat] - ts[l.2.1.toNat] ≤ l.2.2) := by
          unfold keepB
          rw [List.getElem?_eq_getElem j1, List.getElem?_eq_getElem j2]
          rfl
        have li : i < ls.length := (List.getElem?_eq_some_iff.mp hl).1
        refine ⟨Tt, _, rfl, SqT.of upd_same, rfl, _, _, rfl, _, _, rfl, rfl, rfl, _, rfl, _, rfl, r, b, ts, l.1.toNat, l.2.1.toNat, _, _, l.2.2, rfl, (IsAt.same hr2 S3), by rw [el]; exact S3 _ _ hb, List.getElem?_eq_getElem j1, List.getElem?_eq_getElem j2, _, rfl, ?_⟩
        rw [← kb]
        refine ite2 (fun h => ?_) (fun h => ?_)
        · have h : keepB ts l = false := by simpa using h
          rw [h] at bs
          refine ⟨_, rfl, _, ST _ _ hD, small1000 ?_, ?_⟩
          · rw [List.length_map]
            have := List.length_filter_le (fun i => !((ls[i]?.map (keepB ts)).getD true)) (List.range i)
            rw [List.length_range] at this
            unfold brkTo
            omega
          · refine ⟨?_, same_upd S3 nD⟩
            rw [bs, List.map_append]
            exact upd_same
        · have h : keepB ts l = true := by simpa using h
          rw [h] at bs
          refine ⟨?_, S3⟩
          rw [bs]
          simpa using ST _ _ hD
      · rintro H2 ⟨hD, S2⟩
        rw [X.each.length] at hD
        refine ⟨D, _, rfl, .inl ⟨SqL.of hD, fun t' nt => good ts rfl lt t' _ (S1.trans (S2.trans (sNew nt))) upd_same⟩⟩
theorem cal_System_broken (T : Txt P w K mg cl) : CalM P w K mg base (L2.CX P w) 3 (cl "System") "broken" ["self", "times"] (spBrk K (cl "System") (cl "BadTimes")) := by
  obtain ⟨f, fd, F, m⟩ := T.d_System_broken
  exact ⟨f, fd, ok_System_broken F T, m, F.binds fun _ _ _ _ _ _ us hl => match us, hl with | [_, _], _ => rfl⟩
end
end My
set_option Elab.async false
set_option linter.all false
set_option maxRecDepth 100000
set_option maxHeartbeats 1000000
namespace My
open PySem L2 Dw Wp
open C8 (pss_cut tCut)
set_option pp.maxSteps 600
def lkD (l : Lk) : PyData := sqD false ((lkV l).map vD)
def lksD (ls : List Lk) : PyData := sqD false (ls.map lkD)
theorem lk_okV (l : Lk) : ∀ x ∈ lkV l, okV x = true := fun x hx => by
  rcases (show x = .int l.1 ∨ x = .int l.2.1 ∨ x = .int l.2.2 by simpa [lkV] using hx) with rfl | rfl | rfl <;> rfl
theorem lks_dp {K : PySem.W.Frag} {H : Hp} : ∀ {us : List V} {ls : List Lk}, Paired (LkT H) us ls → DpAll K H us (ls.map lkD)
  | _, _, .nil => .nil
  | _, _, .cons ⟨b, e, hb⟩ t => by
    subst e
    exact .cons (dp_tup (SqT.of hb) (dpvs fun x hx => okV.flat (lk_okV _ x hx))) (lks_dp t)
theorem lks_fl (ls : List Lk) : ∀ d ∈ ls.map lkD, Fl1 d := fun d hd => by
  obtain ⟨l, _, rfl⟩ := List.mem_map.mp hd
  exact fl_row false (lk_okV l)
theorem lksD_self (ls : List Lk) : PyData.eqv (lksD ls) (lksD ls) = true := sqD_self false fun d hd => by
  obtain ⟨l, _, rfl⟩ := List.mem_map.mp hd
  exact row_self false _
theorem eqv_nilV (xs : List V) : PyData.eqv (sqD false (xs.map vD)) (sqD false []) = xs.isEmpty := by
  cases xs <;> simp [sqD, PyData.eqv, PyData.eqvAll]
def spKps (K : PySem.W.Frag) (C CT : Addr) : Sp := fun vs H Q E => ∃ (p t : Addr) (c : Int) (us : List V) (ls : List Lk) (v : V) (to : Option (List V)), vs = [.ref p, v] ∧ SyAt C H p c t us ls ∧ (∀ l ∈ ls, LkOk c l) ∧ ls.length ≤ 900 ∧ TsAt K H v to ∧
  (tmsB c to = false → ∀ G, Same H G → E (.ref CT) none G) ∧
  (∀ ts : List Int, to = some (ts.map V.int) → (ts.length : Int) = c → ∀ H', Same H H' → Q (.bl (brk ls ts).isEmpty) H')
def spLenS (C : Addr) : Sp := fun vs H Q _ => ∃ (p t : Addr) (c : Int) (us : List V) (ls : List Lk), vs = [.ref p] ∧ SyAt C H p c t us ls ∧ Q (.int ls.length) H
def spSyEq (K : PySem.W.Frag) (C : Addr) : Sp := fun vs H Q _ => ∃ (p t : Addr) (c : Int) (us : List V) (ls : List Lk) (o : V), vs = [.ref p, o] ∧ SyAt C H p c t us ls ∧
  ((∃ (q t' : Addr) (c' : Int) (us' : List V) (ls' : List Lk), o = .ref q ∧ SyAt C H q c' t' us' ls' ∧ Q (.bl (decide (c = c') && PyData.eqv (lksD ls) (lksD ls'))) H) ∨ ((∃ n, Dm K H o n) ∧ Q (.bl false) H))
section
variable {P : Program} {w : World} {K : PySem.W.Frag} {mg : Str → Option Value} {base : Heap} {cl : String → Addr}
theorem ok_System_len {f : Addr} {fd : FuncData} (F : Fun K "__len__" "System.__len__" s_System_len f fd) (T : Txt P w K mg cl) : FnOk P w K mg base CX0 1 f fd ["self"] (spLenS (cl "System")) := by
  refine F.ok sc_System_len (fun vs H Q E h => ?_) (fun cdv A outer s H vs Q E hr h => ?_)
  · obtain ⟨p, t, c, us, ls, rfl, _⟩ := h
    rfl
  · obtain ⟨p, t, c, us, ls, rfl, X, k⟩ := h
    refine ⟨_, (pss_one (ps_ret (pe_callB call_len_seq (by rfl) T.n_len PySem.boot_len (pa_cons (pe_fld (pv 0) rfl) pa_nil)))), ?_⟩
    obtain ⟨dx, hself⟩ := X.self
    rw [← X.each.length] at k
    exact ⟨_, rfl, p, _, _, _, _, rfl, hself, T.cl_System, T.na_System _ (by decide), rfl, t, us, rfl, .inr (SqT.of X.rows), k⟩
theorem cal_System_len (T : Txt P w K mg cl) : CalM P w K mg base CX0 1 (cl "System") "__len__" ["self"] (spLenS (cl "System")) := by
  obtain ⟨f, fd, F, m⟩ := T.d_System_len
  exact ⟨f, fd, ok_System_len F T, m, F.binds fun _ _ _ _ _ _ us hl => match us, hl with | [_], _ => rfl⟩
theorem ok_System_iter {f : Addr} {fd : FuncData} (F : Fun K "__iter__" "System.__iter__" s_System_iter f fd) (T : Txt P w K mg cl) : FnN P w K mg base CX0 1 f fd ["self"] (spItT K (cl "System") "links") := by
  refine F.okN sc_System_iter (fun n vs H Q E h => ?_) (fun cdv A outer s H vs Q E hr h => ?_)
  · obtain ⟨a, dx, t, fs, zs, rfl, _⟩ := h
    rfl
  · obtain ⟨a, dx, t, fs, zs, rfl, h1, h2, h3, k⟩ := h
    refine ⟨_, (pss_one (ps_ret (pe_callB call_iterT (by rfl) T.n_iter (by decide +kernel) (pa_cons (pe_fld (pv 0) rfl) pa_nil)))), ?_⟩
    exact ⟨_, rfl, a, _, dx, _, _, rfl, h1, T.cl_System, T.na_System _ (by decide), h2, t, zs, rfl, h3, k⟩
theorem cal_System_iter (T : Txt P w K mg cl) : CalI P w K mg base 1 (cl "System") "links" := by
  obtain ⟨f, fd, F, m⟩ := T.d_System_iter
  exact ⟨f, fd, ok_System_iter F T, m, F.binds fun _ _ _ _ _ _ us hl => match us, hl with | [_], _ => rfl⟩
theorem ok_System_eq {f : Addr} {fd : FuncData} (F : Fun K "__eq__" "System.__eq__" s_System_eq f fd) (T : Txt P w K mg cl) : FnOk P w K mg base CX0 1 f fd ["self", "other"] (spSyEq K (cl "System")) := by
  refine F.ok sc_System_eq (fun vs H Q E h => ?_) (fun cdv A outer s H vs Q E hr h => ?_)
  · obtain ⟨p, t, c, us, ls, o, rfl, _⟩ := h
    rfl
  · obtain ⟨p, t, c, us, ls, o, rfl, X, h⟩ := h
    refine ⟨_, (pss_one (ps_ret (pe_and (pe_callB call_isi (by rfl) T.n_isinstance (by decide +kernel) (pa_cons (pv 1) (pa_cons (pe_cls T.m_System) pa_nil))) (pe_and (pe_cmpR op_eq (pe_fld (pv 0) rfl) (pe_fld (pv 1) rfl) (nomark _)) (pe_one (pe_cmpR (op_eqD hr.units) (pe_fld (pv 0) rfl) (pe_fld (pv 1) rfl) (nomark _))))))), ?_⟩
    obtain ⟨dx, hself⟩ := X.self
    rcases h with ⟨q, t', c', us', ls', rfl, X', k⟩ | ⟨⟨n, dn⟩, k⟩
    · obtain ⟨dx', hself'⟩ := X'.self
      refine ⟨_, rfl, _, _, _, _, _, rfl, .own (cl "System"), .base (.ins hself' T.cl_System T.y_System T.z1 T.z2 T.z3_System), T.k_Sy_Sy, _, rfl, iteT ?_⟩
      refine ⟨_, rfl, p, _, _, _, _, rfl, hself, T.cl_System, T.na_System _ (by decide), rfl, _, rfl, q, _, _, _, _, rfl, hself', T.cl_System, T.na_System _ (by decide), rfl, rfl, ?_⟩
      rw [show decide (V.int c = V.int c') = decide (c = c') from decide_eq_decide.mpr ⟨V.int.inj, congrArg V.int⟩]
      refine ⟨_, rfl, ite2 (fun g => ?_) (fun g => ?_)⟩
      · refine ⟨_, rfl, p, _, _, _, _, rfl, hself, T.cl_System, T.na_System _ (by decide), rfl, _, rfl, q, _, _, _, _, rfl, hself', T.cl_System, T.na_System _ (by decide), rfl, lksD ls, lksD ls', dp_tup (SqT.of X.rows) (lks_dp X.each), dp_tup (SqT.of X'.rows) (lks_dp X'.each), fls_shaped false (lks_fl ls), fls_shaped false (lks_fl ls'), ?_⟩
        rw [g, Bool.true_and] at k
        exact k
      · rw [Bool.eq_false_iff.mpr g, Bool.false_and] at k
        exact k
    · have kt : ∀ m, Dm K H o m → m ∈ ["NoneType", "bool", "int", "str", "list", "tuple"] := fun m x => by cases x <;> decide
      exact ⟨_, rfl, _, _, _, _, _, rfl, .own (cl "System"), dn.ty, T.k_in_Sy n (kt n dn), _, rfl, iteF k⟩
theorem cal_System_eq (T : Txt P w K mg cl) : CalM P w K mg base CX0 1 (cl "System") "__eq__" ["self", "other"] (spSyEq K (cl "System")) := by
  obtain ⟨f, fd, F, m⟩ := T.d_System_eq
  exact ⟨f, fd, ok_System_eq F T, m, F.binds fun _ _ _ _ _ _ us hl => match us, hl with | [_, _], _ => rfl⟩
end
end My
set_option Elab.async false
set_option linter.all false
set_option maxRecDepth 100000
set_option maxHeartbeats 1000000
namespace My
open PySem L2 Dw Wp
open C8 (pss_cut tCut)
set_option pp.maxSteps 600
theorem lks_rd {H : Hp} : ∀ {us : List V} {ls : List Lk}, Paired (LkT H) us ls → Paired (RdAt H) us (ls.map lkR)
  | _, _, .nil => .nil
  | _, _, .cons ⟨b, e, hb⟩ t => .cons ⟨b, e, .inr hb⟩ (lks_rd t)
theorem lkR_ok (l : Lk) : RdOk (lkR l) := ⟨by show 3 ≤ 6; decide, fun x hx => by
  rcases (show x = .int l.1 ∨ x = .int l.2.1 ∨ x = .int l.2.2 by simpa [lkV] using hx) with rfl | rfl | rfl <;> trivial⟩
def spWithI (K : PySem.W.Frag) (C CB : Addr) : Sp := fun vs H Q E => ∃ (p q t : Addr) (c : Int) (us ws : List V) (ls : List Lk) (rs : List Rd), vs = [.ref p, .ref q] ∧ SyAt C H p c t us ls ∧ H q = some (.tup ws) ∧ Paired (RdAt H) ws rs ∧ (∀ x ∈ rs, RdOk x) ∧ ls.length + rs.length ≤ 300 ∧
  (∀ i w G e, sysW (.int c) (some (ls.map lkR ++ rs)) = some (i, w) → Same H G → H e = none → E (.ref CB) (some e) (upd G e (.xd [("what", .str w), ("index", i)]))) ∧
  (∀ p' ls' t' us' H', ls.map lkR ++ rs = ls'.map lkR → sysW (.int c) (some (ls.map lkR ++ rs)) = none → Same H H' → SyAt C H' p' c t' us' ls' → Q (.ref p') H')
def spWith (K : PySem.W.Frag) (C CB : Addr) : Sp := fun vs H Q E => ∃ (p : Addr) (rest : List V), vs = [.ref p] ++ rest ∧ rest.length ≤ sizeLine ∧ ∀ q, H q = none → spWithI K C CB [.ref p, .ref q] (upd H q (.tup rest)) Q E
/-- a system is made -/
theorem mkSys {K : PySem.W.Frag} {H : Hp} {C CB : Addr} {cv lv : V} {n : String} {ro : Option (List Rd)} {E : XK} {Q : Addr → Hp → Prop} (dc : Dm K H cv n) (hl : LsAt K H lv ro)
    (bad : ∀ i w G e, sysW cv ro = some (i, w) → Same H G → H e = none → E (.ref CB) (some e) (upd G e (.xd [("what", .str w), ("index", i)])))
    (good : ∀ c ls p t us H', cv = .int c → ro = some (ls.map lkR) → sysW cv ro = none → Same H H' → SyAt C H' p c t us ls → Q p H') :
    ∀ x dx, H x = none → H dx = none → dx ≠ x → spSys K C CB [.ref x, cv, lv] (upd (upd H dx (.own x)) x (.ins C dx [])) (fun v H3 => v = .non ∧ Q x H3) E := fun x dx nx ndx nex => by
  have S2 : Same H (upd (upd H dx (.own x)) x (.ins C dx [])) := (sNew ndx).trans (sNew (by rw [upd_ne (Ne.symm nex)]; exact nx))
  refine ⟨x, dx, cv, lv, n, ro, rfl, upd_same, dc.same S2, hl.same S2, fun i w G e h1 h2 h3 => bad i w G e h1 (S2.trans h2) ?_, fun c ls t us H' h1 h2 h3 h4 h5 => ⟨rfl, good c ls x t us H' h1 h2 h3 (fun b o e => h4 _ _ (S2 _ _ e) (ne_of_none e nx)) h5⟩⟩
  cases q : H e with
  | none => rfl
  | some o => rw [S2 _ _ q] at h3; cases h3
section
variable {P : Program} {w : World} {K : PySem.W.Frag} {mg : Str → Option Value} {base : Heap} {cl : String → Addr}
end
end My
set_option Elab.async false
set_option linter.all false
set_option maxRecDepth 100000
set_option maxHeartbeats 1000000
namespace My
open PySem L2 Dw Wp
open C8 (pss_cut tCut)
set_option pp.maxSteps 600
def e1 (ls : List Lk) (i : Nat) : Int := (ls[i]?.map fun l => l.1).getD 0
def e2 (ls : List Lk) (i : Nat) : Int := (ls[i]?.map fun l => l.2.1).getD 0
def jo (ls : List Lk) (is : List Nat) (k : Nat) : Bool := decide (e2 ls (is[k + 1]?.getD 0) = e1 ls (is[k]?.getD 0))
def fits (ls : List Lk) (is : List Nat) : Bool := (List.range (is.length - 1)).all (jo ls is)
theorem lk_at {H : Hp} {t : Addr} {us : List V} {ls : List Lk} {i : Nat} (hL : LsT H t us ls) (h : i < ls.length) : ∃ b, us[i]? = some (.ref b) ∧ H b = some (.tup (lkV ls[i])) := by
  obtain ⟨v, hv, b, rfl, hb⟩ := Paired.at' (i := i) (y := ls[i]) hL.2 (List.getElem?_eq_getElem h)
  exact ⟨b, hv, hb⟩
theorem e1_at {ls : List Lk} {i : Nat} (h : i < ls.length) : ls[i].1 = e1 ls i := by unfold e1; rw [List.getElem?_eq_getElem h]; rfl
theorem e2_at {ls : List Lk} {i : Nat} (h : i < ls.length) : ls[i].2.1 = e2 ls i := by unfold e2; rw [List.getElem?_eq_getElem h]; rfl
theorem is_atN {is : List Nat} {j x : Nat} (h : is[j]? = some x) : ((is.map fun (i : Nat) => (i : Int)).map V.int)[j]? = some (.int x) := by rw [List.getElem?_map, List.getElem?_map, h]; rfl
theorem ixOrE {K : PySem.W.Frag} {H : Hp} {b : Addr} {xs : List V} {z : Int} {j : Nat} {v : V} {Q : VK} (e : z = (j : Int)) (hb : H b = some (.lst xs) ∨ H b = some (.tup xs)) (ha : xs[j]? = some v) (q : Q v H) : rIxL K (.ref b) (.int z) H Q ∨ rIxT K (.ref b) (.int z) H Q := by
  subst e
  exact ixOr hb ha q
def spJo : Sp := fun vs H Q _ => ∃ (t a : Addr) (us : List V) (ls : List Lk) (is : List Nat), vs = [.ref t, .ref a] ∧ LsT H t us ls ∧ IsAt H a (is.map fun (i : Nat) => (i : Int)) ∧ is.length ≤ 900 ∧ (∀ i ∈ is, i < ls.length) ∧ Q (.bl (fits ls is)) H
section
variable {P : Program} {w : World} {K : PySem.W.Frag} {mg : Str → Option Value} {base : Heap} {cl : String → Addr}
theorem ok_has_joints {f : Addr} {fd : FuncData} (F : Fun K "has_joints" "has_joints" s_has_joints f fd) (T : Txt P w K mg cl) : FnOk P w K mg base CX0 1 f fd ["links", "path"] spJo := by
  refine F.ok sc_has_joints (fun vs H Q E h => ?_) (fun cdv A outer s H vs Q E hr h => ?_)
  · obtain ⟨t, a, us, ls, is, rfl, _⟩ := h
    rfl
  · obtain ⟨t, a, us, ls, is, rfl, hL, ha, le, hix, k⟩ := h
    refine ⟨_, (pss_cons (ps_for PassesOwn.never rfl (pi_range2 rfl T.n_range (pa_cons pe_int (pa_cons (pe_callB call_len_seq (by rfl) T.n_len PySem.boot_len (pa_cons (pv 1) pa_nil)) pa_nil))) (pg_name (i := 2) sc_has_joints.nd rfl (Or.inl rfl))
          (pss_one (ps_if (pt_cmpR op_ne (pe_ix ix_tup (pe_ix ix_tup (pv 0) (pe_ix ix_either (pv 1) (pv 2) (fun _ _ => rfl)) (fun _ _ => rfl)) pe_int (fun _ _ => rfl)) (pe_ix ix_tup (pe_ix ix_tup (pv 0) (pe_ix ix_either (pv 1) (pe_op op_sub (pv 2) pe_int) (fun _ _ => rfl)) (fun _ _ => rfl)) pe_int (fun _ _ => rfl)) (nomark _))
              (pss_one (ps_ret pe_bl)) pss_nil)))
        (pss_one (ps_ret pe_bl))), ?_⟩
    have lm : ((is.map fun (i : Nat) => (i : Int)).map V.int).length = is.length := by rw [List.length_map, List.length_map]
    refine ⟨_, rfl, a, _, rfl, ha.imp SqL.of SqT.of, _, _, rfl, ⟨by decide, by decide, by rw [lm]; omega, by rw [lm]; omega⟩, ?_⟩
    refine for_range (fun i σ H' => H' = H ∧ (List.range i).all (jo ls is) = true ∧ ∃ v2, σ = [some (.ref t), some (.ref a), v2]) ⟨rfl, rfl, _, rfl⟩ ?_ ?_
    · rintro i σ H' hi ⟨rfl, hj, v2, rfl⟩
      rw [lm] at hi
      have i1 : i + 1 < is.length := by omega
      have i0 : i < is.length := by omega
      have l1 := hix _ (List.getElem_mem i1)
      have l0 := hix _ (List.getElem_mem i0)
      obtain ⟨b1, hb1, hc1⟩ := lk_at hL l1
      obtain ⟨b0, hb0, hc0⟩ := lk_at hL l0
      rw [show (1 : Int) + (i : Nat) = ((i + 1 : Nat) : Int) by omega]
      refine ⟨_, rfl, _, rfl, _, rfl, ixOr ha (j := i + 1) (is_atN (List.getElem?_eq_getElem i1)) ⟨t, _, _, _, rfl, rfl, SqT.of hL.1, atI_nat hb1, b1, _, _, _, rfl, rfl, SqT.of hc1, atI_nat (j := 1) rfl, _, rfl, _, rfl, _, rfl, _, _, rfl, rfl, ?_⟩⟩
      refine ixOrE (j := i) (by omega) ha (is_atN (List.getElem?_eq_getElem i0)) ⟨t, _, _, _, rfl, rfl, SqT.of hL.1, atI_nat hb0, b0, _, _, _, rfl, rfl, SqT.of hc0, atI_nat (j := 0) rfl, rfl, _, rfl, ?_⟩
      have ej : jo ls is i = decide (ls[is[i + 1]].2.1 = ls[is[i]].1) := by
        unfold jo
        rw [List.getElem?_eq_getElem i1, List.getElem?_eq_getElem i0]
        show decide (e2 ls is[i + 1] = e1 ls is[i]) = _
        rw [e1_at l0, e2_at l1]
      refine ite2 (fun g => ?_) (fun g => ?_)
      · have fb : fits ls is = false := by
          unfold fits
          refine List.all_eq_false.mpr ⟨i, List.mem_range.mpr (by omega), ?_⟩
          rw [ej]
          intro z
          have z := of_decide_eq_true z
          simp [z] at g
        rw [fb] at k
        exact k
      · refine ⟨rfl, ?_, _, rfl⟩
        rw [List.range_succ, List.all_append, hj, Bool.true_and]
        show (jo ls is i && true) = true
        rw [Bool.and_true, ej]
        refine decide_eq_true ?_
        by_cases z : ls[is[i + 1]].2.1 = ls[is[i]].1
        · exact z
        · exfalso
          refine g ?_
          show (!decide (V.int _ = V.int _)) = true
          rw [decide_eq_false fun q => z (V.int.inj q)]
          rfl
    · rintro σ H' ⟨rfl, hj, v2, rfl⟩
      rw [lm] at hj
      rw [show ((is.length : Int) - 1).toNat = is.length - 1 by omega] at hj
      have fb : fits ls is = true := hj
      rw [fb] at k
      exact k
theorem cal_has_joints (T : Txt P w K mg cl) : Cal P w K mg base CX0 1 "has_joints" ["links", "path"] (spJo) := by
  obtain ⟨f, fd, F, m⟩ := T.d_has_joints
  exact ⟨f, fd, ok_has_joints F T, m, F.kp, F.binds fun _ _ _ _ _ _ us hl => match us, hl with | [_, _], _ => rfl⟩
end
end My
set_option Elab.async false
set_option linter.all false
set_option maxRecDepth 100000
set_option maxHeartbeats 1000000
namespace My
open PySem L2 Dw Wp
open C8 (pss_cut tCut)
set_option pp.maxSteps 600
theorem ix_nat {n : Nat} : ∀ {is : List Int}, is.all (isIx n) = true → ∃ js : List Nat, is = (js.map fun (i : Nat) => (i : Int)) ∧ ∀ j ∈ js, j < n
  | [], _ => ⟨[], rfl, fun j h => by cases h⟩
  | i :: is, h => by
    rw [List.all_cons] at h
    obtain ⟨h1, h2⟩ := Bool.and_eq_true_iff.mp h
    obtain ⟨js, e, hj⟩ := ix_nat h2
    have h1 : (decide (0 ≤ i) && decide (i < (n : Int))) = true := h1
    simp only [Bool.and_eq_true, decide_eq_true_eq] at h1
    refine ⟨i.toNat :: js, ?_, fun j hj2 => ?_⟩
    · rw [e, List.map_cons, Int.toNat_of_nonneg h1.1]
    · rcases List.mem_cons.mp hj2 with rfl | hj2
      · omega
      · exact hj j hj2
/-- the first word of a path of indexes that are right -/
def pathN (ls : List Lk) (js : List Nat) (st en : Int) : Option Str :=
  if js = [] then (if st = en then none else some "end") else if e2 ls (js[0]?.getD 0) = st then (if fits ls js = true then (if e1 ls (js.getLast?.getD 0) = en then none else some "end") else some "joint") else some "start"
theorem ixOrA {K : PySem.W.Frag} {H : Hp} {b : Addr} {xs : List V} {z : Int} {v : V} {Q : VK} (hb : H b = some (.lst xs) ∨ H b = some (.tup xs)) (ha : atI xs z = some v) (q : Q v H) : rIxL K (.ref b) (.int z) H Q ∨ rIxT K (.ref b) (.int z) H Q := hb.imp (fun h => ⟨b, _, _, _, rfl, rfl, SqL.of h, ha, q⟩) fun h => ⟨b, _, _, _, rfl, rfl, SqT.of h, ha, q⟩
def spPF (C : Addr) : Sp := fun vs H Q _ => ∃ (p t a : Addr) (c : Int) (us : List V) (ls : List Lk) (is : List Int) (st en : Int), vs = [.ref p, .ref a, .int st, .int en] ∧ SyAt C H p c t us ls ∧ ls.length ≤ 900 ∧ IsAt H a is ∧ is.length ≤ 900 ∧
  (is.all (isIx ls.length) = false → ∀ H', Same H H' → Q (.str "index") H') ∧
  (∀ js : List Nat, is = (js.map fun (i : Nat) => (i : Int)) → (∀ j ∈ js, j < ls.length) → ∀ H', Same H H' → Q (optV (pathN ls js st en)) H')
section
variable {P : Program} {w : World} {K : PySem.W.Frag} {mg : Str → Option Value} {base : Heap} {cl : String → Addr}
theorem ok_path_fault {f : Addr} {fd : FuncData} (F : Fun K "path_fault" "path_fault" s_path_fault f fd) (T : Txt P w K mg cl) : FnOk P w K mg base CX0 3 f fd ["system", "path", "start", "end"] (spPF (cl "System")) := by
  refine F.ok sc_path_fault (fun vs H Q E h => ?_) (fun cdv A outer s H vs Q E hr h => ?_)
  · obtain ⟨p, t, a, c, us, ls, is, st, en, rfl, _⟩ := h
    rfl
  · obtain ⟨p, t, a, c, us, ls, is, st, en, rfl, X, ln, ha, le, kx, kg⟩ := h
    have C_are_indexes : Cal P w K mg base CX0 2 "are_indexes" _ spAre := cal_are_indexes T
    have C_has_joints : Cal P w K mg base CX0 1 "has_joints" _ spJo := cal_has_joints T
    refine ⟨_, (pss_cons (ps_set (i := 4) sc_path_fault.nd rfl (Or.inl rfl) (pe_fld (pv 0) rfl))
        (pss_cons (ps_if (pt_not (pt_val (pe_cal C_are_indexes (hr.mono (by decide)) (pa_cons (pv 4) (pa_cons (pv 1) pa_nil)))))
          (pss_one (ps_ret pe_str)) pss_nil)
        (pss_cons (ps_if (pt_cmpR op_eq (pe_callB call_len_seq (by rfl) T.n_len PySem.boot_len (pa_cons (pv 1) pa_nil)) pe_int (nomark _))
          (pss_one (ps_ret (pe_ifExp (pt_cmpR op_eq (pv 2) (pv 3) (nomark _)) pe_non pe_str))) pss_nil)
        (pss_cons (ps_if (pt_cmpR op_ne (pe_ix ix_tup (pe_ix ix_tup (pv 4) (pe_ix ix_either (pv 1) pe_int (fun _ _ => rfl)) (fun _ _ => rfl)) pe_int (fun _ _ => rfl)) (pv 2) (nomark _))
          (pss_one (ps_ret pe_str)) pss_nil)
        (pss_cons (ps_if (pt_not (pt_val (pe_cal C_has_joints (hr.mono (by decide)) (pa_cons (pv 4) (pa_cons (pv 1) pa_nil)))))
          (pss_one (ps_ret pe_str)) pss_nil)
        (pss_one (ps_ret (pe_ifExp (pt_cmpR op_eq (pe_ix ix_tup (pe_ix ix_tup (pv 4) (pe_ix ix_either (pv 1) (pe_un un_neg pe_int) (fun _ _ => rfl)) (fun _ _ => rfl)) pe_int (fun _ _ => rfl)) (pv 3) (nomark _)) pe_non pe_str)))))))), ?_⟩
    obtain ⟨dx, hself⟩ := X.self
    refine ⟨_, rfl, p, _, _, _, _, rfl, hself, T.cl_System, T.na_System _ (by decide), rfl, ?_⟩
    refine ⟨_, rfl, _, rfl, t, a, us, ls, is, rfl, ⟨X.rows, X.each⟩, ln, ha, le, fun H1 S1 => ⟨_, rfl, ?_⟩⟩
    cases hx : is.all (isIx ls.length) with
    | false => exact iteT (kx hx _ S1)
    | true =>
      obtain ⟨js, rfl, hj⟩ := ix_nat hx
      have k := kg js rfl hj
      rw [List.length_map] at le
      have ha := IsAt.same ha S1
      have hL : LsT H1 t us ls := ⟨S1 _ _ X.rows, (X.same S1).each⟩
      refine iteF ⟨_, rfl, a, _, rfl, ha.imp SqL.of SqT.of, rfl, _, rfl, ?_⟩
      cases js with
      | nil =>
        have k : ∀ H', Same H H' → Q (optV (if st = en then (none : Option Str) else some ("end" : Str))) H' := k
        refine iteT ⟨_, rfl, _, rfl, rfl, _, rfl, ?_⟩
        refine ite2 (fun g => ?_) (fun g => ?_)
        · have g : st = en := V.int.inj (of_decide_eq_true g)
          rw [if_pos g] at k
          exact k _ S1
        · rw [if_neg fun z => g (decide_eq_true (congrArg V.int z))] at k
          exact k _ S1
      | cons j0 js =>
        have un : pathN ls (j0 :: js) st en = (if e2 ls j0 = st then (if fits ls (j0 :: js) = true then (if e1 ls ((j0 :: js).getLast?.getD 0) = en then none else some ("end" : Str)) else some ("joint" : Str)) else some ("start" : Str)) := by
          unfold pathN
          rw [if_neg (by simp)]
          rfl
        rw [un] at k
        refine iteF ?_
        have l0 := hj j0 List.mem_cons_self
        obtain ⟨b0, hb0, hc0⟩ := lk_at hL l0
        refine ⟨_, rfl, _, rfl, ixOrA ha (atI_nat (j := 0) rfl) ⟨t, _, _, _, rfl, rfl, SqT.of hL.1, atI_nat hb0, b0, _, _, _, rfl, rfl, SqT.of hc0, atI_nat (j := 1) rfl, _, rfl, rfl, _, rfl, ?_⟩⟩
        rw [e2_at l0]
        refine ite2 (fun g => ?_) (fun g => ?_)
        · have g : ¬ e2 ls j0 = st := fun z => by
            rw [z] at g
            simp at g
          rw [if_neg g] at k
          exact k _ S1
        have g : e2 ls j0 = st := by
          by_cases z : e2 ls j0 = st
          · exact z
          · exfalso
            refine g ?_
            rw [decide_eq_false fun q => z (V.int.inj q)]
            rfl
        rw [if_pos g] at k
        refine ⟨_, rfl, _, rfl, t, a, us, ls, j0 :: js, rfl, hL, ha, le, hj, _, rfl, ?_⟩
        cases hf : fits ls (j0 :: js) with
        | false =>
          rw [if_neg (by rw [hf]; decide)] at k
          exact iteT (k _ S1)
        | true =>
          rw [if_pos hf] at k
          obtain ⟨ys, z, ez⟩ : ∃ ys z, j0 :: js = ys ++ [z] := by
            rcases List.eq_nil_or_concat (j0 :: js) with h | ⟨ys, z, h⟩
            · cases h
            · exact ⟨ys, z, by rw [h, List.concat_eq_append]⟩
          rw [ez] at k hj ha
          have lz := hj z (by simp)
          obtain ⟨bz, hbz, hcz⟩ := lk_at hL lz
          have ha : IsAt H1 a ((ys.map fun (i : Nat) => (i : Int)) ++ [(z : Int)]) := by rw [List.map_append] at ha; exact ha
          have ha : H1 a = some (.lst (((ys.map fun (i : Nat) => (i : Int)).map V.int) ++ [.int (z : Int)])) ∨ H1 a = some (.tup (((ys.map fun (i : Nat) => (i : Int)).map V.int) ++ [.int (z : Int)])) := by
            unfold IsAt at ha
            rw [List.map_append] at ha
            exact ha
          refine iteF ⟨_, rfl, _, rfl, _, rfl, ixOrA ha (by exact atI_last _ _) ⟨t, _, _, _, rfl, rfl, SqT.of hL.1, atI_nat hbz, bz, _, _, _, rfl, rfl, SqT.of hcz, atI_nat (j := 0) rfl, _, rfl, rfl, _, rfl, ?_⟩⟩
          rw [List.getLast?_append] at k
          have k : ∀ H', Same H H' → Q (optV (if e1 ls z = en then (none : Option Str) else some ("end" : Str))) H' := k
          rw [e1_at lz]
          refine ite2 (fun g => ?_) (fun g => ?_)
          · rw [if_pos (V.int.inj (of_decide_eq_true g))] at k
            exact k _ S1
          · rw [if_neg fun q => g (decide_eq_true (congrArg V.int q))] at k
            exact k _ S1
theorem cal_path_fault (T : Txt P w K mg cl) : Cal P w K mg base CX0 3 "path_fault" ["system", "path", "start", "end"] (spPF (cl "System")) := by
  obtain ⟨f, fd, F, m⟩ := T.d_path_fault
  exact ⟨f, fd, ok_path_fault F T, m, F.kp, F.binds fun _ _ _ _ _ _ us hl => match us, hl with | [_, _, _, _], _ => rfl⟩
end
end My
set_option Elab.async false
set_option linter.all false
set_option maxRecDepth 100000
set_option maxHeartbeats 1000000
namespace My
open PySem L2 Dw Wp
open C8 (pss_cut tCut)
set_option pp.maxSteps 600
/-- the first word of a ring of indexes that are right, one at least -/
def ringN (ls : List Lk) (js : List Nat) : Option Str :=
  if (fits ls js && decide (e2 ls (js[0]?.getD 0) = e1 ls (js.getLast?.getD 0))) = true then (if sumO ls js < 0 then none else some "sum") else some "joint"
def spRg : Sp := fun vs H Q _ => ∃ (t a : Addr) (us : List V) (ls : List Lk) (is : List Int), vs = [.ref t, .ref a] ∧ LsT H t us ls ∧ ls.length ≤ 900 ∧ H a = some (.tup (is.map V.int)) ∧ is.length ≤ 900 ∧
  (is = [] → ∀ H', Same H H' → Q (.str "empty") H') ∧ (is ≠ [] → is.all (isIx ls.length) = false → ∀ H', Same H H' → Q (.str "index") H') ∧
  (∀ js : List Nat, js ≠ [] → is = (js.map fun (i : Nat) => (i : Int)) → (∀ j ∈ js, j < ls.length) → ∀ H', Same H H' → Q (optV (ringN ls js)) H')
section
variable {P : Program} {w : World} {K : PySem.W.Frag} {mg : Str → Option Value} {base : Heap} {cl : String → Addr}
theorem ok_ring_fault {f : Addr} {fd : FuncData} (F : Fun K "ring_fault" "ring_fault" s_ring_fault f fd) (T : Txt P w K mg cl) : FnOk P w K mg base CX0 3 f fd ["links", "path"] spRg := by
  refine F.ok sc_ring_fault (fun vs H Q E h => ?_) (fun cdv A outer s H vs Q E hr h => ?_)
  · obtain ⟨t, a, us, ls, is, rfl, _⟩ := h
    rfl
  · obtain ⟨t, a, us, ls, is, rfl, hL, ln, ha, le, ke, kx, kg⟩ := h
    have C_are_indexes : Cal P w K mg base CX0 2 "are_indexes" _ spAre := cal_are_indexes T
    have C_has_joints : Cal P w K mg base CX0 1 "has_joints" _ spJo := cal_has_joints T
    have C_sum_of : Cal P w K mg base CX0 1 "sum_of" _ spSum := cal_sum_of T
    refine ⟨_, (pss_cons (ps_if (pt_cmpR op_eq (pe_callB call_len_seq (by rfl) T.n_len PySem.boot_len (pa_cons (pv 1) pa_nil)) pe_int (nomark _))
          (pss_one (ps_ret pe_str)) pss_nil)
        (pss_cons (ps_if (pt_not (pt_val (pe_cal C_are_indexes (hr.mono (by decide)) (pa_cons (pv 0) (pa_cons (pv 1) pa_nil)))))
          (pss_one (ps_ret pe_str)) pss_nil)
        (pss_cons (ps_if (PW.pt (pw_or (pt_not (pt_val (pe_cal C_has_joints (hr.mono (by decide)) (pa_cons (pv 0) (pa_cons (pv 1) pa_nil))))) (pw_or1 (pt_cmpR op_ne (pe_ix ix_tup (pe_ix ix_tup (pv 0) (pe_ix ix_tup (pv 1) pe_int (fun _ _ => rfl)) (fun _ _ => rfl)) pe_int (fun _ _ => rfl)) (pe_ix ix_tup (pe_ix ix_tup (pv 0) (pe_ix ix_tup (pv 1) (pe_un un_neg pe_int) (fun _ _ => rfl)) (fun _ _ => rfl)) pe_int (fun _ _ => rfl)) (nomark _)))))
          (pss_one (ps_ret pe_str)) pss_nil)
        (pss_one (ps_ret (pe_ifExp (pt_cmpR op_lt (pe_cal C_sum_of (hr.mono (by decide)) (pa_cons (pv 0) (pa_cons (pv 1) pa_nil))) pe_int (nomark _)) pe_non pe_str)))))), ?_⟩
    refine ⟨_, rfl, a, _, rfl, .inr (SqT.of ha), rfl, _, rfl, ?_⟩
    cases is with
    | nil => exact iteT (ke rfl _ (Same.refl H))
    | cons i0 is =>
      refine iteF ⟨_, rfl, _, rfl, t, a, us, ls, i0 :: is, rfl, hL, ln, .inr ha, le, fun H1 S1 => ⟨_, rfl, ?_⟩⟩
      cases hx : (i0 :: is).all (isIx ls.length) with
      | false => exact iteT (kx (by simp) hx _ S1)
      | true =>
        obtain ⟨js, ej, hj⟩ := ix_nat hx
        have nj : js ≠ [] := fun z => by rw [z] at ej; cases ej
        have k := kg js nj ej hj
        rw [ej, List.length_map] at le
        rw [ej] at ha
        have ha := S1 _ _ ha
        have hL := hL.same S1
        refine iteF ⟨_, rfl, _, rfl, t, a, us, ls, js, rfl, hL, .inr ha, le, hj, _, rfl, ?_⟩
        cases hf : fits ls js with
        | false =>
          rw [show ringN ls js = some ("joint" : Str) from if_neg (by rw [hf]; simp)] at k
          exact iteT (iteT (k _ S1))
        | true =>
          refine iteF ?_
          obtain ⟨j0, js', e0⟩ : ∃ j0 js', js = j0 :: js' := by
            cases js with
            | nil => exact absurd rfl nj
            | cons j0 js' => exact ⟨j0, js', rfl⟩
          obtain ⟨ys, z, ez⟩ : ∃ ys z, js = ys ++ [z] := by
            rcases List.eq_nil_or_concat js with h | ⟨ys, z, h⟩
            · exact absurd h nj
            · exact ⟨ys, z, by rw [h, List.concat_eq_append]⟩
          have l0 := hj j0 (by rw [e0]; exact List.mem_cons_self)
          have lz := hj z (by rw [ez]; simp)
          obtain ⟨b0, hb0, hc0⟩ := lk_at hL l0
          obtain ⟨bz, hbz, hcz⟩ := lk_at hL lz
          have a0 : ((js.map fun (i : Nat) => (i : Int)).map V.int)[0]? = some (.int (j0 : Nat)) := by rw [e0]; rfl
          have az : atI ((js.map fun (i : Nat) => (i : Int)).map V.int) (-1) = some (.int (z : Nat)) := by
            rw [ez, List.map_append, List.map_append]
            exact atI_last _ _
          have un : ringN ls js = (if decide (e2 ls j0 = e1 ls z) = true then (if sumO ls js < 0 then none else some ("sum" : Str)) else some ("joint" : Str)) := by
            unfold ringN
            rw [hf, Bool.true_and, show js[0]?.getD 0 = j0 by rw [e0]; rfl, show js.getLast?.getD 0 = z by rw [ez, List.getLast?_append]; rfl]
          rw [un] at k
          refine ⟨_, rfl, _, rfl, a, _, _, _, rfl, rfl, SqT.of ha, atI_nat (j := 0) a0, t, _, _, _, rfl, rfl, SqT.of hL.1, atI_nat hb0, b0, _, _, _, rfl, rfl, SqT.of hc0, atI_nat (j := 1) rfl, _, rfl, _, rfl, _, rfl, a, _, _, _, rfl, rfl, SqT.of ha, az, t, _, _, _, rfl, rfl, SqT.of hL.1, atI_nat hbz, bz, _, _, _, rfl, rfl, SqT.of hcz, atI_nat (j := 0) rfl, rfl, _, rfl, ?_⟩
          rw [e2_at l0, e1_at lz]
          by_cases g : e2 ls j0 = e1 ls z
          rotate_left
          · rw [if_neg fun q => g (of_decide_eq_true q)] at k
            rw [decide_eq_false fun q => g (V.int.inj q)]
            exact iteT (k _ S1)
          rw [if_pos (decide_eq_true g)] at k
          rw [decide_eq_true (congrArg V.int g)]
          refine iteF ⟨_, rfl, _, rfl, t, a, us, ls, js, rfl, hL, .inr ha, le, hj, fun H2 S2 => ⟨_, _, rfl, rfl, _, rfl, ?_⟩⟩
          refine ite2 (fun q => ?_) (fun q => ?_)
          · rw [if_pos (of_decide_eq_true q)] at k
            exact k _ (S1.trans S2)
          · rw [if_neg fun y => q (decide_eq_true y)] at k
            exact k _ (S1.trans S2)
theorem cal_ring_fault (T : Txt P w K mg cl) : Cal P w K mg base CX0 3 "ring_fault" ["links", "path"] (spRg) := by
  obtain ⟨f, fd, F, m⟩ := T.d_ring_fault
  exact ⟨f, fd, ok_ring_fault F T, m, F.kp, F.binds fun _ _ _ _ _ _ us hl => match us, hl with | [_, _], _ => rfl⟩
end
end My
set_option Elab.async false
set_option linter.all false
set_option maxRecDepth 100000
set_option maxHeartbeats 1000000
namespace My
open PySem L2 Dw Wp
open C8 (pss_cut tCut)
set_option pp.maxSteps 600
def spFld1 (C : Addr) (f : Str) : Sp := fun vs H Q _ => ∃ (p dx : Addr) (v : V), vs = [.ref p, v] ∧ H p = some (.ins C dx []) ∧ Q .non (upd H p (.ins C dx [(f, v)]))
def spTF (K : PySem.W.Frag) (C : Addr) : Sp := fun vs H Q _ => ∃ (p t a : Addr) (c : Int) (us : List V) (ls : List Lk) (ts : List Int), vs = [.ref p, .ref a] ∧ SyAt C H p c t us ls ∧ (∀ l ∈ ls, LkOk c l) ∧ ls.length ≤ 900 ∧ H a = some (.tup (ts.map V.int)) ∧ ts.length ≤ 900 ∧
  (¬ (ts.length : Int) = c → ∀ H', Same H H' → Q (.str "count") H') ∧ ((ts.length : Int) = c → ∀ H', Same H H' → Q (if (brk ls ts).isEmpty = true then .non else .str "link") H')
section
variable {P : Program} {w : World} {K : PySem.W.Frag} {mg : Str → Option Value} {base : Heap} {cl : String → Addr}
theorem ok_Kept_init {f : Addr} {fd : FuncData} (F : Fun K "__init__" "Kept.__init__" s_Kept_init f fd) (T : Txt P w K mg cl) : FnOk P w K mg base CX0 1 f fd ["self", "times"] (spFld1 (cl "Kept") "times") := by
  refine F.ok sc_Kept_init (fun vs H Q E h => ?_) (fun cdv A outer s H vs Q E hr h => ?_)
  · obtain ⟨p, dx, v, rfl, _⟩ := h
    rfl
  · obtain ⟨p, dx, v, rfl, hp, k⟩ := h
    refine ⟨_, (pss_one (ps_fld (pv 0) (pv 1) rfl)), ?_⟩
    exact ⟨_, rfl, _, rfl, p, _, dx, _, rfl, hp, T.cl_Kept, T.na_Kept _ (by decide), (by show 0 < 1000; decide), k⟩
theorem cal_Kept_init (T : Txt P w K mg cl) : CalC P w K mg base CX0 1 (cl "Kept") ["self", "times"] (spFld1 (cl "Kept") "times") := by
  obtain ⟨f, fd, F, m⟩ := T.i_Kept
  exact ⟨f, fd, ok_Kept_init F T, m, F.binds fun _ _ _ _ _ _ us hl => match us, hl with | [_, _], _ => rfl⟩
theorem ok_Ring_init {f : Addr} {fd : FuncData} (F : Fun K "__init__" "Ring.__init__" s_Ring_init f fd) (T : Txt P w K mg cl) : FnOk P w K mg base CX0 1 f fd ["self", "path"] (spFld1 (cl "Ring") "path") := by
  refine F.ok sc_Ring_init (fun vs H Q E h => ?_) (fun cdv A outer s H vs Q E hr h => ?_)
  · obtain ⟨p, dx, v, rfl, _⟩ := h
    rfl
  · obtain ⟨p, dx, v, rfl, hp, k⟩ := h
    refine ⟨_, (pss_one (ps_fld (pv 0) (pv 1) rfl)), ?_⟩
    exact ⟨_, rfl, _, rfl, p, _, dx, _, rfl, hp, T.cl_Ring, T.na_Ring _ (by decide), (by show 0 < 1000; decide), k⟩
theorem cal_Ring_init (T : Txt P w K mg cl) : CalC P w K mg base CX0 1 (cl "Ring") ["self", "path"] (spFld1 (cl "Ring") "path") := by
  obtain ⟨f, fd, F, m⟩ := T.i_Ring
  exact ⟨f, fd, ok_Ring_init F T, m, F.binds fun _ _ _ _ _ _ us hl => match us, hl with | [_, _], _ => rfl⟩
theorem ok_times_fault {f : Addr} {fd : FuncData} (F : Fun K "times_fault" "times_fault" s_times_fault f fd) (T : Txt P w K mg cl) : FnOk P w K mg base CX0 4 f fd ["system", "times"] (spTF K (cl "System")) := by
  refine F.ok sc_times_fault (fun vs H Q E h => ?_) (fun cdv A outer s H vs Q E hr h => ?_)
  · obtain ⟨p, t, a, c, us, ls, ts, rfl, _⟩ := h
    rfl
  · obtain ⟨p, t, a, c, us, ls, ts, rfl, X, lok, ln, ha, le, kc, kl⟩ := h
    have C_System_broken : CalM P w K mg base (L2.CX P w) 3 (cl "System") "broken" _ (spBrk K (cl "System") (cl "BadTimes")) := cal_System_broken T
    refine ⟨_, (pss_cons (ps_if (pt_cmpR op_ne (pe_callB call_len_seq (by rfl) T.n_len PySem.boot_len (pa_cons (pv 1) pa_nil)) (pe_fld (pv 0) rfl) (nomark _))
          (pss_one (ps_ret pe_str)) pss_nil)
        (pss_one (ps_ret (pe_ifExp (pt_cmpR (op_eqD hr.units) (pe_mth T.cl_System C_System_broken (hr.mono (by decide)) (pv 0) (pa_cons (pv 1) pa_nil)) (pe_tup pa_nil) (nomark _)) pe_non pe_str)))), ?_⟩
    obtain ⟨dx, hself⟩ := X.self
    refine ⟨_, rfl, a, _, rfl, .inr (SqT.of ha), _, rfl, p, _, _, _, _, rfl, hself, T.cl_System, T.na_System _ (by decide), rfl, rfl, _, rfl, ?_⟩
    rw [List.length_map]
    by_cases g : (ts.length : Int) = c
    rotate_left
    · rw [decide_eq_false fun q => g (V.int.inj q)]
      exact iteT (kc g _ (Same.refl H))
    rw [decide_eq_true (congrArg V.int g)]
    have k := kl g
    refine iteF ?_
    refine ⟨_, rfl, p, _, _, rfl, hself, rfl, _, rfl, p, t, c, us, ls, .ref a, some (ts.map V.int), rfl, X, lok, ln, ⟨a, rfl, .inr ha, fun x hx => by obtain ⟨i, _, rfl⟩ := List.mem_map.mp hx; exact ⟨_, .int i⟩, by rw [List.length_map]; exact le⟩, fun h => ?_, fun ts' e lt t' H1 S1 ht => ?_⟩
    · exfalso
      have h : (decide (((ts.map V.int).length : Int) = c) && (ts.map V.int).all isI) = false := h
      rw [List.length_map, decide_eq_true g, Bool.true_and, List.all_map] at h
      have h2 : ts.all (isI ∘ V.int) = true := List.all_eq_true.mpr fun _ _ => rfl
      rw [h2] at h
      cases h
    · have et : ts = ts' := by
        have e := Option.some.inj e
        have inj : ∀ as bs : List Int, as.map V.int = bs.map V.int → as = bs := fun as => by
          induction as with
          | nil => intro bs h; cases bs with
            | nil => rfl
            | cons _ _ => cases h
          | cons x as ih => intro bs h; cases bs with
            | nil => cases h
            | cons y bs =>
              rw [List.map_cons, List.map_cons] at h
              injection h with h1 h2
              rw [V.int.inj h1, ih bs h2]
        exact inj _ _ e
      subst et
      have okI : ∀ x ∈ (brk ls ts).map fun (i : Nat) => V.int i, okV x = true := fun x hx => by
        obtain ⟨i, _, rfl⟩ := List.mem_map.mp hx
        rfl
      refine ⟨by show 0 ≤ sizeLine; exact Nat.zero_le _, fun q nq => ?_⟩
      have S2 := sNew (o := .tup []) nq
      refine ⟨_, _, dp_tup (SqT.of (S2 _ _ ht)) (dpvs fun x hx => okV.flat (okI x hx)), dp_tup (SqT.of upd_same) .nil, row_shaped false okI, row_shaped (xs := []) false (by simp), _, rfl, ?_⟩
      rw [eqv_nilV, show ((brk ls ts).map fun (i : Nat) => V.int i).isEmpty = (brk ls ts).isEmpty by cases brk ls ts <;> rfl]
      have k := k _ (S1.trans S2)
      cases hb : (brk ls ts).isEmpty with
      | true => rw [hb] at k; exact iteT k
      | false => rw [hb] at k; exact iteF k
theorem cal_times_fault (T : Txt P w K mg cl) : Cal P w K mg base CX0 4 "times_fault" ["system", "times"] (spTF K (cl "System")) := by
  obtain ⟨f, fd, F, m⟩ := T.d_times_fault
  exact ⟨f, fd, ok_times_fault F T, m, F.kp, F.binds fun _ _ _ _ _ _ us hl => match us, hl with | [_, _], _ => rfl⟩
end
end My
set_option Elab.async false
set_option linter.all false
set_option maxRecDepth 100000
set_option maxHeartbeats 1000000
namespace My
open PySem L2 Dw Wp
open C8 (pss_cut tCut)
set_option pp.maxSteps 600
def RgAt (C : Addr) (H : Hp) (p : Addr) (f : Str) (a : Addr) : Prop := ∃ dx, H p = some (.ins C dx [(f, .ref a)])
def spSF (K : PySem.W.Frag) (C CR CK : Addr) : Sp := fun vs H Q _ => ∃ (p q t a : Addr) (c : Int) (us : List V) (ls : List Lk) (is : List Int), vs = [.ref p, .ref q] ∧ SyAt C H p c t us ls ∧ (∀ l ∈ ls, LkOk c l) ∧ ls.length ≤ 900 ∧ H a = some (.tup (is.map V.int)) ∧ is.length ≤ 900 ∧
  ((RgAt CR H q "path" a ∧ (is = [] → ∀ H', Same H H' → Q (.str "empty") H') ∧ (is ≠ [] → is.all (isIx ls.length) = false → ∀ H', Same H H' → Q (.str "index") H') ∧
    (∀ js : List Nat, js ≠ [] → is = (js.map fun (i : Nat) => (i : Int)) → (∀ j ∈ js, j < ls.length) → ∀ H', Same H H' → Q (optV (ringN ls js)) H')) ∨
   (RgAt CK H q "times" a ∧ (¬ (is.length : Int) = c → ∀ H', Same H H' → Q (.str "count") H') ∧ ((is.length : Int) = c → ∀ H', Same H H' → Q (if (brk ls is).isEmpty = true then .non else .str "link") H')))
section
variable {P : Program} {w : World} {K : PySem.W.Frag} {mg : Str → Option Value} {base : Heap} {cl : String → Addr}
theorem ok_solved_fault {f : Addr} {fd : FuncData} (F : Fun K "solved_fault" "solved_fault" s_solved_fault f fd) (T : Txt P w K mg cl) : FnOk P w K mg base CX0 5 f fd ["system", "answer"] (spSF K (cl "System") (cl "Ring") (cl "Kept")) := by
  refine F.ok sc_solved_fault (fun vs H Q E h => ?_) (fun cdv A outer s H vs Q E hr h => ?_)
  · obtain ⟨p, q, t, a, c, us, ls, is, rfl, _⟩ := h
    rfl
  · obtain ⟨p, q, t, a, c, us, ls, is, rfl, X, lok, ln, ha, le, h⟩ := h
    have C_ring_fault : Cal P w K mg base CX0 3 "ring_fault" _ spRg := cal_ring_fault T
    have C_times_fault : Cal P w K mg base CX0 4 "times_fault" _ (spTF K (cl "System")) := cal_times_fault T
    refine ⟨_, (pss_cons (ps_if (pt_val (pe_callB call_isi (by rfl) T.n_isinstance (by decide +kernel) (pa_cons (pv 1) (pa_cons (pe_cls T.m_Ring) pa_nil))))
          (pss_one (ps_ret (pe_cal C_ring_fault (hr.mono (by decide)) (pa_cons (pe_fld (pv 0) rfl) (pa_cons (pe_fld (pv 1) rfl) pa_nil))))) pss_nil)
        (pss_one (ps_ret (pe_cal C_times_fault (hr.mono (by decide)) (pa_cons (pv 0) (pa_cons (pe_fld (pv 1) rfl) pa_nil)))))), ?_⟩
    obtain ⟨dx, hself⟩ := X.self
    rcases h with ⟨⟨dq, hq⟩, k1, k2, k3⟩ | ⟨⟨dq, hq⟩, k1, k2⟩
    · refine ⟨_, rfl, _, _, _, _, _, rfl, .own (cl "Ring"), .base (.ins hq T.cl_Ring T.y_Ring T.z1 T.z2 T.z3_Ring), T.k_Ri_Ri, _, rfl, iteT ?_⟩
      exact ⟨_, rfl, p, _, _, _, _, rfl, hself, T.cl_System, T.na_System _ (by decide), rfl, _, rfl, q, _, _, _, _, rfl, hq, T.cl_Ring, T.na_Ring _ (by decide), rfl, t, a, us, ls, is, rfl, ⟨X.rows, X.each⟩, ln, ha, le, k1, k2, k3⟩
    · refine ⟨_, rfl, _, _, _, _, _, rfl, .own (cl "Ring"), .base (.ins hq T.cl_Kept T.y_Kept T.z1 T.z2 T.z3_Kept), T.k_Ke_Ri, _, rfl, iteF ?_⟩
      exact ⟨_, rfl, _, rfl, q, _, _, _, _, rfl, hq, T.cl_Kept, T.na_Kept _ (by decide), rfl, p, t, a, c, us, ls, is, rfl, X, lok, ln, ha, le, k1, k2⟩
theorem cal_solved_fault (T : Txt P w K mg cl) : Cal P w K mg base CX0 5 "solved_fault" ["system", "answer"] (spSF K (cl "System") (cl "Ring") (cl "Kept")) := by
  obtain ⟨f, fd, F, m⟩ := T.d_solved_fault
  exact ⟨f, fd, ok_solved_fault F T, m, F.kp, F.binds fun _ _ _ _ _ _ us hl => match us, hl with | [_, _], _ => rfl⟩
end
end My
set_option Elab.async false
set_option linter.all false
set_option maxRecDepth 100000
set_option maxHeartbeats 1000000
namespace My
open PySem L2 Dw Wp
open C8 (pss_cut tCut)
set_option pp.maxSteps 600
/-! the law's draws: a bag -/
def BgAt (H : Hp) (b : Addr) : Prop := ∃ c s : Int, H b = some (.lst [.int c, .int s]) ∧ 0 ≤ c ∧ 0 ≤ s ∧ s < 4294967296
def spTake : Sp := fun vs H Q _ => ∃ (b : Addr) (m : Int), vs = [.ref b, .int m] ∧ BgAt H b ∧ 1 ≤ m ∧ m < 1073741824 ∧ ∀ (k : Int) (H' : Hp), 0 ≤ k → k < m → BgAt H' b → But b H H' → Q (.int k) H'
section
variable {P : Program} {w : World} {K : PySem.W.Frag} {mg : Str → Option Value} {base : Heap} {cl : String → Addr}
theorem ok_take {f : Addr} {fd : FuncData} (F : Fun K "_law_take" "_law_take" s_take f fd) (T : Txt P w K mg cl) : FnOk P w K mg base CX0 1 f fd ["_law_bag_here", "_law_many"] spTake := by
  refine F.ok sc_take (fun vs H Q E h => ?_) (fun cdv A outer s H vs Q E hr h => ?_)
  · obtain ⟨b, m, rfl, _⟩ := h
    rfl
  · obtain ⟨b, m, rfl, ⟨c, s0, hb, c0, s1, s2⟩, m1, m2, k⟩ := h
    refine ⟨_, (pss_cons (ps_if (pt_cmpR op_gt (pe_ix ix_list (pv 0) pe_int (fun _ _ => rfl)) pe_int (nomark _))
          (pss_cons (ps_set (i := 2) sc_take.nd rfl (Or.inl rfl) (pe_op op_mod (pe_callTy call_int1 (by rfl) T.n_int (by decide +kernel) (pa_cons (pe_ix ix_list (pv 0) pe_int (fun _ _ => rfl)) pa_nil)) (pv 1)))
            (pss_cons (ps_asg (pe_op op_fdiv (pe_ix ix_list (pv 0) pe_int (fun _ _ => rfl)) (pv 1)) (pg_sub (pv 0) pe_int set_list))
            (pss_one (ps_ret (pv 2))))) pss_nil)
        (pss_cons (ps_asg (pe_op op_mod (pe_callTy call_int1 (by rfl) T.n_int (by decide +kernel) (pa_cons (pe_op op_add (pe_op op_mul (pe_ix ix_list (pv 0) pe_int (fun _ _ => rfl)) pe_int) pe_int) pa_nil)) pe_int) (pg_sub (pv 0) pe_int set_list))
        (pss_one (ps_ret (pe_op op_mod (pe_op op_fdiv (pe_op op_mod (pe_callTy call_int1 (by rfl) T.n_int (by decide +kernel) (pa_cons (pe_op op_mul (pe_op op_fdiv (pe_ix ix_list (pv 0) pe_int (fun _ _ => rfl)) pe_int) pe_int) pa_nil)) pe_int) pe_int) (pv 1)))))), ?_⟩
    refine ⟨_, rfl, b, _, _, _, rfl, rfl, SqL.of hb, atI_nat (j := 0) rfl, _, _, rfl, rfl, _, rfl, ?_⟩
    refine ite2 (fun g => ?_) (fun g => ?_)
    · refine ⟨_, rfl, b, _, _, _, rfl, rfl, SqL.of hb, atI_nat (j := 0) rfl, .inl ⟨_, rfl, _, rfl, _, _, rfl, rfl, by omega, ?_⟩⟩
      refine ⟨_, rfl, b, _, _, _, rfl, rfl, SqL.of hb, atI_nat (j := 0) rfl, _, rfl, _, _, rfl, rfl, by unfold CDiv; omega, ?_⟩
      refine ⟨_, rfl, b, _, 0, 0, rfl, rfl, hb, rfl, _, rfl, k _ _ (Int.emod_nonneg _ (by omega)) (Int.emod_lt_of_pos _ (by omega)) ⟨c / m, s0, upd_same, ?_, s1, s2⟩ fun x o e n => by rw [upd_ne n]; exact e⟩
      exact Int.ediv_nonneg c0 (by omega)
    · refine ⟨_, rfl, b, _, _, _, rfl, rfl, SqL.of hb, atI_nat (j := 1) rfl, _, _, rfl, rfl, .inr ⟨by decide, by decide⟩, _, _, rfl, rfl, .inl ⟨_, rfl, _, _, rfl, rfl, (by show (0 : Int) < 2147483563; decide), ?_⟩⟩
      refine ⟨_, rfl, b, _, 1, 1, rfl, rfl, hb, rfl, ?_⟩
      have n0 : (0 : Int) ≤ (s0 * 48271 + 20011) % 2147483563 := Int.emod_nonneg _ (by decide)
      have n1 : (s0 * 48271 + 20011) % 2147483563 < 2147483563 := Int.emod_lt_of_pos _ (by decide)
      have hb' : (upd H b (.lst ([V.int c, .int s0].set 1 ((fun i j : Int => V.int (i % j)) (s0 * 48271 + 20011) 2147483563)))) b = some (.lst [.int c, .int ((s0 * 48271 + 20011) % 2147483563)]) := upd_same
      refine ⟨_, rfl, b, _, _, _, rfl, rfl, SqL.of hb', atI_nat (j := 1) rfl, _, _, rfl, rfl, by unfold CDiv; omega, _, _, rfl, rfl, .inr ⟨by decide, by decide⟩, .inl ⟨_, rfl, _, _, rfl, rfl, (by show (0 : Int) < 2147483543; decide), _, _, rfl, rfl, by unfold CDiv; omega, _, rfl, _, _, rfl, rfl, by omega, ?_⟩⟩
      exact k _ _ (Int.emod_nonneg _ (by omega)) (Int.emod_lt_of_pos _ (by omega)) ⟨c, _, hb', c0, n0, by omega⟩ fun x o e n => by rw [upd_ne n]; exact e
theorem cal_take (T : Txt P w K mg cl) : Cal P w K mg base CX0 1 "_law_take" ["_law_bag_here", "_law_many"] spTake := by
  obtain ⟨f, fd, F, m⟩ := T.d_take
  exact ⟨f, fd, ok_take F T, m, F.kp, F.binds fun _ _ _ _ _ _ us hl => match us, hl with | [_, _], _ => rfl⟩
end
end My
set_option Elab.async false
set_option linter.all false
set_option maxRecDepth 100000
set_option maxHeartbeats 1000000
namespace My
open PySem L2 Dw Wp
open C8 (pss_cut tCut)
set_option pp.maxSteps 600
def spOf : Sp := fun vs H Q _ => ∃ (b a : Addr) (xs : List V), vs = [.ref b, .ref a] ∧ BgAt H b ∧ H a = some (.lst xs) ∧ a ≠ b ∧ 1 ≤ xs.length ∧ xs.length ≤ 900 ∧ ∀ (j : Nat) (x : V) (H' : Hp), xs[j]? = some x → BgAt H' b → But b H H' → Q x H'
section
variable {P : Program} {w : World} {K : PySem.W.Frag} {mg : Str → Option Value} {base : Heap} {cl : String → Addr}
theorem ok_of {f : Addr} {fd : FuncData} (F : Fun K "_law_of" "_law_of" s_of f fd) (T : Txt P w K mg cl) : FnOk P w K mg base CX0 2 f fd ["_law_bag_here", "_law_some"] spOf := by
  refine F.ok sc_of (fun vs H Q E h => ?_) (fun cdv A outer s H vs Q E hr h => ?_)
  · obtain ⟨b, a, xs, rfl, _⟩ := h
    rfl
  · obtain ⟨b, a, xs, rfl, B, ha, nab, l1, l2, k⟩ := h
    have C_take : Cal P w K mg base CX0 1 "_law_take" _ spTake := cal_take T
    refine ⟨_, (pss_one (ps_ret (pe_ix ix_list (pv 1) (pe_cal C_take (hr.mono (by decide)) (pa_cons (pv 0) (pa_cons (pe_callB call_len_seq (by rfl) T.n_len PySem.boot_len (pa_cons (pv 1) pa_nil)) pa_nil))) (fun _ _ => rfl)))), ?_⟩
    refine ⟨_, rfl, _, rfl, _, rfl, a, _, rfl, .inl (SqL.of ha), b, _, rfl, B, by omega, by omega, fun j H' j0 j1 B' D => ?_⟩
    obtain ⟨jn, rfl⟩ : ∃ jn : Nat, j = (jn : Int) := ⟨j.toNat, by omega⟩
    have hj : jn < xs.length := by omega
    exact ⟨a, _, _, _, rfl, rfl, SqL.of (D _ _ ha nab), atI_nat (j := jn) (List.getElem?_eq_getElem hj), k jn _ H' (List.getElem?_eq_getElem hj) B' D⟩
theorem cal_of (T : Txt P w K mg cl) : Cal P w K mg base CX0 2 "_law_of" ["_law_bag_here", "_law_some"] (spOf) := by
  obtain ⟨f, fd, F, m⟩ := T.d_of
  exact ⟨f, fd, ok_of F T, m, F.kp, F.binds fun _ _ _ _ _ _ us hl => match us, hl with | [_, _], _ => rfl⟩
end
end My
set_option Elab.async false
set_option linter.all false
set_option maxRecDepth 100000
set_option maxHeartbeats 1000000
namespace My
open PySem L2 Dw Wp
open C8 (pss_cut tCut)
set_option pp.maxSteps 600
theorem eqv_nilO (xs : List V) : PyData.eqv (sqD true (xs.map vD)) (sqD true []) = xs.isEmpty := by
  cases xs <;> simp [sqD, PyData.eqv, PyData.eqvAll]
theorem odd_ok {xs : List V} (h : ∀ x ∈ xs, Sr x) : ∀ x ∈ xs.filterMap oddF, okV x = true := fun x hx => by
  obtain ⟨y, hy, e⟩ := List.mem_filterMap.mp hx
  have e : (if isI y = true then none else some y) = some x := e
  split at e
  · cases e
  · cases e
    exact (h _ hy).ok
section
variable {P : Program} {w : World} {K : PySem.W.Frag} {mg : Str → Option Value} {base : Heap} {cl : String → Addr}
end
end My
set_option Elab.async false
set_option linter.all false
set_option maxRecDepth 100000
set_option maxHeartbeats 1000000
namespace My
open PySem L2 Dw Wp
open C8 (pss_cut tCut)
set_option pp.maxSteps 600
theorem but_upd {d a : Addr} {H H' : Hp} {o : HO} (k : But d H H') (h : H a = none) : But d H (upd H' a o) := fun b o e n => (upd_ne (ne_of_none e h)).trans (k _ _ e n)
theorem BgAt.same {H H' : Hp} {b : Addr} (h : BgAt H b) (S : Same H H') : BgAt H' b := by
  obtain ⟨c, s, h1, h2⟩ := h
  exact ⟨c, s, S _ _ h1, h2⟩
theorem BgAt.ne {H : Hp} {b a : Addr} (h : BgAt H b) (n : H a = none) : a ≠ b := by
  obtain ⟨c, s, h1, _⟩ := h
  exact Ne.symm (ne_of_none h1 n)
theorem BgAt.upd {H : Hp} {b a : Addr} {o : HO} (h : BgAt H b) (n : a ≠ b) : BgAt (L2.upd H a o) b := by
  obtain ⟨c, s, h1, h2⟩ := h
  exact ⟨c, s, by rw [upd_ne (Ne.symm n)]; exact h1, h2⟩
def spBag (K : PySem.W.Frag) : Sp := fun vs H Q _ => ∃ (a : Addr) (ns : List Int) (i : Nat), vs = [.ref a, .int (i : Nat)] ∧ SqL K H a (ns.map V.int) ∧ ns.length ≤ 63 ∧ i ≤ 3 ∧ ∀ b H', H b = none → BgAt H' b → Same H H' → Q (.ref b) H'
section
variable {P : Program} {w : World} {K : PySem.W.Frag} {mg : Str → Option Value} {base : Heap} {cl : String → Addr}
theorem ok_bag {f : Addr} {fd : FuncData} (F : Fun K "_law_bag" "_law_bag" s_bag f fd) (T : Txt P w K mg cl) : FnOk P w K mg base CX0 1 f fd ["_law_script", "_law_at"] (spBag K) := by
  refine F.ok sc_bag (fun vs H Q E h => ?_) (fun cdv A outer s H vs Q E hr h => ?_)
  · obtain ⟨a, ns, i, rfl, _⟩ := h
    rfl
  · obtain ⟨a, ns, i, rfl, hS, hl, i3, k⟩ := h
    refine ⟨_, (pss_cons (ps_set (i := 2) sc_bag.nd rfl (Or.inl rfl) (pe_cut (pe_ifExp (pt_cmpR op_lt (pv 1) (pe_callB call_len_seq (by rfl) T.n_len PySem.boot_len (pa_cons (pv 0) pa_nil)) (nomark _)) (pe_callTy call_int1 (by rfl) T.n_int (by decide +kernel) (pa_cons (pe_ix ix_list (pv 0) (pv 1) (fun _ _ => rfl)) pa_nil)) pe_int)))
        (pss_cons (ps_set (i := 3) sc_bag.nd rfl (Or.inl rfl) (pe_op op_add (pe_op op_mul pe_int (pv 1)) pe_int))
        (pss_cons (ps_for PassesOwn.never rfl (pi_range1 rfl T.n_range (pa_cons (pe_callB (call_min2 rfl) (by rfl) T.n_min (by decide +kernel) (pa_cons (pe_callB call_len_seq (by rfl) T.n_len PySem.boot_len (pa_cons (pv 0) pa_nil)) (pa_cons pe_int pa_nil))) pa_nil)) (pg_name (i := 4) sc_bag.nd rfl (Or.inl rfl))
          (pss_one (ps_set (i := 3) sc_bag.nd rfl (Or.inl rfl) (pe_op op_mod (pe_callTy call_int1 (by rfl) T.n_int (by decide +kernel) (pa_cons (pe_op op_add (pe_op op_add (pe_op op_add (pe_op op_mul (pv 3) pe_int) (pe_op op_mod (pe_callB call_abs (by rfl) T.n_abs (by decide +kernel) (pa_cons (pe_callTy call_int1 (by rfl) T.n_int (by decide +kernel) (pa_cons (pe_ix ix_list (pv 0) (pv 4) (fun _ _ => rfl)) pa_nil)) pa_nil)) pe_int)) (pe_op op_mul pe_int (pv 4))) (pe_callTy call_int1 (by rfl) T.n_int (by decide +kernel) (pa_cons (pe_cmpR op_lt (pe_ix ix_list (pv 0) (pv 4) (fun _ _ => rfl)) pe_int (nomark _)) pa_nil))) pa_nil)) pe_int))))
        (pss_one (ps_ret (pe_lst (pa_cons (pe_ifExp (pt_cmpR op_ge (pe_callB call_abs (by rfl) T.n_abs (by decide +kernel) (pa_cons (pv 2) pa_nil)) (pe_op op_pow pe_int pe_int) (nomark _)) (pe_op op_add (pe_op op_mul (pe_callB call_abs (by rfl) T.n_abs (by decide +kernel) (pa_cons (pv 2) pa_nil)) pe_int) (pe_callTy call_int1 (by rfl) T.n_int (by decide +kernel) (pa_cons (pe_cmpR op_lt (pv 2) pe_int (nomark _)) pa_nil))) pe_int) (pa_cons (pv 3) pa_nil)))))))), ?_⟩
    refine ⟨fun v H' => H' = H ∧ ∃ c0 : Int, v = .int c0, ?_, fun v H1 ⟨e, c0, hv⟩ => ?_⟩
    · refine ⟨_, rfl, _, rfl, a, _, rfl, .inl hS, _, _, rfl, rfl, _, rfl, ite2 (fun g => ?_) (fun g => ?_)⟩
      · have g : (i : Int) < ((ns.map V.int).length : Nat) := of_decide_eq_true g
        have hi : i < ns.length := by rw [List.length_map] at g; omega
        exact ⟨_, rfl, _, rfl, a, _, _, _, rfl, rfl, hS, atI_nat (j := i) (by rw [List.getElem?_map, List.getElem?_eq_getElem hi]; rfl), .inl ⟨_, rfl, rfl, _, rfl⟩⟩
      · exact ⟨rfl, _, rfl⟩
    subst e hv
    refine ⟨_, rfl, _, _, rfl, rfl, .inl ⟨by decide, by decide⟩, _, _, rfl, rfl, ?_⟩
    have lm : (ns.map V.int).length = ns.length := List.length_map _
    refine ⟨_, rfl, a, _, rfl, .inl hS, _, _, rfl, _, rfl, ?_⟩
    have mn : ∃ n : Nat, (if (63 : Int) < (((ns.map V.int).length : Nat) : Int) then (63 : Int) else (((ns.map V.int).length : Nat) : Int)) = (n : Int) ∧ n ≤ ns.length := by
      rw [lm]
      split
      · exact ⟨63, rfl, by omega⟩
      · exact ⟨ns.length, rfl, Nat.le_refl _⟩
    obtain ⟨n, en, hn⟩ := mn
    rw [en]
    refine ⟨by omega, by omega, ?_⟩
    refine for_range (fun j σ H' => H' = H1 ∧ ∃ (z : Int) (v4 : Option V), 0 ≤ z ∧ z < 4294967296 ∧ σ = [some (.ref a), some (.int (i : Nat)), some (.int c0), some (.int z), v4]) ⟨rfl, _, _, ?_, ?_, rfl⟩ ?_ ?_
    · omega
    · omega
    · rintro j σ H' hj ⟨rfl, z, v4, z0, z1, rfl⟩
      have hj : j < ns.length := by
        rw [Int.toNat_natCast] at hj
        omega
      have at_ : atI (ns.map V.int) ((0 : Int) + (j : Nat)) = some (.int ns[j]) := by
        rw [Int.zero_add]
        exact atI_nat (by rw [List.getElem?_map, List.getElem?_eq_getElem hj]; rfl)
      refine ⟨_, rfl, _, _, rfl, rfl, .inl ⟨by omega, by omega⟩, _, rfl, _, rfl, a, _, _, _, rfl, rfl, hS, at_, .inl ⟨_, rfl, _, rfl, _, _, rfl, rfl, (by show (0 : Int) < 2147483629; decide), _, _, rfl, rfl, _, rfl, _, _, rfl, rfl, .inl ⟨by decide, by decide⟩, _, _, rfl, rfl, _, rfl, _, rfl, a, _, _, _, rfl, rfl, hS, at_, _, _, rfl, rfl, .inr ⟨_, rfl, _, _, rfl, rfl, .inl ⟨_, rfl, _, _, rfl, rfl, (by show (0 : Int) < 2147483587; decide), ?_⟩⟩⟩⟩
      refine ⟨rfl, _, _, Int.emod_nonneg _ (by decide), ?_, rfl⟩
      exact Int.lt_trans (Int.emod_lt_of_pos _ (by decide)) (by decide)
    · rintro σ H' ⟨rfl, z, v4, z0, z1, rfl⟩
      refine ⟨_, rfl, _, rfl, _, _, rfl, rfl, ⟨by decide, by decide, by decide⟩, _, _, rfl, rfl, _, rfl, ite2 (fun _ => ?_) (fun _ => ?_)⟩
      · refine ⟨_, rfl, _, rfl, _, _, rfl, rfl, .inr ⟨by decide, by decide⟩, _, rfl, _, _, rfl, rfl, .inr ⟨_, rfl, _, _, rfl, rfl, _, rfl, by show 2 ≤ sizeLine; decide, fun b nb => k b _ nb ⟨_, _, upd_same, ?_, z0, z1⟩ (sNew nb)⟩⟩
        have : (0 : Int) ≤ (if c0 < 0 then -c0 else c0) := by split <;> omega
        split <;> omega
      · exact ⟨_, rfl, by show 2 ≤ sizeLine; decide, fun b nb => k b _ nb ⟨_, _, upd_same, Int.le_refl _, z0, z1⟩ (sNew nb)⟩
theorem cal_bag (T : Txt P w K mg cl) : Cal P w K mg base CX0 1 "_law_bag" ["_law_script", "_law_at"] (spBag K) := by
  obtain ⟨f, fd, F, m⟩ := T.d_bag
  exact ⟨f, fd, ok_bag F T, m, F.kp, F.binds fun _ _ _ _ _ _ us hl => match us, hl with | [_, _], _ => rfl⟩
end
end My
set_option Elab.async false
set_option linter.all false
set_option maxRecDepth 100000
set_option maxHeartbeats 1000000
namespace My
open PySem L2 Dw Wp
open C8 (pss_cut tCut)
set_option pp.maxSteps 600
def spAmt : Sp := fun vs H Q _ => ∃ (b : Addr), vs = [.ref b] ∧ BgAt H b ∧ ∀ (i : Int) (H' : Hp), BgAt H' b → But b H H' → Q (.int i) H'
def spTimes : Sp := fun vs H Q _ => ∃ (b : Addr) (c : Int), vs = [.ref b, .int c] ∧ BgAt H b ∧ 1 ≤ c ∧ c ≤ 12 ∧ ∀ (a : Addr) (ts : List Int) (H' : Hp), H a = none → H' a = some (.lst (ts.map V.int)) → (ts.length : Int) = c → BgAt H' b → But b H H' → Q (.ref a) H'
section
variable {P : Program} {w : World} {K : PySem.W.Frag} {mg : Str → Option Value} {base : Heap} {cl : String → Addr}
theorem ok_amount {f : Addr} {fd : FuncData} (F : Fun K "_law_amount" "_law_amount" s_amount f fd) (T : Txt P w K mg cl) : FnOk P w K mg base CX0 3 f fd ["_law_bag_here"] spAmt := by
  refine F.ok sc_amount (fun vs H Q E h => ?_) (fun cdv A outer s H vs Q E hr h => ?_)
  · obtain ⟨b, rfl, _⟩ := h
    rfl
  · obtain ⟨b, rfl, B, k⟩ := h
    have C_take : Cal P w K mg base CX0 1 "_law_take" _ spTake := cal_take T
    have C_of : Cal P w K mg base CX0 2 "_law_of" _ spOf := cal_of T
    refine ⟨_, (pss_cons (ps_set (i := 1) sc_amount.nd rfl (Or.inl rfl) (pe_cal C_take (hr.mono (by decide)) (pa_cons (pv 0) (pa_cons pe_int pa_nil))))
        (pss_cons (ps_if (pt_cmpR op_le (pv 1) pe_int (nomark _))
          (pss_one (ps_ret (pe_op op_sub (pe_cal C_take (hr.mono (by decide)) (pa_cons (pv 0) (pa_cons pe_int pa_nil))) pe_int))) pss_nil)
        (pss_cons (ps_set (i := 2) sc_amount.nd rfl (Or.inl rfl) (pe_op op_mulW (pe_cal C_of (hr.mono (by decide)) (pa_cons (pv 0) (pa_cons (pe_lst (pa_cons pe_int (pa_cons (pe_op op_pow pe_int pe_int) (pa_cons (pe_op op_pow pe_int pe_int) pa_nil)))) pa_nil))) (pe_cal C_of (hr.mono (by decide)) (pa_cons (pv 0) (pa_cons (pe_lst (pa_cons pe_int (pa_cons (pe_op op_pow pe_int pe_int) (pa_cons (pe_op op_mulW (pe_op op_pow pe_int pe_int) (pe_op op_pow pe_int pe_int)) pa_nil)))) pa_nil)))))
        (pss_cons (ps_set (i := 2) sc_amount.nd rfl (Or.inl rfl) (pe_op op_add (pv 2) (pe_cal C_take (hr.mono (by decide)) (pa_cons (pv 0) (pa_cons pe_int pa_nil)))))
        (pss_one (ps_ret (pe_ifExp (pt_cmpR op_eq (pe_cal C_take (hr.mono (by decide)) (pa_cons (pv 0) (pa_cons pe_int pa_nil))) pe_int (nomark _)) (pv 2) (pe_un un_neg (pv 2))))))))), ?_⟩
    refine ⟨_, rfl, b, _, rfl, B, by decide, by decide, fun j H1 _ _ B1 D1 => ⟨_, rfl, _, _, rfl, rfl, _, rfl, ite2 (fun _ => ?_) (fun _ => ?_)⟩⟩
    · exact ⟨_, rfl, b, _, rfl, B1, by decide, by decide, fun j H2 _ _ B2 D2 => ⟨_, _, rfl, rfl, k _ _ B2 (D1.trans D2)⟩⟩
    refine ⟨_, rfl, _, _, rfl, rfl, ⟨by decide, by decide, by decide⟩, _, _, rfl, rfl, ⟨by decide, by decide, by decide⟩, by show 3 ≤ sizeLine; decide, fun p np => ?_⟩
    refine ⟨b, p, _, rfl, B1.same (sNew np), upd_same, B1.ne np, by decide, by decide, fun jj x H2 hx B2 D2 => ?_⟩
    have hx := List.mem_of_getElem? hx
    obtain ⟨x, rfl, x0, x1⟩ : ∃ i : Int, x = .int i ∧ 0 ≤ i ∧ i < 2 ^ 200 := by
      simp only [List.mem_cons, List.not_mem_nil, or_false] at hx
      rcases hx with rfl | rfl | rfl <;> exact ⟨_, rfl, by decide, by decide⟩
    refine ⟨_, rfl, _, _, rfl, rfl, ⟨by decide, by decide, by decide⟩, _, _, rfl, rfl, ⟨by decide, by decide, by decide⟩, _, _, rfl, rfl, ⟨by decide, by decide, by decide⟩, _, _, rfl, rfl, (by unfold CMulW; decide +kernel), by show 3 ≤ sizeLine; decide, fun p2 np2 => ?_⟩
    refine ⟨b, p2, _, rfl, B2.same (sNew np2), upd_same, B2.ne np2, by decide, by decide, fun jj2 y H3 hy B3 D3 => ?_⟩
    have hy := List.mem_of_getElem? hy
    obtain ⟨y, rfl, y0, y1⟩ : ∃ i : Int, y = .int i ∧ 0 ≤ i ∧ i < 2 ^ 400 := by
      simp only [List.mem_cons, List.not_mem_nil, or_false] at hy
      rcases hy with rfl | rfl | rfl <;> exact ⟨_, rfl, by decide, by decide⟩
    have D : But b H H3 := D1.trans ((But.of (sNew np)).trans (D2.trans ((But.of (sNew np2)).trans D3)))
    refine ⟨_, _, rfl, rfl, wide_mul (a := 200) (b := 400) (by omega) (by omega) (by decide) (by decide) (by decide), ?_⟩
    refine ⟨_, rfl, _, rfl, b, _, rfl, B3, by decide, by decide, fun j H4 _ _ B4 D4 => ⟨_, _, rfl, rfl, ?_⟩⟩
    refine ⟨_, rfl, b, _, rfl, B4, by decide, by decide, fun j H5 _ _ B5 D5 => ⟨rfl, _, rfl, ite2 (fun _ => ?_) (fun _ => ?_)⟩⟩
    · exact ⟨_, rfl, k _ _ B5 (D.trans (D4.trans D5))⟩
    · exact ⟨_, rfl, _, rfl, k _ _ B5 (D.trans (D4.trans D5))⟩
theorem cal_amount (T : Txt P w K mg cl) : Cal P w K mg base CX0 3 "_law_amount" ["_law_bag_here"] (spAmt) := by
  obtain ⟨f, fd, F, m⟩ := T.d_amount
  exact ⟨f, fd, ok_amount F T, m, F.kp, F.binds fun _ _ _ _ _ _ us hl => match us, hl with | [_], _ => rfl⟩
end
end My
set_option Elab.async false
set_option linter.all false
set_option maxRecDepth 100000
set_option maxHeartbeats 1000000
namespace My
open PySem L2 Dw Wp
open C8 (pss_cut tCut)
set_option pp.maxSteps 600
theorem ints_of {xs : List V} : (∀ x ∈ xs, ∃ i : Int, x = .int i) → ∃ ts : List Int, xs = ts.map V.int := fun h => by
  induction xs with
  | nil => exact ⟨[], rfl⟩
  | cons x xs ih =>
    obtain ⟨i, rfl⟩ := h x List.mem_cons_self
    obtain ⟨ts, rfl⟩ := ih fun y hy => h y (List.mem_cons_of_mem _ hy)
    exact ⟨i :: ts, rfl⟩
section
variable {P : Program} {w : World} {K : PySem.W.Frag} {mg : Str → Option Value} {base : Heap} {cl : String → Addr}
theorem ok_times {f : Addr} {fd : FuncData} (F : Fun K "_law_times" "_law_times" s_times f fd) (T : Txt P w K mg cl) : FnOk P w K mg base CX0 4 f fd ["_law_bag_here", "_law_count"] spTimes := by
  refine F.ok sc_times (fun vs H Q E h => ?_) (fun cdv A outer s H vs Q E hr h => ?_)
  · obtain ⟨b, c, rfl, _⟩ := h
    rfl
  · obtain ⟨b, c, rfl, B, c1, c2, k⟩ := h
    have C_take : Cal P w K mg base CX0 1 "_law_take" _ spTake := cal_take T
    have C_of : Cal P w K mg base CX0 2 "_law_of" _ spOf := cal_of T
    have C_amount : Cal P w K mg base CX0 3 "_law_amount" _ spAmt := cal_amount T
    refine ⟨_, (pss_cons (ps_set (i := 2) sc_times.nd rfl (Or.inr rfl) (pe_cal C_of (hr.mono (by decide)) (pa_cons (pv 0) (pa_cons (pe_lst (pa_cons pe_int (pa_cons pe_int (pa_cons pe_int (pa_cons pe_int pa_nil))))) pa_nil))))
        (pss_cons (ps_setLc (i := 3) (own := [("_law_k", 4)]) (g := gName 4) (tt := tYes) rfl sc_times.nd rfl rfl (sw_true rfl rfl rfl (by decide +kernel)) (pi_range1 rfl T.n_range (pa_cons (pv 1) pa_nil)) (blkOk_by (own := [("_law_k", 4)]) (N := ["_law_bag_here", "_law_count", "_law_wide", "_law_found", "_law_k"]) (sc := defScope s_times) (by decide +kernel)) (fun _ _ _ _ _ => pg_name (i := 4) sc_times.nd rfl (Or.inl rfl)) (fun _ _ _ _ _ => pts_nil) (fun _ _ _ _ _ => (pe_op op_sub (pe_cal C_take (hr.mono (by decide)) (pa_cons (pv 0) (pa_cons (pv 2) pa_nil))) (pe_op op_fdiv (pv 2) pe_int))))
        (pss_cut (ps_if (pt_cmpR op_eq (pe_cal C_take (hr.mono (by decide)) (pa_cons (pv 0) (pa_cons pe_int pa_nil))) pe_int (nomark _))
          (pss_one (ps_asg (pe_cal C_amount (hr.mono (by decide)) (pa_cons (pv 0) pa_nil)) (pg_sub (pv 3) (pe_cal C_take (hr.mono (by decide)) (pa_cons (pv 0) (pa_cons (pv 1) pa_nil))) set_list))) pss_nil)
        (pss_one (ps_ret (pv 3)))))), ?_⟩
    refine ⟨_, rfl, by show 4 ≤ sizeLine; decide, fun p np => ?_⟩
    refine ⟨b, p, _, rfl, B.same (sNew np), upd_same, B.ne np, by decide, by decide, fun jj x H2 hx B2 D2 => ?_⟩
    have hx := List.mem_of_getElem? hx
    obtain ⟨x, rfl, x0, x1⟩ : ∃ i : Int, x = .int i ∧ 1 ≤ i ∧ i < 1073741824 := by
      simp only [List.mem_cons, List.not_mem_nil, or_false] at hx
      rcases hx with rfl | rfl | rfl | rfl <;> exact ⟨_, rfl, by decide, by decide⟩
    have D : But b H H2 := (But.of (sNew np)).trans D2
    clear D2
    refine ⟨_, rfl, c, rfl, by omega, by omega, fun D3 nD => lc_range (fun i H' => ∃ ts : List Int, H' D3 = some (.lst (ts.map V.int)) ∧ ts.length = i ∧ BgAt H' b ∧ But b H2 H') ⟨[], upd_same, rfl, B2.same (sNew nD), But.of (sNew nD)⟩ ?_ ?_⟩
    · rintro i H3 hi ⟨ts, h1, h2, B3, D4⟩
      refine ⟨rfl, _, rfl, _, rfl, b, _, rfl, B3, x0, x1, fun j H4 j0 j1 B4 D5 => ⟨_, rfl, _, _, rfl, rfl, by unfold CDiv; omega, _, _, rfl, rfl, ?_⟩⟩
      have nDb := B2.ne nD
      refine ⟨_, D5 _ _ h1 nDb, small1000 (by rw [List.length_map]; omega), ts ++ [j - x / 3], ?_, by rw [List.length_append, h2]; rfl, B4.upd nDb, but_upd (D4.trans D5) nD⟩
      rw [List.map_append]
      exact upd_same
    rintro H3 ⟨ts, h1, h2, B3, D4⟩
    have nDb := B2.ne nD
    have nD0 : H D3 = none := by
      cases q : H D3 with
      | none => rfl
      | some o => rw [D _ _ q nDb] at nD; cases nD
    have D := D.trans D4
    clear D4
    refine ⟨fun σ' H' => ∃ ts : List Int, H' D3 = some (.lst (ts.map V.int)) ∧ (ts.length : Int) = c ∧ BgAt H' b ∧ But b H H' ∧ ∃ v4 : Option V, σ' = [some (.ref b), some (.int c), some (.int x), some (.ref D3), v4], ?_, ?_⟩
    · refine ⟨_, rfl, b, _, rfl, B3, by decide, by decide, fun j H4 _ _ B4 D4 => ⟨rfl, _, rfl, ite2 (fun _ => ?_) (fun _ => ?_)⟩⟩
      · refine ⟨_, rfl, b, rfl, B4, fun z H5 B5 D5 => ?_⟩
        refine ⟨_, rfl, _, rfl, _, rfl, b, _, rfl, B5, c1, by omega, fun j H6 j0 j1 B6 D6 => ?_⟩
        have h1 := D6 _ _ (D5 _ _ (D4 _ _ h1 nDb) nDb) nDb
        obtain ⟨jn, rfl⟩ : ∃ jn : Nat, j = (jn : Int) := ⟨j.toNat, by omega⟩
        have ln : (ts.map V.int).length = c.toNat := by rw [List.length_map]; exact h2
        refine ⟨D3, _, jn, jn, rfl, rfl, h1, by unfold ixN; rw [if_pos (by omega), if_pos (by omega)]; rfl, ts.set jn z, ?_, ?_, B6.upd nDb, but_upd (D.trans (D4.trans (D5.trans D6))) nD0, _, rfl⟩
        · rw [List.map_set]
          exact upd_same
        · rw [List.length_set]
          omega
      · exact ⟨ts, D4 _ _ h1 nDb, by omega, B4, D.trans D4, _, rfl⟩
    · rintro σ' H4 ⟨ts, h1, h2, B4, D4, v4, rfl⟩
      exact ⟨_, rfl, k _ ts _ nD0 h1 h2 B4 D4⟩
theorem cal_times (T : Txt P w K mg cl) : Cal P w K mg base CX0 4 "_law_times" ["_law_bag_here", "_law_count"] (spTimes) := by
  obtain ⟨f, fd, F, m⟩ := T.d_times
  exact ⟨f, fd, ok_times F T, m, F.kp, F.binds fun _ _ _ _ _ _ us hl => match us, hl with | [_, _], _ => rfl⟩
end
end My
set_option Elab.async false
set_option linter.all false
set_option maxRecDepth 100000
set_option maxHeartbeats 1000000
namespace My
open PySem L2 Dw Wp
open C8 (pss_cut tCut)
set_option pp.maxSteps 600
theorem LkT.same {H H' : Hp} {v : V} {l : Lk} (h : LkT H v l) (S : Same H H') : LkT H' v l := let ⟨b, e, q⟩ := h; ⟨b, e, S _ _ q⟩
theorem BgAt.tup {H : Hp} {b a : Addr} {xs : List V} (h : BgAt H b) (t : H a = some (.tup xs)) : a ≠ b := by
  rintro rfl
  obtain ⟨c, s, h1, _⟩ := h
  rw [h1] at t
  cases t
theorem BgAt.ins {H : Hp} {b a C dx : Addr} {fs : List (Str × V)} (h : BgAt H b) (t : H a = some (.ins C dx fs)) : a ≠ b := by
  rintro rfl
  obtain ⟨c, s, h1, _⟩ := h
  rw [h1] at t
  cases t
theorem LkT.but {H H' : Hp} {b : Addr} {v : V} {l : Lk} (h : LkT H v l) (B : BgAt H b) (D : But b H H') : LkT H' v l := let ⟨a, e, q⟩ := h; ⟨a, e, D _ _ q (B.tup q)⟩
theorem LkT.upd {H : Hp} {a : Addr} {xs : List V} {o : HO} {v : V} {l : Lk} (h : LkT H v l) (e : H a = some (.lst xs)) : LkT (L2.upd H a o) v l := let ⟨b, q, t⟩ := h; ⟨b, q, by rw [upd_ne (ne_of t e (fun z => nomatch z))]; exact t⟩
/-- a list of links -/
def LlT (H : Hp) (a : Addr) (us : List V) (ls : List Lk) : Prop := H a = some (.lst us) ∧ Paired (LkT H) us ls
theorem LlT.same {H H' : Hp} {a : Addr} {us : List V} {ls : List Lk} (h : LlT H a us ls) (S : Same H H') : LlT H' a us ls := ⟨S _ _ h.1, Paired.impP (fun _ _ q => q.same S) h.2⟩
theorem LlT.but {H H' : Hp} {a b : Addr} {us : List V} {ls : List Lk} (h : LlT H a us ls) (n : a ≠ b) (B : BgAt H b) (D : But b H H') : LlT H' a us ls := ⟨D _ _ h.1 n, Paired.impP (fun _ _ q => q.but B D) h.2⟩
def TvAt (H : Hp) (b : Addr) (c : Int) (v : V) : Prop := v = .non ∨ ∃ (a : Addr) (ts : List Int), v = .ref a ∧ H a = some (.lst (ts.map V.int)) ∧ (ts.length : Int) = c ∧ a ≠ b
def spLinks : Sp := fun vs H Q _ => ∃ (b : Addr) (c m : Int) (tv : V), vs = [.ref b, .int c, .int m, tv] ∧ BgAt H b ∧ 1 ≤ c ∧ c ≤ 12 ∧ 0 ≤ m ∧ m ≤ 70 ∧ TvAt H b c tv ∧ ∀ (a : Addr) (us : List V) (ls : List Lk) (H' : Hp), H a = none → LlT H' a us ls → (∀ l ∈ ls, LkOk c l) → (ls.length : Int) = m → BgAt H' b → But b H H' → Q (.ref a) H'
theorem lk_put {H H1 H' : Hp} {b D q : Addr} {us : List V} {ls : List Lk} {x y z : Int} (hL : LlT H' D us ls) (nq : H' q = none) : LlT (upd (upd H' q (.tup [.int x, .int y, .int z])) D (.lst (us ++ [.ref q]))) D (us ++ [.ref q]) (ls ++ [(x, y, z)]) := by
  have nqD : D ≠ q := ne_of_none hL.1 nq
  refine ⟨upd_same, Paired.appendP (Paired.impP (fun _ _ h => ?_) hL.2) (.cons ⟨q, rfl, ?_⟩ .nil)⟩
  · exact LkT.upd (xs := us) (h.same (sNew nq)) (sNew nq _ _ hL.1)
  · rw [upd_ne (Ne.symm nqD)]
    exact upd_same
section
variable {P : Program} {w : World} {K : PySem.W.Frag} {mg : Str → Option Value} {base : Heap} {cl : String → Addr}
theorem ok_links {f : Addr} {fd : FuncData} (F : Fun K "_law_links" "_law_links" s_links f fd) (T : Txt P w K mg cl) : FnOk P w K mg base CX0 4 f fd ["_law_bag_here", "_law_count", "_law_many", "_law_times_here"] spLinks := by
  refine F.ok sc_links (fun vs H Q E h => ?_) (fun cdv A outer s H vs Q E hr h => ?_)
  · obtain ⟨b, c, m, tv, rfl, _⟩ := h
    rfl
  · obtain ⟨b, c, m, tv, rfl, B, c1, c2, m0, m1, htv, k⟩ := h
    have C_take : Cal P w K mg base CX0 1 "_law_take" _ spTake := cal_take T
    have C_amount : Cal P w K mg base CX0 3 "_law_amount" _ spAmt := cal_amount T
    refine ⟨_, (pss_cons (ps_set (i := 4) sc_links.nd rfl (Or.inl rfl) (pe_lst pa_nil))
        (pss_cons (ps_for PassesOwn.never rfl (pi_range1 rfl T.n_range (pa_cons (pv 2) pa_nil)) (pg_name (i := 5) sc_links.nd rfl (Or.inl rfl))
          (pss_cons (ps_par (i := 6) (j := 7) rfl sc_links.nd rfl rfl (by decide) rfl rfl (pa_cons (pe_cal C_take (hr.mono (by decide)) (pa_cons (pv 0) (pa_cons (pv 1) pa_nil))) (pa_cons (pe_cal C_take (hr.mono (by decide)) (pa_cons (pv 0) (pa_cons (pv 1) pa_nil))) pa_nil)) (by rfl))
            (pss_one (ps_if (PW.pt (pw_or (pt_cmpR op_isN (pv 3) pe_non (nomark _)) (pw_or1 (pt_cmpR op_eq (pe_cal C_take (hr.mono (by decide)) (pa_cons (pv 0) (pa_cons pe_int pa_nil))) pe_int (nomark _)))))
              (pss_one (ps_expr (pe_app1 (by exact (pv 4)) (by exact (pa_cons (pe_tup (pa_cons (pv 6) (pa_cons (pv 7) (pa_cons (pe_cal C_amount (hr.mono (by decide)) (pa_cons (pv 0) pa_nil)) pa_nil)))) pa_nil))))) (pss_one (ps_expr (pe_app1 (by exact (pv 4)) (by exact (pa_cons (pe_tup (pa_cons (pv 6) (pa_cons (pv 7) (pa_cons (pe_op op_add (pe_op op_sub (pe_ix ix_list (pv 3) (pv 6) (fun _ _ => rfl)) (pe_ix ix_list (pv 3) (pv 7) (fun _ _ => rfl))) (pe_callB (call_max2 rfl) (by rfl) T.n_max (by decide +kernel) (pa_cons pe_int (pa_cons (pe_op op_sub (pe_cal C_take (hr.mono (by decide)) (pa_cons (pv 0) (pa_cons pe_int pa_nil))) pe_int) pa_nil)))) pa_nil)))) pa_nil)))))))))
        (pss_one (ps_ret (pv 4))))), ?_⟩
    refine ⟨by show 0 ≤ sizeLine; exact Nat.zero_le _, fun D nD => ?_⟩
    have nDb := B.ne nD
    refine ⟨_, rfl, m, rfl, by omega, by omega, for_range (fun i σ H' => ∃ (us : List V) (ls : List Lk) (v5 v6 v7 : Option V), LlT H' D us ls ∧ (∀ l ∈ ls, LkOk c l) ∧ ls.length = i ∧ BgAt H' b ∧ But b H H' ∧ σ = [some (.ref b), some (.int c), some (.int m), some tv, some (.ref D), v5, v6, v7]) ⟨[], [], _, _, _, ⟨upd_same, .nil⟩, (fun l h => (by cases h)), rfl, B.same (sNew nD), But.of (sNew nD), rfl⟩ ?_ ?_⟩
    · rintro i σ H1 hi ⟨us, ls, v5, v6, v7, hL, lok, ll, B1, D1, rfl⟩
      refine ⟨_, rfl, _, rfl, b, _, rfl, B1, c1, by omega, fun o1 H2 o10 o11 B2 D2 => ⟨_, rfl, _, rfl, b, _, rfl, B2, c1, by omega, fun o2 H3 o20 o21 B3 D3 => ?_⟩⟩
      have D3 := D2.trans D3
      have hL3 := hL.but nDb B1 D3
      have D3 := D1.trans D3
      have fin : ∀ (z : Int) {H4 : Hp} {q : Addr}, LlT H4 D us ls → BgAt H4 b → But b H H4 → H4 q = none → ∃ (us' : List V) (ls' : List Lk) (v5 v6 v7 : Option V), LlT (upd (upd H4 q (.tup [.int o1, .int o2, .int z])) D (.lst (us ++ [.ref q]))) D us' ls' ∧ (∀ l ∈ ls', LkOk c l) ∧ ls'.length = i + 1 ∧ BgAt (upd (upd H4 q (.tup [.int o1, .int o2, .int z])) D (.lst (us ++ [.ref q]))) b ∧ But b H (upd (upd H4 q (.tup [.int o1, .int o2, .int z])) D (.lst (us ++ [.ref q]))) ∧ ([some (.ref b), some (.int c), some (.int m), some tv, some (.ref D), some (.int ((0 : Int) + (i : Nat))), some (.int o1), some (.int o2)] : List (Option V)) = [some (.ref b), some (.int c), some (.int m), some tv, some (.ref D), v5, v6, v7] := fun z H4 q h1 h2 h3 h4 => by
        refine ⟨_, _, _, _, _, lk_put (H := H) (H1 := H) (b := b) h1 h4, ?_, by rw [List.length_append, ll]; rfl, (h2.same (sNew h4)).upd nDb, but_upd (but_upd h3 (h3.free (fun _ _ => trivial) h4 (h2.ne h4))) nD, rfl⟩
        intro l hl
        rcases List.mem_append.mp hl with hl | hl
        · exact lok l hl
        · rw [show l = (o1, o2, z) by simpa using hl]
          exact ⟨⟨o10, o11⟩, o20, o21⟩
      have lu := hL.2.length
      have app : ∀ {H4 : Hp}, LlT H4 D us ls → us.length < sizeLine := fun _ => small1000 (by omega)
      have tm : ∀ {H4 : Hp}, BgAt H4 b → But b H3 H4 → LlT H4 D us ls := fun h1 h2 => hL3.but nDb B3 h2
      have old : TvAt H3 b c tv := by
        rcases htv with rfl | ⟨a, ts, rfl, h1, h2, h3⟩
        · exact .inl rfl
        · exact .inr ⟨a, ts, rfl, D3 _ _ h1 h3, h2, h3⟩
      rcases old with rfl | ⟨a, ts, rfl, h1, h2, h3⟩
      · refine ⟨_, _, rfl, _, rfl, rfl, _, rfl, iteT ?_⟩
        refine ⟨_, rfl, .inl ⟨rfl, _, SqL.of hL3.1⟩, _, rfl, _, rfl, _, rfl, b, rfl, B3, fun z H4 B4 D4 => ⟨by show 3 ≤ sizeLine; decide, fun q nq => ?_⟩⟩
        have hL4 := tm B4 D4
        refine ⟨D, _, _, rfl, rfl, sNew nq _ _ hL4.1, app hL4, fin z hL4 B4 (D3.trans D4) nq⟩
      · refine ⟨_, _, rfl, _, rfl, rfl, _, rfl, iteF ?_⟩
        refine ⟨_, rfl, b, _, rfl, B3, by decide, by decide, fun j H4 _ _ B4 D4 => ⟨rfl, _, rfl, ite2 (fun _ => ?_) (fun _ => ?_)⟩⟩
        · have hL4 := tm B4 D4
          refine ⟨_, rfl, .inl ⟨rfl, _, SqL.of hL4.1⟩, _, rfl, _, rfl, _, rfl, b, rfl, B4, fun z H5 B5 D5 => ⟨by show 3 ≤ sizeLine; decide, fun q nq => ?_⟩⟩
          have hL5 := tm B5 (D4.trans D5)
          refine ⟨D, _, _, rfl, rfl, sNew nq _ _ hL5.1, app hL5, fin z hL5 B5 (D3.trans (D4.trans D5)) nq⟩
        · have hL4 := tm B4 D4
          have g1 := D4 _ _ h1 h3
          obtain ⟨n1, rfl⟩ : ∃ n : Nat, o1 = (n : Int) := ⟨o1.toNat, by omega⟩
          obtain ⟨n2, rfl⟩ : ∃ n : Nat, o2 = (n : Int) := ⟨o2.toNat, by omega⟩
          have l1 : n1 < ts.length := by omega
          have l2 : n2 < ts.length := by omega
          have at_ : ∀ {n : Nat}, (h : n < ts.length) → atI (ts.map V.int) (n : Int) = some (.int ts[n]) := fun h => atI_nat (by rw [List.getElem?_map, List.getElem?_eq_getElem h]; rfl)
          refine ⟨_, rfl, .inl ⟨rfl, _, SqL.of hL4.1⟩, _, rfl, _, rfl, _, rfl, _, rfl, a, _, _, _, rfl, rfl, SqL.of g1, at_ l1, _, rfl, _, rfl, a, _, _, _, rfl, rfl, SqL.of g1, at_ l2, _, _, rfl, rfl, _, rfl, b, _, rfl, B4, by decide, by decide, fun j H5 _ _ B5 D5 => ⟨_, _, rfl, rfl, _, _, rfl, _, _, rfl, rfl, by show 3 ≤ sizeLine; decide, fun q nq => ?_⟩⟩
          have hL5 := tm B5 (D4.trans D5)
          refine ⟨D, _, _, rfl, rfl, sNew nq _ _ hL5.1, app hL5, fin _ hL5 B5 (D3.trans (D4.trans D5)) nq⟩
    · rintro σ H1 ⟨us, ls, v5, v6, v7, hL, lok, ll, B1, D1, rfl⟩
      exact ⟨_, rfl, k D us ls H1 nD hL lok (by omega) B1 D1⟩
theorem cal_links (T : Txt P w K mg cl) : Cal P w K mg base CX0 4 "_law_links" ["_law_bag_here", "_law_count", "_law_many", "_law_times_here"] (spLinks) := by
  obtain ⟨f, fd, F, m⟩ := T.d_links
  exact ⟨f, fd, ok_links F T, m, F.kp, F.binds fun _ _ _ _ _ _ us hl => match us, hl with | [_, _, _, _], _ => rfl⟩
end
end My
set_option Elab.async false
set_option linter.all false
set_option maxRecDepth 100000
set_option maxHeartbeats 1000000
namespace My
open PySem L2 Dw Wp
open C8 (pss_cut tCut)
set_option pp.maxSteps 600
def spFlds (C : Addr) (fs : List Str) : Sp := fun vs H Q _ => ∃ (p dx : Addr) (us : List V), vs = .ref p :: us ∧ us.length = fs.length ∧ H p = some (.ins C dx []) ∧ Q .non (upd H p (.ins C dx (fs.zip us)))
/-- an error with one field is made and raised -/
theorem raise1 {H H1 : Hp} {C : Addr} {f : Str} {i : V} {E : XK} (S : Same H H1) (k : ∀ G e, Same H G → H e = none → E (.ref C) (some e) (upd G e (.xd [(f, i)]))) :
    ([i] : List V).length ≤ 1000 ∧ ∀ a, H1 a = none → spIni C [f] (.ref a :: ([i] ++ [])) (upd H1 a (exo a C none)) (fun v H2 => v = .non ∧ ∃ (d : Addr) (fs : List (Str × V)), H2 a = some (exo a C (some d)) ∧ H2 d = some (exd d fs) ∧ H1 d = none ∧ E (.ref C) (some d) (upd (del H2 a) d (.xd fs))) (fun _ _ _ => False) := by
  refine ⟨by show 1 ≤ 1000; decide, fun a na => ⟨a, [i], rfl, rfl, upd_same, (fun z => by cases z), fun d H' nd ne kp h1 h2 => ⟨rfl, d, _, h1, h2, ?_, k (del H' a) d (fun b o q => ?_) ?_⟩⟩⟩
  · rw [upd_ne ne] at nd
    exact nd
  · have nb : b ≠ a := ne_of_none (S _ _ q) na
    rw [del_ne nb]
    exact kp b o (by rw [upd_ne nb]; exact S _ _ q) nb
  · rw [upd_ne ne] at nd
    cases q : H d with
    | none => rfl
    | some o => rw [S _ _ q] at nd; cases nd
def spChk (K : PySem.W.Frag) (C CN : Addr) : Sp := fun vs H Q E => ∃ (p t : Addr) (c : Int) (us : List V) (ls : List Lk) (v : V) (n : String), vs = [.ref p, v] ∧ SyAt C H p c t us ls ∧ Dm K H v n ∧ (isT c v = true → Q .non H) ∧
  (isT c v = false → ∀ G e, Same H G → H e = none → E (.ref CN) (some e) (upd G e (.xd [("instant", v)])))
section
variable {P : Program} {w : World} {K : PySem.W.Frag} {mg : Str → Option Value} {base : Heap} {cl : String → Addr}
theorem oki_NoInstant {f : Addr} {fd : FuncData} (F : Fun K "__init__" "NoInstant.__init__" s_NoInstant_init f fd) (T : Txt P w K mg cl) : FnOk P w K mg base CX0 1 f fd ["self", "instant"] (spIni (cl "NoInstant") ["instant"]) := by
  refine F.ok sc_NoInstant_init (fun vs H Q E h => ?_) (fun cdv A outer s H vs Q E hr h => ?_)
  · obtain ⟨a, us, rfl, hl, _⟩ := h
    rw [List.length_cons, hl]
    rfl
  · obtain ⟨a, us, rfl, hl, ha, h0, k⟩ := h
    match us, hl with
    | [u0], _ =>
      refine ⟨_, (pss_cons (ps_expr (pe_deinit T.cr T.vi T.m_DeedError (pa_cons (pv 0) (pa_cons pe_str pa_nil))))
        (pss_one (ps_ost (pv 0) (pv 1)))), ?_⟩
      refine ⟨_, rfl, a, cl "NoInstant", [.str _], rfl, by decide, T.o_NoInstant, ha, ?_⟩
      refine ⟨_, rfl, _, rfl, a, cl "NoInstant", rfl, T.o_NoInstant, T.xf_NoInstant_instant, .inl ⟨ha, fun dx nd ne => ?_⟩⟩
      exact k dx _ nd ne (fun b o q nb => by rw [upd_ne nb, upd_ne (ne_of_none q nd)]; exact q) upd_same (by rw [upd_ne ne]; exact upd_same)
theorem ini_NoInstant (T : Txt P w K mg cl) : CalO P w K mg base 1 (cl "NoInstant") ["self", "instant"] (spIni (cl "NoInstant") ["instant"]) := by
  obtain ⟨f, fd, F, h1, h2⟩ := T.i_NoInstant
  exact ⟨T.o_NoInstant, f, fd, oki_NoInstant F T, h1, h2, F.binds fun _ _ _ _ _ _ us hl => match us, hl with | [_, _], _ => rfl⟩
theorem oki_NoTimes {f : Addr} {fd : FuncData} (F : Fun K "__init__" "NoTimes.__init__" s_NoTimes_init f fd) (T : Txt P w K mg cl) : FnOk P w K mg base CX0 1 f fd ["self", "path"] (spIni (cl "NoTimes") ["path"]) := by
  refine F.ok sc_NoTimes_init (fun vs H Q E h => ?_) (fun cdv A outer s H vs Q E hr h => ?_)
  · obtain ⟨a, us, rfl, hl, _⟩ := h
    rw [List.length_cons, hl]
    rfl
  · obtain ⟨a, us, rfl, hl, ha, h0, k⟩ := h
    match us, hl with
    | [u0], _ =>
      refine ⟨_, (pss_cons (ps_expr (pe_deinit T.cr T.vi T.m_DeedError (pa_cons (pv 0) (pa_cons pe_str pa_nil))))
        (pss_one (ps_ost (pv 0) (pv 1)))), ?_⟩
      refine ⟨_, rfl, a, cl "NoTimes", [.str _], rfl, by decide, T.o_NoTimes, ha, ?_⟩
      refine ⟨_, rfl, _, rfl, a, cl "NoTimes", rfl, T.o_NoTimes, T.xf_NoTimes_path, .inl ⟨ha, fun dx nd ne => ?_⟩⟩
      exact k dx _ nd ne (fun b o q nb => by rw [upd_ne nb, upd_ne (ne_of_none q nd)]; exact q) upd_same (by rw [upd_ne ne]; exact upd_same)
theorem ini_NoTimes (T : Txt P w K mg cl) : CalO P w K mg base 1 (cl "NoTimes") ["self", "path"] (spIni (cl "NoTimes") ["path"]) := by
  obtain ⟨f, fd, F, h1, h2⟩ := T.i_NoTimes
  exact ⟨T.o_NoTimes, f, fd, oki_NoTimes F T, h1, h2, F.binds fun _ _ _ _ _ _ us hl => match us, hl with | [_, _], _ => rfl⟩
theorem ok_Greatest_init {f : Addr} {fd : FuncData} (F : Fun K "__init__" "Greatest.__init__" s_Greatest_init f fd) (T : Txt P w K mg cl) : FnOk P w K mg base CX0 1 f fd ["self", "amount", "path", "times"] (spFlds (cl "Greatest") ["amount", "path", "times"]) := by
  refine F.ok sc_Greatest_init (fun vs H Q E h => ?_) (fun cdv A outer s H vs Q E hr h => ?_)
  · obtain ⟨p, dx, us, rfl, hl, _⟩ := h
    rw [List.length_cons, hl]
    rfl
  · obtain ⟨p, dx, us, rfl, hl, hp, k⟩ := h
    match us, hl with
    | [v0, v1, v2], _ =>
      refine ⟨_, (pss_cons (ps_fld (pv 0) (pv 1) rfl)
        (pss_cons (ps_fld (pv 0) (pv 2) rfl)
        (pss_one (ps_fld (pv 0) (pv 3) rfl)))), ?_⟩
      refine ⟨_, rfl, _, rfl, p, _, dx, _, rfl, hp, T.cl_Greatest, T.na_Greatest _ (by decide), (by show 0 < 1000; decide), ?_⟩
      refine ⟨_, rfl, _, rfl, p, _, dx, _, rfl, upd_same, T.cl_Greatest, T.na_Greatest _ (by decide), (by show 1 < 1000; decide), ?_⟩
      refine ⟨_, rfl, _, rfl, p, _, dx, _, rfl, upd_same, T.cl_Greatest, T.na_Greatest _ (by decide), (by show 2 < 1000; decide), ?_⟩
      rw [upd_upd, upd_upd]
      exact k
theorem cal_Greatest_init (T : Txt P w K mg cl) : CalC P w K mg base CX0 1 (cl "Greatest") ["self", "amount", "path", "times"] (spFlds (cl "Greatest") ["amount", "path", "times"]) := by
  obtain ⟨f, fd, F, m⟩ := T.i_Greatest
  exact ⟨f, fd, ok_Greatest_init F T, m, F.binds fun _ _ _ _ _ _ us hl => match us, hl with | [_, _, _, _], _ => rfl⟩
theorem ok_Endless_init {f : Addr} {fd : FuncData} (F : Fun K "__init__" "Endless.__init__" s_Endless_init f fd) (T : Txt P w K mg cl) : FnOk P w K mg base CX0 1 f fd ["self", "apart", "times"] (spFlds (cl "Endless") ["apart", "times"]) := by
  refine F.ok sc_Endless_init (fun vs H Q E h => ?_) (fun cdv A outer s H vs Q E hr h => ?_)
  · obtain ⟨p, dx, us, rfl, hl, _⟩ := h
    rw [List.length_cons, hl]
    rfl
  · obtain ⟨p, dx, us, rfl, hl, hp, k⟩ := h
    match us, hl with
    | [v0, v1], _ =>
      refine ⟨_, (pss_cons (ps_fld (pv 0) (pv 1) rfl)
        (pss_one (ps_fld (pv 0) (pv 2) rfl))), ?_⟩
      refine ⟨_, rfl, _, rfl, p, _, dx, _, rfl, hp, T.cl_Endless, T.na_Endless _ (by decide), (by show 0 < 1000; decide), ?_⟩
      refine ⟨_, rfl, _, rfl, p, _, dx, _, rfl, upd_same, T.cl_Endless, T.na_Endless _ (by decide), (by show 1 < 1000; decide), ?_⟩
      rw [upd_upd]
      exact k
theorem cal_Endless_init (T : Txt P w K mg cl) : CalC P w K mg base CX0 1 (cl "Endless") ["self", "apart", "times"] (spFlds (cl "Endless") ["apart", "times"]) := by
  obtain ⟨f, fd, F, m⟩ := T.i_Endless
  exact ⟨f, fd, ok_Endless_init F T, m, F.binds fun _ _ _ _ _ _ us hl => match us, hl with | [_, _, _], _ => rfl⟩
theorem ok_check_instant {f : Addr} {fd : FuncData} (F : Fun K "check_instant" "check_instant" s_check_instant f fd) (T : Txt P w K mg cl) : FnOk P w K mg base (L2.CX P w) 3 f fd ["system", "instant"] (spChk K (cl "System") (cl "NoInstant")) := by
  refine F.okX sc_check_instant (fun vs H Q E h => ?_) (fun cdv A outer s H vs Q E hr h => ?_)
  · obtain ⟨p, t, c, us, ls, v, n, rfl, _⟩ := h
    rfl
  · obtain ⟨p, t, c, us, ls, v, n, rfl, X, d, k1, k2⟩ := h
    have C_is_instant : Cal P w K mg base CX0 2 "is_instant" _ (spInst K) := cal_is_instant T
    refine ⟨_, (pss_one (ps_if (pt_not (pt_val (pe_cal C_is_instant (hr.mono (by decide)) (pa_cons (pv 1) (pa_cons (pe_fld (pv 0) rfl) pa_nil)))))
          (pss_one (ps_raiseO rfl (ini_NoInstant (base := base) T) T.m_NoInstant (hr.mono (by decide)) (takes_of rfl rfl rfl rfl) (by exact (pa_cons (pv 1) pa_nil)))) pss_nil)), ?_⟩
    obtain ⟨dx, hself⟩ := X.self
    refine ⟨_, rfl, _, rfl, p, _, _, _, _, rfl, hself, T.cl_System, T.na_System _ (by decide), rfl, v, n, c, rfl, d, _, rfl, ?_⟩
    cases hb : isT c v with
    | true => exact iteF (k1 hb)
    | false => exact iteT ⟨_, rfl, raise1 (Same.refl H) (k2 hb)⟩
theorem cal_check_instant (T : Txt P w K mg cl) : Cal P w K mg base (L2.CX P w) 3 "check_instant" ["system", "instant"] (spChk K (cl "System") (cl "NoInstant")) := by
  obtain ⟨f, fd, F, m⟩ := T.d_check_instant
  exact ⟨f, fd, ok_check_instant F T, m, F.kp, F.binds fun _ _ _ _ _ _ us hl => match us, hl with | [_, _], _ => rfl⟩
end
end My
set_option Elab.async false
set_option linter.all false
set_option maxRecDepth 100000
set_option maxHeartbeats 1000000
namespace My
open PySem L2 Dw Wp
open C8 (pss_cut tCut)
set_option pp.maxSteps 600
open Bf
/-! the links with places -/
def nl (l : Lk) : NL := (l.1.toNat, l.2.1.toNat, l.2.2)
def nls (ls : List Lk) : List NL := ls.map nl
def onV : Option Nat → V
  | none => .non
  | some i => .int (i : Nat)
def oiV : Option Int → V
  | none => .non
  | some i => .int i
theorem gO_get {α : Type} {xs : List (Option α)} {i : Nat} {x : α} (h : gO xs i = some x) : xs[i]? = some (some x) := by
  unfold gO at h
  cases e : xs[i]? with
  | none => rw [e] at h; cases h
  | some y =>
    rw [e] at h
    have h : y = some x := h
    rw [h]
theorem on_at {cm : List (Option Nat)} {x i : Nat} (h : gO cm x = some i) : (cm.map onV)[x]? = some (.int (i : Nat)) := by
  rw [List.getElem?_map, gO_get h]
  rfl
theorem nls_at {ls : List Lk} {i : Nat} {l : NL} (h : (nls ls)[i]? = some l) : ∃ l', ls[i]? = some l' ∧ nl l' = l := by
  unfold nls at h
  rw [List.getElem?_map] at h
  cases e : ls[i]? with
  | none => rw [e] at h; cases h
  | some l' => rw [e] at h; exact ⟨l', rfl, Option.some.inj h⟩
def Pos (ls : List Lk) : Prop := ∀ l ∈ ls, 0 ≤ l.1 ∧ 0 ≤ l.2.1
theorem back_at {H : Hp} {t : Addr} {us : List V} {ls : List Lk} {cm : List (Option Nat)} {x : Nat} (hL : LsT H t us ls) (pos : Pos ls) (h : Has (nls ls) cm x) : ∃ (i : Nat) (b : Addr) (l : Lk), (cm.map onV)[x]? = some (.int (i : Nat)) ∧ us[i]? = some (.ref b) ∧ H b = some (.tup (lkV l)) ∧ l.2.1 = ((nx (nls ls) cm x : Nat) : Int) ∧ ic cm x = i := by
  obtain ⟨i, l, h1, h2, h3⟩ := h
  obtain ⟨e1, _, e3⟩ := nx_at h1 h2
  obtain ⟨l', k1, rfl⟩ := nls_at h2
  obtain ⟨li, e⟩ := List.getElem?_eq_some_iff.mp k1
  subst e
  obtain ⟨b, hb, hc⟩ := lk_at hL li
  refine ⟨i, b, ls[i], on_at h1, hb, hc, ?_, e3⟩
  rw [e1]
  exact (Int.toNat_of_nonneg (pos _ (List.getElem_mem li)).2).symm
def spRB : Sp := fun vs H Q _ => ∃ (t a : Addr) (us : List V) (ls : List Lk) (cm : List (Option Nat)) (v : Nat), vs = [.ref t, .ref a, .int (v : Nat)] ∧ LsT H t us ls ∧ H a = some (.lst (cm.map onV)) ∧ cm.length ≤ 900 ∧ Pos ls ∧ (∀ m, Has (nls ls) cm (itN (nls ls) cm m v)) ∧ (∃ d, 1 ≤ d ∧ itN (nls ls) cm d (itN (nls ls) cm cm.length v) = itN (nls ls) cm cm.length v) ∧
  ∀ (d : Nat) (t' : Addr) (H' : Hp), 1 ≤ d → d ≤ cm.length → itN (nls ls) cm d (itN (nls ls) cm cm.length v) = itN (nls ls) cm cm.length v → Same H H' → H t' = none → H' t' = some (.tup ((pth (nls ls) cm d (itN (nls ls) cm cm.length v)).reverse.map fun (i : Nat) => V.int i)) → Q (.ref t') H'
section
variable {P : Program} {w : World} {K : PySem.W.Frag} {mg : Str → Option Value} {base : Heap} {cl : String → Addr}
theorem ok_ring_behind {f : Addr} {fd : FuncData} (F : Fun K "ring_behind" "ring_behind" s_ring_behind f fd) (T : Txt P w K mg cl) : FnOk P w K mg base CX0 1 f fd ["links", "came", "place"] (spRB) := by
  refine F.ok sc_ring_behind (fun vs H Q E h => ?_) (fun cdv A outer s H vs Q E hr h => ?_)
  · obtain ⟨t, a, us, ls, cm, v, rfl, _⟩ := h
    rfl
  · obtain ⟨t, a, us, ls, cm, v, rfl, hL, ha, lc, pos, has, ring, k⟩ := h
    refine ⟨_, (pss_cons (ps_for PassesOwn.never rfl (pi_range1 rfl T.n_range (pa_cons (pe_callB call_len_seq (by rfl) T.n_len PySem.boot_len (pa_cons (pv 1) pa_nil)) pa_nil)) (pg_name (i := 3) sc_ring_behind.nd rfl (Or.inl rfl))
          (pss_one (ps_set (i := 2) sc_ring_behind.nd rfl (Or.inl rfl) (pe_ix ix_tup (pe_ix ix_tup (pv 0) (pe_ix ix_list (pv 1) (pv 2) (fun _ _ => rfl)) (fun _ _ => rfl)) pe_int (fun _ _ => rfl)))))
        (pss_cons (ps_set (i := 4) sc_ring_behind.nd rfl (Or.inl rfl) (pe_lst (pa_cons (pe_ix ix_list (pv 1) (pv 2) (fun _ _ => rfl)) pa_nil)))
        (pss_cons (ps_set (i := 5) sc_ring_behind.nd rfl (Or.inl rfl) (pe_ix ix_tup (pe_ix ix_tup (pv 0) (pe_ix ix_list (pv 1) (pv 2) (fun _ _ => rfl)) (fun _ _ => rfl)) pe_int (fun _ _ => rfl)))
        (pss_cons (ps_while PassesOwn.never (pt_cmpR op_ne (pv 5) (pv 2) (nomark _))
          (pss_cons (ps_expr (pe_app1 (by exact (pv 4)) (by exact (pa_cons (pe_ix ix_list (pv 1) (pv 5) (fun _ _ => rfl)) pa_nil))))
            (pss_one (ps_set (i := 5) sc_ring_behind.nd rfl (Or.inl rfl) (pe_ix ix_tup (pe_ix ix_tup (pv 0) (pe_ix ix_list (pv 1) (pv 5) (fun _ _ => rfl)) (fun _ _ => rfl)) pe_int (fun _ _ => rfl))))))
        (pss_one (ps_ret (pe_callTy call_tuple_of (by rfl) T.n_tuple (by decide +kernel) (pa_cons (pe_revL (pv 4)) pa_nil)))))))), ?_⟩
    have lm : (cm.map onV).length = cm.length := List.length_map _
    refine ⟨_, rfl, a, _, rfl, .inl (SqL.of ha), _, rfl, by rw [lm]; omega, by rw [lm]; omega, ?_⟩
    refine for_range (fun i σ H' => H' = H ∧ ∃ v3, σ = [some (.ref t), some (.ref a), some (.int (itN (nls ls) cm i v : Nat)), v3, none, none]) ⟨rfl, none, rfl⟩ ?_ ?_
    · rintro i σ H' hi ⟨rfl, v3, rfl⟩
      obtain ⟨j, b, l, h1, h2, h3, h4, h5⟩ := back_at hL pos (has i)
      refine ⟨_, rfl, _, rfl, _, rfl, a, _, _, _, rfl, rfl, SqL.of ha, atI_nat h1, t, _, _, _, rfl, rfl, SqT.of hL.1, atI_nat h2, b, _, _, _, rfl, rfl, SqT.of h3, atI_nat (j := 1) rfl, rfl, some (.int ((0 : Int) + (i : Nat))), ?_⟩
      rw [itN_succ, ← h4]
      rfl
    · rintro σ H' ⟨rfl, v3, rfl⟩
      rw [lm, Int.toNat_natCast]
      generalize ep : itN (nls ls) cm cm.length v = p at *
      have hasp : ∀ m, Has (nls ls) cm (itN (nls ls) cm m p) := fun m => by
        rw [← ep, ← itN_add]
        exact has _
      obtain ⟨d0, d01, ed0⟩ := ring
      obtain ⟨d, d1, _, ed, fd⟩ := first_ret (f := fun m => itN (nls ls) cm m p) d0 d01 ed0
      have dn := walk_short (fun m _ => hasp m) ed fd
      obtain ⟨j, b, l, h1, h2, h3, h4, h5⟩ := back_at hL pos (hasp 0)
      refine ⟨_, rfl, _, rfl, a, _, _, _, rfl, rfl, SqL.of ha, atI_nat h1, by show 1 ≤ sizeLine; decide, fun D nD => ?_⟩
      have S0 := sNew (o := .lst [.int (j : Nat)]) nD
      refine ⟨_, rfl, _, rfl, _, rfl, a, _, _, _, rfl, rfl, SqL.of (S0 _ _ ha), atI_nat h1, t, _, _, _, rfl, rfl, SqT.of (S0 _ _ hL.1), atI_nat h2, b, _, _, _, rfl, rfl, SqT.of (S0 _ _ h3), atI_nat (j := 1) rfl, ?_⟩
      refine ⟨fun m σ H2 => ∃ q, q + m = d ∧ 1 ≤ q ∧ H2 = upd H' D (.lst ((pth (nls ls) cm q p).map fun (i : Nat) => V.int i)) ∧ σ = [some (.ref t), some (.ref a), some (.int (p : Nat)), v3, some (.ref D), some (.int (itN (nls ls) cm q p : Nat))], ⟨d - 1, 1, by omega, Nat.le_refl _, ?_, ?_⟩, ?_⟩
      · rw [← h5]
        rfl
      · rw [show itN (nls ls) cm 1 p = nx (nls ls) cm p from rfl, ← show l.2.1 = ((nx (nls ls) cm p : Nat) : Int) from h4]
        rfl
      · rintro m σ H2 ⟨q, eq, q1, rfl, rfl⟩
        refine ⟨_, rfl, _, rfl, rfl, ?_⟩
        have sz : ((pth (nls ls) cm q p).map fun (i : Nat) => V.int i).length = q := by
          rw [List.length_map]
          have : ∀ k x, (pth (nls ls) cm k x).length = k := fun k => by
            induction k with
            | zero => exact fun _ => rfl
            | succ k ih => exact fun x => by show (pth (nls ls) cm k _).length + 1 = _; rw [ih]
          exact this q p
        have S1 := sNew (o := .lst ((pth (nls ls) cm q p).map fun (i : Nat) => V.int i)) nD
        refine ⟨_, rfl, ite2 (fun g => ?_) (fun g => ?_)⟩
        · have g : ¬ itN (nls ls) cm q p = p := fun z => by
            rw [z] at g
            simp at g
          have qd : q ≠ d := fun z => g (by rw [z]; exact ed)
          obtain ⟨j2, b2, l2, g1, g2, g3, g4, g5⟩ := back_at hL pos (hasp q)
          refine ⟨fun σ' H'' => H'' = upd H' D (.lst ((pth (nls ls) cm (q + 1) p).map fun (i : Nat) => V.int i)) ∧ σ' = [some (.ref t), some (.ref a), some (.int (p : Nat)), v3, some (.ref D), some (.int (itN (nls ls) cm (q + 1) p : Nat))], fun σ' H'' ⟨e1, e2⟩ => ⟨m - 1, by omega, q + 1, by omega, by omega, e1, e2⟩, ?_⟩
          refine ⟨_, rfl, .inl ⟨rfl, _, SqL.of upd_same⟩, _, rfl, _, rfl, a, _, _, _, rfl, rfl, SqL.of (S1 _ _ ha), atI_nat g1, D, _, _, rfl, rfl, upd_same, small1000 (by rw [sz]; omega), ?_⟩
          rw [upd_upd]
          have S2 := sNew (o := .lst (((pth (nls ls) cm q p).map fun (i : Nat) => V.int i) ++ [.int (j2 : Nat)])) nD
          refine ⟨_, rfl, _, rfl, _, rfl, a, _, _, _, rfl, rfl, SqL.of (S2 _ _ ha), atI_nat g1, t, _, _, _, rfl, rfl, SqT.of (S2 _ _ hL.1), atI_nat g2, b2, _, _, _, rfl, rfl, SqT.of (S2 _ _ g3), atI_nat (j := 1) rfl, ?_, ?_⟩
          · rw [pth_snoc, g5, List.map_append]
            rfl
          · rw [itN_succ, ← g4]
            rfl
        · have g : itN (nls ls) cm q p = p := by
            by_cases z : itN (nls ls) cm q p = p
            · exact z
            · exfalso
              refine g ?_
              show (!decide (V.int _ = V.int _)) = true
              rw [decide_eq_false fun e => z (by have := V.int.inj e; omega)]
              rfl
          have qd : q ≤ d := by omega
          refine ⟨_, rfl, D, _, rfl, SqL.of upd_same, fun R nR => ⟨R, _, rfl, .inl ⟨SqL.of upd_same, fun t' nt => ?_⟩⟩⟩
          have SR := S1.trans (sNew (o := .lst ((pth (nls ls) cm q p).map fun (i : Nat) => V.int i).reverse) nR)
          refine k q t' _ q1 (by omega) g (SR.trans (sNew nt)) (SR.free nt) ?_
          rw [upd_same, List.map_reverse]
theorem cal_ring_behind (T : Txt P w K mg cl) : Cal P w K mg base CX0 1 "ring_behind" ["links", "came", "place"] (spRB) := by
  obtain ⟨f, fd, F, m⟩ := T.d_ring_behind
  exact ⟨f, fd, ok_ring_behind F T, m, F.kp, F.binds fun _ _ _ _ _ _ us hl => match us, hl with | [_, _, _], _ => rfl⟩
end
end My
set_option Elab.async false
set_option linter.all false
set_option maxRecDepth 100000
set_option maxHeartbeats 1000000
namespace My
open PySem L2 Dw Wp
open C8 (pss_cut tCut)
set_option pp.maxSteps 600
open Bf
def spSettle : Sp := fun vs H Q _ => ∃ (t g : Addr) (us : List V) (ls : List Lk) (bg : List (Option Int)), vs = [.ref t, .ref g] ∧ LsT H t us ls ∧ H g = some (.lst (bg.map oiV)) ∧ bg.length ≤ 800 ∧ ls.length ≤ 800 ∧ IxOk bg.length (nls ls) ∧ My.Pos ls ∧
  ∀ (R A B : Addr) (v3 : V) (H' : Hp), Same H H' → H A = none → H B = none → H' A = some (.lst ((sett (nls ls) bg).1.ts.map oiV)) → H' B = some (.lst ((sett (nls ls) bg).1.cm.map onV)) → H' R = some (.tup [.ref A, .ref B, v3]) →
    (((sett (nls ls) bg).2 = true ∧ v3 = .non) ∨ ((sett (nls ls) bg).2 = false ∧ ∃ (C : Addr) (is : List Nat) (p : Nat), v3 = .ref C ∧ H' C = some (.tup (is.map fun (i : Nat) => V.int i)) ∧ is ≠ [] ∧ is.length ≤ bg.length ∧ Leads (nls ls) is p p ∧ smI (nls ls) is < 0)) → Q (.ref R) H'
theorem pth_len {ls : List NL} {cm : List (Option Nat)} : ∀ k x, (pth ls cm k x).length = k
  | 0, _ => rfl
  | k + 1, x => by show (pth ls cm k _).length + 1 = _; rw [pth_len]
theorem oi_some {ts : List (Option Int)} {x : Nat} {i : Int} (h : gO ts x = some i) : (ts.map oiV)[x]? = some (.int i) := by
  rw [List.getElem?_map, gO_get h]
  rfl
theorem oi_none {ts : List (Option Int)} {x : Nat} (h : gO ts x = none) (l : x < ts.length) : (ts.map oiV)[x]? = some .non := by
  rw [gO_at l] at h
  rw [List.getElem?_map, List.getElem?_eq_getElem l, h]
  rfl
theorem rls_at {ls : List NL} {j : Nat} {l : NL} {s : BS} (h : ls[j]? = some l) : rls j (ls.drop j) s = rls (j + 1) (ls.drop (j + 1)) (rl j l s) := by
  rw [take_drop_at h]
  rfl
theorem lk_in {ls : List Lk} {n j : Nat} {l : Lk} (ok : IxOk n (nls ls)) (pos : My.Pos ls) (h : ls[j]? = some l) : ∃ x y : Nat, l.1 = (x : Int) ∧ l.2.1 = (y : Int) ∧ x < n ∧ y < n ∧ (nls ls)[j]? = some (x, y, l.2.2) := by
  have hm := List.mem_of_getElem? h
  obtain ⟨p1, p2⟩ := pos l hm
  have h2 : (nls ls)[j]? = some (nl l) := by unfold nls; rw [List.getElem?_map, h]; rfl
  obtain ⟨o1, o2⟩ := ok (nl l) (List.mem_of_getElem? h2)
  exact ⟨l.1.toNat, l.2.1.toNat, by omega, by omega, o1, o2, h2⟩
section
variable {P : Program} {w : World} {K : PySem.W.Frag} {mg : Str → Option Value} {base : Heap} {cl : String → Addr}
theorem ok_settle {f : Addr} {fd : FuncData} (F : Fun K "settle" "settle" s_settle f fd) (T : Txt P w K mg cl) : FnOk P w K mg base CX0 2 f fd ["links", "begun"] (spSettle) := by
  refine F.ok sc_settle (fun vs H Q E h => ?_) (fun cdv A outer s H vs Q E hr h => ?_)
  · obtain ⟨t, g, us, ls, bg, rfl, _⟩ := h
    rfl
  · obtain ⟨t, g, us, ls, bg, rfl, hL, hg, lb, ll, ok, pos, k⟩ := h
    have C_ring_behind : Cal P w K mg base CX0 1 "ring_behind" _ spRB := cal_ring_behind T
    refine ⟨_, (pss_cons (ps_set (i := 2) sc_settle.nd rfl (Or.inl rfl) (pe_callTy call_list_of (by rfl) T.n_list (by decide +kernel) (pa_cons (pv 1) pa_nil)))
        (pss_cons (ps_setLc (i := 3) (own := [("time", 11)]) (g := gName 11) (tt := tYes) rfl sc_settle.nd rfl rfl (sw_true rfl rfl rfl (by decide +kernel)) (pi_list (pv 1)) (blkOk_by (own := [("time", 11)]) (N := ["links", "begun", "times", "came", "lowered", "_", "index", "one", "other", "amount", "limit", "time"]) (sc := defScope s_settle) (by decide +kernel)) (fun _ _ _ _ _ => pg_name (i := 11) sc_settle.nd rfl (Or.inl rfl)) (fun _ _ _ _ _ => pts_nil) (fun _ _ _ _ _ => pe_non))
        (pss_cons (ps_set (i := 4) sc_settle.nd rfl (Or.inl rfl) pe_non)
        (pss_cons (ps_for PassesOwn.never rfl (pi_range1 rfl T.n_range (pa_cons (pe_op op_add (pe_callB call_len_seq (by rfl) T.n_len PySem.boot_len (pa_cons (pv 2) pa_nil)) pe_int) pa_nil)) (pg_name (i := 5) sc_settle.nd rfl (Or.inl rfl))
          (pss_cons (ps_set (i := 4) sc_settle.nd rfl (Or.inl rfl) pe_non)
            (pss_cons (ps_for PassesOwn.never rfl (pi_enu2 (by rfl) T.n_enumerate (pa_cons (pv 0) pa_nil)) (pg_tup rfl (pgs_cons (pg_name (i := 6) sc_settle.nd rfl (Or.inl rfl)) (pgs_cons (pg_tup rfl (pgs_cons (pg_name (i := 7) sc_settle.nd rfl (Or.inl rfl)) (pgs_cons (pg_name (i := 8) sc_settle.nd rfl (Or.inl rfl)) (pgs_cons (pg_name (i := 9) sc_settle.nd rfl (Or.inl rfl)) pgs_nil)))) pgs_nil)))
              (pss_cons (ps_if (pt_cmpR op_isN (pe_ix ix_list (pv 2) (pv 8) (fun _ _ => rfl)) pe_non (nomark _))
                  (pss_one ps_continue) pss_nil)
                (pss_cons (ps_set (i := 10) sc_settle.nd rfl (Or.inl rfl) (pe_op op_add (pe_ix ix_list (pv 2) (pv 8) (fun _ _ => rfl)) (pv 9)))
                (pss_one (ps_if (PW.pt (pw_or (pt_cmpR op_isN (pe_ix ix_list (pv 2) (pv 7) (fun _ _ => rfl)) pe_non (nomark _)) (pw_or1 (pt_cmpR op_gt (pe_ix ix_list (pv 2) (pv 7) (fun _ _ => rfl)) (pv 10) (nomark _)))))
                  (pss_cons (ps_asg (pv 10) (pg_sub (pv 2) (pv 7) set_list))
                    (pss_cons (ps_asg (pv 6) (pg_sub (pv 3) (pv 7) set_list))
                    (pss_one (ps_set (i := 4) sc_settle.nd rfl (Or.inl rfl) (pv 7))))) pss_nil)))))
            (pss_one (ps_if (pt_cmpR op_isN (pv 4) pe_non (nomark _))
              (pss_one (ps_ret (pe_tup (pa_cons (pv 2) (pa_cons (pv 3) (pa_cons pe_non pa_nil)))))) pss_nil)))))
        (pss_one (ps_ret (pe_tup (pa_cons (pv 2) (pa_cons (pv 3) (pa_cons (pe_cal C_ring_behind (hr.mono (by decide)) (pa_cons (pv 0) (pa_cons (pv 3) (pa_cons (pv 4) pa_nil)))) pa_nil)))))))))), ?_⟩
    have lm : (bg.map oiV).length = bg.length := List.length_map _
    refine ⟨_, rfl, g, _, rfl, .inl (SqL.of hg), fun A nA => ?_⟩
    have SA := sNew (o := .lst (bg.map oiV)) nA
    refine ⟨_, rfl, g, rfl, ⟨_, SqL.of (SA _ _ hg)⟩, fun B nB => lc_list (K := K) (a := g) (xs := bg.map oiV) (fun i H' => H' = upd (upd H A (.lst (bg.map oiV))) B (.lst (List.replicate i .non))) rfl (fun i H' _ z => by rw [z]; exact SqL.of (sNew nB _ _ (SA _ _ hg))) (fun j x H' hx e => ?_) (fun H' e => ?_)⟩
    · have hj := (List.getElem?_eq_some_iff.mp hx).1
      subst e
      refine ⟨rfl, _, upd_same, small1000 (by rw [List.length_replicate]; omega), ?_⟩
      rw [upd_upd, List.replicate_succ']
    have nAB : A ≠ B := ne_of_none (show upd H A (.lst (bg.map oiV)) A = some _ from upd_same) nB
    have nBH : H B = none := by
      rw [upd_ne (Ne.symm nAB)] at nB
      exact nB
    have h0A : H' A = some (.lst ((bs0 bg).ts.map oiV)) := by rw [e, upd_ne nAB]; exact upd_same
    have h0B : H' B = some (.lst ((bs0 bg).cm.map onV)) := by
      rw [e, upd_same]
      show _ = some (HO.lst ((bg.map fun _ => (none : Option Nat)).map onV))
      rw [List.map_map, lm]
      congr 2
      exact (List.eq_replicate_iff.mpr ⟨List.length_map _, fun b hb => by obtain ⟨_, _, rfl⟩ := List.mem_map.mp hb; rfl⟩).symm
    have S0 : Same H H' := by rw [e]; exact SA.trans (sNew nB)
    clear e
    have lts : (bs0 bg).ts.length = bg.length := rfl
    refine ⟨_, rfl, A, _, rfl, .inl (SqL.of h0A), _, _, rfl, rfl, _, rfl, ?_⟩
    rw [show (List.map oiV (bs0 bg).ts).length = bg.length from lm]
    refine ⟨by omega, by omega, for_range (fun i σ H' => Same H H' ∧ ∃ s : BS, H' A = some (.lst (s.ts.map oiV)) ∧ H' B = some (.lst (s.cm.map onV)) ∧ s.ts.length = bg.length ∧ s.cm.length = bg.length ∧ sett (nls ls) bg = run (nls ls) (bg.length + 1 - i) s ∧ ∃ v5 v6 v7 v8 v9 v10 v11 : Option V, σ = [some (.ref t), some (.ref g), some (.ref A), some (.ref B), some (onV s.lo), v5, v6, v7, v8, v9, v10, v11]) ⟨S0, bs0 bg, h0A, h0B, rfl, List.length_map _, rfl, none, none, none, none, none, none, none, rfl⟩ ?_ ?_⟩
    · rintro i σ H1 hi ⟨S1, s, hA, hB, lA, lB, es, v5, v6, v7, v8, v9, v10, v11, rfl⟩
      have hi : i < bg.length + 1 := by omega
      refine ⟨_, rfl, t, us, rfl, .inr (S1 _ _ hL.1), fun J wk => for_it wk (fun j σ H2 => Same H H2 ∧ ∃ s2 : BS, H2 A = some (.lst (s2.ts.map oiV)) ∧ H2 B = some (.lst (s2.cm.map onV)) ∧ s2.ts.length = bg.length ∧ s2.cm.length = bg.length ∧ rls j ((nls ls).drop j) s2 = rnd (nls ls) s ∧ ∃ v6 v7 v8 v9 v10 v11 : Option V, σ = [some (.ref t), some (.ref g), some (.ref A), some (.ref B), some (onV s2.lo), some (.int ((0 : Int) + (i : Nat))), v6, v7, v8, v9, v10, v11]) ⟨S1, { s with lo := none }, hA, hB, lA, lB, rfl, v6, v7, v8, v9, v10, v11, rfl⟩ (fun j σ H2 _ q => (q.1 _ _ hL.1).trans (S1 _ _ hL.1).symm) ?_ ?_⟩
      · rintro j xv σ H2 H3 hj ⟨S2, s2, hA2, hB2, lA2, lB2, es2, w6, w7, w8, w9, w10, w11, rfl⟩ ⟨Tt, x1, y1, rfl, hT, rfl, q1, q2⟩
        cases q1
        obtain ⟨l, hl, b, rfl, hb⟩ := Paired.at hL.2 q2
        obtain ⟨x, y, ex, ey, hx, hy, hn⟩ := lk_in ok pos hl
        have ST := sNew (o := .tup [.int (j : Nat), .ref b]) hT
        have S3 := S2.trans ST
        have hA3 := ST _ _ hA2
        have hB3 := ST _ _ hB2
        have hb3 := S3 _ _ hb
        rw [rls_at hn] at es2
        obtain ⟨a1, a2, a3⟩ := l
        have ex : a1 = (x : Int) := ex
        have ey : a2 = (y : Int) := ey
        subst ex ey
        refine ⟨Tt, _, rfl, SqT.of upd_same, rfl, _, _, rfl, _, _, rfl, b, _, rfl, SqT.of hb3, rfl, _, _, rfl, _, _, rfl, _, _, rfl, rfl, rfl, ?_⟩
        have l1 : (s2.ts.map oiV).length = bg.length := by rw [List.length_map]; exact lA2
        have l2 : (s2.cm.map onV).length = bg.length := by rw [List.length_map]; exact lB2
        cases hty : gO s2.ts y with
        | none =>
          have er : rl j ((x, y, a3) : NL) s2 = s2 := by
            unfold rl
            rw [hty]
          have es2 : rls (j + 1) ((nls ls).drop (j + 1)) (rl j ((x, y, a3) : NL) s2) = rnd (nls ls) s := es2
          rw [er] at es2
          exact ⟨_, rfl, _, rfl, A, _, _, _, rfl, rfl, SqL.of hA3, atI_nat (oi_none hty (by omega)), rfl, _, rfl, iteT ⟨S3, s2, hA3, hB3, lA2, lB2, es2, _, _, _, _, _, _, rfl⟩⟩
        | some tv =>
          have aty := oi_some hty
          refine ⟨_, rfl, _, rfl, A, _, _, _, rfl, rfl, SqL.of hA3, atI_nat aty, rfl, _, rfl, iteF ?_⟩
          refine ⟨_, rfl, _, rfl, A, _, _, _, rfl, rfl, SqL.of hA3, atI_nat aty, _, rfl, _, _, rfl, rfl, ?_⟩
          have put : rl j ((x, y, a3) : NL) s2 = low j (x, y, a3) tv s2 → ∀ {σ' : St} {H4 : Hp}, σ' = [some (.ref t), some (.ref g), some (.ref A), some (.ref B), some (.int (x : Nat)), some (.int ((0 : Int) + (i : Nat))), some (.int (j : Nat)), some (.int (x : Nat)), some (.int (y : Nat)), some (.int a3), some (.int (tv + a3)), w11] → H4 = upd (upd (upd H2 Tt (.tup [.int (j : Nat), .ref b])) A (.lst ((s2.ts.map oiV).set x (.int (tv + a3))))) B (.lst ((s2.cm.map onV).set x (.int (j : Nat)))) → Same H H4 ∧ ∃ s2 : BS, H4 A = some (.lst (s2.ts.map oiV)) ∧ H4 B = some (.lst (s2.cm.map onV)) ∧ s2.ts.length = bg.length ∧ s2.cm.length = bg.length ∧ rls (j + 1) ((nls ls).drop (j + 1)) s2 = rnd (nls ls) s ∧ ∃ v6 v7 v8 v9 v10 v11 : Option V, σ' = [some (.ref t), some (.ref g), some (.ref A), some (.ref B), some (onV s2.lo), some (.int ((0 : Int) + (i : Nat))), v6, v7, v8, v9, v10, v11] := fun er σ' H4 e1 e2 => by
            subst e1 e2
            refine ⟨same_upd (same_upd S3 nA) nBH, low j (x, y, a3) tv s2, ?_, ?_, ?_, ?_, ?_, _, _, _, _, _, _, rfl⟩
            · rw [upd_ne nAB, upd_same]
              show _ = some (HO.lst ((s2.ts.set x (some (tv + a3))).map oiV))
              rw [List.map_set]
              rfl
            · rw [upd_same]
              show _ = some (HO.lst ((s2.cm.set x (some j)).map onV))
              rw [List.map_set]
              rfl
            · show (s2.ts.set x _).length = _
              rw [List.length_set]
              exact lA2
            · show (s2.cm.set x _).length = _
              rw [List.length_set]
              exact lB2
            · rw [← er]
              exact es2
          have hBA : upd (upd H2 Tt (.tup [.int (j : Nat), .ref b])) A (.lst ((s2.ts.map oiV).set x (.int (tv + a3)))) B = some (.lst (s2.cm.map onV)) := by
            rw [upd_ne (Ne.symm nAB)]
            exact hB3
          cases htx : gO s2.ts x with
          | none =>
            have er : rl j ((x, y, a3) : NL) s2 = low j (x, y, a3) tv s2 := by
              unfold rl
              rw [hty, htx]
              rfl
            refine ⟨_, rfl, _, rfl, A, _, _, _, rfl, rfl, SqL.of hA3, atI_nat (oi_none htx (by omega)), rfl, _, rfl, iteT (iteT ?_)⟩
            exact ⟨_, rfl, _, rfl, _, rfl, A, _, x, x, rfl, rfl, hA3, (by unfold ixN; rw [if_pos (by omega), if_pos (by omega)]; rfl), _, rfl, _, rfl, _, rfl, B, _, x, x, rfl, rfl, hBA, (by unfold ixN; rw [if_pos (by omega), if_pos (by omega)]; rfl), _, rfl, put er rfl rfl⟩
          | some tx =>
            have atx := oi_some htx
            refine ⟨_, rfl, _, rfl, A, _, _, _, rfl, rfl, SqL.of hA3, atI_nat atx, rfl, _, rfl, iteF ⟨_, rfl, _, rfl, A, _, _, _, rfl, rfl, SqL.of hA3, atI_nat atx, _, rfl, _, _, rfl, rfl, _, rfl, ?_⟩⟩
            refine ite2 (fun gt => ?_) (fun gt => ?_)
            · have gt : tv + a3 < tx := of_decide_eq_true gt
              have er : rl j ((x, y, a3) : NL) s2 = low j (x, y, a3) tv s2 := by
                unfold rl
                rw [hty, htx]
                show (if tx > tv + a3 then _ else s2) = _
                rw [if_pos gt]
                rfl
              exact ⟨_, rfl, _, rfl, _, rfl, A, _, x, x, rfl, rfl, hA3, (by unfold ixN; rw [if_pos (by omega), if_pos (by omega)]; rfl), _, rfl, _, rfl, _, rfl, B, _, x, x, rfl, rfl, hBA, (by unfold ixN; rw [if_pos (by omega), if_pos (by omega)]; rfl), _, rfl, put er rfl rfl⟩
            · have gt : ¬ tv + a3 < tx := fun z => gt (decide_eq_true z)
              have er : rl j ((x, y, a3) : NL) s2 = s2 := by
                unfold rl
                rw [hty, htx]
                show (if tx > tv + a3 then _ else s2) = _
                rw [if_neg gt]
              have es2 : rls (j + 1) ((nls ls).drop (j + 1)) (rl j ((x, y, a3) : NL) s2) = rnd (nls ls) s := es2
              rw [er] at es2
              exact ⟨S3, s2, hA3, hB3, lA2, lB2, es2, _, _, _, _, _, _, rfl⟩
      · rintro σ H2 ⟨S2, s2, hA2, hB2, lA2, lB2, es2, w6, w7, w8, w9, w10, w11, rfl⟩
        have e2 : s2 = rnd (nls ls) s := by
          rw [← es2, List.drop_of_length_le (by rw [hL.2.length]; unfold nls; rw [List.length_map]; exact Nat.le_refl _)]
          rfl
        have un : run (nls ls) (bg.length + 1 - i) s = if (rnd (nls ls) s).lo = none then (rnd (nls ls) s, true) else run (nls ls) (bg.length + 1 - (i + 1)) (rnd (nls ls) s) := by
          rw [show bg.length + 1 - i = (bg.length + 1 - (i + 1)) + 1 by omega]
          rfl
        rw [← e2] at un
        cases hlo : s2.lo with
        | none =>
          rw [if_pos hlo] at un
          refine ⟨_, rfl, rfl, _, rfl, iteT ?_⟩
          refine ⟨_, rfl, _, rfl, by show 3 ≤ sizeLine; decide, fun R nR => ?_⟩
          have ST := sNew (o := .tup [.ref A, .ref B, .non]) nR
          refine k R A B .non _ (S2.trans ST) nA nBH ?_ ?_ upd_same (.inl ⟨?_, rfl⟩)
          · rw [es, un]; exact ST _ _ hA2
          · rw [es, un]; exact ST _ _ hB2
          · rw [es, un]
        | some v =>
          rw [if_neg (by rw [hlo]; exact fun z => nomatch z)] at un
          refine ⟨_, rfl, rfl, _, rfl, iteF ⟨S2, s2, hA2, hB2, lA2, lB2, es.trans un, _, _, _, _, _, _, _, by rw [hlo]⟩⟩
    · rintro σ H1 ⟨S1, s, hA, hB, lA, lB, es, v5, v6, v7, v8, v9, v10, v11, rfl⟩
      rw [show ((bg.length : Int) + 1).toNat = bg.length + 1 by omega, Nat.sub_self] at es
      have es : sett (nls ls) bg = (s, false) := es
      have h2 : (sett (nls ls) bg).2 = false := by rw [es]
      obtain ⟨v, r1, r2, r3, r4⟩ := sett_ring ok h2
      rw [es] at r1 r2 r3 r4
      have r1 : s.lo = some v := r1
      rw [r1]
      have lc : s.cm.length = bg.length := lB
      rw [← lc] at r3 r4
      refine ⟨_, rfl, _, rfl, _, rfl, _, rfl, _, rfl, t, B, us, ls, s.cm, v, rfl, ⟨S1 _ _ hL.1, (hL.same S1).2⟩, hB, by omega, pos, r2, r3, fun d C H2 d1 d2 ed S2 nC hC => ?_⟩
      refine ⟨by show 3 ≤ sizeLine; decide, fun R nR => ?_⟩
      have ST := sNew (o := .tup [.ref A, .ref B, .ref C]) nR
      have S3 := S2.trans ST
      have q1 := ring_path (ls := nls ls) (fun m => by rw [← itN_add]; exact r2 _) ed
      refine k R A B (.ref C) _ (S1.trans S3) nA nBH ?_ ?_ upd_same (.inr ⟨h2, C, _, _, rfl, ST _ _ hC, ?_, ?_, q1.1, ?_⟩)
      · rw [es]; exact S3 _ _ hA
      · rw [es]; exact S3 _ _ hB
      · intro z
        have := congrArg List.length z
        rw [List.length_reverse, pth_len] at this
        simp at this
        omega
      · rw [List.length_reverse, pth_len]
        omega
      · rw [q1.2]
        exact r4 d d1 ed
theorem cal_settle (T : Txt P w K mg cl) : Cal P w K mg base CX0 2 "settle" ["links", "begun"] (spSettle) := by
  obtain ⟨f, fd, F, m⟩ := T.d_settle
  exact ⟨f, fd, ok_settle F T, m, F.kp, F.binds fun _ _ _ _ _ _ us hl => match us, hl with | [_, _], _ => rfl⟩
end
end My
set_option Elab.async false
set_option linter.all false
set_option maxRecDepth 100000
set_option maxHeartbeats 1000000
namespace My
open PySem L2 Dw Wp
open C8 (pss_cut tCut)
set_option pp.maxSteps 600
open Bf
def kF (ts : List Int) : Nat → Int := fun v => ts[v]?.getD 0
theorem all_some {xs : List (Option Int)} (h : ∀ v, v < xs.length → (gO xs v).isSome = true) : ∃ ts : List Int, xs.map oiV = ts.map V.int ∧ ts.length = xs.length ∧ ∀ v, kF ts v = (gO xs v).getD 0 := by
  refine ⟨xs.map fun x => x.getD 0, ?_, List.length_map _, fun v => ?_⟩
  · rw [List.map_map]
    refine List.map_congr_left fun x hx => ?_
    obtain ⟨v, hv, rfl⟩ := List.mem_iff_getElem.mp hx
    have := h v hv
    rw [gO_at hv] at this
    cases e : xs[v] with
    | none => rw [e] at this; cases this
    | some i => rfl
  · unfold kF gO
    rw [List.getElem?_map]
    cases xs[v]? <;> rfl
theorem og_succ (i o : Nat) : og (i + 1) o = og i o ++ [if i = o then some 0 else none] := by
  unfold og
  rw [List.range_succ, List.map_append]
  rfl
theorem zr_succ (i : Nat) : zr (i + 1) = zr i ++ [some 0] := by
  unfold zr
  rw [List.range_succ, List.map_append]
  rfl
theorem LkOk.ix {c : Int} {n : Nat} {ls : List Lk} (h : ∀ l ∈ ls, LkOk c l) (e : c = (n : Int)) : IxOk n (nls ls) ∧ Pos ls := by
  refine ⟨fun l hl => ?_, fun l hl => ⟨(h l hl).1.1, (h l hl).2.1⟩⟩
  obtain ⟨l', h', rfl⟩ := List.mem_map.mp hl
  obtain ⟨⟨a, b⟩, c1, d⟩ := h l' h'
  exact ⟨by show l'.1.toNat < n; omega, by show l'.2.1.toNat < n; omega⟩
def spFrom : Sp := fun vs H Q _ => ∃ (t : Addr) (us : List V) (ls : List Lk) (n o : Nat), vs = [.int (n : Nat), .ref t, .int (o : Nat)] ∧ LsT H t us ls ∧ n ≤ 800 ∧ ls.length ≤ 800 ∧ IxOk n (nls ls) ∧ Pos ls ∧
  ∀ (R A B : Addr) (H' : Hp), Same H H' → H A = none → H B = none → H' A = some (.lst ((sett (nls ls) (og n o)).1.ts.map oiV)) → H' B = some (.lst ((sett (nls ls) (og n o)).1.cm.map onV)) → H' R = some (.tup [.ref A, .ref B]) → Q (.ref R) H'
/-- a ring below 0, told by indexes; times that keep all links -/
def RingP (ls : List Lk) (n : Nat) (is : List Nat) : Prop := is ≠ [] ∧ is.length ≤ n ∧ ∃ p, Leads (nls ls) is p p ∧ smI (nls ls) is < 0
def TmsP (ls : List Lk) (n : Nat) (ts : List Int) : Prop := ts.length = n ∧ Keeps (nls ls) (kF ts)
def spSolved (C CR CK : Addr) : Sp := fun vs H Q _ => ∃ (p t : Addr) (n : Nat) (us : List V) (ls : List Lk), vs = [.ref p] ∧ SyAt C H p (n : Nat) t us ls ∧ (∀ l ∈ ls, LkOk (n : Nat) l) ∧ n ≤ 800 ∧ ls.length ≤ 800 ∧
  ∀ (q a : Addr) (H' : Hp), Same H H' → H q = none → ((RgAt CR H' q "path" a ∧ ∃ is : List Nat, H' a = some (.tup (is.map fun (i : Nat) => V.int i)) ∧ RingP ls n is) ∨ (RgAt CK H' q "times" a ∧ ∃ ts : List Int, H' a = some (.tup (ts.map V.int)) ∧ TmsP ls n ts)) → Q (.ref q) H'
def spKept (C CN : Addr) : Sp := fun vs H Q E => ∃ (p t : Addr) (n : Nat) (us : List V) (ls : List Lk), vs = [.ref p] ∧ SyAt C H p (n : Nat) t us ls ∧ (∀ l ∈ ls, LkOk (n : Nat) l) ∧ n ≤ 800 ∧ ls.length ≤ 800 ∧
  (∀ (a : Addr) (is : List Nat), RingP ls n is → ∀ G e, Same H G → H e = none → G a = some (.tup (is.map fun (i : Nat) => V.int i)) → a ≠ e → E (.ref CN) (some e) (upd G e (.xd [("path", .ref a)]))) ∧
  (∀ (a : Addr) (ts : List Int) (H' : Hp), TmsP ls n ts → Same H H' → H' a = some (.tup (ts.map V.int)) → Q (.ref a) H')
def spBack : Sp := fun vs H Q _ => ∃ (t a : Addr) (us : List V) (ls : List Lk) (cm : List (Option Nat)) (o v k : Nat), vs = [.ref t, .ref a, .int (o : Nat), .int (v : Nat)] ∧ LsT H t us ls ∧ H a = some (.lst (cm.map onV)) ∧ Pos ls ∧ k ≤ 800 ∧ itN (nls ls) cm k v = o ∧ (∀ m, m < k → Has (nls ls) cm (itN (nls ls) cm m v) ∧ itN (nls ls) cm m v ≠ o) ∧
  ∀ (R : Addr) (H' : Hp), Same H H' → H' R = some (.tup ((pth (nls ls) cm k v).reverse.map fun (i : Nat) => V.int i)) → Q (.ref R) H'
section
variable {P : Program} {w : World} {K : PySem.W.Frag} {mg : Str → Option Value} {base : Heap} {cl : String → Addr}
theorem ok_settled_from {f : Addr} {fd : FuncData} (F : Fun K "settled_from" "settled_from" s_settled_from f fd) (T : Txt P w K mg cl) : FnOk P w K mg base CX0 3 f fd ["count", "links", "origin"] (spFrom) := by
  refine F.ok sc_settled_from (fun vs H Q E h => ?_) (fun cdv A outer s H vs Q E hr h => ?_)
  · obtain ⟨t, us, ls, n, o, rfl, _⟩ := h
    rfl
  · obtain ⟨t, us, ls, n, o, rfl, hL, ln, ll, ok, pos, k⟩ := h
    have C_settle : Cal P w K mg base CX0 2 "settle" _ spSettle := cal_settle T
    refine ⟨_, (pss_cons (ps_asg (pe_cal C_settle (hr.mono (by decide)) (pa_cons (pv 1) (pa_cons (pe_lc (own := [("place", 6)]) (g := gName 6) (tt := tYes) rfl sc_settled_from.nd (pi_range1 rfl T.n_range (pa_cons (pv 0) pa_nil)) (blkOk_by (own := [("place", 6)]) (N := ["count", "links", "origin", "times", "came", "_", "place"]) (sc := defScope s_settled_from) (by decide +kernel)) (fun _ _ _ _ _ => pg_name (i := 6) sc_settled_from.nd rfl (Or.inl rfl)) (fun _ _ _ _ _ => pts_nil) (fun _ _ _ _ _ => (pe_cut (pe_ifExp (pt_cmpR op_eq (pv 6) (pv 2) (nomark _)) pe_int pe_non)))) pa_nil))) (pg_tup rfl (pgs_cons (pg_name (i := 3) sc_settled_from.nd rfl (Or.inl rfl)) (pgs_cons (pg_name (i := 4) sc_settled_from.nd rfl (Or.inl rfl)) (pgs_cons (pg_name (i := 5) sc_settled_from.nd rfl (Or.inl rfl)) pgs_nil)))))
        (pss_one (ps_ret (pe_tup (pa_cons (pv 3) (pa_cons (pv 4) pa_nil)))))), ?_⟩
    refine ⟨_, rfl, _, rfl, (n : Int), rfl, by omega, by omega, fun D nD => lc_range (fun i H' => H' = upd H D (.lst ((og i o).map oiV))) rfl ?_ ?_⟩
    · rintro i H' hi e
      subst e
      refine ⟨rfl, fun v H' => H' = upd H D (.lst ((og i o).map oiV)) ∧ v = oiV (if i = o then some 0 else none), ?_, fun v H' ⟨e1, e2⟩ => ?_⟩
      · refine ⟨_, rfl, _, rfl, rfl, _, rfl, ?_⟩
        refine ite2 (fun g => ?_) (fun g => ?_)
        · have g : i = o := by have := V.int.inj (of_decide_eq_true g); omega
          exact ⟨rfl, by rw [if_pos g]; rfl⟩
        · have g : ¬ i = o := fun z => g (decide_eq_true (by rw [z, Int.zero_add]))
          exact ⟨rfl, by rw [if_neg g]; rfl⟩
      · subst e1 e2
        refine ⟨_, upd_same, small1000 (by rw [List.length_map, og_len]; omega), ?_⟩
        rw [upd_upd, og_succ, List.map_append]
        rfl
    · rintro H' e
      subst e
      refine ⟨t, D, us, ls, og n o, rfl, hL.same (sNew nD), upd_same, by rw [og_len]; exact ln, ll, by rw [og_len]; exact ok, pos, fun R A B v3 H2 S2 nA nB hA hB hR _ => ?_⟩
      refine ⟨R, _, rfl, SqT.of hR, rfl, _, _, rfl, _, _, rfl, _, _, rfl, rfl, ?_⟩
      refine ⟨_, rfl, _, rfl, by show 2 ≤ sizeLine; decide, fun q nq => ?_⟩
      have ST := sNew (o := .tup [.ref A, .ref B]) nq
      exact k q A B _ ((sNew nD).trans (S2.trans ST)) ((sNew nD).free nA) ((sNew nD).free nB) (ST _ _ hA) (ST _ _ hB) upd_same
theorem cal_settled_from (T : Txt P w K mg cl) : Cal P w K mg base CX0 3 "settled_from" ["count", "links", "origin"] (spFrom) := by
  obtain ⟨f, fd, F, m⟩ := T.d_settled_from
  exact ⟨f, fd, ok_settled_from F T, m, F.kp, F.binds fun _ _ _ _ _ _ us hl => match us, hl with | [_, _, _], _ => rfl⟩
theorem ok_path_back {f : Addr} {fd : FuncData} (F : Fun K "path_back" "path_back" s_path_back f fd) (T : Txt P w K mg cl) : FnOk P w K mg base CX0 1 f fd ["links", "came", "start", "end"] (spBack) := by
  refine F.ok sc_path_back (fun vs H Q E h => ?_) (fun cdv A outer s H vs Q E hr h => ?_)
  · obtain ⟨t, a, us, ls, cm, o, v, k, rfl, _⟩ := h
    rfl
  · obtain ⟨t, a, us, ls, cm, o, v, d, rfl, hL, ha, pos, dn, ed, has, k⟩ := h
    refine ⟨_, (pss_cons (ps_set (i := 4) sc_path_back.nd rfl (Or.inl rfl) (pe_lst pa_nil))
        (pss_cons (ps_set (i := 5) sc_path_back.nd rfl (Or.inl rfl) (pv 3))
        (pss_cons (ps_while PassesOwn.never (pt_cmpR op_ne (pv 5) (pv 2) (nomark _))
          (pss_cons (ps_expr (pe_app1 (by exact (pv 4)) (by exact (pa_cons (pe_ix ix_list (pv 1) (pv 5) (fun _ _ => rfl)) pa_nil))))
            (pss_one (ps_set (i := 5) sc_path_back.nd rfl (Or.inl rfl) (pe_ix ix_tup (pe_ix ix_tup (pv 0) (pe_ix ix_list (pv 1) (pv 5) (fun _ _ => rfl)) (fun _ _ => rfl)) pe_int (fun _ _ => rfl))))))
        (pss_one (ps_ret (pe_callTy call_tuple_of (by rfl) T.n_tuple (by decide +kernel) (pa_cons (pe_revL (pv 4)) pa_nil))))))), ?_⟩
    refine ⟨by show 0 ≤ sizeLine; exact Nat.zero_le _, fun D nD => ?_⟩
    have S0 := sNew (o := .lst []) nD
    refine ⟨_, rfl, fun m σ H2 => ∃ q, q + m = d ∧ H2 = upd H D (.lst ((pth (nls ls) cm q v).map fun (i : Nat) => V.int i)) ∧ σ = [some (.ref t), some (.ref a), some (.int (o : Nat)), some (.int (v : Nat)), some (.ref D), some (.int (itN (nls ls) cm q v : Nat))], ⟨d, 0, by omega, rfl, rfl⟩, ?_⟩
    rintro m σ H2 ⟨q, eq, rfl, rfl⟩
    refine ⟨_, rfl, _, rfl, rfl, ?_⟩
    have sz : ((pth (nls ls) cm q v).map fun (i : Nat) => V.int i).length = q := by rw [List.length_map, pth_len]
    have S1 := sNew (o := .lst ((pth (nls ls) cm q v).map fun (i : Nat) => V.int i)) nD
    refine ⟨_, rfl, ite2 (fun g => ?_) (fun g => ?_)⟩
    · have g : ¬ itN (nls ls) cm q v = o := fun z => by
        rw [z] at g
        simp at g
      have qd : q ≠ d := fun z => g (by rw [z]; exact ed)
      obtain ⟨j2, b2, l2, g1, g2, g3, g4, g5⟩ := back_at hL pos (has q (by omega)).1
      refine ⟨fun σ' H'' => H'' = upd H D (.lst ((pth (nls ls) cm (q + 1) v).map fun (i : Nat) => V.int i)) ∧ σ' = [some (.ref t), some (.ref a), some (.int (o : Nat)), some (.int (v : Nat)), some (.ref D), some (.int (itN (nls ls) cm (q + 1) v : Nat))], fun σ' H'' ⟨e1, e2⟩ => ⟨m - 1, by omega, q + 1, by omega, e1, e2⟩, ?_⟩
      refine ⟨_, rfl, .inl ⟨rfl, _, SqL.of upd_same⟩, _, rfl, _, rfl, a, _, _, _, rfl, rfl, SqL.of (S1 _ _ ha), atI_nat g1, D, _, _, rfl, rfl, upd_same, small1000 (by rw [sz]; omega), ?_⟩
      rw [upd_upd]
      have S2 := sNew (o := .lst (((pth (nls ls) cm q v).map fun (i : Nat) => V.int i) ++ [.int (j2 : Nat)])) nD
      refine ⟨_, rfl, _, rfl, _, rfl, a, _, _, _, rfl, rfl, SqL.of (S2 _ _ ha), atI_nat g1, t, _, _, _, rfl, rfl, SqT.of (S2 _ _ hL.1), atI_nat g2, b2, _, _, _, rfl, rfl, SqT.of (S2 _ _ g3), atI_nat (j := 1) rfl, ?_, ?_⟩
      · rw [pth_snoc, g5, List.map_append]
        rfl
      · rw [itN_succ, ← g4]
        rfl
    · have g : itN (nls ls) cm q v = o := by
        by_cases z : itN (nls ls) cm q v = o
        · exact z
        · exfalso
          refine g ?_
          show (!decide (V.int _ = V.int _)) = true
          rw [decide_eq_false fun e => z (by have := V.int.inj e; omega)]
          rfl
      have qd : q = d := by
        by_cases z : q < d
        · exact absurd g (has q z).2
        · omega
      subst qd
      refine ⟨_, rfl, D, _, rfl, SqL.of upd_same, fun R nR => ⟨R, _, rfl, .inl ⟨SqL.of upd_same, fun t' nt => ?_⟩⟩⟩
      have SR := S1.trans (sNew (o := .lst ((pth (nls ls) cm q v).map fun (i : Nat) => V.int i).reverse) nR)
      refine k t' _ (SR.trans (sNew nt)) ?_
      rw [upd_same, List.map_reverse]
theorem cal_path_back (T : Txt P w K mg cl) : Cal P w K mg base CX0 1 "path_back" ["links", "came", "start", "end"] (spBack) := by
  obtain ⟨f, fd, F, m⟩ := T.d_path_back
  exact ⟨f, fd, ok_path_back F T, m, F.kp, F.binds fun _ _ _ _ _ _ us hl => match us, hl with | [_, _, _, _], _ => rfl⟩
end
end My
set_option Elab.async false
set_option linter.all false
set_option maxRecDepth 100000
set_option maxHeartbeats 1000000
namespace My
open PySem L2 Dw Wp
open C8 (pss_cut tCut)
set_option pp.maxSteps 600
open Bf
section
variable {P : Program} {w : World} {K : PySem.W.Frag} {mg : Str → Option Value} {base : Heap} {cl : String → Addr}
theorem ok_solved {f : Addr} {fd : FuncData} (F : Fun K "solved" "solved" s_solved f fd) (T : Txt P w K mg cl) : FnOk P w K mg base CX0 3 f fd ["system"] (spSolved (cl "System") (cl "Ring") (cl "Kept")) := by
  refine F.ok sc_solved (fun vs H Q E h => ?_) (fun cdv A outer s H vs Q E hr h => ?_)
  · obtain ⟨p, t, n, us, ls, rfl, _⟩ := h
    rfl
  · obtain ⟨p, t, n, us, ls, rfl, X, lok, ln, ll, k⟩ := h
    have C_settle : Cal P w K mg base CX0 2 "settle" _ spSettle := cal_settle T
    have I_Kept : CalC P w K mg base CX0 1 (cl "Kept") _ (spFld1 (cl "Kept") "times") := cal_Kept_init T
    have I_Ring : CalC P w K mg base CX0 1 (cl "Ring") _ (spFld1 (cl "Ring") "path") := cal_Ring_init T
    refine ⟨_, (pss_cons (ps_asg (pe_cal C_settle (hr.mono (by decide)) (pa_cons (pe_fld (pv 0) rfl) (pa_cons (pe_lc (own := [("place", 4)]) (g := gName 4) (tt := tYes) rfl sc_solved.nd (pi_range1 rfl T.n_range (pa_cons (pe_fld (pv 0) rfl) pa_nil)) (blkOk_by (own := [("place", 4)]) (N := ["system", "times", "_", "ring", "place"]) (sc := defScope s_solved) (by decide +kernel)) (fun _ _ _ _ _ => pg_name (i := 4) sc_solved.nd rfl (Or.inl rfl)) (fun _ _ _ _ _ => pts_nil) (fun _ _ _ _ _ => pe_int)) pa_nil))) (pg_tup rfl (pgs_cons (pg_name (i := 1) sc_solved.nd rfl (Or.inl rfl)) (pgs_cons (pg_name (i := 2) sc_solved.nd rfl (Or.inl rfl)) (pgs_cons (pg_name (i := 3) sc_solved.nd rfl (Or.inl rfl)) pgs_nil)))))
        (pss_cons (ps_if (pt_cmpR op_notN (pv 3) pe_non (nomark _))
          (pss_one (ps_ret (pe_mk I_Ring T.m_Ring (hr.mono (by decide))  (pa_cons (pv 3) pa_nil)))) pss_nil)
        (pss_one (ps_ret (pe_mk I_Kept T.m_Kept (hr.mono (by decide))  (pa_cons (pe_callTy call_tuple_of (by rfl) T.n_tuple (by decide +kernel) (pa_cons (pv 1) pa_nil)) pa_nil)))))), ?_⟩
    obtain ⟨dx, hself⟩ := X.self
    obtain ⟨ok, pos⟩ := LkOk.ix lok rfl
    refine ⟨_, rfl, p, _, _, _, _, rfl, hself, T.cl_System, T.na_System _ (by decide), rfl, _, rfl, p, _, _, _, _, rfl, hself, T.cl_System, T.na_System _ (by decide), rfl, (n : Int), rfl, by omega, by omega, fun D nD => lc_range (fun i H' => H' = upd H D (.lst ((zr i).map oiV))) rfl ?_ ?_⟩
    · rintro i H' hi e
      subst e
      refine ⟨rfl, _, upd_same, small1000 (by rw [List.length_map, zr_len]; omega), ?_⟩
      rw [upd_upd, zr_succ, List.map_append]
      rfl
    · rintro H' e
      subst e
      refine ⟨t, D, us, ls, zr n, rfl, ⟨sNew nD _ _ X.rows, (X.same (sNew nD)).each⟩, upd_same, by rw [zr_len]; exact ln, ll, by rw [zr_len]; exact ok, pos, fun R A B v3 H2 S2 nA nB hA hB hR hv => ?_⟩
      refine ⟨R, _, rfl, SqT.of hR, rfl, _, _, rfl, _, _, rfl, _, _, rfl, rfl, ?_⟩
      have S := (sNew nD).trans S2
      have ok' : IxOk (zr n).length (nls ls) := by rw [zr_len]; exact ok
      rcases hv with ⟨h2, rfl⟩ | ⟨h2, C, is, q, rfl, hC, h3, h4, h5, h6⟩
      · refine ⟨_, rfl, rfl, _, rfl, iteF ?_⟩
        obtain ⟨l1, _, _, _, so, _⟩ := sett_kept ok' h2
        have kp := sett_all ok' h2 fun v hv => zr_at (by rw [zr_len] at hv; exact hv)
        obtain ⟨ts, e1, e2, e3⟩ := all_some (xs := (sett (nls ls) (zr n)).1.ts) fun v hv => so v (zr_at (by rw [l1, zr_len] at hv; exact hv))
        rw [e1] at hA
        rw [l1, zr_len] at e2
        refine ⟨_, rfl, A, _, rfl, .inl ⟨SqL.of hA, fun a na => fun x d nx nd ne => ⟨x, d, _, rfl, upd_same, rfl, ?_⟩⟩⟩
        have Sa := sNew (o := .tup (ts.map V.int)) na
        have S3 := S.trans Sa
        refine k x a _ (same_upd (same_upd (same_upd S3 (S3.free nd)) (S3.free nx)) (S3.free nx)) (S3.free nx) (.inr ⟨⟨_, upd_same⟩, ts, ?_, e2, fun l hl => ?_⟩)
        · have hx : a ≠ x := ne_of_none (upd_same (H := H2) (a := a) (o := .tup (ts.map V.int))) nx
          have hd : a ≠ d := ne_of_none (upd_same (H := H2) (a := a) (o := .tup (ts.map V.int))) nd
          rw [upd_ne hx, upd_ne hx, upd_ne hd]
          exact upd_same
        · rw [e3, e3]
          exact kp l hl
      · refine ⟨_, rfl, rfl, _, rfl, iteT ?_⟩
        refine ⟨_, rfl, fun x d nx nd ne => ⟨x, d, _, rfl, upd_same, rfl, ?_⟩⟩
        refine k x C _ (same_upd (same_upd (same_upd S (S.free nd)) (S.free nx)) (S.free nx)) (S.free nx) (.inl ⟨⟨_, upd_same⟩, is, ?_, h3, by rw [zr_len] at h4; exact h4, q, h5, h6⟩)
        rw [upd_ne (ne_of_none hC nx), upd_ne (ne_of_none hC nx), upd_ne (ne_of_none hC nd)]
        exact hC
theorem cal_solved (T : Txt P w K mg cl) : Cal P w K mg base CX0 3 "solved" ["system"] (spSolved (cl "System") (cl "Ring") (cl "Kept")) := by
  obtain ⟨f, fd, F, m⟩ := T.d_solved
  exact ⟨f, fd, ok_solved F T, m, F.kp, F.binds fun _ _ _ _ _ _ us hl => match us, hl with | [_], _ => rfl⟩
theorem ok_kept_times {f : Addr} {fd : FuncData} (F : Fun K "kept_times" "kept_times" s_kept_times f fd) (T : Txt P w K mg cl) : FnOk P w K mg base (L2.CX P w) 4 f fd ["system"] (spKept (cl "System") (cl "NoTimes")) := by
  refine F.okX sc_kept_times (fun vs H Q E h => ?_) (fun cdv A outer s H vs Q E hr h => ?_)
  · obtain ⟨p, t, n, us, ls, rfl, _⟩ := h
    rfl
  · obtain ⟨p, t, n, us, ls, rfl, X, lok, ln, ll, kE, kQ⟩ := h
    have C_solved : Cal P w K mg base CX0 3 "solved" _ (spSolved (cl "System") (cl "Ring") (cl "Kept")) := cal_solved T
    refine ⟨_, (pss_cons (ps_set (i := 1) sc_kept_times.nd rfl (Or.inl rfl) (pe_cal C_solved (hr.mono (by decide)) (pa_cons (pv 0) pa_nil)))
        (pss_cons (ps_if (pt_val (pe_callB call_isi (by rfl) T.n_isinstance (by decide +kernel) (pa_cons (pv 1) (pa_cons (pe_cls T.m_Ring) pa_nil))))
          (pss_one (ps_raiseO rfl (ini_NoTimes (base := base) T) T.m_NoTimes (hr.mono (by decide)) (takes_of rfl rfl rfl rfl) (by exact (pa_cons (pe_fld (pv 1) rfl) pa_nil)))) pss_nil)
        (pss_one (ps_ret (pe_fld (pv 1) rfl))))), ?_⟩
    refine ⟨_, rfl, p, t, n, us, ls, rfl, X, lok, ln, ll, fun q a H1 S1 nq hv => ?_⟩
    rcases hv with ⟨⟨dq, hq⟩, is, ha, R⟩ | ⟨⟨dq, hq⟩, ts, ha, R⟩
    · refine ⟨_, rfl, _, _, _, _, _, rfl, .own (cl "Ring"), .base (.ins hq T.cl_Ring T.y_Ring T.z1 T.z2 T.z3_Ring), T.k_Ri_Ri, _, rfl, iteT ?_⟩
      refine ⟨_, rfl, q, _, _, _, _, rfl, hq, T.cl_Ring, T.na_Ring _ (by decide), rfl, raise1 (Same.refl H1) fun G e S ne => ?_⟩
      exact kE a is R G e (S1.trans S) (S1.free ne) (S _ _ ha) (ne_of_none ha ne)
    · refine ⟨_, rfl, _, _, _, _, _, rfl, .own (cl "Ring"), .base (.ins hq T.cl_Kept T.y_Kept T.z1 T.z2 T.z3_Kept), T.k_Ke_Ri, _, rfl, iteF ?_⟩
      exact ⟨_, rfl, q, _, _, _, _, rfl, hq, T.cl_Kept, T.na_Kept _ (by decide), rfl, kQ a ts H1 R S1 ha⟩
theorem cal_kept_times (T : Txt P w K mg cl) : Cal P w K mg base (L2.CX P w) 4 "kept_times" ["system"] (spKept (cl "System") (cl "NoTimes")) := by
  obtain ⟨f, fd, F, m⟩ := T.d_kept_times
  exact ⟨f, fd, ok_kept_times F T, m, F.kp, F.binds fun _ _ _ _ _ _ us hl => match us, hl with | [_], _ => rfl⟩
end
end My
set_option Elab.async false
set_option linter.all false
set_option maxRecDepth 100000
set_option maxHeartbeats 1000000
namespace My
open PySem L2 Dw Wp
open C8 (pss_cut tCut)
set_option pp.maxSteps 600
open Bf
theorem kF_at {bs : List Int} {v : Nat} (h : v < bs.length) : (bs.map V.int)[v]? = some (.int (kF bs v)) := by
  unfold kF
  rw [List.getElem?_map, List.getElem?_eq_getElem h]
  rfl
theorem rz_cons (ts : List (Option Int)) (base : Nat → Int) (l : NL) (ls : List NL) (r : Int) : rz ts base (l :: ls) r = rz ts base ls (match gO ts l.1, gO ts l.2.1 with
    | some t, none => max r (t - l.2.2 - base l.2.1)
    | _, _ => r) := rfl
def spCmpl : Sp := fun vs H Q _ => ∃ (t a b : Addr) (us : List V) (ls : List Lk) (ts : List (Option Int)) (bs : List Int), vs = [.ref t, .ref a, .ref b] ∧ LsT H t us ls ∧ H a = some (.lst (ts.map oiV)) ∧ H b = some (.tup (bs.map V.int)) ∧ bs.length = ts.length ∧ ts.length ≤ 800 ∧ IxOk ts.length (nls ls) ∧ Pos ls ∧
  ∀ (R : Addr) (cs : List Int) (H' : Hp), Same H H' → cs.length = ts.length → (∀ v, v < ts.length → kF cs v = cpl ts (kF bs) (rz ts (kF bs) (nls ls) 0) v) → H' R = some (.tup (cs.map V.int)) → Q (.ref R) H'
section
variable {P : Program} {w : World} {K : PySem.W.Frag} {mg : Str → Option Value} {base : Heap} {cl : String → Addr}
theorem ok_completed {f : Addr} {fd : FuncData} (F : Fun K "completed" "completed" s_completed f fd) (T : Txt P w K mg cl) : FnOk P w K mg base CX0 1 f fd ["links", "reached", "base"] (spCmpl) := by
  refine F.ok sc_completed (fun vs H Q E h => ?_) (fun cdv A outer s H vs Q E hr h => ?_)
  · obtain ⟨t, a, b, us, ls, ts, bs, rfl, _⟩ := h
    rfl
  · obtain ⟨t, a, b, us, ls, ts, bs, rfl, hL, ha, hb, lb, lt, ok, pos, k⟩ := h
    refine ⟨_, (pss_cons (ps_set (i := 3) sc_completed.nd rfl (Or.inr rfl) pe_int)
        (pss_cons (ps_for PassesOwn.never rfl (pi_tup (pv 0)) (pg_tup rfl (pgs_cons (pg_name (i := 4) sc_completed.nd rfl (Or.inl rfl)) (pgs_cons (pg_name (i := 5) sc_completed.nd rfl (Or.inl rfl)) (pgs_cons (pg_name (i := 6) sc_completed.nd rfl (Or.inl rfl)) pgs_nil))))
          (pss_one (ps_if (PW.pt (pw_and (pt_cmpR op_notN (pe_ix ix_list (pv 1) (pv 4) (fun _ _ => rfl)) pe_non (nomark _)) (pw_and1 (pt_cmpR op_isN (pe_ix ix_list (pv 1) (pv 5) (fun _ _ => rfl)) pe_non (nomark _)))))
              (pss_one (ps_set (i := 3) sc_completed.nd rfl (Or.inr rfl) (pe_callB (call_max2 rfl) (by rfl) T.n_max (by decide +kernel) (pa_cons (pv 3) (pa_cons (pe_op op_sub (pe_op op_sub (pe_ix ix_list (pv 1) (pv 4) (fun _ _ => rfl)) (pv 6)) (pe_ix ix_tup (pv 2) (pv 5) (fun _ _ => rfl))) pa_nil))))) pss_nil)))
        (pss_one (ps_ret (pe_callTy call_tuple_of (by rfl) T.n_tuple (by decide +kernel) (pa_cons (pe_lc (own := [("place", 7), ("time", 8)]) (g := gTup K 2 (gCons (gName 7) (gCons (gName 8) gNil))) (tt := tYes) rfl sc_completed.nd (pi_enum (by rfl) T.n_enumerate (pa_cons (pv 1) pa_nil)) (blkOk_by (own := [("place", 7), ("time", 8)]) (N := ["links", "reached", "base", "raised", "one", "other", "amount", "place", "time"]) (sc := defScope s_completed) (by decide +kernel)) (fun _ _ _ _ _ => (pg_tup rfl (pgs_cons (pg_name (i := 7) sc_completed.nd rfl (Or.inl rfl)) (pgs_cons (pg_name (i := 8) sc_completed.nd rfl (Or.inl rfl)) pgs_nil)))) (fun _ _ _ _ _ => pts_nil) (fun _ _ _ _ _ => (pe_ifExp (pt_cmpR op_isN (pv 8) pe_non (nomark _)) (pe_op op_add (pe_ix (ix_tupK (K := K) rfl) (pv 2) (pv 7) (fun _ _ => rfl)) (pv 3)) (pv 8)))) pa_nil)))))), ?_⟩
    refine ⟨_, rfl, t, rfl, ⟨_, SqT.of hL.1⟩, for_tup (K := K) (a := t) (xs := us) (fun j σ H' => H' = H ∧ ∃ r : Int, rz ts (kF bs) ((nls ls).drop j) r = rz ts (kF bs) (nls ls) 0 ∧ ∃ v4 v5 v6 : Option V, σ = [some (.ref t), some (.ref a), some (.ref b), some (.int r), v4, v5, v6, none, none]) ⟨rfl, 0, rfl, none, none, none, rfl⟩ (fun j σ H' _ q => by rw [q.1]; exact SqT.of hL.1) ?_ ?_⟩
    · rintro j xv σ H' hx ⟨rfl, r, er, v4, v5, v6, rfl⟩
      obtain ⟨l, hl, bb, rfl, hbb⟩ := Paired.at hL.2 hx
      obtain ⟨x, y, ex, ey, hx1, hy1, hn⟩ := lk_in ok pos hl
      obtain ⟨a1, a2, a3⟩ := l
      have ex : a1 = (x : Int) := ex
      have ey : a2 = (y : Int) := ey
      subst ex ey
      have hn : (nls ls)[j]? = some (x, y, a3) := hn
      rw [take_drop_at hn, rz_cons] at er
      refine ⟨bb, _, rfl, SqT.of hbb, rfl, _, _, rfl, _, _, rfl, _, _, rfl, rfl, ?_⟩
      cases htx : gO ts x with
      | none =>
        rw [show gO ts ((x, y, a3) : NL).1 = none from htx] at er
        exact ⟨_, rfl, _, rfl, a, _, _, _, rfl, rfl, SqL.of ha, atI_nat (oi_none htx hx1), rfl, _, rfl, iteF (iteF ⟨rfl, r, er, _, _, _, rfl⟩)⟩
      | some tx =>
        refine ⟨_, rfl, _, rfl, a, _, _, _, rfl, rfl, SqL.of ha, atI_nat (oi_some htx), rfl, _, rfl, iteT ?_⟩
        cases hty : gO ts y with
        | some ty =>
          rw [show gO ts ((x, y, a3) : NL).1 = some tx from htx, show gO ts ((x, y, a3) : NL).2.1 = some ty from hty] at er
          exact ⟨_, rfl, _, rfl, a, _, _, _, rfl, rfl, SqL.of ha, atI_nat (oi_some hty), rfl, _, rfl, iteF ⟨rfl, r, er, _, _, _, rfl⟩⟩
        | none =>
          rw [show gO ts ((x, y, a3) : NL).1 = some tx from htx, show gO ts ((x, y, a3) : NL).2.1 = none from hty] at er
          have hyb : y < bs.length := by omega
          refine ⟨_, rfl, _, rfl, a, _, _, _, rfl, rfl, SqL.of ha, atI_nat (oi_none hty hy1), rfl, _, rfl, iteT ?_⟩
          refine ⟨_, rfl, _, rfl, _, rfl, a, _, _, _, rfl, rfl, SqL.of ha, atI_nat (oi_some htx), _, rfl, _, _, rfl, rfl, _, rfl, _, rfl, b, _, _, _, rfl, rfl, SqT.of hb, atI_nat (kF_at hyb), _, _, rfl, rfl, _, _, rfl, rfl, _, ?_, _, _, _, rfl⟩
          rw [← er]
          show rz ts (kF bs) _ (if tx - a3 - kF bs y > r then tx - a3 - kF bs y else r) = rz ts (kF bs) _ (max r (tx - a3 - kF bs y))
          congr 1
          split <;> omega
    · rintro σ H' ⟨rfl, r, er, v4, v5, v6, rfl⟩
      have er : r = rz ts (kF bs) (nls ls) 0 := by
        rw [← er, List.drop_of_length_le (by rw [hL.2.length]; unfold nls; rw [List.length_map]; exact Nat.le_refl _)]
        rfl
      rw [← er] at k
      have lm : (ts.map oiV).length = ts.length := List.length_map _
      refine ⟨_, rfl, a, _, rfl, SqL.of ha, fun D nD => lc_it walk_enum (fun i H2 => H2 D = some (.lst ((List.range i).map fun v => V.int (cpl ts (kF bs) r v))) ∧ Same H' H2) ⟨upd_same, sNew nD⟩ (fun i H2 _ q => SqL.of (q.2 _ _ ha)) ?_ ?_⟩
      · rintro i xv H2 H3 hi ⟨hD, S2⟩ ⟨Tt, x1, y1, rfl, hT, rfl, q1, q2⟩
        cases q1
        have q2 : (ts.map oiV)[i]? = some y1 := q2
        have ST := sNew (o := .tup [.int (i : Nat), y1]) hT
        have S3 := S2.trans ST
        rw [lm] at hi
        refine ⟨Tt, _, rfl, SqT.of upd_same, rfl, _, _, rfl, _, _, rfl, rfl, rfl, ?_⟩
        have fin : ∃ acc, upd H2 Tt (.tup [.int (i : Nat), y1]) D = some (.lst acc) ∧ acc.length < sizeLine ∧ upd (upd H2 Tt (.tup [.int (i : Nat), y1])) D (.lst (acc ++ [.int (cpl ts (kF bs) r i)])) D = some (.lst ((List.range (i + 1)).map fun v => V.int (cpl ts (kF bs) r v))) ∧ Same H' (upd (upd H2 Tt (.tup [.int (i : Nat), y1])) D (.lst (acc ++ [.int (cpl ts (kF bs) r i)]))) := by
          refine ⟨_, ST _ _ hD, small1000 (by rw [List.length_map, List.length_range]; omega), ?_, same_upd S3 nD⟩
          rw [upd_same, List.range_succ, List.map_append]
          rfl
        cases hti : gO ts i with
        | none =>
          rw [oi_none hti hi] at q2
          cases q2
          rw [show cpl ts (kF bs) r i = kF bs i + r by unfold cpl; rw [hti]] at fin
          exact ⟨_, rfl, rfl, _, rfl, iteT ⟨_, rfl, _, rfl, b, _, _, _, rfl, rfl, SqT.of (S3 _ _ hb), atI_nat (kF_at (by omega)), _, rfl, _, _, rfl, rfl, fin⟩⟩
        | some ti =>
          rw [oi_some hti] at q2
          cases q2
          rw [show cpl ts (kF bs) r i = ti by unfold cpl; rw [hti]] at fin
          exact ⟨_, rfl, rfl, _, rfl, iteF ⟨_, rfl, fin⟩⟩
      · rintro H2 ⟨hD, S2⟩
        rw [lm] at hD
        refine ⟨D, _, rfl, .inl ⟨SqL.of hD, fun R nR => k R ((List.range ts.length).map fun v => cpl ts (kF bs) r v) _ (S2.trans (sNew nR)) (by rw [List.length_map, List.length_range]) (fun v hv => ?_) ?_⟩⟩
        · unfold kF
          rw [List.getElem?_map, List.getElem?_range hv]
          rfl
        · rw [upd_same, List.map_map]
          rfl
theorem cal_completed (T : Txt P w K mg cl) : Cal P w K mg base CX0 1 "completed" ["links", "reached", "base"] (spCmpl) := by
  obtain ⟨f, fd, F, m⟩ := T.d_completed
  exact ⟨f, fd, ok_completed F T, m, F.kp, F.binds fun _ _ _ _ _ _ us hl => match us, hl with | [_, _, _], _ => rfl⟩
end
end My
set_option Elab.async false
set_option linter.all false
set_option maxRecDepth 100000
set_option maxHeartbeats 1000000
namespace My
open PySem L2 Dw Wp
open C8 (pss_cut tCut)
set_option pp.maxSteps 600
open Bf
/-- the times reached from one place -/
abbrev rch (ls : List Lk) (n o : Nat) : List (Option Int) := (sett (nls ls) (og n o)).1.ts
def natT (is : List Nat) : HO := .tup (is.map fun (i : Nat) => V.int i)
def intT (ts : List Int) : HO := .tup (ts.map V.int)
/-- a greatest difference with its path and times; or the places apart and times -/
structure GrP (ls : List Lk) (n a b : Nat) (am : Int) (is : List Nat) (ts : List Int) : Prop where
  lead : Leads (nls ls) is b a
  sum : smI (nls ls) is = am
  len : is.length ≤ n
  tms : TmsP ls n ts
  dif : kF ts a - kF ts b = am
  at_ : gO (rch ls n b) a = some am
structure EnP (ls : List Lk) (n a b : Nat) (is : List Nat) (ts : List Int) : Prop where
  non : gO (rch ls n b) a = none
  apart : is = (List.range n).filter fun v => (gO (rch ls n b) v).isNone
  tms : TmsP ls n ts
def GrAt (CG : Addr) (H : Hp) (q : Addr) (am : Int) (pa ta : Addr) (is : List Nat) (ts : List Int) : Prop := (∃ dx, H q = some (.ins CG dx [("amount", .int am), ("path", .ref pa), ("times", .ref ta)])) ∧ H pa = some (natT is) ∧ H ta = some (intT ts)
def EnAt (CE : Addr) (H : Hp) (q : Addr) (pa ta : Addr) (is : List Nat) (ts : List Int) : Prop := (∃ dx, H q = some (.ins CE dx [("apart", .ref pa), ("times", .ref ta)])) ∧ H pa = some (natT is) ∧ H ta = some (intT ts)
def AnsAt (CG CE : Addr) (ls : List Lk) (n a b : Nat) (H : Hp) (q : Addr) : Prop :=
  (∃ am pa ta is ts, GrAt CG H q am pa ta is ts ∧ GrP ls n a b am is ts) ∨ ∃ pa ta is ts, EnAt CE H q pa ta is ts ∧ EnP ls n a b is ts
def NoIn (CN : Addr) (H : Hp) (E : XK) (v : V) : Prop := ∀ G e, Same H G → H e = none → E (.ref CN) (some e) (upd G e (.xd [("instant", v)]))
def NoTm (CT : Addr) (ls : List Lk) (n : Nat) (H : Hp) (E : XK) : Prop := ∀ (a : Addr) (is : List Nat), RingP ls n is → ∀ G e, Same H G → H e = none → G a = some (natT is) → a ≠ e → E (.ref CT) (some e) (upd G e (.xd [("path", .ref a)]))
def spGr (K : PySem.W.Frag) (C CN CT CG CE : Addr) : Sp := fun vs H Q E => ∃ (p t : Addr) (n : Nat) (us : List V) (ls : List Lk) (v1 v2 : V) (n1 n2 : String), vs = [.ref p, v1, v2] ∧ SyAt C H p (n : Nat) t us ls ∧ (∀ l ∈ ls, LkOk (n : Nat) l) ∧ n ≤ 800 ∧ ls.length ≤ 800 ∧ Dm K H v1 n1 ∧ Dm K H v2 n2 ∧
  (isT (n : Nat) v1 = false → NoIn CN H E v1) ∧ (isT (n : Nat) v1 = true → isT (n : Nat) v2 = false → NoIn CN H E v2) ∧
  (∀ a b : Nat, v1 = .int (a : Nat) → v2 = .int (b : Nat) → a < n → b < n → NoTm CT ls n H E ∧ ∀ q H', Same H H' → H q = none → AnsAt CG CE ls n a b H' q → Q (.ref q) H')
theorem made {H : Hp} {x d : Addr} {o1 o2 o3 : HO} (nx : H x = none) (nd : H d = none) : Same H (upd (upd (upd H d o1) x o2) x o3) := same_upd (same_upd (sNew nd) nx) nx
theorem isT_nat {n : Nat} {v : V} (h : isT (n : Nat) v = true) : ∃ a : Nat, v = .int (a : Nat) ∧ a < n := by
  cases v with
  | int i =>
    have h : (decide (0 ≤ i) && decide (i < (n : Nat))) = true := h
    simp only [Bool.and_eq_true, decide_eq_true_eq] at h
    exact ⟨i.toNat, by rw [Int.toNat_of_nonneg h.1], by omega⟩
  | _ => cases h
section
variable {P : Program} {w : World} {K : PySem.W.Frag} {mg : Str → Option Value} {base : Heap} {cl : String → Addr}
theorem ok_greatest {f : Addr} {fd : FuncData} (F : Fun K "greatest" "greatest" s_greatest f fd) (T : Txt P w K mg cl) : FnOk P w K mg base (L2.CX P w) 5 f fd ["system", "one", "other"] (spGr K (cl "System") (cl "NoInstant") (cl "NoTimes") (cl "Greatest") (cl "Endless")) := by
  refine F.okX sc_greatest (fun vs H Q E h => ?_) (fun cdv A outer s H vs Q E hr h => ?_)
  · obtain ⟨p, t, n, us, ls, v1, v2, n1, n2, rfl, _⟩ := h
    rfl
  · obtain ⟨p, t, n, us, ls, v1, v2, n1, n2, rfl, X, lok, ln, ll, d1, d2, k1, k2, kg⟩ := h
    have C_check_instant : Cal P w K mg base (L2.CX P w) 3 "check_instant" _ (spChk K (cl "System") (cl "NoInstant")) := cal_check_instant T
    have C_kept_times : Cal P w K mg base (L2.CX P w) 4 "kept_times" _ (spKept (cl "System") (cl "NoTimes")) := cal_kept_times T
    have C_settled_from : Cal P w K mg base CX0 3 "settled_from" _ spFrom := cal_settled_from T
    have C_path_back : Cal P w K mg base CX0 1 "path_back" _ spBack := cal_path_back T
    have C_completed : Cal P w K mg base CX0 1 "completed" _ spCmpl := cal_completed T
    have I_Greatest : CalC P w K mg base CX0 1 (cl "Greatest") _ (spFlds (cl "Greatest") ["amount", "path", "times"]) := cal_Greatest_init T
    have I_Endless : CalC P w K mg base CX0 1 (cl "Endless") _ (spFlds (cl "Endless") ["apart", "times"]) := cal_Endless_init T
    refine ⟨_, (pss_cons (ps_expr (pe_calS C_check_instant (hr.mono (by decide)) (fun σ => passAt (takes_of rfl rfl rfl rfl) σ) (pa_cons (pv 0) (pa_cons (pv 1) pa_nil))))
        (pss_cons (ps_expr (pe_calS C_check_instant (hr.mono (by decide)) (fun σ => passAt (takes_of rfl rfl rfl rfl) σ) (pa_cons (pv 0) (pa_cons (pv 2) pa_nil))))
        (pss_cons (ps_set (i := 3) sc_greatest.nd rfl (Or.inl rfl) (pe_calS C_kept_times (hr.mono (by decide)) (fun σ => passAt (takes_of rfl rfl rfl rfl) σ) (pa_cons (pv 0) pa_nil)))
        (pss_cons (ps_asg (pe_cal C_settled_from (hr.mono (by decide)) (pa_cons (pe_fld (pv 0) rfl) (pa_cons (pe_fld (pv 0) rfl) (pa_cons (pv 2) pa_nil)))) (pg_tup rfl (pgs_cons (pg_name (i := 4) sc_greatest.nd rfl (Or.inl rfl)) (pgs_cons (pg_name (i := 5) sc_greatest.nd rfl (Or.inl rfl)) pgs_nil))))
        (pss_cons (ps_if (pt_cmpR op_isN (pe_ix ix_list (pv 4) (pv 1) (fun _ _ => rfl)) pe_non (nomark _))
          (pss_one (ps_ret (pe_mk I_Endless T.m_Endless (hr.mono (by decide))  (pa_cons (pe_callTy call_tuple_of (by rfl) T.n_tuple (by decide +kernel) (pa_cons (pe_lc (own := [("place", 7), ("time", 8)]) (g := gTup K 2 (gCons (gName 7) (gCons (gName 8) gNil)))  rfl sc_greatest.nd (pi_enum (by rfl) T.n_enumerate (pa_cons (pv 4) pa_nil)) (blkOk_by (own := [("place", 7), ("time", 8)]) (N := ["system", "one", "other", "base", "reached", "came", "path", "place", "time"]) (sc := defScope s_greatest) (by decide +kernel)) (fun _ _ _ _ _ => (pg_tup rfl (pgs_cons (pg_name (i := 7) sc_greatest.nd rfl (Or.inl rfl)) (pgs_cons (pg_name (i := 8) sc_greatest.nd rfl (Or.inl rfl)) pgs_nil)))) (fun _ _ _ _ _ => pts_one (pt_cmpR op_isN (pv 8) pe_non (nomark _))) (fun _ _ _ _ _ => (pv 7))) pa_nil)) (pa_cons (pv 3) pa_nil))))) pss_nil)
        (pss_cons (ps_set (i := 6) sc_greatest.nd rfl (Or.inl rfl) (pe_cal C_path_back (hr.mono (by decide)) (pa_cons (pe_fld (pv 0) rfl) (pa_cons (pv 5) (pa_cons (pv 2) (pa_cons (pv 1) pa_nil))))))
        (pss_one (ps_ret (pe_mk I_Greatest T.m_Greatest (hr.mono (by decide))  (pa_cons (pe_ix ix_list (pv 4) (pv 1) (fun _ _ => rfl)) (pa_cons (pv 6) (pa_cons (pe_cal C_completed (hr.mono (by decide)) (pa_cons (pe_fld (pv 0) rfl) (pa_cons (pv 4) (pa_cons (pv 3) pa_nil)))) pa_nil)))))))))))), ?_⟩
    obtain ⟨dx, hself⟩ := X.self
    obtain ⟨ok, pos⟩ := LkOk.ix lok rfl
    refine ⟨_, rfl, _, rfl, p, t, n, us, ls, v1, n1, rfl, X, d1, fun h1 => ?_, k1⟩
    refine ⟨_, rfl, _, rfl, p, t, n, us, ls, v2, n2, rfl, X, d2, fun h2 => ?_, k2 h1⟩
    obtain ⟨a, rfl, an⟩ := isT_nat h1
    obtain ⟨b, rfl, bn⟩ := isT_nat h2
    obtain ⟨kE, kQ⟩ := kg a b rfl rfl an bn
    refine ⟨_, rfl, p, t, n, us, ls, rfl, X, lok, ln, ll, kE, fun bt bs H1 Tm S1 hbt => ?_⟩
    have X1 := X.same S1
    have hself1 := S1 _ _ hself
    refine ⟨_, rfl, p, _, _, _, _, rfl, hself1, T.cl_System, T.na_System _ (by decide), rfl, _, rfl, p, _, _, _, _, rfl, hself1, T.cl_System, T.na_System _ (by decide), rfl, _, rfl, t, us, ls, n, b, rfl, ⟨X1.rows, X1.each⟩, ln, ll, ok, pos, fun R A B H2 S2 nA nB hA hB hR => ?_⟩
    refine ⟨R, _, rfl, SqT.of hR, rfl, _, _, rfl, _, _, rfl, rfl, ?_⟩
    have ok' : IxOk (og n b).length (nls ls) := by rw [og_len]; exact ok
    have h2 := sett_keeps ok' Tm.2
    obtain ⟨l1, l2, _, sat, _, _⟩ := sett_kept ok' h2
    rw [og_len] at l1 l2
    obtain ⟨_, z0, chain⟩ := og_chain ok bn h2
    have lm : (List.map oiV (sett (nls ls) (og n b)).1.ts).length = n := by rw [List.length_map]; exact l1
    cases hta : gO (sett (nls ls) (og n b)).1.ts a with
    | none =>
      refine ⟨_, rfl, _, rfl, A, _, _, _, rfl, rfl, SqL.of hA, atI_nat (oi_none hta (by omega)), rfl, _, rfl, iteT ?_⟩
      refine ⟨_, rfl, A, _, rfl, SqL.of hA, fun D nD => lc_it walk_enum (fun i H3 => H3 D = some (.lst (((List.range i).filter fun v => (gO (rch ls n b) v).isNone).map fun (i : Nat) => V.int i)) ∧ Same H2 H3) ⟨upd_same, sNew nD⟩ (fun i H3 _ q => SqL.of (q.2 _ _ hA)) ?_ ?_⟩
      · rintro i xv H3 H4 hi ⟨hD, S3⟩ ⟨Tt, x1, y1, rfl, hT, rfl, q1, q2⟩
        cases q1
        have q2 : ((sett (nls ls) (og n b)).1.ts.map oiV)[i]? = some y1 := q2
        have ST := sNew (o := .tup [.int (i : Nat), y1]) hT
        have S4 := S3.trans ST
        rw [lm] at hi
        refine ⟨Tt, _, rfl, SqT.of upd_same, rfl, _, _, rfl, _, _, rfl, rfl, rfl, ?_⟩
        have sz : ((List.range i).filter fun v => (gO (rch ls n b) v).isNone).length ≤ i := Nat.le_trans (List.length_filter_le _ _) (by rw [List.length_range]; exact Nat.le_refl _)
        cases hti : gO (rch ls n b) i with
        | none =>
          rw [oi_none hti (by rw [l1]; exact hi)] at q2
          cases q2
          refine ⟨_, rfl, rfl, _, rfl, ?_⟩
          refine ⟨_, rfl, _, ST _ _ hD, small1000 (by rw [List.length_map]; omega), ?_, same_upd S4 nD⟩
          rw [upd_same, List.range_succ, List.filter_append, List.map_append]
          simp [hti]
        | some ti =>
          rw [oi_some hti] at q2
          cases q2
          refine ⟨_, rfl, rfl, _, rfl, ?_⟩
          refine ⟨?_, S4⟩
          rw [ST _ _ hD, List.range_succ, List.filter_append, List.map_append]
          simp [hti]
      · rintro H3 ⟨hD, S3⟩
        rw [lm] at hD
        refine ⟨D, _, rfl, .inl ⟨SqL.of hD, fun pa npa => ?_⟩⟩
        have SP := sNew (o := natT ((List.range n).filter fun v => (gO (rch ls n b) v).isNone)) npa
        refine ⟨_, rfl, fun x d nx nd ne => ⟨x, d, [.ref pa, .ref bt], rfl, rfl, upd_same, rfl, ?_⟩⟩
        have S5 := S2.trans (S3.trans SP)
        have M := made (o1 := .own x) (o2 := .ins (cl "Endless") d []) (o3 := .ins (cl "Endless") d [("apart", .ref pa), ("times", .ref bt)]) nx nd
        exact kQ x _ (S1.trans (S5.trans M)) ((S1.trans S5).free nx) (.inr ⟨pa, bt, _, bs, ⟨⟨d, upd_same⟩, M _ _ upd_same, M _ _ (S5 _ _ hbt)⟩, hta, rfl, Tm⟩)
    | some am =>
      refine ⟨_, rfl, _, rfl, A, _, _, _, rfl, rfl, SqL.of hA, atI_nat (oi_some hta), rfl, _, rfl, iteF ?_⟩
      obtain ⟨k, kn, e1, e2, e3⟩ := chain a am hta
      have hself2 := S2 _ _ hself1
      have X2 := X1.same S2
      refine ⟨_, rfl, p, _, _, _, _, rfl, hself2, T.cl_System, T.na_System _ (by decide), rfl, _, rfl, _, rfl, _, rfl, t, B, us, ls, _, b, a, k, rfl, ⟨X2.rows, X2.each⟩, hB, pos, by omega, e1, e2, fun pa H3 S3 hpa => ?_⟩
      have X3 := X2.same S3
      refine ⟨_, rfl, _, rfl, A, _, _, _, rfl, rfl, SqL.of (S3 _ _ hA), atI_nat (oi_some hta), _, rfl, _, rfl, p, _, _, _, _, rfl, S3 _ _ hself2, T.cl_System, T.na_System _ (by decide), rfl, _, rfl, _, rfl, t, A, bt, us, ls, _, bs, rfl, ⟨X3.rows, X3.each⟩, S3 _ _ hA, S3 _ _ (S2 _ _ hbt), by rw [l1]; exact Tm.1, by rw [l1]; exact ln, by rw [l1]; exact ok, pos, fun ca cs H4 S4 lcs hcs hca => ?_⟩
      refine fun x d nx nd ne => ⟨x, d, [.int am, .ref pa, .ref ca], rfl, rfl, upd_same, rfl, ?_⟩
      have M := made (o1 := .own x) (o2 := .ins (cl "Greatest") d []) (o3 := .ins (cl "Greatest") d [("amount", .int am), ("path", .ref pa), ("times", .ref ca)]) nx nd
      have S5 := S2.trans (S3.trans S4)
      obtain ⟨g1, g2⟩ := pth_leads k a fun m hm => (e2 m hm).1
      rw [e1] at g1
      rw [l1] at lcs hcs
      have kp := cpl_keeps (ls := nls ls) (ts := rch ls n b) Tm.2 sat
      refine kQ x _ (S1.trans (S5.trans M)) ((S1.trans S5).free nx) (.inl ⟨am, pa, ca, _, cs, ⟨⟨d, upd_same⟩, M _ _ (S4 _ _ hpa), M _ _ hca⟩, g1, g2.trans e3, ?_, ⟨lcs, fun l hl => ?_⟩, ?_, hta⟩)
      · rw [List.length_reverse, pth_len]
        exact kn
      · rw [hcs _ (ok l hl).1, hcs _ (ok l hl).2]
        exact kp l hl
      · rw [hcs _ an, hcs _ bn]
        unfold cpl
        rw [hta, z0]
        show am - 0 = am
        omega
theorem cal_greatest (T : Txt P w K mg cl) : Cal P w K mg base (L2.CX P w) 5 "greatest" ["system", "one", "other"] (spGr K (cl "System") (cl "NoInstant") (cl "NoTimes") (cl "Greatest") (cl "Endless")) := by
  obtain ⟨f, fd, F, m⟩ := T.d_greatest
  exact ⟨f, fd, ok_greatest F T, m, F.kp, F.binds fun _ _ _ _ _ _ us hl => match us, hl with | [_, _, _], _ => rfl⟩
end
end My
set_option Elab.async false
set_option linter.all false
set_option maxRecDepth 100000
set_option maxHeartbeats 1000000
namespace My
open PySem L2 Dw Wp
open C8 (pss_cut tCut)
set_option pp.maxSteps 600
open Bf
def spTW (K : PySem.W.Frag) (C CN : Addr) : Sp := fun vs H Q E => ∃ (p t : Addr) (n : Nat) (us : List V) (ls : List Lk) (v1 v2 : V) (n1 n2 : String) (m : Int), vs = [.ref p, v1, v2, .int m] ∧ SyAt C H p (n : Nat) t us ls ∧ (∀ l ∈ ls, LkOk (n : Nat) l) ∧ n ≤ 800 ∧ ls.length ≤ 700 ∧ Dm K H v1 n1 ∧ Dm K H v2 n2 ∧
  (isT (n : Nat) v1 = false → NoIn CN H E v1) ∧ (isT (n : Nat) v1 = true → isT (n : Nat) v2 = false → NoIn CN H E v2) ∧
  (∀ a b : Nat, v1 = .int (a : Nat) → v2 = .int (b : Nat) → a < n → b < n → ∀ v H', Same H H' →
    ((v = .non ∧ ¬ ∃ φ, Keeps (nls ls) φ ∧ φ a - φ b = m) ∨ (∃ ta ts, v = .ref ta ∧ H' ta = some (intT ts) ∧ TmsP ls n ts ∧ kF ts a - kF ts b = m)) → Q v H')
theorem nls_tie (ls : List Lk) (a b : Nat) (m : Int) : nls (ls ++ [((a : Int), (b : Int), m), ((b : Int), (a : Int), -m)]) = nls ls ++ tie a b m := by
  unfold nls
  rw [List.map_append]
  rfl
section
variable {P : Program} {w : World} {K : PySem.W.Frag} {mg : Str → Option Value} {base : Heap} {cl : String → Addr}
theorem ok_times_with {f : Addr} {fd : FuncData} (F : Fun K "times_with" "times_with" s_times_with f fd) (T : Txt P w K mg cl) : FnOk P w K mg base (L2.CX P w) 5 f fd ["system", "one", "other", "amount"] (spTW K (cl "System") (cl "NoInstant")) := by
  refine F.okX sc_times_with (fun vs H Q E h => ?_) (fun cdv A outer s H vs Q E hr h => ?_)
  · obtain ⟨p, t, n, us, ls, v1, v2, n1, n2, m, rfl, _⟩ := h
    rfl
  · obtain ⟨p, t, n, us, ls, v1, v2, n1, n2, m, rfl, X, lok, ln, ll, d1, d2, k1, k2, kg⟩ := h
    have C_check_instant : Cal P w K mg base (L2.CX P w) 3 "check_instant" _ (spChk K (cl "System") (cl "NoInstant")) := cal_check_instant T
    have C_settle : Cal P w K mg base CX0 2 "settle" _ spSettle := cal_settle T
    refine ⟨_, (pss_cons (ps_expr (pe_calS C_check_instant (hr.mono (by decide)) (fun σ => passAt (takes_of rfl rfl rfl rfl) σ) (pa_cons (pv 0) (pa_cons (pv 1) pa_nil))))
        (pss_cons (ps_expr (pe_calS C_check_instant (hr.mono (by decide)) (fun σ => passAt (takes_of rfl rfl rfl rfl) σ) (pa_cons (pv 0) (pa_cons (pv 2) pa_nil))))
        (pss_cut (ps_set (i := 4) sc_times_with.nd rfl (Or.inl rfl) (pe_op op_catA (pe_fld (pv 0) rfl) (pe_tup (pa_cons (pe_tup (pa_cons (pv 1) (pa_cons (pv 2) (pa_cons (pv 3) pa_nil)))) (pa_cons (pe_tup (pa_cons (pv 2) (pa_cons (pv 1) (pa_cons (pe_un un_neg (pv 3)) pa_nil)))) pa_nil)))))
        (pss_cons (ps_asg (pe_cal C_settle (hr.mono (by decide)) (pa_cons (pv 4) (pa_cons (pe_lc (own := [("place", 8)]) (g := gName 8) (tt := tYes) rfl sc_times_with.nd (pi_range1 rfl T.n_range (pa_cons (pe_fld (pv 0) rfl) pa_nil)) (blkOk_by (own := [("place", 8)]) (N := ["system", "one", "other", "amount", "links", "times", "_", "ring", "place"]) (sc := defScope s_times_with) (by decide +kernel)) (fun _ _ _ _ _ => pg_name (i := 8) sc_times_with.nd rfl (Or.inl rfl)) (fun _ _ _ _ _ => pts_nil) (fun _ _ _ _ _ => pe_int)) pa_nil))) (pg_tup rfl (pgs_cons (pg_name (i := 5) sc_times_with.nd rfl (Or.inl rfl)) (pgs_cons (pg_name (i := 6) sc_times_with.nd rfl (Or.inl rfl)) (pgs_cons (pg_name (i := 7) sc_times_with.nd rfl (Or.inl rfl)) pgs_nil)))))
        (pss_one (ps_ret (pe_ifExp (pt_cmpR op_isN (pv 7) pe_non (nomark _)) (pe_callTy call_tuple_of (by rfl) T.n_tuple (by decide +kernel) (pa_cons (pv 5) pa_nil)) pe_non))))))), ?_⟩
    obtain ⟨dx, hself⟩ := X.self
    obtain ⟨ok, pos⟩ := LkOk.ix lok rfl
    refine ⟨_, rfl, _, rfl, p, t, n, us, ls, v1, n1, rfl, X, d1, fun h1 => ?_, k1⟩
    refine ⟨_, rfl, _, rfl, p, t, n, us, ls, v2, n2, rfl, X, d2, fun h2 => ?_, k2 h1⟩
    obtain ⟨a, rfl, an⟩ := isT_nat h1
    obtain ⟨b, rfl, bn⟩ := isT_nat h2
    have kQ := kg a b rfl rfl an bn
    have ln' := X.each.length
    refine ⟨fun σ' H' => Same H H' ∧ ∃ z us', LsT H' z us' (ls ++ [((a : Int), (b : Int), m), ((b : Int), (a : Int), -m)]) ∧ σ' = [some (.ref p), some (.int (a : Nat)), some (.int (b : Nat)), some (.int m), some (.ref z), none, none, none, none], ?_, ?_⟩
    · refine ⟨_, rfl, p, _, _, _, _, rfl, hself, T.cl_System, T.na_System _ (by decide), rfl, _, rfl, _, rfl, _, rfl, by show 3 ≤ sizeLine; decide, fun q1 m1 => ?_⟩
      refine ⟨_, rfl, _, rfl, _, rfl, _, rfl, by show 3 ≤ sizeLine; decide, fun q2 m2 => ⟨by show 2 ≤ sizeLine; decide, fun q3 m3 => ?_⟩⟩
      have S1 := sNew (o := .tup [.int (a : Nat), .int (b : Nat), .int m]) m1
      have S2 := sNew (o := .tup [.int (b : Nat), .int (a : Nat), .int (-m)]) m2
      have S3 := sNew (o := .tup [.ref q1, .ref q2]) m3
      have S := S1.trans (S2.trans S3)
      have hq1 := S3 _ _ (S2 _ _ (upd_same (H := H) (a := q1) (o := .tup [.int (a : Nat), .int (b : Nat), .int m])))
      have hq2 := S3 _ _ (upd_same (H := upd H q1 (.tup [.int (a : Nat), .int (b : Nat), .int m])) (a := q2) (o := .tup [.int (b : Nat), .int (a : Nat), .int (-m)]))
      generalize hH3 : upd (upd (upd H q1 _) q2 _) q3 _ = H3 at *
      have hq3 : H3 q3 = some (.tup [.ref q1, .ref q2]) := by rw [← hH3]; exact upd_same
      have X3 := X.same S
      have two : Paired (LkT H3) [.ref q1, .ref q2] [((a : Int), (b : Int), m), ((b : Int), (a : Int), -m)] := .cons ⟨q1, rfl, hq1⟩ (.cons ⟨q2, rfl, hq2⟩ .nil)
      refine ⟨t, q3, us, _, rfl, rfl, SqT.of X3.rows, SqT.of hq3, Nat.le_of_lt (small1000 (by show us.length + 2 ≤ 1000; omega)), fun e => ?_, fun e1 e2 => (by cases e2), fun e1 e2 z hz2 => ?_⟩
      · subst e
        cases ls with
        | cons _ _ => simp at ln'
        | nil => exact ⟨S, q3, _, ⟨hq3, two⟩, rfl⟩
      · have SZ := sNew (o := .tup (us ++ [.ref q1, .ref q2])) hz2
        exact ⟨S.trans SZ, z, _, ⟨upd_same, Paired.appendP (X3.same SZ).each (Paired.impP (fun _ _ h => h.same SZ) two)⟩, rfl⟩
    · rintro σ' H1 ⟨S1, z, us', hL, rfl⟩
      have hself1 := S1 _ _ hself
      have nt := nls_tie ls a b m
      have ok2 : IxOk n (nls (ls ++ [((a : Int), (b : Int), m), ((b : Int), (a : Int), -m)])) := by
        rw [nt]
        intro l hl
        rcases List.mem_append.mp hl with hl | hl
        · exact ok l hl
        · simp only [tie, List.mem_cons, List.not_mem_nil, or_false] at hl
          rcases hl with rfl | rfl
          · exact ⟨an, bn⟩
          · exact ⟨bn, an⟩
      have pos2 : My.Pos (ls ++ [((a : Int), (b : Int), m), ((b : Int), (a : Int), -m)]) := fun l hl => by
        rcases List.mem_append.mp hl with hl | hl
        · exact pos l hl
        · simp only [List.mem_cons, List.not_mem_nil, or_false] at hl
          rcases hl with rfl | rfl <;> exact ⟨Int.natCast_nonneg _, Int.natCast_nonneg _⟩
      refine ⟨_, rfl, _, rfl, p, _, _, _, _, rfl, hself1, T.cl_System, T.na_System _ (by decide), rfl, (n : Int), rfl, by omega, by omega, fun D nD => lc_range (fun i H' => H' = upd H1 D (.lst ((zr i).map oiV))) rfl ?_ ?_⟩
      · rintro i H' hi e
        subst e
        refine ⟨rfl, _, upd_same, small1000 (by rw [List.length_map, zr_len]; omega), ?_⟩
        rw [upd_upd, zr_succ, List.map_append]
        rfl
      · rintro H' e
        subst e
        refine ⟨z, D, us', _, zr n, rfl, hL.same (sNew nD), upd_same, by rw [zr_len]; exact ln, by rw [List.length_append]; show ls.length + 2 ≤ 800; omega, by rw [zr_len]; exact ok2, pos2, fun R A B v3 H2 S2 nA nB hA hB hR hv => ?_⟩
        refine ⟨R, _, rfl, SqT.of hR, rfl, _, _, rfl, _, _, rfl, _, _, rfl, rfl, ?_⟩
        have S := S1.trans ((sNew nD).trans S2)
        rw [nt] at hv hA
        obtain ⟨t1, t2⟩ := tied (m := m) ok an bn
        rcases hv with ⟨h2, rfl⟩ | ⟨h2, _, _, _, rfl, _⟩
        · refine ⟨_, rfl, rfl, _, rfl, iteT ?_⟩
          have ok' : IxOk (zr n).length (nls ls ++ tie a b m) := by rw [zr_len, ← nt]; exact ok2
          obtain ⟨l1, _, _, _, so, _⟩ := sett_kept ok' h2
          obtain ⟨ts, e1, e2, e3⟩ := all_some (xs := (sett (nls ls ++ tie a b m) (zr n)).1.ts) fun v hv => so v (zr_at (by rw [l1, zr_len] at hv; exact hv))
          rw [e1] at hA
          rw [l1, zr_len] at e2
          obtain ⟨g1, g2⟩ := t2 h2
          refine ⟨_, rfl, A, _, rfl, .inl ⟨SqL.of hA, fun ta na => kQ _ _ (S.trans (sNew na)) (.inr ⟨ta, ts, rfl, upd_same, ⟨e2, fun l hl => ?_⟩, ?_⟩)⟩⟩
          · rw [e3, e3]
            exact g1 l hl
          · rw [e3, e3]
            exact g2
        · refine ⟨_, rfl, rfl, _, rfl, iteF ?_⟩
          exact kQ _ _ S (.inl ⟨rfl, fun z => by rw [t1.mpr z] at h2; cases h2⟩)
theorem cal_times_with (T : Txt P w K mg cl) : Cal P w K mg base (L2.CX P w) 5 "times_with" ["system", "one", "other", "amount"] (spTW K (cl "System") (cl "NoInstant")) := by
  obtain ⟨f, fd, F, m⟩ := T.d_times_with
  exact ⟨f, fd, ok_times_with F T, m, F.kp, F.binds fun _ _ _ _ _ _ us hl => match us, hl with | [_, _, _, _], _ => rfl⟩
end
end My
set_option Elab.async false
set_option linter.all false
set_option maxRecDepth 100000
set_option maxHeartbeats 1000000
namespace My
open PySem L2 Dw Wp
open C8 (pss_cut tCut)
set_option pp.maxSteps 600
open Bf
theorem pi_listK {X : Cx} {K : PySem.W.Frag} {tg l : Expr} {tl : TE} (h : X.K = K) (hl : PE X l tl) : PI X tg l (iList K tl) := h ▸ pi_list hl
theorem pi_tupK {X : Cx} {K : PySem.W.Frag} {tg l : Expr} {tl : TE} (h : X.K = K) (hl : PE X l tl) : PI X tg l (iTup K tl) := h ▸ pi_tup hl
theorem oi_at {ts : List (Option Int)} {x : Nat} (h : x < ts.length) : (ts.map oiV)[x]? = some (oiV (gO ts x)) := by
  rw [gO_at h, List.getElem?_map, List.getElem?_eq_getElem h]
  rfl
def rowO (ls : List Lk) (n a : Nat) : List V := (List.range n).map fun b => oiV (gO (rch ls n b) a)
def TbAt (ls : List Lk) (n : Nat) (H : Hp) (R : Addr) : Prop := ∃ rows : List V, H R = some (.tup rows) ∧ Paired (fun v a => ∃ r, v = .ref r ∧ H r = some (.tup (rowO ls n a))) rows (List.range n)
def spSpans (C CT : Addr) : Sp := fun vs H Q E => ∃ (p t : Addr) (n : Nat) (us : List V) (ls : List Lk), vs = [.ref p] ∧ SyAt C H p (n : Nat) t us ls ∧ (∀ l ∈ ls, LkOk (n : Nat) l) ∧ n ≤ 800 ∧ ls.length ≤ 800 ∧ NoTm CT ls n H E ∧ ∀ R H' ts, TmsP ls n ts → Same H H' → TbAt ls n H' R → Q (.ref R) H'
section
variable {P : Program} {w : World} {K : PySem.W.Frag} {mg : Str → Option Value} {base : Heap} {cl : String → Addr}
theorem ok_spans {f : Addr} {fd : FuncData} (F : Fun K "spans" "spans" s_spans f fd) (T : Txt P w K mg cl) : FnOk P w K mg base (L2.CX P w) 5 f fd ["system"] (spSpans (cl "System") (cl "NoTimes")) := by
  refine F.okX sc_spans (fun vs H Q E h => ?_) (fun cdv A outer s H vs Q E hr h => ?_)
  · obtain ⟨p, t, n, us, ls, rfl, _⟩ := h
    rfl
  · obtain ⟨p, t, n, us, ls, rfl, X, lok, ln, ll, kE, kQ⟩ := h
    have C_kept_times : Cal P w K mg base (L2.CX P w) 4 "kept_times" _ (spKept (cl "System") (cl "NoTimes")) := cal_kept_times T
    have C_settled_from : Cal P w K mg base CX0 3 "settled_from" _ spFrom := cal_settled_from T
    refine ⟨_, (pss_cons (ps_expr (pe_calS C_kept_times (hr.mono (by decide)) (fun σ => passAt (takes_of rfl rfl rfl rfl) σ) (pa_cons (pv 0) pa_nil)))
        (pss_cons (ps_set (i := 1) sc_spans.nd rfl (Or.inr rfl) (pe_lc (own := [("other", 2)]) (g := gName 2) (tt := tYes) rfl sc_spans.nd (pi_range1 rfl T.n_range (pa_cons (pe_fld (pv 0) rfl) pa_nil)) (blkOk_by (own := [("other", 2)]) (N := ["system", "columns", "other", "one", "column"]) (sc := defScope s_spans) (by decide +kernel)) (fun _ _ _ _ _ => pg_name (i := 2) sc_spans.nd rfl (Or.inl rfl)) (fun _ _ _ _ _ => pts_nil) (fun _ _ _ _ _ => (pe_ix (ix_tupK (K := K) rfl) (pe_cal C_settled_from (hr.mono (by decide)) (pa_cons (pe_fldK (K := K) rfl (pv 0) rfl) (pa_cons (pe_fldK (K := K) rfl (pv 0) rfl) (pa_cons (pv 2) pa_nil)))) pe_int (fun _ _ => rfl)))))
        (pss_one (ps_ret (pe_callTy call_tuple_of (by rfl) T.n_tuple (by decide +kernel) (pa_cons (pe_lc (own := [("one", 3)]) (g := gName 3) (tt := tYes) rfl sc_spans.nd (pi_range1 rfl T.n_range (pa_cons (pe_fld (pv 0) rfl) pa_nil)) (blkOk_by (own := [("one", 3)]) (N := ["system", "columns", "other", "one", "column"]) (sc := defScope s_spans) (by decide +kernel)) (fun _ _ _ _ _ => pg_name (i := 3) sc_spans.nd rfl (Or.inr rfl)) (fun _ _ _ _ _ => pts_nil) (fun _ _ _ _ _ => (pe_callTy (call_tuple_ofK (K := K) rfl) (by rfl) T.n_tuple (by decide +kernel) (pa_cons (pe_lc (own := [("column", 4)]) (g := gName 4) (tt := tYes) rfl sc_spans.nd (by exact (pi_listK (K := K) rfl (pv 1))) (by exact blkOk_by (by rfl)) (fun _ _ _ _ _ => pg_name (i := 4) (by exact sc_spans.nd) rfl (Or.inl rfl)) (fun _ _ _ _ _ => pts_nil) (fun _ _ _ _ _ => (pe_ix (ix_listK (K := K) rfl) (pv 4) (pv 3) (fun _ _ => rfl)))) pa_nil)))) pa_nil)))))), ?_⟩
    obtain ⟨dx, hself⟩ := X.self
    obtain ⟨ok, pos⟩ := LkOk.ix lok rfl
    refine ⟨_, rfl, p, t, n, us, ls, rfl, X, lok, ln, ll, kE, fun bt bs H1 Tm S1 hbt => ?_⟩
    have X1 := X.same S1
    have hself1 := S1 _ _ hself
    have lenr : ∀ b, (rch ls n b).length = n := fun b => by
      have ok' : IxOk (og n b).length (nls ls) := by rw [og_len]; exact ok
      have := (sett_kept ok' (sett_keeps ok' Tm.2)).1
      rw [og_len] at this
      exact this
    refine ⟨_, rfl, p, _, _, _, _, rfl, hself1, T.cl_System, T.na_System _ (by decide), rfl, (n : Int), rfl, by omega, by omega, fun D nD => lc_range (fun i H' => Same H1 H' ∧ ∃ cs, H' D = some (.lst cs) ∧ Paired (fun v b => ∃ c, v = V.ref c ∧ c ≠ D ∧ H' c = some (.lst ((rch ls n b).map oiV))) cs (List.range i)) ⟨sNew nD, [], upd_same, .nil⟩ ?_ ?_⟩
    · rintro i H' hi ⟨S2, cs, hD, hc⟩
      have hi : i < n := by omega
      have hself2 := S2 _ _ hself1
      have X2 := X1.same S2
      refine ⟨rfl, _, rfl, p, _, _, _, _, rfl, hself2, T.cl_System, T.na_System _ (by decide), rfl, _, rfl, p, _, _, _, _, rfl, hself2, T.cl_System, T.na_System _ (by decide), rfl, _, rfl, t, us, ls, n, i, by rw [Int.zero_add]; rfl, ⟨X2.rows, X2.each⟩, ln, ll, ok, pos, fun R A B H3 S3 nA nB hA hB hR => ?_⟩
      have lc := hc.length
      rw [List.length_range] at lc
      refine ⟨R, _, _, _, rfl, rfl, SqT.of hR, atI_nat (j := 0) rfl, ?_⟩
      have nDA : A ≠ D := fun e => by rw [e, hD] at nA; cases nA
      refine ⟨_, S3 _ _ hD, small1000 (by omega), same_upd (S2.trans S3) nD, _, upd_same, ?_⟩
      rw [List.range_succ]
      refine Paired.appendP (Paired.impP (fun v b h => ?_) hc) (.cons ⟨A, rfl, nDA, by rw [upd_ne nDA]; exact hA⟩ .nil)
      obtain ⟨c, rfl, nc, q⟩ := h
      exact ⟨c, rfl, nc, by rw [upd_ne nc]; exact S3 _ _ q⟩
    · rintro H2 ⟨S2, cs, hD, hc⟩
      have lcs := hc.length
      rw [List.length_range] at lcs
      rw [Int.toNat_natCast] at lcs hc
      have hself2 := S2 _ _ hself1
      refine ⟨_, rfl, p, _, _, _, _, rfl, hself2, T.cl_System, T.na_System _ (by decide), rfl, (n : Int), rfl, by omega, by omega, fun L nL => lc_range (fun i H' => Same H2 H' ∧ ∃ rs, H' L = some (.lst rs) ∧ Paired (fun v a => ∃ r, v = V.ref r ∧ r ≠ L ∧ H' r = some (.tup (rowO ls n a))) rs (List.range i)) ⟨sNew nL, [], upd_same, .nil⟩ ?_ ?_⟩
      · rintro i H' hi ⟨S3, rs, hL, hr⟩
        have hi : i < n := by omega
        have lr := hr.length
        rw [List.length_range] at lr
        refine ⟨rfl, _, rfl, D, rfl, ⟨_, SqL.of (S3 _ _ hD)⟩, fun M nM => lc_list (K := K) (a := D) (xs := cs) (fun j H3 => H3 = upd H' M (.lst ((List.range j).map fun b => oiV (gO (rch ls n b) i)))) rfl (fun j H3 _ q => by rw [q]; exact SqL.of (sNew nM _ _ (S3 _ _ hD))) ?_ ?_⟩
        · rintro j xv H3 hx rfl
          have hj := (List.getElem?_eq_some_iff.mp hx).1
          obtain ⟨b, hb, c, rfl, nc, hcc⟩ := Paired.at hc hx
          obtain ⟨hb1, rfl⟩ : j < n ∧ j = b := by
            rw [List.getElem?_range (by omega)] at hb
            exact ⟨by omega, Option.some.inj hb⟩
          refine ⟨rfl, _, rfl, _, rfl, c, _, i, _, rfl, by rw [Int.zero_add], SqL.of (sNew nM _ _ (S3 _ _ hcc)), atI_nat (oi_at (by rw [lenr]; exact hi)), ?_⟩
          refine ⟨_, upd_same, small1000 (by rw [List.length_map, List.length_range]; omega), ?_⟩
          rw [upd_upd, List.range_succ, List.map_append]
          rfl
        · rintro H3 rfl
          rw [lcs]
          refine ⟨M, _, rfl, .inl ⟨SqL.of upd_same, fun r nr => ?_⟩⟩
          have SM := sNew (o := .lst (rowO ls n i)) nM
          have SR := sNew (o := .tup (rowO ls n i)) nr
          have nrL : r ≠ L := fun e => by
            rw [e] at nr
            have q := SM _ _ hL
            rw [show upd H' M (.lst (rowO ls n i)) L = none from nr] at q
            cases q
          have S4 := SM.trans SR
          refine ⟨_, S4 _ _ hL, small1000 (by omega), same_upd (S3.trans S4) nL, _, upd_same, ?_⟩
          rw [List.range_succ]
          refine Paired.appendP (Paired.impP (fun v b h => ?_) hr) (.cons ⟨r, rfl, nrL, by rw [upd_ne nrL]; exact upd_same⟩ .nil)
          obtain ⟨c, rfl, nc, q⟩ := h
          exact ⟨c, rfl, nc, by rw [upd_ne nc]; exact S4 _ _ q⟩
      · rintro H3 ⟨S3, rs, hL, hr⟩
        rw [Int.toNat_natCast] at hr
        refine ⟨L, _, rfl, .inl ⟨SqL.of hL, fun R nR => ?_⟩⟩
        have SR := sNew (o := .tup rs) nR
        exact kQ R _ bs Tm (S1.trans (S2.trans (S3.trans SR))) ⟨rs, upd_same, Paired.impP (fun v a ⟨r, e, _, q⟩ => ⟨r, e, SR _ _ q⟩) hr⟩
theorem cal_spans (T : Txt P w K mg cl) : Cal P w K mg base (L2.CX P w) 5 "spans" ["system"] (spSpans (cl "System") (cl "NoTimes")) := by
  obtain ⟨f, fd, F, m⟩ := T.d_spans
  exact ⟨f, fd, ok_spans F T, m, F.kp, F.binds fun _ _ _ _ _ _ us hl => match us, hl with | [_], _ => rfl⟩
end
end My
set_option Elab.async false
set_option linter.all false
set_option maxRecDepth 100000
set_option maxHeartbeats 1000000
namespace My
open PySem L2 Dw Wp
open C8 (pss_cut tCut)
set_option pp.maxSteps 600
open Bf
theorem okI (is : List Int) : ∀ x ∈ is.map V.int, okV x = true := fun x hx => by
  obtain ⟨i, _, rfl⟩ := List.mem_map.mp hx
  rfl
theorem dpI {K : PySem.W.Frag} {H : Hp} {q : Addr} {is : List Int} (h : H q = some (.lst (is.map V.int))) : Dp K H (.ref q) (sqD true ((is.map V.int).map vD)) := dp_lst (SqL.of h) (dpvs fun x hx => okV.flat (okI is x hx))
theorem eqv_ints (l : Bool) : ∀ is js : List Int, PyData.eqv (sqD l ((is.map V.int).map vD)) (sqD l ((js.map V.int).map vD)) = decide (is = js) := by
  have all : ∀ is js : List Int, PyData.eqvAll ((is.map V.int).map vD) ((js.map V.int).map vD) = decide (is = js) := fun is => by
    induction is with
    | nil => intro js; cases js <;> simp [PyData.eqvAll]
    | cons i is ih =>
      intro js
      cases js with
      | nil => simp [PyData.eqvAll]
      | cons j js =>
        have e : PyData.eqvAll (((i :: is).map V.int).map vD) (((j :: js).map V.int).map vD) = (PyData.eqv (vD (.int i)) (vD (.int j)) && PyData.eqvAll ((is.map V.int).map vD) ((js.map V.int).map vD)) := by
          simp [PyData.eqvAll]
        have e2 : PyData.eqv (vD (.int i)) (vD (.int j)) = decide (i = j) := by
          simp [vD, PyData.eqv]
          rfl
        rw [e, ih, e2]
        by_cases g : i = j <;> by_cases g2 : is = js <;> simp [g, g2]
  intro is js
  rw [← all]
  cases l <;> simp only [sqD, PyData.eqv] <;> rfl
theorem in_ints (i : Int) : ∀ is : List Int, inV (.int i) (is.map V.int) = is.contains i
  | [] => rfl
  | j :: is => by
    have ih := in_ints i is
    show (eqV (.int j) (.int i) || inV (.int i) (is.map V.int)) = _
    rw [ih, List.contains_cons]
    have : eqV (.int j) (.int i) = (i == j) := by
      show decide (j = i) = (i == j)
      by_cases g : j = i
      · simp [g]
      · simp [g, Ne.symm g]
    rw [this]
theorem op_in_seqK {X : Cx} {K : PySem.W.Frag} (h : X.K = K) : OpR X (compareOp .In) (rIn K false) := h ▸ op_in_seq
theorem op_notIn_seqK {X : Cx} {K : PySem.W.Frag} (h : X.K = K) : OpR X (compareOp .NotIn) (rIn K true) := h ▸ op_notIn_seq
theorem flatI (is : List Int) : (is.map V.int).all flatV = true := List.all_eq_true.mpr fun x hx => okV.flat (okI is x hx)
/-- the places among n that are named -/
def knw (n : Nat) (ap : List Int) : List Int := ((List.range n).filter fun (v : Nat) => ap.contains (v : Int)).map fun (v : Nat) => (v : Int)
def leak (ls : List Lk) (ap : List Int) : Bool := ls.any fun l => ap.contains l.1 && !ap.contains l.2.1
def apW (ls : List Lk) (n : Nat) (a b : Int) (ap : List Int) : Option Str :=
  if ap = knw n ap then (if ap.contains a = true then (if ap.contains b = true then some "other" else if leak ls ap = true then some "leak" else none) else some "one") else some "apart"
def spAp (C : Addr) : Sp := fun vs H Q _ => ∃ (p t q : Addr) (n : Nat) (us : List V) (ls : List Lk) (a b : Int) (ap : List Int), vs = [.ref p, .int a, .int b, .ref q] ∧ SyAt C H p (n : Nat) t us ls ∧ n ≤ 800 ∧ H q = some (.tup (ap.map V.int)) ∧ ap.length ≤ 800 ∧ ∀ H', Same H H' → Q (optV (apW ls n a b ap)) H'
section
variable {P : Program} {w : World} {K : PySem.W.Frag} {mg : Str → Option Value} {base : Heap} {cl : String → Addr}
theorem ok_apart_fault {f : Addr} {fd : FuncData} (F : Fun K "apart_fault" "apart_fault" s_apart_fault f fd) (T : Txt P w K mg cl) : FnOk P w K mg base CX0 1 f fd ["system", "one", "other", "apart"] (spAp (cl "System")) := by
  refine F.ok sc_apart_fault (fun vs H Q E h => ?_) (fun cdv A outer s H vs Q E hr h => ?_)
  · obtain ⟨p, t, q, n, us, ls, a, b, ap, rfl, _⟩ := h
    rfl
  · obtain ⟨p, t, q, n, us, ls, a, b, ap, rfl, X, ln, hq, lap, k⟩ := h
    refine ⟨_, (pss_cons (ps_setLc (i := 4) (own := [("place", 8)]) (g := gName 8)  rfl sc_apart_fault.nd rfl rfl (sw_true rfl rfl rfl (by decide +kernel)) (pi_range1 rfl T.n_range (pa_cons (pe_fld (pv 0) rfl) pa_nil)) (blkOk_by (own := [("place", 8)]) (N := ["system", "one", "other", "apart", "known", "first", "second", "_", "place"]) (sc := defScope s_apart_fault) (by decide +kernel)) (fun _ _ _ _ _ => pg_name (i := 8) sc_apart_fault.nd rfl (Or.inl rfl)) (fun _ _ _ _ _ => pts_one (pt_cmpR (op_in_seqK (K := K) rfl) (pv 8) (pv 3) (by rfl))) (fun _ _ _ _ _ => (pv 8)))
        (pss_cons (ps_if (pt_cmpR (op_neD hr.units) (pe_callTy call_list_of (by rfl) T.n_list (by decide +kernel) (pa_cons (pv 3) pa_nil)) (pv 4) (nomark _))
          (pss_one (ps_ret pe_str)) pss_nil)
        (pss_cons (ps_if (pt_cmpR op_notIn_seq (pv 1) (pv 3) (by rfl))
          (pss_one (ps_ret pe_str)) pss_nil)
        (pss_cons (ps_if (pt_cmpR op_in_seq (pv 2) (pv 3) (by rfl))
          (pss_one (ps_ret pe_str)) pss_nil)
        (pss_cons (ps_for PassesOwn.never rfl (pi_tup (pe_fld (pv 0) rfl)) (pg_tup rfl (pgs_cons (pg_name (i := 5) sc_apart_fault.nd rfl (Or.inl rfl)) (pgs_cons (pg_name (i := 6) sc_apart_fault.nd rfl (Or.inl rfl)) (pgs_cons (pg_name (i := 7) sc_apart_fault.nd rfl (Or.inl rfl)) pgs_nil))))
          (pss_one (ps_if (PW.pt (pw_and (pt_cmpR op_in_seq (pv 5) (pv 3) (by rfl)) (pw_and1 (pt_cmpR op_notIn_seq (pv 6) (pv 3) (by rfl)))))
              (pss_one (ps_ret pe_str)) pss_nil)))
        (pss_one (ps_ret pe_non))))))), ?_⟩
    obtain ⟨dx, hself⟩ := X.self
    have lapm : (ap.map V.int).length = ap.length := List.length_map _
    refine ⟨_, rfl, p, _, _, _, _, rfl, hself, T.cl_System, T.na_System _ (by decide), rfl, (n : Int), rfl, by omega, by omega, fun D nD => lc_range (fun i H' => H' = upd H D (.lst ((knw i ap).map V.int))) rfl ?_ ?_⟩
    · rintro i H' hi rfl
      have hi : i < n := by omega
      have sz : ((knw i ap).map V.int).length < sizeLine := small1000 (by
        unfold knw
        rw [List.length_map, List.length_map]
        have := List.length_filter_le (fun v => ap.contains ((v : Nat) : Int)) (List.range i)
        rw [List.length_range] at this
        omega)
      refine ⟨rfl, _, rfl, _, rfl, q, _, rfl, .inr (SqT.of (sNew nD _ _ hq)), rfl, flatI ap, _, rfl, ?_⟩
      rw [in_ints, Int.zero_add]
      have st : knw (i + 1) ap = knw i ap ++ if ap.contains (i : Int) = true then [(i : Int)] else [] := by
        unfold knw
        rw [List.range_succ, List.filter_append, List.map_append]
        congr 1
        rw [List.filter_cons, List.filter_nil]
        split <;> rfl
      refine ite2 (fun g => ?_) (fun g => ?_)
      · refine ⟨_, rfl, _, upd_same, sz, ?_⟩
        have g : ap.contains (i : Int) = true := g
        rw [upd_upd, st, if_pos g, List.map_append]
        rfl
      · have g : ¬ ap.contains (i : Int) = true := g
        rw [st, if_neg g, List.append_nil]
    · rintro H' rfl
      rw [Int.toNat_natCast]
      have S1 := sNew (o := .lst ((knw n ap).map V.int)) nD
      refine ⟨_, rfl, q, _, rfl, .inr (SqT.of (S1 _ _ hq)), fun L nL => ?_⟩
      have S2 := sNew (o := .lst (ap.map V.int)) nL
      have S := S1.trans S2
      refine ⟨_, rfl, _, _, dpI (upd_same), dpI (S2 _ _ upd_same), row_shaped true (okI _), row_shaped true (okI _), _, rfl, ?_⟩
      rw [eqv_ints]
      have k := k _ S
      unfold apW at k
      by_cases g1 : ap = knw n ap
      rotate_left
      · rw [if_neg g1] at k
        rw [decide_eq_false g1]
        exact iteT k
      rw [if_pos g1] at k
      rw [decide_eq_true g1]
      refine iteF ?_
      have hq2 := S _ _ hq
      refine ⟨_, rfl, _, rfl, q, _, rfl, .inr (SqT.of hq2), rfl, flatI ap, _, rfl, ?_⟩
      rw [in_ints]
      cases ha : ap.contains a with
      | false =>
        rw [ha] at k
        exact iteT k
      | true =>
        rw [ha] at k
        refine iteF ⟨_, rfl, _, rfl, q, _, rfl, .inr (SqT.of hq2), rfl, flatI ap, _, rfl, ?_⟩
        rw [in_ints]
        cases hb : ap.contains b with
        | true =>
          rw [hb] at k
          exact iteT k
        | false =>
          rw [hb] at k
          refine iteF ?_
          have X2 := X.same S
          refine ⟨_, rfl, p, _, _, _, _, rfl, S _ _ hself, T.cl_System, T.na_System _ (by decide), rfl, t, rfl, ⟨_, SqT.of X2.rows⟩, ?_⟩
          refine for_tup (K := K) (a := t) (xs := us) (fun j σ H3 => H3 = upd (upd H D (.lst ((knw n ap).map V.int))) L (.lst (ap.map V.int)) ∧ leak ls ap = leak (ls.drop j) ap ∧ ∃ v5 v6 v7 : Option V, σ = [some (.ref p), some (.int a), some (.int b), some (.ref q), some (.ref D), v5, v6, v7, none]) ⟨rfl, rfl, none, none, none, rfl⟩ (fun j σ H3 _ z => by rw [z.1]; exact SqT.of X2.rows) ?_ ?_
          · rintro j xv σ H3 hx ⟨rfl, el, v5, v6, v7, rfl⟩
            obtain ⟨l, hl, bb, rfl, hbb⟩ := Paired.at X2.each hx
            rw [take_drop_at hl] at el
            have st : leak (l :: ls.drop (j + 1)) ap = ((ap.contains l.1 && !ap.contains l.2.1) || leak (ls.drop (j + 1)) ap) := rfl
            rw [st] at el
            refine ⟨bb, _, rfl, SqT.of hbb, rfl, _, _, rfl, _, _, rfl, _, _, rfl, rfl, ?_⟩
            refine ⟨_, rfl, _, rfl, q, _, rfl, .inr (SqT.of hq2), rfl, flatI ap, _, rfl, ?_⟩
            rw [in_ints]
            cases h1 : ap.contains l.1 with
            | false =>
              rw [h1] at el
              exact iteF (iteF ⟨rfl, el, _, _, _, rfl⟩)
            | true =>
              rw [h1] at el
              refine iteT ⟨_, rfl, _, rfl, q, _, rfl, .inr (SqT.of hq2), rfl, flatI ap, _, rfl, ?_⟩
              rw [in_ints]
              cases h2 : ap.contains l.2.1 with
              | true =>
                rw [h2] at el
                exact iteF ⟨rfl, el, _, _, _, rfl⟩
              | false =>
                rw [h2] at el
                have el : leak ls ap = true := el
                rw [el] at k
                exact iteT k
          · rintro σ H3 ⟨rfl, el, v5, v6, v7, rfl⟩
            rw [List.drop_of_length_le (by rw [X2.each.length]; exact Nat.le_refl _)] at el
            have el : leak ls ap = false := el
            rw [el] at k
            exact k
theorem cal_apart_fault (T : Txt P w K mg cl) : Cal P w K mg base CX0 1 "apart_fault" ["system", "one", "other", "apart"] (spAp (cl "System")) := by
  obtain ⟨f, fd, F, m⟩ := T.d_apart_fault
  exact ⟨f, fd, ok_apart_fault F T, m, F.kp, F.binds fun _ _ _ _ _ _ us hl => match us, hl with | [_, _, _, _], _ => rfl⟩
end
end My
set_option Elab.async false
set_option linter.all false
set_option maxRecDepth 100000
set_option maxHeartbeats 1000000
namespace My
open PySem L2 Dw Wp
open C8 (pss_cut tCut)
set_option pp.maxSteps 600
open Bf
def tmW (ls : List Lk) (n : Nat) (ts : List Int) : Option Str := if ts.length = n then (if (brk ls ts).isEmpty = true then none else some "link") else some "count"
def orW (w v : Option Str) : Option Str := match w with
  | some x => some x
  | none => v
/-- the word of an answer with a path -/
def gfW (ls : List Lk) (n a b : Nat) (am : Int) (is : List Int) (ts : List Int) : Option Str :=
  if is.all (isIx ls.length) = false then some "index" else orW (pathN ls (is.map Int.toNat) (b : Nat) (a : Nat)) (if sumO ls (is.map Int.toNat) = am then orW (tmW ls n ts) (if kF ts a - kF ts b = am then none else some "amount") else some "sum")
def egW (ls : List Lk) (n a b : Nat) (ap : List Int) (ts : List Int) : Option Str := orW (apW ls n (a : Nat) (b : Nat) ap) (tmW ls n ts)
def GaAt (CG : Addr) (H : Hp) (q : Addr) (am : Int) (pa ta : Addr) (is ts : List Int) : Prop := (∃ dx, H q = some (.ins CG dx [("amount", .int am), ("path", .ref pa), ("times", .ref ta)])) ∧ H pa = some (intT is) ∧ H ta = some (intT ts)
def EaAt (CE : Addr) (H : Hp) (q : Addr) (pa ta : Addr) (is ts : List Int) : Prop := (∃ dx, H q = some (.ins CE dx [("apart", .ref pa), ("times", .ref ta)])) ∧ H pa = some (intT is) ∧ H ta = some (intT ts)
def spGF (K : PySem.W.Frag) (C CN CG CE : Addr) : Sp := fun vs H Q E => ∃ (p t q : Addr) (n : Nat) (us : List V) (ls : List Lk) (v1 v2 : V) (n1 n2 : String), vs = [.ref p, v1, v2, .ref q] ∧ SyAt C H p (n : Nat) t us ls ∧ (∀ l ∈ ls, LkOk (n : Nat) l) ∧ n ≤ 800 ∧ ls.length ≤ 800 ∧ Dm K H v1 n1 ∧ Dm K H v2 n2 ∧
  (isT (n : Nat) v1 = false → NoIn CN H E v1) ∧ (isT (n : Nat) v1 = true → isT (n : Nat) v2 = false → NoIn CN H E v2) ∧
  (∀ a b : Nat, v1 = .int (a : Nat) → v2 = .int (b : Nat) → a < n → b < n →
    (∃ am pa ta is ts, GaAt CG H q am pa ta is ts ∧ is.length ≤ 800 ∧ ts.length ≤ 800 ∧ ∀ H', Same H H' → Q (optV (gfW ls n a b am is ts)) H') ∨
    (∃ pa ta is ts, EaAt CE H q pa ta is ts ∧ is.length ≤ 800 ∧ ts.length ≤ 800 ∧ ∀ H', Same H H' → Q (optV (egW ls n a b is ts)) H'))
theorem natI (js : List Nat) : (js.map fun (i : Nat) => (i : Int)).map Int.toNat = js := by
  rw [List.map_map]
  exact (List.map_congr_left fun x _ => Int.toNat_natCast x).trans (List.map_id js)
section
variable {P : Program} {w : World} {K : PySem.W.Frag} {mg : Str → Option Value} {base : Heap} {cl : String → Addr}
/-- times_fault, told by one word -/
theorem tf_two {H : Hp} {Q : VK} {n : Nat} {ls : List Lk} {ts : List Int} (k : ∀ H', Same H H' → Q (optV (tmW ls n ts)) H') : (¬ (ts.length : Int) = (n : Nat) → ∀ H', Same H H' → Q (.str "count") H') ∧ ((ts.length : Int) = (n : Nat) → ∀ H', Same H H' → Q (if (brk ls ts).isEmpty = true then .non else .str "link") H') := by
  refine ⟨fun h H' S => ?_, fun h H' S => ?_⟩
  · have k := k H' S
    unfold tmW at k
    rw [if_neg (by omega)] at k
    exact k
  · have k := k H' S
    unfold tmW at k
    rw [if_pos (by omega)] at k
    split
    · rename_i g
      rw [if_pos g] at k
      exact k
    · rename_i g
      rw [if_neg g] at k
      exact k
theorem ok_greatest_fault {f : Addr} {fd : FuncData} (F : Fun K "greatest_fault" "greatest_fault" s_greatest_fault f fd) (T : Txt P w K mg cl) : FnOk P w K mg base (L2.CX P w) 5 f fd ["system", "one", "other", "answer"] (spGF K (cl "System") (cl "NoInstant") (cl "Greatest") (cl "Endless")) := by
  refine F.okX sc_greatest_fault (fun vs H Q E h => ?_) (fun cdv A outer s H vs Q E hr h => ?_)
  · obtain ⟨p, t, q, n, us, ls, v1, v2, n1, n2, rfl, _⟩ := h
    rfl
  · obtain ⟨p, t, q, n, us, ls, v1, v2, n1, n2, rfl, X, lok, ln, ll, d1, d2, k1, k2, kg⟩ := h
    have C_check_instant : Cal P w K mg base (L2.CX P w) 3 "check_instant" _ (spChk K (cl "System") (cl "NoInstant")) := cal_check_instant T
    have C_apart_fault : Cal P w K mg base CX0 1 "apart_fault" _ (spAp (cl "System")) := cal_apart_fault T
    have C_times_fault : Cal P w K mg base CX0 4 "times_fault" _ (spTF K (cl "System")) := cal_times_fault T
    have C_path_fault : Cal P w K mg base CX0 3 "path_fault" _ (spPF (cl "System")) := cal_path_fault T
    have C_sum_of : Cal P w K mg base CX0 1 "sum_of" _ spSum := cal_sum_of T
    refine ⟨_, (pss_cons (ps_expr (pe_calS C_check_instant (hr.mono (by decide)) (fun σ => passAt (takes_of rfl rfl rfl rfl) σ) (pa_cons (pv 0) (pa_cons (pv 1) pa_nil))))
        (pss_cons (ps_expr (pe_calS C_check_instant (hr.mono (by decide)) (fun σ => passAt (takes_of rfl rfl rfl rfl) σ) (pa_cons (pv 0) (pa_cons (pv 2) pa_nil))))
        (pss_cons (ps_set (i := 4) sc_greatest_fault.nd rfl (Or.inl rfl) (pe_fld (pv 3) rfl))
        (pss_cons (ps_if (pt_val (pe_callB call_isi (by rfl) T.n_isinstance (by decide +kernel) (pa_cons (pv 3) (pa_cons (pe_cls T.m_Endless) pa_nil))))
          (pss_cons (ps_set (i := 5) sc_greatest_fault.nd rfl (Or.inl rfl) (pe_cal C_apart_fault (hr.mono (by decide)) (pa_cons (pv 0) (pa_cons (pv 1) (pa_cons (pv 2) (pa_cons (pe_fld (pv 3) rfl) pa_nil))))))
            (pss_one (ps_ret (pe_ifExp (pt_cmpR op_isN (pv 5) pe_non (nomark _)) (pe_cal C_times_fault (hr.mono (by decide)) (pa_cons (pv 0) (pa_cons (pv 4) pa_nil))) (pv 5))))) pss_nil)
        (pss_cons (ps_set (i := 5) sc_greatest_fault.nd rfl (Or.inl rfl) (pe_cal C_path_fault (hr.mono (by decide)) (pa_cons (pv 0) (pa_cons (pe_fld (pv 3) rfl) (pa_cons (pv 2) (pa_cons (pv 1) pa_nil))))))
        (pss_cons (ps_if (pt_cmpR op_notN (pv 5) pe_non (nomark _))
          (pss_one (ps_ret (pv 5))) pss_nil)
        (pss_cons (ps_if (pt_cmpR op_ne (pe_cal C_sum_of (hr.mono (by decide)) (pa_cons (pe_fld (pv 0) rfl) (pa_cons (pe_fld (pv 3) rfl) pa_nil))) (pe_fld (pv 3) rfl) (nomark _))
          (pss_one (ps_ret pe_str)) pss_nil)
        (pss_cons (ps_set (i := 5) sc_greatest_fault.nd rfl (Or.inl rfl) (pe_cal C_times_fault (hr.mono (by decide)) (pa_cons (pv 0) (pa_cons (pv 4) pa_nil))))
        (pss_cons (ps_if (pt_cmpR op_notN (pv 5) pe_non (nomark _))
          (pss_one (ps_ret (pv 5))) pss_nil)
        (pss_one (ps_ret (pe_ifExp (pt_cmpR op_eq (pe_op op_sub (pe_ix ix_tup (pv 4) (pv 1) (fun _ _ => rfl)) (pe_ix ix_tup (pv 4) (pv 2) (fun _ _ => rfl))) (pe_fld (pv 3) rfl) (nomark _)) pe_non pe_str)))))))))))), ?_⟩
    obtain ⟨dx, hself⟩ := X.self
    refine ⟨_, rfl, _, rfl, p, t, n, us, ls, v1, n1, rfl, X, d1, fun h1 => ?_, k1⟩
    refine ⟨_, rfl, _, rfl, p, t, n, us, ls, v2, n2, rfl, X, d2, fun h2 => ?_, k2 h1⟩
    obtain ⟨a, rfl, an⟩ := isT_nat h1
    obtain ⟨b, rfl, bn⟩ := isT_nat h2
    rcases kg a b rfl rfl an bn with ⟨am, pa, ta, is, ts, ⟨⟨dq, hq⟩, hpa, hta⟩, li, lt, k⟩ | ⟨pa, ta, ap, ts, ⟨⟨dq, hq⟩, hpa, hta⟩, li, lt, k⟩
    · refine ⟨_, rfl, q, _, _, _, _, rfl, hq, T.cl_Greatest, T.na_Greatest _ (by decide), rfl, ?_⟩
      refine ⟨_, rfl, _, _, _, _, _, rfl, .own (cl "Endless"), .base (.ins hq T.cl_Greatest T.y_Greatest T.z1 T.z2 T.z3_Greatest), T.k_Gr_En, _, rfl, iteF ?_⟩
      refine ⟨_, rfl, _, rfl, q, _, _, _, _, rfl, hq, T.cl_Greatest, T.na_Greatest _ (by decide), rfl, _, rfl, _, rfl, p, t, pa, n, us, ls, is, (b : Nat), (a : Nat), rfl, X, by omega, .inr hpa, by omega, fun hx H1 S1 => ?_, fun js ej hj H1 S1 => ?_⟩
      · have k := k H1 S1
        unfold gfW at k
        rw [if_pos hx] at k
        exact ⟨_, rfl, rfl, _, rfl, iteT ⟨_, rfl, k⟩⟩
      · have hx : is.all (isIx ls.length) = true := by
          rw [ej]
          refine List.all_eq_true.mpr fun x hx => ?_
          obtain ⟨j, h, rfl⟩ := List.mem_map.mp hx
          have := hj j h
          unfold isIx
          rw [decide_eq_true (Int.natCast_nonneg j), decide_eq_true (show (j : Int) < (ls.length : Int) by omega)]
          rfl
        unfold gfW at k
        rw [if_neg (by rw [hx]; decide)] at k
        rw [ej, natI] at k
        cases hw : pathN ls js (b : Nat) (a : Nat) with
        | some x =>
          have k := k H1 S1
          rw [hw] at k
          exact ⟨_, rfl, rfl, _, rfl, iteT ⟨_, rfl, k⟩⟩
        | none =>
          rw [hw] at k
          have k : ∀ H', Same H H' → Q (optV (if sumO ls js = am then orW (tmW ls n ts) (if kF ts a - kF ts b = am then (none : Option Str) else some ("amount" : Str)) else some ("sum" : Str))) H' := k
          refine ⟨_, rfl, rfl, _, rfl, iteF ?_⟩
          have X1 := X.same S1
          have hself1 := S1 _ _ hself
          have hq1 := S1 _ _ hq
          rw [ej] at hpa
          refine ⟨_, rfl, p, _, _, _, _, rfl, hself1, T.cl_System, T.na_System _ (by decide), rfl, _, rfl, q, _, _, _, _, rfl, hq1, T.cl_Greatest, T.na_Greatest _ (by decide), rfl, t, pa, us, ls, js, rfl, ⟨X1.rows, X1.each⟩, .inr (S1 _ _ hpa), by rw [ej, List.length_map] at li; omega, hj, fun H2 S2 => ?_⟩
          refine ⟨_, rfl, q, _, _, _, _, rfl, S2 _ _ hq1, T.cl_Greatest, T.na_Greatest _ (by decide), rfl, ?_⟩
          refine ⟨rfl, _, rfl, ite2 (fun g => ?_) (fun g => ?_)⟩
          · have g : ¬ sumO ls js = am := fun z => by
              rw [z] at g
              simp at g
            rw [if_neg g] at k
            exact k H2 (S1.trans S2)
          have g : sumO ls js = am := by
            by_cases z : sumO ls js = am
            · exact z
            · exfalso
              refine g ?_
              show (!decide (V.int _ = V.int _)) = true
              rw [decide_eq_false fun e => z (V.int.inj e)]
              rfl
          rw [if_pos g] at k
          have S := S1.trans S2
          have hta2 := S _ _ hta
          refine ⟨_, rfl, _, rfl, p, t, ta, n, us, ls, ts, rfl, X.same S, lok, by omega, hta2, by omega, fun h H3 S3 => ?_, fun h H3 S3 => ?_⟩
          · have hw2 : tmW ls n ts = some ("count" : Str) := by
              unfold tmW
              rw [if_neg (by omega)]
            have k := k H3 (S.trans S3)
            rw [hw2] at k
            exact ⟨_, rfl, rfl, _, rfl, iteT ⟨_, rfl, k⟩⟩
          have lts : ts.length = n := by omega
          have S := S.trans S3
          have tm : tmW ls n ts = if (brk ls ts).isEmpty = true then (none : Option Str) else some ("link" : Str) := by
            unfold tmW
            rw [if_pos lts]
          cases hb : (brk ls ts).isEmpty with
          | false =>
            rw [hb] at tm
            have k := k H3 S
            rw [tm] at k
            exact ⟨_, rfl, rfl, _, rfl, iteT ⟨_, rfl, k⟩⟩
          | true =>
            rw [hb] at tm
            have k := k H3 S
            rw [tm] at k
            have k : Q (optV (if kF ts a - kF ts b = am then (none : Option Str) else some ("amount" : Str))) H3 := k
            have hta3 := S3 _ _ hta2
            refine ⟨_, rfl, rfl, _, rfl, iteF ?_⟩
            refine ⟨_, rfl, _, rfl, ta, _, _, _, rfl, rfl, SqT.of hta3, atI_nat (kF_at (by omega)), _, rfl, _, rfl, ta, _, _, _, rfl, rfl, SqT.of hta3, atI_nat (kF_at (by omega)), _, _, rfl, rfl, _, rfl, q, _, _, _, _, rfl, S _ _ hq, T.cl_Greatest, T.na_Greatest _ (by decide), rfl, rfl, _, rfl, ?_⟩
            refine ite2 (fun g => ?_) (fun g => ?_)
            · rw [if_pos (V.int.inj (of_decide_eq_true g))] at k
              exact k
            · rw [if_neg fun z => g (decide_eq_true (congrArg V.int z))] at k
              exact k
    · refine ⟨_, rfl, q, _, _, _, _, rfl, hq, T.cl_Endless, T.na_Endless _ (by decide), rfl, ?_⟩
      refine ⟨_, rfl, _, _, _, _, _, rfl, .own (cl "Endless"), .base (.ins hq T.cl_Endless T.y_Endless T.z1 T.z2 T.z3_Endless), T.k_En_En, _, rfl, iteT ?_⟩
      refine ⟨_, rfl, _, rfl, _, rfl, _, rfl, q, _, _, _, _, rfl, hq, T.cl_Endless, T.na_Endless _ (by decide), rfl, p, t, pa, n, us, ls, _, _, ap, rfl, X, ln, hpa, li, fun H1 S1 => ?_⟩
      unfold egW at k
      cases hw : apW ls n (a : Nat) (b : Nat) ap with
      | some x =>
        rw [hw] at k
        exact ⟨_, rfl, rfl, _, rfl, iteF ⟨_, rfl, k H1 S1⟩⟩
      | none =>
        rw [hw] at k
        refine ⟨_, rfl, rfl, _, rfl, iteT ?_⟩
        have k : ∀ H', Same H H' → Q (optV (tmW ls n ts)) H' := k
        obtain ⟨q1, q2⟩ := tf_two (Q := Q) (H := H1) (fun H2 S2 => k H2 (S1.trans S2))
        exact ⟨_, rfl, _, rfl, p, t, ta, n, us, ls, ts, rfl, X.same S1, lok, by omega, S1 _ _ hta, by omega, q1, q2⟩
theorem cal_greatest_fault (T : Txt P w K mg cl) : Cal P w K mg base (L2.CX P w) 5 "greatest_fault" ["system", "one", "other", "answer"] (spGF K (cl "System") (cl "NoInstant") (cl "Greatest") (cl "Endless")) := by
  obtain ⟨f, fd, F, m⟩ := T.d_greatest_fault
  exact ⟨f, fd, ok_greatest_fault F T, m, F.kp, F.binds fun _ _ _ _ _ _ us hl => match us, hl with | [_, _, _, _], _ => rfl⟩
end
end My
set_option Elab.async false
set_option linter.all false
set_option maxRecDepth 100000
set_option maxHeartbeats 1000000
namespace My
open PySem L2 Dw Wp
open C8 (pss_cut tCut)
set_option pp.maxSteps 600
open Bf
theorem eqv_nilE (ds : List PyData) : PyData.eqv (sqD true ds) (sqD true []) = ds.isEmpty := by
  cases ds <;> simp [sqD, PyData.eqv, PyData.eqvAll]
theorem ts_at {ss : List Int} {z : Int} (h0 : 0 ≤ z) (h : z.toNat < ss.length) : atI (ss.map V.int) z = some (.int ss[z.toNat]) := by
  obtain ⟨n, rfl⟩ : ∃ n : Nat, z = (n : Int) := ⟨z.toNat, by omega⟩
  exact atI_nat (j := n) (by rw [List.getElem?_map, List.getElem?_eq_getElem (show n < ss.length from h)]; rfl)
def spLAre : Sp := fun vs H Q _ => ∃ (a : Addr) (ts : List Int) (c : Int), vs = [.ref a, .int c] ∧ H a = some (intT ts) ∧ ts.length ≤ 800 ∧ ∀ H', Same H H' → Q (.bl (decide ((ts.length : Int) = c))) H'
def spLKeep : Sp := fun vs H Q _ => ∃ (g a : Addr) (us : List V) (ls : List Lk) (ts : List Int), vs = [.ref g, .ref a] ∧ LlT H g us ls ∧ IsAt H a ts ∧ (∀ l ∈ ls, LkOk (ts.length : Nat) l) ∧ ls.length ≤ 800 ∧ ∀ H', Same H H' → Q (.bl (brk ls ts).isEmpty) H'
def spLds : Sp := fun vs H Q _ => ∃ (g pa : Addr) (us : List V) (ls : List Lk) (js : List Nat) (st en : Nat), vs = [.ref g, .ref pa, .int (st : Nat), .int (en : Nat)] ∧ LlT H g us ls ∧ H pa = some (natT js) ∧ Pos ls ∧ js.length ≤ 800 ∧ Leads (nls ls) js st en ∧ Q (.bl true) H
def spLSum : Sp := fun vs H Q _ => ∃ (g pa : Addr) (us : List V) (ls : List Lk) (js : List Nat), vs = [.ref g, .ref pa] ∧ LlT H g us ls ∧ H pa = some (natT js) ∧ js.length ≤ 800 ∧ (∀ i ∈ js, i < ls.length) ∧ ∀ H', Same H H' → Q (.int (sumO ls js)) H'
def spBars : Sp := fun vs H Q _ => ∃ (g pa : Addr) (us : List V) (ls : List Lk) (js : List Nat) (n : Nat), vs = [.ref g, .ref pa] ∧ LlT H g us ls ∧ H pa = some (natT js) ∧ Pos ls ∧ n ≤ 800 ∧ RingP ls n js ∧ ∀ H', Same H H' → Q (.bl true) H'
theorem ll_at {H : Hp} {t : Addr} {us : List V} {ls : List Lk} {i : Nat} (hL : LlT H t us ls) (h : i < ls.length) : ∃ b, us[i]? = some (.ref b) ∧ H b = some (.tup (lkV ls[i])) := by
  obtain ⟨v, hv, b, rfl, hb⟩ := Paired.at' (i := i) (y := ls[i]) hL.2 (List.getElem?_eq_getElem h)
  exact ⟨b, hv, hb⟩
theorem sumO_nl (ls : List Lk) (js : List Nat) : smI (nls ls) js = sumO ls js := by
  unfold smI sumO
  congr 1
  refine List.map_congr_left fun i _ => ?_
  unfold nls
  rw [List.getElem?_map]
  cases ls[i]? <;> rfl
theorem Leads.lt {ls : List Lk} : ∀ {js : List Nat} {a b : Nat}, Leads (nls ls) js a b → ∀ j ∈ js, j < ls.length
  | [], _, _, _, j, h => by cases h
  | i :: is, a, b, ⟨l, h1, _, h3⟩, j, h => by
    rcases List.mem_cons.mp h with rfl | h
    · obtain ⟨l', k1, _⟩ := nls_at h1
      exact (List.getElem?_eq_some_iff.mp k1).1
    · exact Leads.lt h3 j h
theorem okN (js : List Nat) : ∀ x ∈ js.map fun (i : Nat) => V.int i, okV x = true := fun x hx => by
  obtain ⟨i, _, rfl⟩ := List.mem_map.mp hx
  rfl
section
variable {P : Program} {w : World} {K : PySem.W.Frag} {mg : Str → Option Value} {base : Heap} {cl : String → Addr}
theorem ok_L_are_times {f : Addr} {fd : FuncData} (F : Fun K "_law_are_times" "_law_are_times" s_L_are_times f fd) (T : Txt P w K mg cl) : FnOk P w K mg base CX0 2 f fd ["_law_thing", "_law_count"] (spLAre) := by
  refine F.ok sc_L_are_times (fun vs H Q E h => ?_) (fun cdv A outer s H vs Q E hr h => ?_)
  · obtain ⟨a, ts, c, rfl, _⟩ := h
    rfl
  · obtain ⟨a, ts, c, rfl, ha, lt, k⟩ := h
    have C_is_whole : Cal P w K mg base CX0 1 "_law_is_whole" _ (spIsI K) := cal_is_whole T
    refine ⟨_, (pss_one (ps_ret (pe_and (pe_callB call_isi (by rfl) T.n_isinstance (by decide +kernel) (pa_cons (pv 0) (pa_cons (pe_ty "tuple" T.n_tuple) pa_nil))) (pe_and (pe_cmpR op_eq (pe_callB call_len_seq (by rfl) T.n_len PySem.boot_len (pa_cons (pv 0) pa_nil)) (pv 1) (nomark _)) (pe_one (pe_cmpR (op_eqD hr.units) (pe_lc (own := [("_law_x", 2)]) (g := gName 2)  rfl sc_L_are_times.nd (pi_seq (pv 0)) (blkOk_by (own := [("_law_x", 2)]) (N := ["_law_thing", "_law_count", "_law_x"]) (sc := defScope s_L_are_times) (by decide +kernel)) (fun _ _ _ _ _ => pg_name (i := 2) sc_L_are_times.nd rfl (Or.inl rfl)) (fun _ _ _ _ _ => pts_one (pt_not (pt_val (pe_cal C_is_whole (hr.mono (by decide)) (pa_cons (pv 2) pa_nil))))) (fun _ _ _ _ _ => (pv 2))) (pe_lst pa_nil) (nomark _))))))), ?_⟩
    refine ⟨_, rfl, _, _, _, _, _, rfl, .ty "tuple", .base (.tup ha), (show _ = some true from kit_ty (by decide +kernel)), _, rfl, iteT ⟨_, rfl, a, _, rfl, .inr (SqT.of ha), _, rfl, rfl, _, rfl, ?_⟩⟩
    have lm : (ts.map V.int).length = ts.length := List.length_map _
    rw [lm]
    have dc : (decide (V.int (ts.length : Nat) = V.int c)) = decide ((ts.length : Int) = c) := by
      by_cases z : (ts.length : Int) = c
      · rw [decide_eq_true z, decide_eq_true (congrArg V.int z)]
      · rw [decide_eq_false z, decide_eq_false fun e => z (V.int.inj e)]
    rw [dc]
    refine ite2 (fun g => ?_) (fun g => ?_)
    rotate_left
    · rw [Bool.eq_false_iff.mpr g] at k
      exact k H (Same.refl H)
    rw [g] at k
    refine ⟨_, rfl, a, ts.map V.int, rfl, .inr ha, fun J wk D nD => lc_it wk (fun i H' => H' = upd H D (.lst [])) rfl (fun i H' _ q => by rw [q]; exact upd_ne (ne_of_none ha nD)) ?_ ?_⟩
    · rintro j x H2 H3 hi rfl ⟨rfl, hx⟩
      rw [List.getElem?_map] at hx
      obtain ⟨i, hi2, rfl⟩ : ∃ i, ts[j]? = some i ∧ V.int i = x := by
        cases e : ts[j]? with
        | none => rw [e] at hx; cases hx
        | some i => rw [e] at hx; exact ⟨i, rfl, Option.some.inj hx⟩
      exact ⟨rfl, _, rfl, _, _, rfl, (.int i : Dm K _ (.int i) "int"), _, rfl, iteF rfl⟩
    · rintro H' rfl
      have S1 := sNew (o := .lst []) nD
      refine ⟨by show 0 ≤ sizeLine; exact Nat.zero_le _, fun qq nqq => ?_⟩
      have S2 := S1.trans (sNew (o := .lst []) nqq)
      refine ⟨_, _, dp_lst (SqL.of (sNew nqq _ _ upd_same)) .nil, dp_lst (SqL.of upd_same) .nil, row_shaped (xs := []) true (by simp), row_shaped (xs := []) true (by simp), ?_⟩
      rw [eqv_nilE]
      exact k _ S2
theorem cal_L_are_times (T : Txt P w K mg cl) : Cal P w K mg base CX0 2 "_law_are_times" ["_law_thing", "_law_count"] (spLAre) := by
  obtain ⟨f, fd, F, m⟩ := T.d_L_are_times
  exact ⟨f, fd, ok_L_are_times F T, m, F.kp, F.binds fun _ _ _ _ _ _ us hl => match us, hl with | [_, _], _ => rfl⟩
theorem ok_keep {f : Addr} {fd : FuncData} (F : Fun K "_law_keep" "_law_keep" s_keep f fd) (T : Txt P w K mg cl) : FnOk P w K mg base CX0 1 f fd ["_law_links_here", "_law_times_here"] (spLKeep) := by
  refine F.ok sc_keep (fun vs H Q E h => ?_) (fun cdv A outer s H vs Q E hr h => ?_)
  · obtain ⟨g, a, us, ls, ts, rfl, _⟩ := h
    rfl
  · obtain ⟨g, a, us, ls, ss, rfl, hL, ha, lok, ll, k⟩ := h
    refine ⟨_, (pss_one (ps_ret (pe_cmpR (op_eqD hr.units) (pe_lc (own := [("_law_x", 2)]) (g := gName 2)  rfl sc_keep.nd (pi_list (pv 0)) (blkOk_by (own := [("_law_x", 2)]) (N := ["_law_links_here", "_law_times_here", "_law_x"]) (sc := defScope s_keep) (by decide +kernel)) (fun _ _ _ _ _ => pg_name (i := 2) sc_keep.nd rfl (Or.inl rfl)) (fun _ _ _ _ _ => pts_one (pt_cmpR op_gt (pe_op op_sub (pe_ix (ix_eitherK (K := K) rfl) (pv 1) (pe_ix (ix_tupK (K := K) rfl) (pv 2) pe_int (fun _ _ => rfl)) (fun _ _ => rfl)) (pe_ix (ix_eitherK (K := K) rfl) (pv 1) (pe_ix (ix_tupK (K := K) rfl) (pv 2) pe_int (fun _ _ => rfl)) (fun _ _ => rfl))) (pe_ix (ix_tupK (K := K) rfl) (pv 2) pe_int (fun _ _ => rfl)) (nomark _))) (fun _ _ _ _ _ => (pv 2))) (pe_lst pa_nil) (nomark _)))), ?_⟩
    have lu := hL.2.length
    refine ⟨_, rfl, g, rfl, ⟨_, SqL.of hL.1⟩, fun D nD => lc_list (K := K) (a := g) (xs := us) (fun i H' => ∃ (ws : List V) (ks : List Lk), H' = upd H D (.lst ws) ∧ Paired (LkT H) ws ks ∧ ks.isEmpty = (brkTo ls ss i).isEmpty ∧ ws.length ≤ i) ⟨[], [], rfl, .nil, rfl, Nat.le_refl _⟩ (fun i H' _ q => by obtain ⟨ws, ks, q, _⟩ := q; rw [q]; exact SqL.of (by rw [upd_ne (ne_of_none hL.1 nD)]; exact hL.1)) ?_ ?_⟩
    · rintro i x H' hx ⟨ws, ks, rfl, pw, eb, lw⟩
      obtain ⟨l, hl, e, rfl, he0⟩ := Paired.at hL.2 hx
      have SD := sNew (o := .lst ws) nD
      have he := SD _ _ he0
      have hs := IsAt.same ha SD
      obtain ⟨⟨a1, a2⟩, a3, a4⟩ := lok l (List.mem_of_getElem? hl)
      have hi := (List.getElem?_eq_some_iff.mp hl).1
      have j1 : l.1.toNat < ss.length := by omega
      have j2 : l.2.1.toNat < ss.length := by omega
      have kb : keepB ss l = decide (ss[l.1.toNat] - ss[l.2.1.toNat] ≤ l.2.2) := by
        unfold keepB
        rw [List.getElem?_eq_getElem j1, List.getElem?_eq_getElem j2]
        rfl
      have bs := brkTo_succ (ls := ls) (ts := ss) hl
      refine ⟨rfl, _, rfl, _, rfl, e, _, _, _, rfl, rfl, SqT.of he, atI_nat (j := 0) rfl, ixOrA hs (ts_at a1 j1) ⟨_, rfl, _, rfl, e, _, _, _, rfl, rfl, SqT.of he, atI_nat (j := 1) rfl, ixOrA hs (ts_at a3 j2) ⟨_, _, rfl, rfl, _, rfl, e, _, _, _, rfl, rfl, SqT.of he, atI_nat (j := 2) rfl, _, _, rfl, rfl, _, rfl, ?_⟩⟩⟩
      by_cases g : ss[l.1.toNat] - ss[l.2.1.toNat] ≤ l.2.2
      · rw [decide_eq_false (show ¬ l.2.2 < ss[l.1.toNat] - ss[l.2.1.toNat] by omega)]
        rw [decide_eq_true g] at kb
        exact iteF ⟨ws, ks, rfl, pw, by rw [bs, if_pos kb, List.append_nil]; exact eb, by omega⟩
      · rw [decide_eq_true (show l.2.2 < ss[l.1.toNat] - ss[l.2.1.toNat] by omega)]
        rw [decide_eq_false g] at kb
        refine iteT ⟨_, rfl, ws, upd_same, small1000 (by omega), ws ++ [.ref e], ks ++ [l], by rw [upd_upd], Paired.appendP pw (.cons ⟨e, rfl, he0⟩ .nil), ?_, by rw [List.length_append, List.length_singleton]; omega⟩
        rw [bs, if_neg (by rw [kb]; exact Bool.false_ne_true)]
        generalize brkTo ls ss i = zz
        cases ks <;> cases zz <;> rfl
    rintro H' ⟨ws, ks, rfl, pw, eb, lw⟩
    rw [hL.2.length] at eb
    have S1 := sNew (o := .lst ws) nD
    refine ⟨by show 0 ≤ sizeLine; exact Nat.zero_le _, fun qq nqq => ?_⟩
    have S2 := S1.trans (sNew (o := .lst []) nqq)
    refine ⟨_, _, dp_lst (SqL.of (sNew nqq _ _ upd_same)) (lks_dp (Paired.impP (fun _ _ h => h.same S2) pw)), dp_lst (SqL.of upd_same) .nil, fls_shaped true (lks_fl ks), row_shaped (xs := []) true (by simp), ?_⟩
    rw [eqv_nilE, show (ks.map lkD).isEmpty = (brk ls ss).isEmpty from (show (ks.map lkD).isEmpty = ks.isEmpty by cases ks <;> rfl).trans eb]
    exact k _ S2
theorem cal_keep (T : Txt P w K mg cl) : Cal P w K mg base CX0 1 "_law_keep" ["_law_links_here", "_law_times_here"] (spLKeep) := by
  obtain ⟨f, fd, F, m⟩ := T.d_keep
  exact ⟨f, fd, ok_keep F T, m, F.kp, F.binds fun _ _ _ _ _ _ us hl => match us, hl with | [_, _], _ => rfl⟩
theorem ok_leads {f : Addr} {fd : FuncData} (F : Fun K "_law_leads" "_law_leads" s_leads f fd) (T : Txt P w K mg cl) : FnOk P w K mg base CX0 2 f fd ["_law_links_here", "_law_path", "_law_start", "_law_end_here"] (spLds) := by
  refine F.ok sc_leads (fun vs H Q E h => ?_) (fun cdv A outer s H vs Q E hr h => ?_)
  · obtain ⟨g, pa, us, ls, js, st, en, rfl, _⟩ := h
    rfl
  · obtain ⟨g, pa, us, ls, js, st, en, rfl, hL, hp, pos, lj, ld, k⟩ := h
    have C_is_whole : Cal P w K mg base CX0 1 "_law_is_whole" _ (spIsI K) := cal_is_whole T
    refine ⟨_, (pss_cons (ps_if (pt_not (pt_val (pe_callB call_isi (by rfl) T.n_isinstance (by decide +kernel) (pa_cons (pv 1) (pa_cons (pe_ty "tuple" T.n_tuple) pa_nil)))))
          (pss_one (ps_ret pe_bl)) pss_nil)
        (pss_cons (ps_set (i := 4) sc_leads.nd rfl (Or.inl rfl) (pv 2))
        (pss_cons (ps_for PassesOwn.never rfl (pi_tup (pv 1)) (pg_name (i := 5) sc_leads.nd rfl (Or.inl rfl))
          (pss_cons (ps_if (PW.pt (pw_or (pt_not (pt_val (pe_cal C_is_whole (hr.mono (by decide)) (pa_cons (pv 5) pa_nil)))) (pw_or (pt_not (pt_chain op_le op_lt pe_int (pv 5) (pe_callB call_len_seq (by rfl) T.n_len PySem.boot_len (pa_cons (pv 0) pa_nil)))) (pw_or1 (pt_cmpR op_ne (pe_ix ix_tup (pe_ix ix_list (pv 0) (pv 5) (fun _ _ => rfl)) pe_int (fun _ _ => rfl)) (pv 4) (nomark _))))))
              (pss_one (ps_ret pe_bl)) pss_nil)
            (pss_one (ps_set (i := 4) sc_leads.nd rfl (Or.inl rfl) (pe_ix ix_tup (pe_ix ix_list (pv 0) (pv 5) (fun _ _ => rfl)) pe_int (fun _ _ => rfl))))))
        (pss_one (ps_ret (pe_cmpR op_eq (pv 4) (pv 3) (nomark _))))))), ?_⟩
    refine ⟨_, rfl, _, _, _, _, _, rfl, .ty "tuple", .base (.tup hp), (show _ = some true from kit_ty (by decide +kernel)), _, rfl, iteF ?_⟩
    refine ⟨_, rfl, _, rfl, pa, rfl, ⟨_, SqT.of hp⟩, for_tup (K := K) (a := pa) (xs := js.map fun (i : Nat) => V.int i) (fun i σ H' => H' = H ∧ ∃ (p : Nat) (v5 : Option V), Leads (nls ls) (js.drop i) p en ∧ σ = [some (.ref g), some (.ref pa), some (.int (st : Nat)), some (.int (en : Nat)), some (.int (p : Nat)), v5]) ⟨rfl, st, none, ld, rfl⟩ (fun j σ H' _ q => by rw [q.1]; exact SqT.of hp) ?_ ?_⟩
    · rintro i x σ H' hx ⟨rfl, p, v5, hl, rfl⟩
      rw [List.getElem?_map] at hx
      obtain ⟨j, hj, rfl⟩ : ∃ j : Nat, js[i]? = some j ∧ V.int (j : Nat) = x := by
        cases e : js[i]? with
        | none => rw [e] at hx; cases hx
        | some j => rw [e] at hx; exact ⟨j, rfl, Option.some.inj hx⟩
      rw [take_drop_at hj] at hl
      obtain ⟨l, h1, h2, h3⟩ := hl
      obtain ⟨l', k1, rfl⟩ := nls_at h1
      obtain ⟨li, rfl⟩ := List.getElem?_eq_some_iff.mp k1
      obtain ⟨b, hb, hc⟩ := ll_at hL li
      obtain ⟨p1, p2⟩ := pos _ (List.getElem_mem li)
      have lu := hL.2.length
      have e2 : ls[j].2.1 = (p : Int) := by
        have h2 : ls[j].2.1.toNat = p := h2
        omega
      refine ⟨_, rfl, _, _, rfl, (.int _ : Dm K _ (.int (j : Nat)) "int"), _, rfl, iteF ?_⟩
      refine ⟨_, rfl, _, _, rfl, rfl, _, rfl, ?_⟩
      rw [decide_eq_true (Int.natCast_nonneg j)]
      refine iteT ⟨_, rfl, g, us, rfl, .inl (SqL.of hL.1), _, _, rfl, rfl, _, rfl, ?_⟩
      rw [decide_eq_true (show (j : Int) < (us.length : Nat) by omega)]
      refine iteF ⟨_, rfl, _, rfl, g, _, _, _, rfl, rfl, SqL.of hL.1, atI_nat hb, b, _, _, _, rfl, rfl, SqT.of hc, atI_nat (j := 1) rfl, _, rfl, rfl, _, rfl, ?_⟩
      rw [e2, decide_eq_true rfl]
      refine iteF ⟨_, rfl, _, rfl, g, _, _, _, rfl, rfl, SqL.of hL.1, atI_nat hb, b, _, _, _, rfl, rfl, SqT.of hc, atI_nat (j := 0) rfl, rfl, (nl ls[j]).1, some (.int (j : Nat)), h3, ?_⟩
      rw [show ls[j].1 = (((nl ls[j]).1 : Nat) : Int) from (Int.toNat_of_nonneg p1).symm]
      rfl
    · rintro σ H' ⟨rfl, p, v5, hl, rfl⟩
      rw [List.drop_of_length_le (by rw [List.length_map]; exact Nat.le_refl _)] at hl
      cases hl
      refine ⟨_, rfl, _, rfl, rfl, ?_⟩
      rw [decide_eq_true rfl]
      exact k
theorem cal_leads (T : Txt P w K mg cl) : Cal P w K mg base CX0 2 "_law_leads" ["_law_links_here", "_law_path", "_law_start", "_law_end_here"] (spLds) := by
  obtain ⟨f, fd, F, m⟩ := T.d_leads
  exact ⟨f, fd, ok_leads F T, m, F.kp, F.binds fun _ _ _ _ _ _ us hl => match us, hl with | [_, _, _, _], _ => rfl⟩
theorem ok_sum {f : Addr} {fd : FuncData} (F : Fun K "_law_sum" "_law_sum" s_sum f fd) (T : Txt P w K mg cl) : FnOk P w K mg base CX0 1 f fd ["_law_links_here", "_law_path"] (spLSum) := by
  refine F.ok sc_sum (fun vs H Q E h => ?_) (fun cdv A outer s H vs Q E hr h => ?_)
  · obtain ⟨g, pa, us, ls, js, rfl, _⟩ := h
    rfl
  · obtain ⟨t, a, us, ls, is, rfl, hL, ha, le, hix, k⟩ := h
    refine ⟨_, (pss_one (ps_ret (pe_callB (cr_sum rfl) (by rfl) T.n_sum (by decide +kernel) (pa_cons (pe_lc (own := [("_law_x", 2)]) (g := gName 2) (tt := tYes) rfl sc_sum.nd (pi_tup (pv 1)) (blkOk_by (own := [("_law_x", 2)]) (N := ["_law_links_here", "_law_path", "_law_x"]) (sc := defScope s_sum) (by decide +kernel)) (fun _ _ _ _ _ => pg_name (i := 2) sc_sum.nd rfl (Or.inl rfl)) (fun _ _ _ _ _ => pts_nil) (fun _ _ _ _ _ => (pe_ix (ix_tupK (K := K) rfl) (pe_ix (ix_listK (K := K) rfl) (pv 0) (pv 2) (fun _ _ => rfl)) pe_int (fun _ _ => rfl)))) pa_nil)))), ?_⟩
    let g : Nat → Int := fun i => (ls[i]?.map fun l => l.2.2).getD 0
    refine ⟨_, rfl, a, rfl, ⟨_, SqT.of ha⟩, fun D nD => lc_tup (K := K) (a := a) (xs := is.map fun (i : Nat) => V.int i) (fun j H' => H' = upd H D (.lst (((is.take j).map g).map V.int))) rfl (fun i H'' _ q => by rw [q]; exact SqT.of (sNew nD _ _ ha)) ?_ ?_⟩
    · rintro j x H2 hx rfl
      rw [List.getElem?_map] at hx
      obtain ⟨i, hi2, rfl⟩ : ∃ i, is[j]? = some i ∧ V.int (i : Nat) = x := by
        cases e : is[j]? with
        | none => rw [e] at hx; cases hx
        | some i => rw [e] at hx; exact ⟨i, rfl, Option.some.inj hx⟩
      have hl := hix i (List.mem_of_getElem? hi2)
      have hL := hL.same (sNew (o := .lst (((is.take j).map g).map V.int)) nD)
      obtain ⟨b, hv, hb⟩ := ll_at hL hl
      refine ⟨rfl, _, rfl, _, rfl, t, _, _, _, rfl, rfl, SqL.of hL.1, atI_nat hv, b, _, _, _, rfl, rfl, SqT.of hb, atI_nat (j := 2) rfl, ?_⟩
      refine ⟨_, upd_same, small1000 (by rw [List.length_map, List.length_map, List.length_take]; omega), ?_⟩
      rw [upd_upd, take_snoc hi2, List.map_append, List.map_append]
      show _ = upd H D (.lst (_ ++ [V.int (g i)]))
      rw [show g i = ls[i].2.2 by show (ls[i]?.map fun l => l.2.2).getD 0 = _; rw [List.getElem?_eq_getElem hl]; rfl]
    · intro H' q
      rw [List.length_map, List.take_length] at q
      subst q
      exact ⟨D, is.map g, rfl, SqL.of upd_same, k _ (sNew nD)⟩
theorem cal_sum (T : Txt P w K mg cl) : Cal P w K mg base CX0 1 "_law_sum" ["_law_links_here", "_law_path"] (spLSum) := by
  obtain ⟨f, fd, F, m⟩ := T.d_sum
  exact ⟨f, fd, ok_sum F T, m, F.kp, F.binds fun _ _ _ _ _ _ us hl => match us, hl with | [_, _], _ => rfl⟩
theorem ok_bars {f : Addr} {fd : FuncData} (F : Fun K "_law_bars" "_law_bars" s_bars f fd) (T : Txt P w K mg cl) : FnOk P w K mg base CX0 3 f fd ["_law_links_here", "_law_path"] (spBars) := by
  refine F.ok sc_bars (fun vs H Q E h => ?_) (fun cdv A outer s H vs Q E hr h => ?_)
  · obtain ⟨g, pa, us, ls, js, n, rfl, _⟩ := h
    rfl
  · obtain ⟨g, pa, us, ls, js, n, rfl, hL, hp, pos, n8, ⟨ne, ln, p, ld, sm⟩, k⟩ := h
    have C_is_whole : Cal P w K mg base CX0 1 "_law_is_whole" _ (spIsI K) := cal_is_whole T
    have C_leads : Cal P w K mg base CX0 2 "_law_leads" _ spLds := cal_leads T
    have C_sum : Cal P w K mg base CX0 1 "_law_sum" _ spLSum := cal_sum T
    refine ⟨_, (pss_cons (ps_if (PW.pt (pw_or (pt_not (pt_val (pe_callB call_isi (by rfl) T.n_isinstance (by decide +kernel) (pa_cons (pv 1) (pa_cons (pe_ty "tuple" T.n_tuple) pa_nil))))) (pw_or (pt_cmpR (op_eqD hr.units) (pv 1) (pe_tup pa_nil) (nomark _)) (pw_or (pt_not (pt_val (pe_cal C_is_whole (hr.mono (by decide)) (pa_cons (pe_ix ix_tup (pv 1) pe_int (fun _ _ => rfl)) pa_nil)))) (pw_or1 (pt_not (pt_chain op_le op_lt pe_int (pe_ix ix_tup (pv 1) pe_int (fun _ _ => rfl)) (pe_callB call_len_seq (by rfl) T.n_len PySem.boot_len (pa_cons (pv 0) pa_nil)))))))))
          (pss_one (ps_ret pe_bl)) pss_nil)
        (pss_cons (ps_set (i := 2) sc_bars.nd rfl (Or.inl rfl) (pe_ix ix_tup (pe_ix ix_list (pv 0) (pe_ix ix_tup (pv 1) pe_int (fun _ _ => rfl)) (fun _ _ => rfl)) pe_int (fun _ _ => rfl)))
        (pss_one (ps_ret (pe_and (pe_cal C_leads (hr.mono (by decide)) (pa_cons (pv 0) (pa_cons (pv 1) (pa_cons (pv 2) (pa_cons (pv 2) pa_nil))))) (pe_one (pe_cmpR op_lt (pe_cal C_sum (hr.mono (by decide)) (pa_cons (pv 0) (pa_cons (pv 1) pa_nil))) pe_int (nomark _)))))))), ?_⟩
    have allix := Leads.lt ld
    cases js with
    | nil => exact absurd rfl ne
    | cons j0 js =>
      obtain ⟨l, h1, h2, h3⟩ := id ld
      obtain ⟨l', k1, rfl⟩ := nls_at h1
      obtain ⟨li, rfl⟩ := List.getElem?_eq_some_iff.mp k1
      obtain ⟨b, hb, hc⟩ := ll_at hL li
      obtain ⟨p1, p2⟩ := pos _ (List.getElem_mem li)
      have lu := hL.2.length
      have e2 : ls[j0].2.1 = (p : Int) := by
        have h2 : ls[j0].2.1.toNat = p := h2
        omega
      refine ⟨_, rfl, _, _, _, _, _, rfl, .ty "tuple", .base (.tup hp), (show _ = some true from kit_ty (by decide +kernel)), _, rfl, iteF ?_⟩
      refine ⟨_, rfl, by show 0 ≤ sizeLine; exact Nat.zero_le _, fun q nq => ?_⟩
      have S1 := sNew (o := .tup []) nq
      have hp1 := S1 _ _ hp
      have hL1 := hL.same S1
      refine ⟨_, _, dp_tup (SqT.of hp1) (dpvs fun x hx => okV.flat (okN _ x hx)), dp_tup (SqT.of upd_same) .nil, row_shaped false (okN _), row_shaped (xs := []) false (by simp), _, rfl, ?_⟩
      rw [eqv_nilV]
      have at0 : atI ((j0 :: js).map fun (i : Nat) => V.int i) ((0 : Nat) : Int) = some (.int (j0 : Nat)) := atI_nat (j := 0) rfl
      refine iteF ⟨_, rfl, pa, _, _, _, rfl, rfl, SqT.of hp1, at0, _, _, rfl, (.int _ : Dm K _ (.int (j0 : Nat)) "int"), _, rfl, iteF ?_⟩
      refine ⟨_, rfl, pa, _, _, _, rfl, rfl, SqT.of hp1, at0, _, _, rfl, rfl, _, rfl, ?_⟩
      rw [decide_eq_true (Int.natCast_nonneg j0)]
      refine iteT ⟨_, rfl, g, us, rfl, .inl (SqL.of hL1.1), _, _, rfl, rfl, _, rfl, ?_⟩
      rw [decide_eq_true (show (j0 : Int) < (us.length : Nat) by omega)]
      refine iteF ?_
      refine ⟨_, rfl, _, rfl, pa, _, _, _, rfl, rfl, SqT.of hp1, at0, g, _, _, _, rfl, rfl, SqL.of hL1.1, atI_nat hb, b, _, _, _, rfl, rfl, SqT.of (S1 _ _ hc), atI_nat (j := 1) rfl, ?_⟩
      rw [e2]
      refine ⟨_, rfl, _, rfl, _, rfl, _, rfl, g, pa, us, ls, j0 :: js, p, p, rfl, hL1, hp1, pos, by omega, ld, _, rfl, iteT ?_⟩
      refine ⟨_, rfl, _, rfl, g, pa, us, ls, j0 :: js, rfl, hL1, hp1, by omega, allix, fun H2 S2 => ⟨_, _, rfl, rfl, ?_⟩⟩
      rw [← sumO_nl]
      have k := k H2 (S1.trans S2)
      show Q (.bl (decide (smI (nls ls) (j0 :: js) < 0))) H2
      rw [decide_eq_true sm]
      exact k
theorem cal_bars (T : Txt P w K mg cl) : Cal P w K mg base CX0 3 "_law_bars" ["_law_links_here", "_law_path"] (spBars) := by
  obtain ⟨f, fd, F, m⟩ := T.d_bars
  exact ⟨f, fd, ok_bars F T, m, F.kp, F.binds fun _ _ _ _ _ _ us hl => match us, hl with | [_, _], _ => rfl⟩
end
end My
set_option Elab.async false
set_option linter.all false
set_option maxRecDepth 100000
set_option maxHeartbeats 1000000
namespace My
open PySem L2 Dw Wp
open C8 (pss_cut tCut)
set_option pp.maxSteps 600
open Bf
def nI (js : List Nat) : List Int := js.map fun (i : Nat) => (i : Int)
theorem nI_in (y : Nat) (js : List Nat) : (nI js).contains (y : Int) = decide (y ∈ js) := by
  induction js with
  | nil => rfl
  | cons x js ih =>
    show (((x : Int) :: nI js).contains (y : Int)) = _
    rw [List.contains_cons, ih]
    by_cases g : y = x
    · subst g
      simp
    · have : ((y : Int) == (x : Int)) = false := by
        rw [beq_eq_false_iff_ne]
        omega
      rw [this, Bool.false_or]
      simp [g]
/-- places found from o -/
structure FnP (ls : List Lk) (n o : Nat) (fs : List Nat) : Prop where
  org : o ∈ fs
  nd : fs.Nodup
  lt : ∀ v ∈ fs, v < n
  snd : ∀ R : Nat → Prop, R o → (∀ l ∈ nls ls, R l.2.1 → R l.1) → ∀ v ∈ fs, R v
def ClP (ls : List Lk) (fs : List Nat) : Prop := ∀ l ∈ nls ls, l.2.1 ∈ fs → l.1 ∈ fs
theorem FnP.more {ls : List Lk} {n o : Nat} {fs : List Nat} {l : NL} (F : FnP ls n o fs) (hl : l ∈ nls ls) (ok : IxOk n (nls ls)) (h1 : l.2.1 ∈ fs) (h2 : l.1 ∉ fs) : FnP ls n o (fs ++ [l.1]) := by
  refine ⟨List.mem_append_left _ F.org, ?_, fun v hv => ?_, fun R r0 rs v hv => ?_⟩
  · refine List.nodup_append.mpr ⟨F.nd, by simp, fun a ha b hb => ?_⟩
    rw [List.mem_singleton] at hb
    subst hb
    exact fun e => h2 (e ▸ ha)
  · rcases List.mem_append.mp hv with hv | hv
    · exact F.lt v hv
    · rw [List.mem_singleton] at hv
      subst hv
      exact (ok l hl).1
  · rcases List.mem_append.mp hv with hv | hv
    · exact F.snd R r0 rs v hv
    · rw [List.mem_singleton] at hv
      subst hv
      exact rs l hl (F.snd R r0 rs _ h1)
def spReach : Sp := fun vs H Q _ => ∃ (g : Addr) (us : List V) (ls : List Lk) (n o : Nat), vs = [.int (n : Nat), .ref g, .int (o : Nat)] ∧ LlT H g us ls ∧ IxOk n (nls ls) ∧ Pos ls ∧ o < n ∧ n ≤ 800 ∧ ∀ (D : Addr) (fs : List Nat) (H' : Hp), H D = none → FnP ls n o fs → ClP ls fs → Same H H' → H' D = some (.lst ((nI fs).map V.int)) → Q (.ref D) H'
theorem reach_iff {ls : List Lk} {n o : Nat} {fs : List Nat} {φ : Nat → Int} (F : FnP ls n o fs) (C : ClP ls fs) (ok : IxOk n (nls ls)) (on : o < n) (K : Keeps (nls ls) φ) (v : Nat) : v ∈ fs ↔ gO (rch ls n o) v ≠ none := by
  have ok' : IxOk (og n o).length (nls ls) := by rw [og_len]; exact ok
  have h2 := sett_keeps ok' K
  obtain ⟨_, _, _, sat, _, _⟩ := sett_kept ok' h2
  obtain ⟨_, z0, chain⟩ := og_chain ok on h2
  constructor
  · intro h
    refine F.snd (fun v => gO (rch ls n o) v ≠ none) (by rw [z0]; exact fun z => nomatch z) (fun l hl hr => ?_) v h
    obtain ⟨t, ht⟩ := Option.ne_none_iff_exists'.mp hr
    obtain ⟨w, hw, _⟩ := sat l hl t ht
    rw [hw]
    exact fun z => nomatch z
  · intro h
    obtain ⟨t, ht⟩ := Option.ne_none_iff_exists'.mp h
    obtain ⟨k, _, e1, e2, _⟩ := chain v t ht
    obtain ⟨g1, _⟩ := pth_leads k v fun m hm => (e2 m hm).1
    rw [e1] at g1
    have go : ∀ {is : List Nat} {a b : Nat}, Leads (nls ls) is a b → a ∈ fs → b ∈ fs := fun {is} => by
      induction is with
      | nil => intro a b h ha; cases h; exact ha
      | cons i is ih =>
        intro a b h ha
        obtain ⟨l, h1, h2, h3⟩ := h
        exact ih h3 (C l (List.mem_of_getElem? h1) (by rw [h2]; exact ha))
    exact go g1 F.org
section
variable {P : Program} {w : World} {K : PySem.W.Frag} {mg : Str → Option Value} {base : Heap} {cl : String → Addr}
theorem ok_reached {f : Addr} {fd : FuncData} (F : Fun K "_law_reached" "_law_reached" s_reached f fd) (T : Txt P w K mg cl) : FnOk P w K mg base CX0 1 f fd ["_law_count", "_law_links_here", "_law_start"] (spReach) := by
  refine F.ok sc_reached (fun vs H Q E h => ?_) (fun cdv A outer s H vs Q E hr h => ?_)
  · obtain ⟨g, us, ls, n, o, rfl, _⟩ := h
    rfl
  · obtain ⟨g, us, ls, n, o, rfl, hL, ok, pos, on, n8, k⟩ := h
    refine ⟨_, (pss_cons (ps_set (i := 3) sc_reached.nd rfl (Or.inl rfl) (pe_lst (pa_cons (pv 2) pa_nil)))
        (pss_cut (ps_for PassesOwn.never rfl (pi_range1 rfl T.n_range (pa_cons (pv 0) pa_nil)) (pg_name (i := 4) sc_reached.nd rfl (Or.inl rfl))
          (pss_cons (ps_set (i := 5) sc_reached.nd rfl (Or.inl rfl) (pe_callB call_len_seq (by rfl) T.n_len PySem.boot_len (pa_cons (pv 3) pa_nil)))
            (pss_cons (ps_for PassesOwn.never rfl (pi_list (pv 1)) (pg_tup rfl (pgs_cons (pg_name (i := 6) sc_reached.nd rfl (Or.inl rfl)) (pgs_cons (pg_name (i := 7) sc_reached.nd rfl (Or.inl rfl)) (pgs_cons (pg_name (i := 8) sc_reached.nd rfl (Or.inl rfl)) pgs_nil))))
              (pss_one (ps_if (PW.pt (pw_and (pt_cmpR op_in_seq (pv 7) (pv 3) (by rfl)) (pw_and1 (pt_cmpR op_notIn_seq (pv 6) (pv 3) (by rfl)))))
                  (pss_one (ps_expr (pe_app1 (by exact (pv 3)) (by exact (pa_cons (pv 6) pa_nil))))) pss_nil)))
            (pss_one (ps_if (pt_cmpR op_eq (pe_callB call_len_seq (by rfl) T.n_len PySem.boot_len (pa_cons (pv 3) pa_nil)) (pv 5) (nomark _))
              (pss_one ps_break) pss_nil)))))
        (pss_one (ps_ret (pv 3))))), ?_⟩
    have lu := hL.2.length
    refine ⟨_, rfl, by show 1 ≤ sizeLine; decide, fun D nD => ?_⟩
    refine ⟨fun σ' H' => ∃ fs, H' = upd H D (.lst ((nI fs).map V.int)) ∧ FnP ls n o fs ∧ ClP ls fs ∧ ∃ v4 v5 v6 v7 v8 : Option V, σ' = [some (.int (n : Nat)), some (.ref g), some (.int (o : Nat)), some (.ref D), v4, v5, v6, v7, v8], ?_, ?_⟩
    rotate_left
    · rintro σ' H' ⟨fs, rfl, F1, C1, v4, v5, v6, v7, v8, rfl⟩
      exact ⟨_, rfl, k D fs _ nD F1 C1 (sNew nD) upd_same⟩
    refine ⟨_, rfl, (n : Int), rfl, by omega, by omega, for_range (fun i σ H' => ∃ fs, H' = upd H D (.lst ((nI fs).map V.int)) ∧ FnP ls n o fs ∧ i + 1 ≤ fs.length ∧ ∃ v4 v5 v6 v7 v8 : Option V, σ = [some (.int (n : Nat)), some (.ref g), some (.int (o : Nat)), some (.ref D), v4, v5, v6, v7, v8]) ⟨[o], rfl, ⟨List.mem_singleton.mpr rfl, by simp, fun v hv => by rw [List.mem_singleton.mp hv]; exact on, fun R r0 _ v hv => by rw [List.mem_singleton.mp hv]; exact r0⟩, Nat.le_refl _, none, none, none, none, none, rfl⟩ ?_ ?_⟩
    · rintro i σ H' hi ⟨fs, rfl, F1, li, v4, v5, v6, v7, v8, rfl⟩
      have lf := pigeon n fs F1.nd F1.lt
      have ha : ∀ fs : List Nat, ((nI fs).map V.int).length = fs.length := fun fs => by unfold nI; rw [List.length_map, List.length_map]
      refine ⟨_, rfl, D, _, rfl, .inl (SqL.of upd_same), ?_⟩
      refine ⟨_, rfl, g, rfl, ⟨_, SqL.of (sNew nD _ _ hL.1)⟩, for_list (K := K) (a := g) (xs := us) (fun j σ H2 => ∃ ex, H2 = upd H D (.lst ((nI (fs ++ ex)).map V.int)) ∧ FnP ls n o (fs ++ ex) ∧ (ex = [] → ∀ i' l, i' < j → (nls ls)[i']? = some l → l.2.1 ∈ fs → l.1 ∈ fs) ∧ ∃ v6 v7 v8 : Option V, σ = [some (.int (n : Nat)), some (.ref g), some (.int (o : Nat)), some (.ref D), some (.int ((0 : Int) + (i : Nat))), some (.int (fs.length : Nat)), v6, v7, v8]) ⟨[], by rw [List.append_nil], by rw [List.append_nil]; exact F1, (fun _ i' l h => absurd h (Nat.not_lt_zero _)), v6, v7, v8, by rw [ha]; rfl⟩ (fun j σ H2 _ q => by obtain ⟨ex, q, _⟩ := q; rw [q]; exact SqL.of (sNew nD _ _ hL.1)) ?_ ?_⟩
      · rintro j xv σ H2 hx ⟨ex, rfl, F2, cl, w6, w7, w8, rfl⟩
        obtain ⟨l, hl, b, rfl, hb⟩ := Paired.at hL.2 hx
        obtain ⟨x, y, ex1, ey1, hx1, hy1, hn⟩ := lk_in ok pos hl
        obtain ⟨a1, a2, a3⟩ := l
        have ex1 : a1 = (x : Int) := ex1
        have ey1 : a2 = (y : Int) := ey1
        subst ex1 ey1
        have hn : (nls ls)[j]? = some (x, y, a3) := hn
        have lf2 := pigeon n _ F2.nd F2.lt
        have SD := sNew (o := .lst ((nI (fs ++ ex)).map V.int)) nD
        refine ⟨b, _, rfl, SqT.of (SD _ _ hb), rfl, _, _, rfl, _, _, rfl, _, _, rfl, rfl, ?_⟩
        refine ⟨_, rfl, _, rfl, D, _, rfl, .inl (SqL.of upd_same), rfl, flatI _, _, rfl, ?_⟩
        rw [in_ints, nI_in]
        have more : ∀ (P : Prop), (l' : NL) → l' = (x, y, a3) → (ex = [] → (l'.2.1 ∈ fs → l'.1 ∈ fs)) → (ex = [] → ∀ i' l, i' < j + 1 → (nls ls)[i']? = some l → l.2.1 ∈ fs → l.1 ∈ fs) := fun _ l' e h z i' l hi' hl' => by
          by_cases g : i' = j
          · subst g
            rw [hn] at hl'
            cases hl'
            subst e
            exact h z
          · exact cl z i' l (by omega) hl'
        by_cases g1 : y ∈ fs ++ ex
        rotate_left
        · rw [decide_eq_false g1]
          refine iteF (iteF ⟨ex, rfl, F2, more True _ rfl fun z h => ?_, _, _, _, rfl⟩)
          rw [z, List.append_nil] at g1
          exact absurd h g1
        rw [decide_eq_true g1]
        refine iteT ⟨_, rfl, _, rfl, D, _, rfl, .inl (SqL.of upd_same), rfl, flatI _, _, rfl, ?_⟩
        rw [in_ints, nI_in]
        by_cases g2 : x ∈ fs ++ ex
        · rw [decide_eq_true g2]
          refine iteF ⟨ex, rfl, F2, more True _ rfl fun z h => ?_, _, _, _, rfl⟩
          rw [z, List.append_nil] at g2
          exact g2
        · rw [decide_eq_false g2]
          refine iteT ⟨_, rfl, .inl ⟨rfl, _, SqL.of upd_same⟩, _, rfl, D, _, _, rfl, rfl, upd_same, small1000 (by rw [ha]; omega), ex ++ [x], ?_, ?_, fun z => (by simp at z), _, _, _, rfl⟩
          · rw [upd_upd]
            unfold nI
            simp only [List.map_append, List.append_assoc]
            rfl
          · rw [← List.append_assoc]
            exact F2.more (List.mem_of_getElem? hn) ok g1 g2
      · rintro σ H2 ⟨ex, rfl, F2, cl, w6, w7, w8, rfl⟩
        refine ⟨_, rfl, D, _, rfl, .inl (SqL.of upd_same), _, rfl, rfl, _, rfl, ?_⟩
        rw [ha, List.length_append]
        by_cases g : ex = []
        · subst g
          rw [decide_eq_true (show V.int ((fs.length + ([] : List Nat).length : Nat) : Int) = V.int (fs.length : Nat) from rfl)]
          rw [List.append_nil] at F2
          refine iteT ⟨fs, by rw [List.append_nil], F2, fun l hl => ?_, _, _, _, _, _, rfl⟩
          obtain ⟨i', hi', e⟩ := List.mem_iff_getElem.mp hl
          exact cl rfl i' l (by rw [lu]; unfold nls at hi'; rw [List.length_map] at hi'; exact hi') (by rw [List.getElem?_eq_getElem hi', e])
        · have : 1 ≤ ex.length := by cases ex with
            | nil => exact absurd rfl g
            | cons _ _ => exact Nat.succ_le_succ (Nat.zero_le _)
          rw [decide_eq_false (show ¬ V.int ((fs.length + ex.length : Nat) : Int) = V.int (fs.length : Nat) from fun z => by have := V.int.inj z; omega)]
          exact iteF ⟨fs ++ ex, rfl, F2, by rw [List.length_append]; omega, _, _, _, _, _, rfl⟩
    · rintro σ H' ⟨fs, rfl, F1, li, v4, v5, v6, v7, v8, rfl⟩
      have lf := pigeon n fs F1.nd F1.lt
      rw [Int.toNat_natCast] at li
      omega
theorem cal_reached (T : Txt P w K mg cl) : Cal P w K mg base CX0 1 "_law_reached" ["_law_count", "_law_links_here", "_law_start"] (spReach) := by
  obtain ⟨f, fd, F, m⟩ := T.d_reached
  exact ⟨f, fd, ok_reached F T, m, F.kp, F.binds fun _ _ _ _ _ _ us hl => match us, hl with | [_, _, _], _ => rfl⟩
end
end My
set_option Elab.async false
set_option linter.all false
set_option maxRecDepth 100000
set_option maxHeartbeats 1000000
namespace My
open PySem L2 Dw Wp
open C8 (pss_cut tCut)
set_option pp.maxSteps 600
open Bf
theorem brk_nil {ls : List Lk} {ts : List Int} : (brk ls ts).isEmpty = true ↔ Keeps (nls ls) (kF ts) := by
  unfold brk brkTo
  rw [List.isEmpty_iff, List.filter_eq_nil_iff]
  constructor
  · intro h l hl
    obtain ⟨l', hm, rfl⟩ := List.mem_map.mp hl
    obtain ⟨i, hi, e⟩ := List.mem_iff_getElem.mp hm
    have h := h i (List.mem_range.mpr hi)
    rw [List.getElem?_eq_getElem hi, e] at h
    have h : ¬ (!keepB ts l') = true := h
    have h : keepB ts l' = true := by simpa using h
    exact of_decide_eq_true h
  · intro h i hi
    have hi := List.mem_range.mp hi
    rw [List.getElem?_eq_getElem hi]
    show ¬ (!keepB ts ls[i]) = true
    have := h (nl ls[i]) (List.mem_map.mpr ⟨_, List.getElem_mem hi, rfl⟩)
    have : keepB ts ls[i] = true := decide_eq_true this
    rw [this]
    decide
def spHas : Sp := fun vs H Q _ => ∃ (g a : Addr) (us : List V) (ls : List Lk) (ts : List Int) (n x y : Nat) (m : Int), vs = [.int (n : Nat), .ref g, .ref a, .int (x : Nat), .int (y : Nat), .int m] ∧ LlT H g us ls ∧ H a = some (intT ts) ∧ (∀ l ∈ ls, LkOk (n : Nat) l) ∧ ls.length ≤ 800 ∧ n ≤ 800 ∧ x < n ∧ y < n ∧ TmsP ls n ts ∧ kF ts x - kF ts y = m ∧ ∀ H', Same H H' → Q (.bl true) H'
def spBarred (C : Addr) : Sp := fun vs H Q _ => ∃ (p t : Addr) (n a b : Nat) (us : List V) (ls : List Lk), vs = [.ref p, .int (a : Nat), .int (b : Nat)] ∧ SyAt C H p (n : Nat) t us ls ∧ (∀ l ∈ ls, LkOk (n : Nat) l) ∧ n ≤ 800 ∧ ls.length ≤ 800 ∧ a < n ∧ b < n ∧ (∀ ts, ¬ TmsP ls n ts) ∧
  ∀ (D x y : Addr) (is js : List Nat) (H' : Hp), H D = none → RingP ls n is → RingP ls n js → Same H H' → H' D = some (.lst [.ref x, .ref y]) → H' x = some (natT is) → H' y = some (natT js) → Q (.ref D) H'
def spNoI (C : Addr) : Sp := fun vs H Q _ => ∃ (p t : Addr) (n many : Nat) (f l bad : Int) (us : List V) (ls : List Lk), vs = [.ref p, .int f, .int l, .int (many : Nat)] ∧ SyAt C H p (n : Nat) t us ls ∧ (∀ l ∈ ls, LkOk (n : Nat) l) ∧ 1 ≤ n ∧ n ≤ 700 ∧ ls.length ≤ 700 ∧ many ≤ 800 ∧
  ((isT (n : Nat) (.int f) = false ∧ bad = f) ∨ (isT (n : Nat) (.int f) = true ∧ isT (n : Nat) (.int l) = false ∧ bad = l)) ∧
  ∀ (D : Addr) (H' : Hp), H D = none → Same H H' → H' D = some (.lst (List.replicate many (.int bad))) → Q (.ref D) H'
section
variable {P : Program} {w : World} {K : PySem.W.Frag} {mg : Str → Option Value} {base : Heap} {cl : String → Addr}
theorem ok_has {f : Addr} {fd : FuncData} (F : Fun K "_law_has" "_law_has" s_has f fd) (T : Txt P w K mg cl) : FnOk P w K mg base CX0 3 f fd ["_law_count", "_law_links_here", "_law_times_here", "_law_one", "_law_other", "_law_amount_here"] (spHas) := by
  refine F.ok sc_has (fun vs H Q E h => ?_) (fun cdv A outer s H vs Q E hr h => ?_)
  · obtain ⟨g, a, us, ls, ts, n, x, y, m, rfl, _⟩ := h
    rfl
  · obtain ⟨g, a, us, ls, ts, n, x, y, m, rfl, hL, ha, lok, ll, ln, hx, hy, ⟨lt, kp⟩, ed, k⟩ := h
    have C_L_are_times : Cal P w K mg base CX0 2 "_law_are_times" _ spLAre := cal_L_are_times T
    have C_keep : Cal P w K mg base CX0 1 "_law_keep" _ spLKeep := cal_keep T
    refine ⟨_, (pss_one (ps_ret (pe_and (pe_cal C_L_are_times (hr.mono (by decide)) (pa_cons (pv 2) (pa_cons (pv 0) pa_nil))) (pe_and (pe_cal C_keep (hr.mono (by decide)) (pa_cons (pv 1) (pa_cons (pv 2) pa_nil))) (pe_one (pe_cmpR op_eq (pe_op op_sub (pe_ix ix_tup (pv 2) (pv 3) (fun _ _ => rfl)) (pe_ix ix_tup (pv 2) (pv 4) (fun _ _ => rfl))) (pv 5) (nomark _))))))), ?_⟩
    refine ⟨_, rfl, _, rfl, a, ts, n, rfl, ha, by omega, fun H1 S1 => ?_⟩
    rw [decide_eq_true (show (ts.length : Int) = (n : Int) by omega)]
    refine ⟨_, rfl, iteT ⟨_, rfl, _, rfl, g, a, us, ls, ts, rfl, hL.same S1, .inr (S1 _ _ ha), by rw [lt]; exact lok, ll, fun H2 S2 => ?_⟩⟩
    rw [brk_nil.mpr kp]
    have ha2 := S2 _ _ (S1 _ _ ha)
    refine ⟨_, rfl, iteT ⟨_, rfl, _, rfl, a, _, _, _, rfl, rfl, SqT.of ha2, atI_nat (kF_at (by omega)), _, rfl, _, rfl, a, _, _, _, rfl, rfl, SqT.of ha2, atI_nat (kF_at (by omega)), _, _, rfl, rfl, _, rfl, rfl, ?_⟩⟩
    show Q (.bl (decide (V.int (kF ts x - kF ts y) = V.int m))) H2
    rw [ed, decide_eq_true rfl]
    exact k _ (S1.trans S2)
theorem cal_has (T : Txt P w K mg cl) : Cal P w K mg base CX0 3 "_law_has" ["_law_count", "_law_links_here", "_law_times_here", "_law_one", "_law_other", "_law_amount_here"] (spHas) := by
  obtain ⟨f, fd, F, m⟩ := T.d_has
  exact ⟨f, fd, ok_has F T, m, F.kp, F.binds fun _ _ _ _ _ _ us hl => match us, hl with | [_, _, _, _, _, _], _ => rfl⟩
theorem ok_barred {f : Addr} {fd : FuncData} (F : Fun K "_law_barred" "_law_barred" s_barred f fd) (T : Txt P w K mg cl) : FnOk P w K mg base CX0 6 f fd ["_law_system", "_law_one", "_law_other"] (spBarred (cl "System")) := by
  refine F.ok sc_barred (fun vs H Q E h => ?_) (fun cdv A outer s H vs Q E hr h => ?_)
  · obtain ⟨p, t, n, a, b, us, ls, rfl, _⟩ := h
    rfl
  · obtain ⟨p, t, n, a, b, us, ls, rfl, X, lok, ln, ll, an, bn, no, k⟩ := h
    have C_greatest : Cal P w K mg base (L2.CX P w) 5 "greatest" _ (spGr K (cl "System") (cl "NoInstant") (cl "NoTimes") (cl "Greatest") (cl "Endless")) := cal_greatest T
    have C_spans : Cal P w K mg base (L2.CX P w) 5 "spans" _ (spSpans (cl "System") (cl "NoTimes")) := cal_spans T
    refine ⟨_, (pss_cons (ps_set (i := 3) sc_barred.nd rfl (Or.inl rfl) (pe_lst pa_nil))
        (pss_cut (ps_try_as (i := 4) (Wout := fun _ _ _ _ => False) rfl rfl sc_barred.nd rfl rfl ⟨rfl, by decide, Or.inl T.m_NoTimes⟩ takes0
            (fun W pn xe tk po => (pss_one (ps_expr (pe_calS C_greatest (hr.mono (by decide)) (fun σ => passAt tk σ) (pa_cons (pv 0) (pa_cons (pv 1) (pa_cons (pv 2) pa_nil)))))))
            (fun a oe cls d pn hz hf => (pss_one (ps_expr (pe_app1K (K := K) rfl (by exact (pv 3)) (by exact (pa_cons (pe_xf (T.x_NoTimes).xf T.xf_NoTimes_path hz hf (pv 4)) pa_nil)))))))
        (pss_cut (ps_try_as (i := 4) (Wout := fun _ _ _ _ => False) rfl rfl sc_barred.nd rfl rfl ⟨rfl, by decide, Or.inl T.m_NoTimes⟩ takes0
            (fun W pn xe tk po => (pss_one (ps_expr (pe_calS C_spans (hr.mono (by decide)) (fun σ => passAt tk σ) (pa_cons (pv 0) pa_nil)))))
            (fun a oe cls d pn hz hf => (pss_one (ps_expr (pe_app1K (K := K) rfl (by exact (pv 3)) (by exact (pa_cons (pe_xf (T.x_NoTimes).xf T.xf_NoTimes_path hz hf (pv 4)) pa_nil)))))))
        (pss_one (ps_ret (pv 3)))))), ?_⟩
    have isa : isT (n : Nat) (.int (a : Nat)) = true := by
      show (decide ((0 : Int) ≤ (a : Int)) && decide ((a : Int) < (n : Int))) = true
      simp
      omega
    have isb : isT (n : Nat) (.int (b : Nat)) = true := by
      show (decide ((0 : Int) ≤ (b : Int)) && decide ((b : Int) < (n : Int))) = true
      simp
      omega
    refine ⟨by show 0 ≤ sizeLine; exact Nat.zero_le _, fun D nD => ?_⟩
    have S0 := sNew (o := .lst []) nD
    have X0 := X.same S0
    refine ⟨fun σ' H' => Same H H' ∧ ∃ x is, RingP ls n is ∧ H' D = some (.lst [.ref x]) ∧ H' x = some (natT is) ∧ x ≠ D ∧ σ' = [some (.ref p), some (.int (a : Nat)), some (.int (b : Nat)), some (.ref D), none], ?_, ?_⟩
    · refine ⟨_, rfl, _, rfl, _, rfl, p, t, n, us, ls, _, _, "int", "int", rfl, X0, lok, ln, ll, .int _, .int _, fun h => (by rw [isa] at h; cases h), fun _ h => (by rw [isb] at h; cases h), fun a' b' e1 e2 h1 h2 => ⟨fun x is R G e S ne hx nx => ?_, fun q H' S nq hA => ?_⟩⟩
      · refine ⟨true, T.is_NoTimes, fun _ a0 _ => ?_, fun q => Bool.noConfusion q⟩
        have hD := S _ _ (upd_same (H := H) (a := D) (o := .lst []))
        have nDe : D ≠ e := ne_of_none (upd_same (H := H) (a := D) (o := .lst [])) ne
        have hD2 : upd G e (.xd [("path", .ref x)]) D = some (.lst []) := by rw [upd_ne nDe]; exact hD
        refine ⟨_, rfl, .inl ⟨rfl, _, SqL.of hD2⟩, _, rfl, rfl, rfl, e, _, _, rfl, upd_same, rfl, D, _, _, rfl, rfl, hD2, small1000 (by decide), ?_⟩
        have nxD : x ≠ D := fun z => by
          rw [z, hD] at hx
          cases hx
        refine ⟨?_, x, is, R, upd_same, ?_, nxD, rfl⟩
        · exact same_upd (same_upd (S0.trans S) (S0.free ne)) nD
        · rw [upd_ne nxD, upd_ne nx]
          exact hx
      · exfalso
        rcases hA with ⟨_, _, _, _, ts, _, g⟩ | ⟨_, _, _, ts, _, g⟩
        · exact no _ g.tms
        · exact no _ g.tms
    rintro σ' H1 ⟨S1, x, is, R1, hD1, hx1, nxD, rfl⟩
    refine ⟨fun σ' H' => Same H H' ∧ ∃ y js, RingP ls n js ∧ H' D = some (.lst [.ref x, .ref y]) ∧ H' x = some (natT is) ∧ H' y = some (natT js) ∧ σ' = [some (.ref p), some (.int (a : Nat)), some (.int (b : Nat)), some (.ref D), none], ?_, ?_⟩
    · refine ⟨_, rfl, p, t, n, us, ls, rfl, X.same S1, lok, ln, ll, fun y js R G e S ne hy ny => ?_, fun R H' ts g S hT => absurd g (no ts)⟩
      refine ⟨true, T.is_NoTimes, fun _ a0 _ => ?_, fun q => Bool.noConfusion q⟩
      have hD := S _ _ hD1
      have hx := S _ _ hx1
      have nDe : D ≠ e := ne_of_none hD1 ne
      have nxe : x ≠ e := ne_of_none hx1 ne
      have hD2 : upd G e (.xd [("path", .ref y)]) D = some (.lst [.ref x]) := by rw [upd_ne nDe]; exact hD
      have nyD : y ≠ D := fun z => by
        rw [z, hD] at hy
        cases hy
      refine ⟨_, rfl, .inl ⟨rfl, _, SqL.of hD2⟩, _, rfl, rfl, rfl, e, _, _, rfl, upd_same, rfl, D, _, _, rfl, rfl, hD2, small1000 (by show 1 ≤ 1000; decide), ?_⟩
      refine ⟨?_, y, js, R, upd_same, ?_, ?_, rfl⟩
      · exact same_upd (same_upd (S1.trans S) (S1.free ne)) nD
      · rw [upd_ne nxD, upd_ne nxe]
        exact hx
      · rw [upd_ne nyD, upd_ne ny]
        exact hy
    · rintro σ' H2 ⟨S2, y, js, R2, hD2, hx2, hy2, rfl⟩
      exact ⟨_, rfl, k D x y is js H2 nD R1 R2 S2 hD2 hx2 hy2⟩
theorem cal_barred (T : Txt P w K mg cl) : Cal P w K mg base CX0 6 "_law_barred" ["_law_system", "_law_one", "_law_other"] (spBarred (cl "System")) := by
  obtain ⟨f, fd, F, m⟩ := T.d_barred
  exact ⟨f, fd, ok_barred F T, m, F.kp, F.binds fun _ _ _ _ _ _ us hl => match us, hl with | [_, _, _], _ => rfl⟩
theorem ok_no_instant {f : Addr} {fd : FuncData} (F : Fun K "_law_no_instant" "_law_no_instant" s_no_instant f fd) (T : Txt P w K mg cl) : FnOk P w K mg base CX0 6 f fd ["_law_system", "_law_one", "_law_other", "_law_many"] (spNoI (cl "System")) := by
  refine F.ok sc_no_instant (fun vs H Q E h => ?_) (fun cdv A outer s H vs Q E hr h => ?_)
  · obtain ⟨p, t, n, many, f, l, bad, us, ls, rfl, _⟩ := h
    rfl
  · obtain ⟨p, t, n, many, ff, l, bad, us, ls, rfl, X, lok, n1, n8, ll, mm, hb, k⟩ := h
    have C_greatest : Cal P w K mg base (L2.CX P w) 5 "greatest" _ (spGr K (cl "System") (cl "NoInstant") (cl "NoTimes") (cl "Greatest") (cl "Endless")) := cal_greatest T
    have C_times_with : Cal P w K mg base (L2.CX P w) 5 "times_with" _ (spTW K (cl "System") (cl "NoInstant")) := cal_times_with T
    have C_greatest_fault : Cal P w K mg base (L2.CX P w) 5 "greatest_fault" _ (spGF K (cl "System") (cl "NoInstant") (cl "Greatest") (cl "Endless")) := cal_greatest_fault T
    have I_Greatest : CalC P w K mg base CX0 1 (cl "Greatest") _ (spFlds (cl "Greatest") ["amount", "path", "times"]) := cal_Greatest_init T
    refine ⟨_, (pss_cons (ps_set (i := 4) sc_no_instant.nd rfl (Or.inl rfl) (pe_lst pa_nil))
        (pss_cons (ps_for PassesOwn.never rfl (pi_range1 rfl T.n_range (pa_cons (pv 3) pa_nil)) (pg_name (i := 5) sc_no_instant.nd rfl (Or.inl rfl))
          (pss_oneW (ps_try_as (i := 6) (Wout := fun _ _ _ _ => False) rfl rfl sc_no_instant.nd rfl rfl ⟨rfl, by decide, Or.inl T.m_NoInstant⟩ takes0
                (fun W pn xe tk po => (pss_cut (ps_if (pt_cmpR op_eq (pv 5) pe_int (nomark _))
                    (pss_one (ps_expr (pe_calS C_greatest (hr.mono (by decide)) (fun σ => passAt tk σ) (pa_cons (pv 0) (pa_cons (pv 1) (pa_cons (pv 2) pa_nil)))))) (pss_one (ps_if (pt_cmpR op_eq (pv 5) pe_int (nomark _))
                        (pss_one (ps_expr (pe_calS C_times_with (hr.mono (by decide)) (fun σ => passAt tk σ) (pa_cons (pv 0) (pa_cons (pv 1) (pa_cons (pv 2) (pa_cons pe_int pa_nil))))))) (pss_one (ps_expr (pe_calS C_greatest_fault (hr.mono (by decide)) (fun σ => passAt tk σ) (pa_cons (pv 0) (pa_cons (pv 1) (pa_cons (pv 2) (pa_cons (pe_mk I_Greatest T.m_Greatest (hr.mono (by decide))  (pa_cons pe_int (pa_cons (pe_tup pa_nil) (pa_cons (pe_op (op_repAK (K := K) rfl) (pe_tup (pa_cons pe_int pa_nil)) (pe_fldK (K := K) rfl (pv 0) rfl)) pa_nil)))) pa_nil))))))))))
                  (pss_one (ps_expr (pe_app1K (K := K) rfl (by exact (pv 4)) (by exact (pa_cons pe_non pa_nil)))))))
                (fun a oe cls d pn hz hf => (pss_one (ps_expr (pe_app1K (K := K) rfl (by exact (pv 4)) (by exact (pa_cons (pe_xf (T.x_NoInstant).xf T.xf_NoInstant_instant hz hf (pv 6)) pa_nil)))))))))
        (pss_one (ps_ret (pv 4))))), ?_⟩
    refine ⟨by show 0 ≤ sizeLine; exact Nat.zero_le _, fun D nD => ?_⟩
    refine ⟨_, rfl, (many : Int), rfl, by omega, by omega, ?_⟩
    refine for_range (fun i σ H' => Same H H' ∧ H' D = some (.lst (List.replicate i (.int bad))) ∧ ∃ v5 : Option V, σ = [some (.ref p), some (.int ff), some (.int l), some (.int (many : Nat)), some (.ref D), v5, none]) ⟨sNew (o := .lst []) nD, (show (upd H D (.lst [])) D = some (.lst []) from upd_same), none, rfl⟩ ?_ ?_
    · rintro i σ H1 hi ⟨S1, hD1, v5, rfl⟩
      have hi : i < many := by omega
      have X1 := X.same S1
      have nog : ∀ a b : Nat, V.int ff = .int (a : Nat) → V.int l = .int (b : Nat) → a < n → b < n → False := fun a b e1 e2 h1 h2 => by
        cases e1
        cases e2
        have is : ∀ x : Nat, x < n → isT (n : Nat) (.int (x : Nat)) = true := fun x hx => by
          show (decide ((0 : Int) ≤ (x : Int)) && decide ((x : Int) < (n : Int))) = true
          simp
          omega
        rcases hb with ⟨h, _⟩ | ⟨_, h, _⟩
        · rw [is a h1] at h
          cases h
        · rw [is b h2] at h
          cases h
      have bad1 : isT (n : Nat) (.int ff) = false → ff = bad := fun h => by
        rcases hb with ⟨_, e⟩ | ⟨h', _⟩
        · exact e.symm
        · rw [h'] at h
          cases h
      have bad2 : isT (n : Nat) (.int ff) = true → isT (n : Nat) (.int l) = false → l = bad := fun h1 h => by
        rcases hb with ⟨h', _⟩ | ⟨_, _, e⟩
        · rw [h'] at h1
          cases h1
        · exact e.symm
      have hold : ∀ {H2 G : Hp} {e : Addr} {o : HO}, Same H1 H2 → Same H2 G → H2 e = none → upd G e o D = some (.lst (List.replicate i (.int bad))) := fun {H2 G e o} S2 S ne => by
        have h2 := S2 _ _ hD1
        rw [upd_ne (ne_of_none h2 ne)]
        exact S _ _ h2
      have put : ∀ {H2 G : Hp} {e : Addr} {o : HO} {z : Int} {σ' : St}, Same H1 H2 → Same H2 G → H2 e = none → z = bad → σ' = [some (.ref p), some (.int ff), some (.int l), some (.int (many : Nat)), some (.ref D), some (.int ((0 : Int) + (i : Nat))), none] → Same H (upd (upd G e o) D (.lst (List.replicate i (.int bad) ++ [.int z]))) ∧ (upd (upd G e o) D (.lst (List.replicate i (.int bad) ++ [.int z]))) D = some (.lst (List.replicate (i + 1) (.int bad))) ∧ ∃ v5 : Option V, σ' = [some (.ref p), some (.int ff), some (.int l), some (.int (many : Nat)), some (.ref D), v5, none] := fun {H2 G e o z σ'} S2 S ne ez es => by
        subst ez
        have S12 := S1.trans S2
        exact ⟨same_upd (same_upd (S12.trans S) (S12.free ne)) nD, by rw [upd_same, List.replicate_succ'], _, es⟩
      refine ⟨fun _ _ => False, ?_, fun _ _ h => h.elim⟩
      refine ⟨_, rfl, rfl, _, rfl, ite2 (fun g => ?_) (fun g => ?_)⟩
      · refine ⟨_, rfl, _, rfl, _, rfl, p, t, n, us, ls, _, _, "int", "int", rfl, X1, lok, by omega, by omega, .int _, .int _, fun h G e S ne => ?_, fun h h' G e S ne => ?_, fun a b e1 e2 h1 h2 => (nog a b e1 e2 h1 h2).elim⟩
        · exact ⟨true, T.is_NoInstant, fun _ a0 _ => ⟨_, rfl, .inl ⟨rfl, _, SqL.of (hold (Same.refl _) S ne)⟩, _, rfl, rfl, rfl, e, _, _, rfl, upd_same, rfl, D, _, _, rfl, rfl, hold (Same.refl _) S ne, small1000 (by rw [List.length_replicate]; omega), put (Same.refl _) S ne (bad1 h) rfl⟩, fun q => Bool.noConfusion q⟩
        · exact ⟨true, T.is_NoInstant, fun _ a0 _ => ⟨_, rfl, .inl ⟨rfl, _, SqL.of (hold (Same.refl _) S ne)⟩, _, rfl, rfl, rfl, e, _, _, rfl, upd_same, rfl, D, _, _, rfl, rfl, hold (Same.refl _) S ne, small1000 (by rw [List.length_replicate]; omega), put (Same.refl _) S ne (bad2 h h') rfl⟩, fun q => Bool.noConfusion q⟩
      refine ⟨_, rfl, rfl, _, rfl, ite2 (fun g => ?_) (fun g => ?_)⟩
      · refine ⟨_, rfl, _, rfl, _, rfl, p, t, n, us, ls, _, _, "int", "int", 0, rfl, X1, lok, by omega, by omega, .int _, .int _, fun h G e S ne => ?_, fun h h' G e S ne => ?_, fun a b e1 e2 h1 h2 => (nog a b e1 e2 h1 h2).elim⟩
        · exact ⟨true, T.is_NoInstant, fun _ a0 _ => ⟨_, rfl, .inl ⟨rfl, _, SqL.of (hold (Same.refl _) S ne)⟩, _, rfl, rfl, rfl, e, _, _, rfl, upd_same, rfl, D, _, _, rfl, rfl, hold (Same.refl _) S ne, small1000 (by rw [List.length_replicate]; omega), put (Same.refl _) S ne (bad1 h) rfl⟩, fun q => Bool.noConfusion q⟩
        · exact ⟨true, T.is_NoInstant, fun _ a0 _ => ⟨_, rfl, .inl ⟨rfl, _, SqL.of (hold (Same.refl _) S ne)⟩, _, rfl, rfl, rfl, e, _, _, rfl, upd_same, rfl, D, _, _, rfl, rfl, hold (Same.refl _) S ne, small1000 (by rw [List.length_replicate]; omega), put (Same.refl _) S ne (bad2 h h') rfl⟩, fun q => Bool.noConfusion q⟩
      obtain ⟨dx, hself⟩ := X1.self
      refine ⟨_, rfl, _, rfl, _, rfl, by show 0 ≤ sizeLine; exact Nat.zero_le _, fun q1 m1 => ⟨by show 1 ≤ sizeLine; decide, fun q2 m2 => ?_⟩⟩
      have Sa := sNew (o := .tup []) m1
      have Sb := sNew (o := .tup [.int 0]) m2
      have Sab := Sa.trans Sb
      refine ⟨_, rfl, p, _, _, _, _, rfl, Sab _ _ hself, T.cl_System, T.na_System _ (by decide), rfl, q2, (n : Int), _, rfl, rfl, SqT.of upd_same, (by simp), by omega, by omega, by decide, fun _ => ?_, fun _ q3 m3 => ?_⟩
      · refine fun x d nx nd ne0 => ⟨x, d, [.int 0, .ref q1, .ref q2], rfl, rfl, upd_same, rfl, ?_⟩
        have S2 := Sab.trans (made (o1 := .own x) (o2 := .ins (cl "Greatest") d []) (o3 := .ins (cl "Greatest") d [("amount", .int 0), ("path", .ref q1), ("times", .ref q2)]) nx nd)
        refine ⟨p, t, x, n, us, ls, _, _, "int", "int", rfl, X1.same S2, lok, by omega, by omega, .int _, .int _, fun h G e S ne => ?_, fun h h' G e S ne => ?_, fun a b e1 e2 h1 h2 => (nog a b e1 e2 h1 h2).elim⟩
        · exact ⟨true, T.is_NoInstant, fun _ a0 _ => ⟨_, rfl, .inl ⟨rfl, _, SqL.of (hold S2 S ne)⟩, _, rfl, rfl, rfl, e, _, _, rfl, upd_same, rfl, D, _, _, rfl, rfl, hold S2 S ne, small1000 (by rw [List.length_replicate]; omega), put S2 S ne (bad1 h) rfl⟩, fun q => Bool.noConfusion q⟩
        · exact ⟨true, T.is_NoInstant, fun _ a0 _ => ⟨_, rfl, .inl ⟨rfl, _, SqL.of (hold S2 S ne)⟩, _, rfl, rfl, rfl, e, _, _, rfl, upd_same, rfl, D, _, _, rfl, rfl, hold S2 S ne, small1000 (by rw [List.length_replicate]; omega), put S2 S ne (bad2 h h') rfl⟩, fun q => Bool.noConfusion q⟩
      · have Sc := sNew (o := .tup (List.replicate ((n : Nat) : Int).toNat [V.int 0]).flatten) m3
        have Sabc := Sab.trans Sc
        refine fun x d nx nd ne0 => ⟨x, d, [.int 0, .ref q1, .ref q3], rfl, rfl, upd_same, rfl, ?_⟩
        have S2 := Sabc.trans (made (o1 := .own x) (o2 := .ins (cl "Greatest") d []) (o3 := .ins (cl "Greatest") d [("amount", .int 0), ("path", .ref q1), ("times", .ref q3)]) nx nd)
        refine ⟨p, t, x, n, us, ls, _, _, "int", "int", rfl, X1.same S2, lok, by omega, by omega, .int _, .int _, fun h G e S ne => ?_, fun h h' G e S ne => ?_, fun a b e1 e2 h1 h2 => (nog a b e1 e2 h1 h2).elim⟩
        · exact ⟨true, T.is_NoInstant, fun _ a0 _ => ⟨_, rfl, .inl ⟨rfl, _, SqL.of (hold S2 S ne)⟩, _, rfl, rfl, rfl, e, _, _, rfl, upd_same, rfl, D, _, _, rfl, rfl, hold S2 S ne, small1000 (by rw [List.length_replicate]; omega), put S2 S ne (bad1 h) rfl⟩, fun q => Bool.noConfusion q⟩
        · exact ⟨true, T.is_NoInstant, fun _ a0 _ => ⟨_, rfl, .inl ⟨rfl, _, SqL.of (hold S2 S ne)⟩, _, rfl, rfl, rfl, e, _, _, rfl, upd_same, rfl, D, _, _, rfl, rfl, hold S2 S ne, small1000 (by rw [List.length_replicate]; omega), put S2 S ne (bad2 h h') rfl⟩, fun q => Bool.noConfusion q⟩
    · rintro σ H1 ⟨S1, hD1, v5, rfl⟩
      rw [Int.toNat_natCast] at hD1
      exact ⟨_, rfl, k D H1 nD S1 hD1⟩
theorem cal_no_instant (T : Txt P w K mg cl) : Cal P w K mg base CX0 6 "_law_no_instant" ["_law_system", "_law_one", "_law_other", "_law_many"] (spNoI (cl "System")) := by
  obtain ⟨f, fd, F, m⟩ := T.d_no_instant
  exact ⟨f, fd, ok_no_instant F T, m, F.kp, F.binds fun _ _ _ _ _ _ us hl => match us, hl with | [_, _, _, _], _ => rfl⟩
end
end My
set_option Elab.async false
set_option linter.all false
set_option maxRecDepth 100000
set_option maxHeartbeats 1000000
namespace My
open PySem L2 Dw Wp
open C8 (pss_cut tCut)
set_option pp.maxSteps 600
open Bf
theorem SyAt.butB {C : Addr} {H H' : Hp} {p t b : Addr} {c : Int} {us : List V} {ls : List Lk} (h : SyAt C H p c t us ls) (B : BgAt H b) (D : But b H H') : SyAt C H' p c t us ls := by
  obtain ⟨⟨dx, h1⟩, h2, h3⟩ := h
  exact ⟨⟨dx, D _ _ h1 (B.ins h1)⟩, D _ _ h2 (B.tup h2), Paired.impP (fun _ _ q => q.but B D) h3⟩
/-- what the law holds: a bag, a system, its links in a list -/
structure Zs (C b p t g : Addr) (n : Nat) (us lus : List V) (ls : List Lk) (H : Hp) : Prop where
  B : BgAt H b
  X : SyAt C H p (n : Nat) t us ls
  L : LlT H g lus ls
  ng : g ≠ b
  lok : ∀ l ∈ ls, LkOk (n : Nat) l
  n1 : 1 ≤ n
  n2 : n ≤ 12
  ll : ls.length ≤ 70
theorem Zs.same {C b p t g : Addr} {n : Nat} {us lus : List V} {ls : List Lk} {H H' : Hp} (Z : Zs C b p t g n us lus ls H) (S : Same H H') : Zs C b p t g n us lus ls H' := { Z with B := Z.B.same S, X := Z.X.same S, L := Z.L.same S }
theorem Zs.but {C b p t g : Addr} {n : Nat} {us lus : List V} {ls : List Lk} {H H' : Hp} (Z : Zs C b p t g n us lus ls H) (B : BgAt H' b) (D : But b H H') : Zs C b p t g n us lus ls H' := { Z with B := B, X := Z.X.butB Z.B D, L := Z.L.but Z.ng Z.B D }
theorem Zs.ix {C b p t g : Addr} {n : Nat} {us lus : List V} {ls : List Lk} {H : Hp} (Z : Zs C b p t g n us lus ls H) : IxOk n (nls ls) ∧ Pos ls := LkOk.ix Z.lok rfl
def spImp (C : Addr) : Sp := fun vs H Q _ => ∃ (b p t g : Addr) (n : Nat) (us lus : List V) (ls : List Lk), vs = [.ref b, .ref p, .int (n : Nat), .ref g] ∧ Zs C b p t g n us lus ls H ∧ (∀ ts, ¬ TmsP ls n ts) ∧ ∀ H', BgAt H' b → But b H H' → Q (.bl true) H'
def spEnd (CG CE : Addr) : Sp := fun vs H Q _ => ∃ (q : Addr), vs = [.ref q] ∧ ((∃ am pa ta is ts, GrAt CG H q am pa ta is ts ∧ Q (.int am) H) ∨ (∃ pa ta is ts, EnAt CE H q pa ta is ts ∧ Q .non H))
theorem has_times {ls : List Lk} {n : Nat} {φ : Nat → Int} (ok : IxOk n (nls ls)) (K : Keeps (nls ls) φ) : ∃ ts, TmsP ls n ts := by
  have at_ : ∀ v, v < n → kF ((List.range n).map φ) v = φ v := fun v hv => by
    unfold kF
    rw [List.getElem?_map, List.getElem?_range hv]
    rfl
  refine ⟨(List.range n).map φ, by rw [List.length_map, List.length_range], fun l hl => ?_⟩
  rw [at_ _ (ok l hl).1, at_ _ (ok l hl).2]
  exact K l hl
section
variable {P : Program} {w : World} {K : PySem.W.Frag} {mg : Str → Option Value} {base : Heap} {cl : String → Addr}
theorem ok_end {f : Addr} {fd : FuncData} (F : Fun K "_law_end" "_law_end" s_end f fd) (T : Txt P w K mg cl) : FnOk P w K mg base CX0 1 f fd ["_law_answer"] (spEnd (cl "Greatest") (cl "Endless")) := by
  refine F.ok sc_end (fun vs H Q E h => ?_) (fun cdv A outer s H vs Q E hr h => ?_)
  · obtain ⟨q, rfl, _⟩ := h
    rfl
  · obtain ⟨q, rfl, h⟩ := h
    refine ⟨_, (pss_one (ps_ret (pe_ifExp (pt_val (pe_callB call_isi (by rfl) T.n_isinstance (by decide +kernel) (pa_cons (pv 0) (pa_cons (pe_cls T.m_Greatest) pa_nil)))) (pe_fld (pv 0) rfl) pe_non))), ?_⟩
    rcases h with ⟨am, pa, ta, is, ts, ⟨⟨dq, hq⟩, _, _⟩, k⟩ | ⟨pa, ta, is, ts, ⟨⟨dq, hq⟩, _, _⟩, k⟩
    · refine ⟨_, rfl, _, _, _, _, _, rfl, .own (cl "Greatest"), .base (.ins hq T.cl_Greatest T.y_Greatest T.z1 T.z2 T.z3_Greatest), T.k_Gr_Gr, _, rfl, iteT ?_⟩
      exact ⟨_, rfl, q, _, _, _, _, rfl, hq, T.cl_Greatest, T.na_Greatest _ (by decide), rfl, k⟩
    · exact ⟨_, rfl, _, _, _, _, _, rfl, .own (cl "Greatest"), .base (.ins hq T.cl_Endless T.y_Endless T.z1 T.z2 T.z3_Endless), T.k_En_Gr, _, rfl, iteF k⟩
theorem cal_end (T : Txt P w K mg cl) : Cal P w K mg base CX0 1 "_law_end" ["_law_answer"] (spEnd (cl "Greatest") (cl "Endless")) := by
  obtain ⟨f, fd, F, m⟩ := T.d_end
  exact ⟨f, fd, ok_end F T, m, F.kp, F.binds fun _ _ _ _ _ _ us hl => match us, hl with | [_], _ => rfl⟩
theorem ok_impossible {f : Addr} {fd : FuncData} (F : Fun K "_law_impossible" "_law_impossible" s_impossible f fd) (T : Txt P w K mg cl) : FnOk P w K mg base CX0 7 f fd ["_law_bag_here", "_law_system", "_law_count", "_law_links_here"] (spImp (cl "System")) := by
  refine F.ok sc_impossible (fun vs H Q E h => ?_) (fun cdv A outer s H vs Q E hr h => ?_)
  · obtain ⟨b, p, t, g, n, us, lus, ls, rfl, _⟩ := h
    rfl
  · obtain ⟨b, p, t, g, n, us, lus, ls, rfl, Z, no, k⟩ := h
    have C_take : Cal P w K mg base CX0 1 "_law_take" _ spTake := cal_take T
    have C_barred : Cal P w K mg base CX0 6 "_law_barred" _ (spBarred (cl "System")) := cal_barred T
    have C_bars : Cal P w K mg base CX0 3 "_law_bars" _ spBars := cal_bars T
    have C_amount : Cal P w K mg base CX0 3 "_law_amount" _ spAmt := cal_amount T
    have C_times_with : Cal P w K mg base (L2.CX P w) 5 "times_with" _ (spTW K (cl "System") (cl "NoInstant")) := cal_times_with T
    refine ⟨_, (pss_cons (ps_par (i := 4) (j := 5) rfl sc_impossible.nd rfl rfl (by decide) rfl rfl (pa_cons (pe_cal C_take (hr.mono (by decide)) (pa_cons (pv 0) (pa_cons (pv 2) pa_nil))) (pa_cons (pe_cal C_take (hr.mono (by decide)) (pa_cons (pv 0) (pa_cons (pv 2) pa_nil))) pa_nil)) (by rfl))
        (pss_cons (ps_set (i := 6) sc_impossible.nd rfl (Or.inl rfl) (pe_cal C_barred (hr.mono (by decide)) (pa_cons (pv 1) (pa_cons (pv 4) (pa_cons (pv 5) pa_nil)))))
        (pss_cons (ps_if (PW.pt (pw_or (pt_cmpR op_ne (pe_callB call_len_seq (by rfl) T.n_len PySem.boot_len (pa_cons (pv 6) pa_nil)) pe_int (nomark _)) (pw_or1 (pt_cmpR (op_neD hr.units) (pe_lc (own := [("_law_x", 7)]) (g := gName 7)  rfl sc_impossible.nd (pi_list (pv 6)) (blkOk_by (own := [("_law_x", 7)]) (N := ["_law_bag_here", "_law_system", "_law_count", "_law_links_here", "_law_one", "_law_other", "_law_paths", "_law_x"]) (sc := defScope s_impossible) (by decide +kernel)) (fun _ _ _ _ _ => pg_name (i := 7) sc_impossible.nd rfl (Or.inl rfl)) (fun _ _ _ _ _ => pts_one (pt_not (pt_val (pe_cal C_bars (hr.mono (by decide)) (pa_cons (pv 3) (pa_cons (pv 7) pa_nil)))))) (fun _ _ _ _ _ => (pv 7))) (pe_lst pa_nil) (nomark _)))))
          (pss_one (ps_ret pe_bl)) pss_nil)
        (pss_one (ps_ret (pe_cmpR op_isN (pe_cal C_times_with (hr.mono (by decide)) (pa_cons (pv 1) (pa_cons (pv 4) (pa_cons (pv 5) (pa_cons (pe_cal C_amount (hr.mono (by decide)) (pa_cons (pv 0) pa_nil)) pa_nil))))) pe_non (nomark _))))))), ?_⟩
    obtain ⟨ok, pos⟩ := Z.ix
    have n1 := Z.n1
    have n2 := Z.n2
    have ll := Z.ll
    refine ⟨_, rfl, _, rfl, b, n, rfl, Z.B, by omega, by omega, fun i1 H1 i10 i11 B1 D1 => ⟨_, rfl, _, rfl, b, n, rfl, B1, by omega, by omega, fun i2 H2 i20 i21 B2 D2 => ?_⟩⟩
    refine ⟨_, _, rfl, ?_⟩
    obtain ⟨a, rfl⟩ : ∃ a : Nat, i1 = (a : Int) := ⟨i1.toNat, by omega⟩
    obtain ⟨c, rfl⟩ : ∃ c : Nat, i2 = (c : Int) := ⟨i2.toNat, by omega⟩
    have D2 := D1.trans D2
    have Z := Z.but B2 D2
    refine ⟨_, rfl, _, rfl, _, rfl, p, t, n, a, c, us, ls, rfl, Z.X, Z.lok, by omega, by omega, by omega, by omega, no, fun D x y is js H3 nD R1 R2 S3 hD hx hy => ?_⟩
    have Z3 := Z.same S3
    refine ⟨_, rfl, D, _, rfl, .inl (SqL.of hD), rfl, _, rfl, iteF ?_⟩
    refine ⟨_, rfl, D, rfl, ⟨_, SqL.of hD⟩, fun M nM => lc_list (K := K) (a := D) (xs := [.ref x, .ref y]) (fun i H' => Same (upd H3 M (.lst [])) H') (Same.refl _) (fun i H' _ S => SqL.of (S _ _ (sNew nM _ _ hD))) ?_ ?_⟩
    · rintro i xv H' hx2 S
      have SM := (sNew (o := .lst []) nM).trans S
      have h01 : i = 0 ∨ i = 1 := by
        have := (List.getElem?_eq_some_iff.mp hx2).1
        simp at this
        omega
      rcases h01 with rfl | rfl
      · cases hx2
        exact ⟨rfl, _, rfl, _, rfl, g, x, lus, ls, is, n, rfl, Z3.L.same SM, SM _ _ hx, pos, by omega, R1, fun H2 S2 => ⟨_, rfl, iteF (S.trans S2)⟩⟩
      · cases hx2
        exact ⟨rfl, _, rfl, _, rfl, g, y, lus, ls, js, n, rfl, Z3.L.same SM, SM _ _ hy, pos, by omega, R2, fun H2 S2 => ⟨_, rfl, iteF (S.trans S2)⟩⟩
    rintro H4 S4
    have hM := S4 _ _ (upd_same (H := H3) (a := M) (o := .lst []))
    have S4 := (sNew (o := .lst []) nM).trans S4
    refine ⟨by show 0 ≤ sizeLine; exact Nat.zero_le _, fun qq nqq => ?_⟩
    have S5 := S4.trans (sNew (o := .lst []) nqq)
    refine ⟨_, _, dp_lst (SqL.of (sNew nqq _ _ hM)) .nil, dp_lst (SqL.of upd_same) .nil, row_shaped (xs := []) true (by simp), row_shaped (xs := []) true (by simp), _, rfl, ?_⟩
    rw [eqv_nilE]
    refine iteF ?_
    have Z5 := Z3.same S5
    refine ⟨_, rfl, _, rfl, _, rfl, _, rfl, b, rfl, Z5.B, fun am H6 B6 D6 => ?_⟩
    have Z6 := Z5.but B6 D6
    have isx : ∀ x : Nat, x < n → isT (n : Nat) (.int (x : Nat)) = true := fun x hx => by
      show (decide ((0 : Int) ≤ (x : Int)) && decide ((x : Int) < (n : Int))) = true
      simp
      omega
    refine ⟨p, t, n, us, ls, _, _, "int", "int", am, rfl, Z6.X, Z6.lok, by omega, by omega, .int _, .int _, fun h => (by rw [isx a (by omega)] at h; cases h), fun _ h => (by rw [isx c (by omega)] at h; cases h), fun a' b' e1 e2 h1 h2 v H7 S7 hv => ?_⟩
    rcases hv with ⟨rfl, _⟩ | ⟨_, ts, _, _, Tm, _⟩
    · exact ⟨rfl, k H7 (B6.same S7) (D2.trans ((But.of (S3.trans S5)).trans (D6.trans (But.of S7))))⟩
    · exact absurd Tm (no ts)
theorem cal_impossible (T : Txt P w K mg cl) : Cal P w K mg base CX0 7 "_law_impossible" ["_law_bag_here", "_law_system", "_law_count", "_law_links_here"] (spImp (cl "System")) := by
  obtain ⟨f, fd, F, m⟩ := T.d_impossible
  exact ⟨f, fd, ok_impossible F T, m, F.kp, F.binds fun _ _ _ _ _ _ us hl => match us, hl with | [_, _, _, _], _ => rfl⟩
end
end My
set_option Elab.async false
set_option linter.all false
set_option maxRecDepth 100000
set_option maxHeartbeats 1000000
namespace My
open PySem L2 Dw Wp
open C8 (pss_cut tCut)
set_option pp.maxSteps 600
open Bf
def spIsG (C CG CE : Addr) : Sp := fun vs H Q _ => ∃ (b p t g q : Addr) (n a c : Nat) (us lus : List V) (ls : List Lk), vs = [.ref b, .int (n : Nat), .ref g, .int (a : Nat), .int (c : Nat), .ref q] ∧ Zs C b p t g n us lus ls H ∧ a < n ∧ c < n ∧ AnsAt CG CE ls n a c H q ∧ ∀ H', BgAt H' b → But b H H' → Q (.bl true) H'
theorem GrAt.same {CG : Addr} {H H' : Hp} {q pa ta : Addr} {am : Int} {is : List Nat} {ts : List Int} (h : GrAt CG H q am pa ta is ts) (S : Same H H') : GrAt CG H' q am pa ta is ts := by
  obtain ⟨⟨d, h1⟩, h2, h3⟩ := h
  exact ⟨⟨d, S _ _ h1⟩, S _ _ h2, S _ _ h3⟩
theorem EnAt.same {CE : Addr} {H H' : Hp} {q pa ta : Addr} {is : List Nat} {ts : List Int} (h : EnAt CE H q pa ta is ts) (S : Same H H') : EnAt CE H' q pa ta is ts := by
  obtain ⟨⟨d, h1⟩, h2, h3⟩ := h
  exact ⟨⟨d, S _ _ h1⟩, S _ _ h2, S _ _ h3⟩
theorem AnsAt.same {CG CE : Addr} {ls : List Lk} {n a c : Nat} {H H' : Hp} {q : Addr} (h : AnsAt CG CE ls n a c H q) (S : Same H H') : AnsAt CG CE ls n a c H' q := by
  rcases h with ⟨am, pa, ta, is, ts, h, g⟩ | ⟨pa, ta, is, ts, h, g⟩
  · exact .inl ⟨am, pa, ta, is, ts, h.same S, g⟩
  · exact .inr ⟨pa, ta, is, ts, h.same S, g⟩
theorem AnsAt.but {CG CE : Addr} {ls : List Lk} {n a c : Nat} {H H' : Hp} {q b : Addr} (h : AnsAt CG CE ls n a c H q) (B : BgAt H b) (D : But b H H') : AnsAt CG CE ls n a c H' q := by
  rcases h with ⟨am, pa, ta, is, ts, ⟨⟨d, h1⟩, h2, h3⟩, g⟩ | ⟨pa, ta, is, ts, ⟨⟨d, h1⟩, h2, h3⟩, g⟩
  · exact .inl ⟨am, pa, ta, is, ts, ⟨⟨d, D _ _ h1 (B.ins h1)⟩, D _ _ h2 (B.tup h2), D _ _ h3 (B.tup h3)⟩, g⟩
  · exact .inr ⟨pa, ta, is, ts, ⟨⟨d, D _ _ h1 (B.ins h1)⟩, D _ _ h2 (B.tup h2), D _ _ h3 (B.tup h3)⟩, g⟩
theorem natV (js : List Nat) : (js.map fun (i : Nat) => V.int i) = (nI js).map V.int := by
  unfold nI
  rw [List.map_map]
  rfl
/-- the places among n that are not in fs -/
def ntIn (n : Nat) (fs : List Nat) : List Nat := (List.range n).filter fun v => decide (v ∉ fs)
theorem ntIn_succ (n : Nat) (fs : List Nat) : ntIn (n + 1) fs = ntIn n fs ++ if n ∉ fs then [n] else [] := by
  unfold ntIn
  rw [List.range_succ, List.filter_append, List.filter_cons, List.filter_nil]
  congr 1
  by_cases h : n ∈ fs <;> simp [h]
theorem ntIn_len (n : Nat) (fs : List Nat) : (ntIn n fs).length ≤ n := Nat.le_trans (List.length_filter_le _ _) (by rw [List.length_range]; exact Nat.le_refl _)
/-- times, those of some places raised -/
def upT (ts : List Int) (is : List Nat) (r : Int) (v : Nat) : Int := if v ∈ is then kF ts v + r else kF ts v
section
variable {P : Program} {w : World} {K : PySem.W.Frag} {mg : Str → Option Value} {base : Heap} {cl : String → Addr}
theorem ok_is_greatest {f : Addr} {fd : FuncData} (F : Fun K "_law_is_greatest" "_law_is_greatest" s_is_greatest f fd) (T : Txt P w K mg cl) : FnOk P w K mg base CX0 7 f fd ["_law_bag_here", "_law_count", "_law_links_here", "_law_one", "_law_other", "_law_answer"] (spIsG (cl "System") (cl "Greatest") (cl "Endless")) := by
  refine F.ok sc_is_greatest (fun vs H Q E h => ?_) (fun cdv A outer s H vs Q E hr h => ?_)
  · obtain ⟨b, p, t, g, q, n, a, c, us, lus, ls, rfl, _⟩ := h
    rfl
  · obtain ⟨b, p, t, g, q, n, a, c, us, lus, ls, rfl, Z, an, cn, hA, k⟩ := h
    have C_reached : Cal P w K mg base CX0 1 "_law_reached" _ spReach := cal_reached T
    have C_is_whole : Cal P w K mg base CX0 1 "_law_is_whole" _ (spIsI K) := cal_is_whole T
    have C_L_are_times : Cal P w K mg base CX0 2 "_law_are_times" _ spLAre := cal_L_are_times T
    have C_keep : Cal P w K mg base CX0 1 "_law_keep" _ spLKeep := cal_keep T
    have C_amount : Cal P w K mg base CX0 3 "_law_amount" _ spAmt := cal_amount T
    have C_leads : Cal P w K mg base CX0 2 "_law_leads" _ spLds := cal_leads T
    have C_sum : Cal P w K mg base CX0 1 "_law_sum" _ spLSum := cal_sum T
    have C_has : Cal P w K mg base CX0 3 "_law_has" _ spHas := cal_has T
    refine ⟨_, (pss_cons (ps_set (i := 6) sc_is_greatest.nd rfl (Or.inr rfl) (pe_cal C_reached (hr.mono (by decide)) (pa_cons (pv 1) (pa_cons (pv 2) (pa_cons (pv 4) pa_nil)))))
        (pss_cons (ps_if (pt_val (pe_callB call_isi (by rfl) T.n_isinstance (by decide +kernel) (pa_cons (pv 5) (pa_cons (pe_cls T.m_Endless) pa_nil))))
          (pss_cons (ps_asg (pe_tup (pa_cons (pe_fld (pv 5) rfl) (pa_cons (pe_fld (pv 5) rfl) pa_nil))) (pg_tup rfl (pgs_cons (pg_name (i := 7) sc_is_greatest.nd rfl (Or.inr rfl)) (pgs_cons (pg_name (i := 8) sc_is_greatest.nd rfl (Or.inr rfl)) pgs_nil))))
            (pss_cons (ps_if (PW.pt (pw_or (pt_cmpR op_in_seq (pv 3) (pv 6) (by rfl)) (pw_or1 (pt_not (pt_val (pe_callB call_isi (by rfl) T.n_isinstance (by decide +kernel) (pa_cons (pv 7) (pa_cons (pe_ty "tuple" T.n_tuple) pa_nil))))))))
              (pss_one (ps_ret pe_bl)) pss_nil)
            (pss_cons (ps_if (PW.pt (pw_or (pt_cmpR (op_neD hr.units) (pe_callTy call_list_of (by rfl) T.n_list (by decide +kernel) (pa_cons (pv 7) pa_nil)) (pe_lc (own := [("_law_x", 10)]) (g := gName 10)  rfl sc_is_greatest.nd (pi_range1 rfl T.n_range (pa_cons (pv 1) pa_nil)) (blkOk_by (own := [("_law_x", 10)]) (N := ["_law_bag_here", "_law_count", "_law_links_here", "_law_one", "_law_other", "_law_answer", "_law_reached_here", "_law_apart", "_law_times_here", "_law_more", "_law_x"]) (sc := defScope s_is_greatest) (by decide +kernel)) (fun _ _ _ _ _ => pg_name (i := 10) sc_is_greatest.nd rfl (Or.inl rfl)) (fun _ _ _ _ _ => pts_one (pt_cmpR (op_notIn_seqK (K := K) rfl) (pv 10) (pv 6) (by rfl))) (fun _ _ _ _ _ => (pv 10))) (nomark _)) (pw_or1 (pt_cmpR (op_neD hr.units) (pe_lc (own := [("_law_x", 10)]) (g := gName 10)  rfl sc_is_greatest.nd (pi_tup (pv 7)) (blkOk_by (own := [("_law_x", 10)]) (N := ["_law_bag_here", "_law_count", "_law_links_here", "_law_one", "_law_other", "_law_answer", "_law_reached_here", "_law_apart", "_law_times_here", "_law_more", "_law_x"]) (sc := defScope s_is_greatest) (by decide +kernel)) (fun _ _ _ _ _ => pg_name (i := 10) sc_is_greatest.nd rfl (Or.inl rfl)) (fun _ _ _ _ _ => pts_one (pt_not (pt_val (pe_cal C_is_whole (hr.mono (by decide)) (pa_cons (pv 10) pa_nil))))) (fun _ _ _ _ _ => (pv 10))) (pe_lst pa_nil) (nomark _)))))
              (pss_one (ps_ret pe_bl)) pss_nil)
            (pss_cons (ps_if (pt_not (pt_val (pe_cal C_L_are_times (hr.mono (by decide)) (pa_cons (pv 8) (pa_cons (pv 1) pa_nil)))))
              (pss_one (ps_ret pe_bl)) pss_nil)
            (pss_cons (ps_for PassesOwn.never rfl (pi_list (pe_lst (pa_cons pe_int (pa_cons pe_int (pa_cons (pe_callB call_abs (by rfl) T.n_abs (by decide +kernel) (pa_cons (pe_cal C_amount (hr.mono (by decide)) (pa_cons (pv 0) pa_nil)) pa_nil)) pa_nil))))) (pg_name (i := 9) sc_is_greatest.nd rfl (Or.inr rfl))
              (pss_one (ps_if (pt_not (pt_val (pe_cal C_keep (hr.mono (by decide)) (pa_cons (pv 2) (pa_cons (pe_lc (own := [("_law_x", 10)]) (g := gName 10) (tt := tYes) rfl sc_is_greatest.nd (pi_range1 rfl T.n_range (pa_cons (pv 1) pa_nil)) (blkOk_by (own := [("_law_x", 10)]) (N := ["_law_bag_here", "_law_count", "_law_links_here", "_law_one", "_law_other", "_law_answer", "_law_reached_here", "_law_apart", "_law_times_here", "_law_more", "_law_x"]) (sc := defScope s_is_greatest) (by decide +kernel)) (fun _ _ _ _ _ => pg_name (i := 10) sc_is_greatest.nd rfl (Or.inl rfl)) (fun _ _ _ _ _ => pts_nil) (fun _ _ _ _ _ => (pe_cut (pe_ifExp (pt_cmpR (op_in_seqK (K := K) rfl) (pv 10) (pv 7) (by rfl)) (pe_op op_add (pe_ix (ix_tupK (K := K) rfl) (pv 8) (pv 10) (fun _ _ => rfl)) (pv 9)) (pe_ix (ix_tupK (K := K) rfl) (pv 8) (pv 10) (fun _ _ => rfl)))))) pa_nil)))))
                  (pss_one (ps_ret pe_bl)) pss_nil)))
            (pss_one (ps_ret pe_bl))))))) pss_nil)
        (pss_cons (ps_if (PW.pt (pw_or (pt_not (pt_val (pe_callB call_isi (by rfl) T.n_isinstance (by decide +kernel) (pa_cons (pv 5) (pa_cons (pe_cls T.m_Greatest) pa_nil))))) (pw_or1 (pt_not (pt_val (pe_cal C_is_whole (hr.mono (by decide)) (pa_cons (pe_fld (pv 5) rfl) pa_nil)))))))
          (pss_one (ps_ret pe_bl)) pss_nil)
        (pss_cons (ps_if (PW.pt (pw_or (pt_not (pt_val (pe_cal C_leads (hr.mono (by decide)) (pa_cons (pv 2) (pa_cons (pe_fld (pv 5) rfl) (pa_cons (pv 4) (pa_cons (pv 3) pa_nil))))))) (pw_or1 (pt_cmpR op_ne (pe_cal C_sum (hr.mono (by decide)) (pa_cons (pv 2) (pa_cons (pe_fld (pv 5) rfl) pa_nil))) (pe_fld (pv 5) rfl) (nomark _)))))
          (pss_one (ps_ret pe_bl)) pss_nil)
        (pss_one (ps_ret (pe_cal C_has (hr.mono (by decide)) (pa_cons (pv 1) (pa_cons (pv 2) (pa_cons (pe_fld (pv 5) rfl) (pa_cons (pv 3) (pa_cons (pv 4) (pa_cons (pe_fld (pv 5) rfl) pa_nil))))))))))))), ?_⟩
    obtain ⟨ok, pos⟩ := Z.ix
    have n1 := Z.n1
    have n2 := Z.n2
    have ll := Z.ll
    refine ⟨_, rfl, _, rfl, _, rfl, g, lus, ls, n, c, rfl, Z.L, ok, pos, cn, by omega, fun D fs H1 nD F1 C1 S1 hD => ?_⟩
    have Z1 := Z.same S1
    rcases hA.same S1 with ⟨am, pa, ta, is, ts, ⟨⟨dq, hq⟩, hpa, hta⟩, G⟩ | ⟨pa, ta, is, ts, ⟨⟨dq, hq⟩, hpa, hta⟩, G⟩
    · have lis := G.len
      refine ⟨_, rfl, _, _, _, _, _, rfl, .own (cl "Endless"), .base (.ins hq T.cl_Greatest T.y_Greatest T.z1 T.z2 T.z3_Greatest), T.k_Gr_En, _, rfl, iteF ?_⟩
      refine ⟨_, rfl, _, _, _, _, _, rfl, .own (cl "Greatest"), .base (.ins hq T.cl_Greatest T.y_Greatest T.z1 T.z2 T.z3_Greatest), T.k_Gr_Gr, _, rfl, iteF ?_⟩
      refine ⟨_, rfl, q, _, _, _, _, rfl, hq, T.cl_Greatest, T.na_Greatest _ (by decide), rfl, _, _, rfl, (.int _ : Dm K _ (.int am) "int"), _, rfl, iteF ?_⟩
      refine ⟨_, rfl, _, rfl, q, _, _, _, _, rfl, hq, T.cl_Greatest, T.na_Greatest _ (by decide), rfl, _, rfl, _, rfl, g, pa, lus, ls, is, c, a, rfl, Z1.L, hpa, pos, by omega, G.lead, _, rfl, iteF ?_⟩
      refine ⟨_, rfl, _, rfl, q, _, _, _, _, rfl, hq, T.cl_Greatest, T.na_Greatest _ (by decide), rfl, g, pa, lus, ls, is, rfl, Z1.L, hpa, by omega, Leads.lt G.lead, fun H2 S2 => ?_⟩
      rw [← sumO_nl, G.sum]
      refine ⟨_, rfl, q, _, _, _, _, rfl, S2 _ _ hq, T.cl_Greatest, T.na_Greatest _ (by decide), rfl, rfl, _, rfl, ?_⟩
      rw [decide_eq_true rfl]
      refine iteF ?_
      have Z2 := Z1.same S2
      refine ⟨_, rfl, _, rfl, _, rfl, q, _, _, _, _, rfl, S2 _ _ hq, T.cl_Greatest, T.na_Greatest _ (by decide), rfl, _, rfl, _, rfl, _, rfl, q, _, _, _, _, rfl, S2 _ _ hq, T.cl_Greatest, T.na_Greatest _ (by decide), rfl, g, ta, lus, ls, ts, n, a, c, am, rfl, Z2.L, S2 _ _ hta, Z2.lok, by omega, by omega, an, cn, G.tms, G.dif, fun H3 S3 => ?_⟩
      exact k H3 (Z2.B.same S3) (But.of (S1.trans (S2.trans S3)))
    · have fr := reach_iff F1 C1 ok cn G.tms.2
      have lts := G.tms.1
      have eis : is = ntIn n fs := by
        rw [G.apart]
        unfold ntIn
        refine List.filter_congr fun v hv => ?_
        have := fr v
        cases hg : gO (rch ls n c) v with
        | none =>
          rw [hg] at this
          have : v ∉ fs := fun z => this.mp z rfl
          simp [this]
        | some x =>
          rw [hg] at this
          have : v ∈ fs := this.mpr fun z => nomatch z
          simp [this]
      have lis : is.length ≤ n := by
        rw [eis]
        exact ntIn_len n fs
      have hpa : H1 pa = some (.tup ((nI is).map V.int)) := by
        rw [hpa]
        unfold natT
        rw [natV]
      refine ⟨_, rfl, _, _, _, _, _, rfl, .own (cl "Endless"), .base (.ins hq T.cl_Endless T.y_Endless T.z1 T.z2 T.z3_Endless), T.k_En_En, _, rfl, iteT ?_⟩
      refine ⟨_, rfl, q, _, _, _, _, rfl, hq, T.cl_Endless, T.na_Endless _ (by decide), rfl, _, rfl, q, _, _, _, _, rfl, hq, T.cl_Endless, T.na_Endless _ (by decide), rfl, by show 2 ≤ sizeLine; decide, fun tp ntp => ⟨tp, _, rfl, SqT.of upd_same, rfl, _, _, rfl, _, _, rfl, rfl, ?_⟩⟩
      have S2 := sNew (o := .tup [.ref pa, .ref ta]) ntp
      generalize upd H1 tp (.tup [.ref pa, .ref ta]) = H2 at S2
      have Z2 := Z1.same S2
      have hpa2 := S2 _ _ hpa
      have hta2 := S2 _ _ hta
      have hD2 := S2 _ _ hD
      have nia : a ∉ fs := fun z => (fr a).mp z G.non
      refine ⟨_, rfl, _, rfl, D, _, rfl, .inl (SqL.of hD2), rfl, flatI _, _, rfl, ?_⟩
      rw [in_ints, nI_in, decide_eq_false nia]
      refine iteF ⟨_, rfl, _, _, _, _, _, rfl, .ty "tuple", .base (.tup hpa2), (show _ = some true from kit_ty (by decide +kernel)), _, rfl, iteF ?_⟩
      refine ⟨_, rfl, pa, _, rfl, .inr (SqT.of hpa2), fun L nL => ?_⟩
      have S3 := sNew (o := .lst ((nI is).map V.int)) nL
      refine ⟨_, rfl, (n : Int), rfl, by omega, by omega, fun M nM => lc_range (fun i H' => H' = upd (upd H2 L (.lst ((nI is).map V.int))) M (.lst ((nI (ntIn i fs)).map V.int))) rfl ?_ ?_⟩
      · rintro i H' hi rfl
        refine ⟨rfl, _, rfl, _, rfl, D, _, rfl, .inl (SqL.of (sNew nM _ _ (S3 _ _ hD2))), rfl, flatI _, _, rfl, ?_⟩
        rw [in_ints, Int.zero_add, nI_in]
        have sz : ((nI (ntIn i fs)).map V.int).length < sizeLine := small1000 (by
          have := ntIn_len i fs
          unfold nI
          rw [List.length_map, List.length_map]
          omega)
        by_cases gi : i ∈ fs
        · rw [decide_eq_true gi]
          refine iteF ?_
          rw [ntIn_succ, if_neg (by simp [gi]), List.append_nil]
        · rw [decide_eq_false gi]
          refine iteT ⟨_, rfl, _, upd_same, sz, ?_⟩
          rw [upd_upd, ntIn_succ, if_pos gi]
          unfold nI
          rw [List.map_append, List.map_append]
          rfl
      rintro H' rfl
      rw [Int.toNat_natCast]
      have S4 := S3.trans (sNew (o := .lst ((nI (ntIn n fs)).map V.int)) nM)
      refine ⟨_, _, dpI (is := nI is) (sNew nM _ _ upd_same), dpI (is := nI (ntIn n fs)) upd_same, row_shaped true (okI _), row_shaped true (okI _), _, rfl, ?_⟩
      rw [eqv_ints, decide_eq_true (show nI is = nI (ntIn n fs) by rw [← eis])]
      refine iteF ?_
      have hpa4 := S4 _ _ hpa2
      generalize upd (upd H2 L (.lst ((nI is).map V.int))) M (.lst ((nI (ntIn n fs)).map V.int)) = H4 at S4 hpa4
      refine ⟨_, rfl, pa, rfl, ⟨_, SqT.of hpa4⟩, fun M2 nM2 => lc_tup (K := K) (a := pa) (xs := (nI is).map V.int) (fun i H' => H' = upd H4 M2 (.lst [])) rfl (fun i H' _ e => by rw [e]; exact SqT.of (sNew nM2 _ _ hpa4)) ?_ ?_⟩
      · rintro i x H' hx rfl
        obtain ⟨z, _, rfl⟩ := List.mem_map.mp (List.mem_of_getElem? hx)
        exact ⟨rfl, _, rfl, _, _, rfl, (.int z : Dm K _ (.int z) "int"), _, rfl, iteF rfl⟩
      rintro H' rfl
      have S5 := S4.trans (sNew (o := .lst []) nM2)
      refine ⟨by show 0 ≤ sizeLine; exact Nat.zero_le _, fun qq nqq => ?_⟩
      have S6 := S5.trans (sNew (o := .lst []) nqq)
      refine ⟨_, _, dp_lst (SqL.of (sNew nqq _ _ upd_same)) .nil, dp_lst (SqL.of upd_same) .nil, row_shaped (xs := []) true (by simp), row_shaped (xs := []) true (by simp), _, rfl, ?_⟩
      rw [eqv_nilE]
      refine iteF ?_
      have hta6 := S6 _ _ hta2
      refine ⟨_, rfl, _, rfl, ta, ts, n, rfl, hta6, by omega, fun H7 S7 => ?_⟩
      rw [decide_eq_true (show (ts.length : Int) = (n : Int) by omega)]
      refine ⟨_, rfl, iteF ?_⟩
      have S7 := S6.trans S7
      have Z7 := Z2.same S7
      refine ⟨_, rfl, b, rfl, Z7.B, fun am H8 B8 D8 => ?_⟩
      have Z8 := Z7.but B8 D8
      have hta8 := D8 _ _ (S7 _ _ hta2) (Z7.B.tup (S7 _ _ hta2))
      have hpa8 := D8 _ _ (S7 _ _ hpa2) (Z7.B.tup (S7 _ _ hpa2))
      have D8 := (But.of (S1.trans (S2.trans S7))).trans D8
      have upi : ∀ v, v < n → (v ∈ is ↔ gO (rch ls n c) v = none) := fun v hv => by
        rw [eis]
        unfold ntIn
        rw [List.mem_filter, List.mem_range, decide_eq_true_iff, fr v]
        constructor
        · rintro ⟨_, h⟩
          exact Classical.byContradiction h
        · intro h
          exact ⟨hv, fun z => z h⟩
      have okc : IxOk (og n c).length (nls ls) := by rw [og_len]; exact ok
      obtain ⟨_, _, _, sat, _, _⟩ := sett_kept okc (sett_keeps okc G.tms.2)
      have upk : ∀ r : Int, 0 ≤ r → Keeps (nls ls) (kF ((List.range n).map (upT ts is r))) := fun r r0 l hl => by
        have at_ : ∀ v, v < n → kF ((List.range n).map (upT ts is r)) v = if gO (rch ls n c) v = none then kF ts v + r else kF ts v := fun v hv => by
          unfold kF
          rw [List.getElem?_map, List.getElem?_range hv]
          show upT ts is r v = _
          unfold upT
          by_cases gv : gO (rch ls n c) v = none
          · rw [if_pos gv, if_pos ((upi v hv).mpr gv)]
            rfl
          · rw [if_neg gv, if_neg fun z => gv ((upi v hv).mp z)]
            rfl
        rw [at_ _ (ok l hl).1, at_ _ (ok l hl).2]
        exact up_keeps G.tms.2 sat r0 l hl
      refine ⟨am, rfl, by show 3 ≤ sizeLine; decide, fun q1 m1 => ?_⟩
      have S9 := sNew (o := .lst [.int 0, .int 1, .int (if am < 0 then -am else am)]) m1
      refine ⟨q1, rfl, ⟨_, SqL.of upd_same⟩, for_list (K := K) (a := q1) (xs := [.int 0, .int 1, .int (if am < 0 then -am else am)]) (fun i σ H' => Same (upd H8 q1 (.lst [.int 0, .int 1, .int (if am < 0 then -am else am)])) H' ∧ ∃ v9 : Option V, σ = [some (.ref b), some (.int (n : Nat)), some (.ref g), some (.int (a : Nat)), some (.int (c : Nat)), some (.ref q), some (.ref D), some (.ref pa), some (.ref ta), v9, none]) ⟨Same.refl _, none, rfl⟩ (fun i σ H' _ z => SqL.of (z.1 _ _ upd_same)) ?_ ?_⟩
      · rintro i x σ H9 hx ⟨S10, v9, rfl⟩
        obtain ⟨r, rfl, r0⟩ : ∃ r : Int, x = .int r ∧ 0 ≤ r := by
          have hx := List.mem_of_getElem? hx
          simp only [List.mem_cons, List.not_mem_nil, or_false] at hx
          rcases hx with rfl | rfl | rfl
          · exact ⟨0, rfl, by omega⟩
          · exact ⟨1, rfl, by omega⟩
          · exact ⟨_, rfl, by split <;> omega⟩
        have S11 := S9.trans S10
        have hta9 := S11 _ _ hta8
        have hpa9 := S11 _ _ hpa8
        have Z9 := Z8.same S11
        refine ⟨_, rfl, _, rfl, (n : Int), rfl, by omega, by omega, fun M3 nM3 => lc_range (fun i H' => H' = upd H9 M3 (.lst (((List.range i).map (upT ts is r)).map V.int))) rfl ?_ ?_⟩
        · rintro i H' hi rfl
          have hin : i < n := by omega
          have SM := sNew (o := .lst (((List.range i).map (upT ts is r)).map V.int)) nM3
          refine ⟨rfl, fun v H' => H' = upd H9 M3 (.lst (((List.range i).map (upT ts is r)).map V.int)) ∧ v = .int (upT ts is r i), ?_, fun v H' ⟨e1, e2⟩ => ?_⟩
          · refine ⟨_, rfl, _, rfl, pa, _, rfl, .inr (SqT.of (SM _ _ hpa9)), rfl, flatI _, _, rfl, ?_⟩
            rw [in_ints, Int.zero_add, nI_in]
            unfold upT
            by_cases gi : i ∈ is
            · rw [decide_eq_true gi, if_pos gi]
              exact iteT ⟨_, rfl, _, rfl, ta, _, _, _, rfl, rfl, SqT.of (SM _ _ hta9), atI_nat (kF_at (by omega)), _, rfl, _, _, rfl, rfl, rfl, rfl⟩
            · rw [decide_eq_false gi, if_neg gi]
              exact iteF ⟨_, rfl, _, rfl, ta, _, _, _, rfl, rfl, SqT.of (SM _ _ hta9), atI_nat (kF_at (by omega)), rfl, rfl⟩
          · subst e1 e2
            refine ⟨_, upd_same, small1000 (by rw [List.length_map, List.length_map, List.length_range]; omega), ?_⟩
            rw [upd_upd, List.range_succ, List.map_append, List.map_append]
            rfl
        · rintro H' rfl
          rw [Int.toNat_natCast]
          have SM := sNew (o := .lst (((List.range n).map (upT ts is r)).map V.int)) nM3
          refine ⟨g, M3, lus, ls, (List.range n).map (upT ts is r), rfl, Z9.L.same SM, .inl upd_same, by rw [List.length_map, List.length_range]; exact Z9.lok, by omega, fun H10 S12 => ?_⟩
          rw [brk_nil.mpr (upk r r0)]
          exact ⟨_, rfl, iteF ⟨S10.trans (SM.trans S12), _, rfl⟩⟩
      · rintro σ H9 ⟨S10, v9, rfl⟩
        exact k H9 (Z8.B.same (S9.trans S10)) (D8.trans (But.of (S9.trans S10)))
theorem cal_is_greatest (T : Txt P w K mg cl) : Cal P w K mg base CX0 7 "_law_is_greatest" ["_law_bag_here", "_law_count", "_law_links_here", "_law_one", "_law_other", "_law_answer"] (spIsG (cl "System") (cl "Greatest") (cl "Endless")) := by
  obtain ⟨f, fd, F, m⟩ := T.d_is_greatest
  exact ⟨f, fd, ok_is_greatest F T, m, F.kp, F.binds fun _ _ _ _ _ _ us hl => match us, hl with | [_, _, _, _, _, _], _ => rfl⟩
end
end My
set_option Elab.async false
set_option linter.all false
set_option maxRecDepth 100000
set_option maxHeartbeats 1000000
namespace My
open PySem L2 Dw Wp
open C8 (pss_cut tCut)
set_option pp.maxSteps 600
open Bf
def HiP (ls : List Lk) (a c : Nat) : Option Int → Prop
  | some h => (∃ φ, Keeps (nls ls) φ ∧ φ a - φ c = h) ∧ ∀ φ, Keeps (nls ls) φ → φ a - φ c ≤ h
  | none => ∀ m : Int, ∃ φ, Keeps (nls ls) φ ∧ m ≤ φ a - φ c
def LoP (ls : List Lk) (a c : Nat) : Option Int → Prop
  | some l => (∃ φ, Keeps (nls ls) φ ∧ φ a - φ c = l) ∧ ∀ φ, Keeps (nls ls) φ → l ≤ φ a - φ c
  | none => ∀ m : Int, ∃ φ, Keeps (nls ls) φ ∧ φ a - φ c ≤ m
theorem GrP.hi {ls : List Lk} {n a c : Nat} {am : Int} {is : List Nat} {ts : List Int} (G : GrP ls n a c am is ts) : HiP ls a c (some am) := ⟨⟨_, G.tms.2, G.dif⟩, fun φ K => by rw [← G.sum]; exact G.lead.bound K⟩
theorem EnP.hi {ls : List Lk} {n a c : Nat} {is : List Nat} {ts : List Int} (G : EnP ls n a c is ts) (ok : IxOk n (nls ls)) (cn : c < n) : HiP ls a c none := fun m => by
  have ok' : IxOk (og n c).length (nls ls) := by rw [og_len]; exact ok
  have h2 := sett_keeps ok' G.tms.2
  obtain ⟨_, _, _, sat, _, _⟩ := sett_kept ok' h2
  obtain ⟨_, z0, _⟩ := og_chain ok cn h2
  have G0 := G.non
  refine ⟨_, up_keeps (r := max 0 (m - kF ts a + kF ts c)) G.tms.2 sat (by omega), ?_⟩
  show m ≤ (if gO (rch ls n c) a = none then kF ts a + max 0 (m - kF ts a + kF ts c) else kF ts a) - (if gO (rch ls n c) c = none then kF ts c + max 0 (m - kF ts a + kF ts c) else kF ts c)
  rw [if_pos G0, if_neg (by rw [z0]; exact fun z => nomatch z)]
  omega
theorem HiP.lo {ls : List Lk} {a c : Nat} : ∀ {o : Option Int}, HiP ls a c o → LoP ls c a (o.map fun x => -x)
  | some h, ⟨⟨φ, K, e⟩, u⟩ => ⟨⟨φ, K, by show _ = -h; omega⟩, fun φ K => by have := u φ K; show -h ≤ _; omega⟩
  | none, h => fun m => by
    obtain ⟨φ, K, e⟩ := h (-m)
    exact ⟨φ, K, by omega⟩
theorem mid_has {ls : List Lk} {a c : Nat} {h l : Option Int} {m : Int} (Hh : HiP ls a c h) (Hl : LoP ls a c l) (h1 : ∀ x, h = some x → m ≤ x) (h2 : ∀ x, l = some x → x ≤ m) : ∃ φ, Keeps (nls ls) φ ∧ φ a - φ c = m := by
  obtain ⟨f, F, fe⟩ : ∃ φ, Keeps (nls ls) φ ∧ m ≤ φ a - φ c := by
    cases h with
    | none => exact Hh m
    | some x =>
      obtain ⟨⟨φ, K, e⟩, _⟩ := Hh
      exact ⟨φ, K, by have := h1 x rfl; omega⟩
  obtain ⟨g, G, ge⟩ : ∃ φ, Keeps (nls ls) φ ∧ φ a - φ c ≤ m := by
    cases l with
    | none => exact Hl m
    | some x =>
      obtain ⟨⟨φ, K, e⟩, _⟩ := Hl
      exact ⟨φ, K, by have := h2 x rfl; omega⟩
  exact between F G ge fe
def spBtw (C : Addr) : Sp := fun vs H Q _ => ∃ (b p t g : Addr) (n a c : Nat) (us lus : List V) (ls : List Lk) (h l : Option Int), vs = [.ref b, .ref p, .int (n : Nat), .ref g, .int (a : Nat), .int (c : Nat), oiV h, oiV l] ∧ Zs C b p t g n us lus ls H ∧ a < n ∧ c < n ∧ HiP ls a c h ∧ LoP ls a c l ∧ ∀ H', BgAt H' b → But b H H' → Q (.bl true) H'
theorem isx {n : Nat} (x : Nat) (hx : x < n) : isT (n : Nat) (.int (x : Nat)) = true := by
  show (decide ((0 : Int) ≤ (x : Int)) && decide ((x : Int) < (n : Int))) = true
  simp
  omega
section
variable {P : Program} {w : World} {K : PySem.W.Frag} {mg : Str → Option Value} {base : Heap} {cl : String → Addr}
theorem ok_between {f : Addr} {fd : FuncData} (F : Fun K "_law_between" "_law_between" s_between f fd) (T : Txt P w K mg cl) : FnOk P w K mg base CX0 7 f fd ["_law_bag_here", "_law_system", "_law_count", "_law_links_here", "_law_one", "_law_other", "_law_high", "_law_low"] (spBtw (cl "System")) := by
  refine F.ok sc_between (fun vs H Q E h => ?_) (fun cdv A outer s H vs Q E hr h => ?_)
  · obtain ⟨b, p, t, g, n, a, c, us, lus, ls, h, l, rfl, _⟩ := h
    rfl
  · obtain ⟨b, p, t, g, n, a, c, us, lus, ls, h, l, rfl, Z, an, cn, Hh, Hl, k⟩ := h
    have C_take : Cal P w K mg base CX0 1 "_law_take" _ spTake := cal_take T
    have C_amount : Cal P w K mg base CX0 3 "_law_amount" _ spAmt := cal_amount T
    have C_has : Cal P w K mg base CX0 3 "_law_has" _ spHas := cal_has T
    have C_times_with : Cal P w K mg base (L2.CX P w) 5 "times_with" _ (spTW K (cl "System") (cl "NoInstant")) := cal_times_with T
    refine ⟨_, (pss_cut (ps_if (pt_cmpR op_isN (pv 6) pe_non (nomark _))
          (pss_one (ps_set (i := 8) sc_between.nd rfl (Or.inl rfl) (pe_op op_add (pe_cut (pe_ifExp (pt_cmpR op_notN (pv 7) pe_non (nomark _)) (pv 7) pe_int)) (pe_callB call_abs (by rfl) T.n_abs (by decide +kernel) (pa_cons (pe_cal C_amount (hr.mono (by decide)) (pa_cons (pv 0) pa_nil)) pa_nil))))) (pss_one (ps_set (i := 8) sc_between.nd rfl (Or.inl rfl) (pe_op op_sub (pv 6) (pe_cal C_take (hr.mono (by decide)) (pa_cons (pv 0) (pa_cons (pe_op op_add pe_int (pe_callB (call_min2 rfl) (by rfl) T.n_min (by decide +kernel) (pa_cons pe_int (pa_cons (pe_cut (pe_ifExp (pt_cmpR op_notN (pv 7) pe_non (nomark _)) (pe_callB call_abs (by rfl) T.n_abs (by decide +kernel) (pa_cons (pe_op op_sub (pv 6) (pv 7)) pa_nil)) pe_int)) pa_nil)))) pa_nil)))))))
        (pss_cut (ps_if (PW.pt (pw_and (pt_cmpR op_notN (pv 7) pe_non (nomark _)) (pw_and1 (pt_cmpR op_lt (pv 8) (pv 7) (nomark _)))))
          (pss_one (ps_set (i := 8) sc_between.nd rfl (Or.inl rfl) (pv 7))) pss_nil)
        (pss_cons (ps_if (pt_not (pt_val (pe_cal C_has (hr.mono (by decide)) (pa_cons (pv 2) (pa_cons (pv 3) (pa_cons (pe_cal C_times_with (hr.mono (by decide)) (pa_cons (pv 1) (pa_cons (pv 4) (pa_cons (pv 5) (pa_cons (pv 8) pa_nil))))) (pa_cons (pv 4) (pa_cons (pv 5) (pa_cons (pv 8) pa_nil)))))))))
          (pss_one (ps_ret pe_bl)) pss_nil)
        (pss_cons (ps_if (PW.pt (pw_and (pt_cmpR op_notN (pv 6) pe_non (nomark _)) (pw_and1 (pt_cmpR op_notN (pe_cal C_times_with (hr.mono (by decide)) (pa_cons (pv 1) (pa_cons (pv 4) (pa_cons (pv 5) (pa_cons (pe_op op_add (pe_op op_add (pv 6) pe_int) (pe_callB call_abs (by rfl) T.n_abs (by decide +kernel) (pa_cons (pe_cal C_amount (hr.mono (by decide)) (pa_cons (pv 0) pa_nil)) pa_nil))) pa_nil))))) pe_non (nomark _)))))
          (pss_one (ps_ret pe_bl)) pss_nil)
        (pss_cons (ps_if (PW.pt (pw_and (pt_cmpR op_notN (pv 6) pe_non (nomark _)) (pw_and1 (pt_cmpR op_notN (pe_cal C_times_with (hr.mono (by decide)) (pa_cons (pv 1) (pa_cons (pv 4) (pa_cons (pv 5) (pa_cons (pe_op op_add (pv 6) pe_int) pa_nil))))) pe_non (nomark _)))))
          (pss_one (ps_ret pe_bl)) pss_nil)
        (pss_one (ps_ret (pe_or (pe_cmpR op_isN (pv 7) pe_non (nomark _)) (pe_one (pe_cmpR op_isN (pe_cal C_times_with (hr.mono (by decide)) (pa_cons (pv 1) (pa_cons (pv 4) (pa_cons (pv 5) (pa_cons (pe_op op_sub (pv 7) pe_int) pa_nil))))) pe_non (nomark _))))))))))), ?_⟩
    obtain ⟨ok, pos⟩ := Z.ix
    have n1 := Z.n1
    have n2 := Z.n2
    have ll := Z.ll
    refine ⟨fun σ' H' => BgAt H' b ∧ But b H H' ∧ ∃ m : Int, (∀ x, h = some x → m ≤ x) ∧ (h = none → ∀ x, l = some x → x ≤ m) ∧ σ' = [some (.ref b), some (.ref p), some (.int (n : Nat)), some (.ref g), some (.int (a : Nat)), some (.int (c : Nat)), some (oiV h), some (oiV l), some (.int m)], ?_, ?_⟩
    · cases h with
      | none =>
        refine ⟨_, rfl, rfl, _, rfl, iteT ?_⟩
        refine ⟨fun v H' => H' = H ∧ v = .int (l.getD 0), ?_, fun v H' ⟨e1, e2⟩ => ?_⟩
        · cases l with
          | none => exact ⟨_, rfl, rfl, _, rfl, iteF ⟨rfl, rfl⟩⟩
          | some l => exact ⟨_, rfl, rfl, _, rfl, iteT ⟨_, rfl, rfl, rfl⟩⟩
        subst e1 e2
        refine ⟨_, rfl, b, rfl, Z.B, fun am H1 B1 D1 => ⟨am, rfl, _, _, rfl, rfl, B1, D1, _, fun x e => (by cases e), fun _ x e => ?_, rfl⟩⟩
        subst e
        show x ≤ x + (if am < 0 then -am else am)
        split <;> omega
      | some h =>
        refine ⟨_, rfl, rfl, _, rfl, iteF ?_⟩
        refine ⟨_, rfl, _, rfl, ?_⟩
        refine ⟨fun v H' => H' = H ∧ ∃ X : Int, v = .int X ∧ 0 ≤ X, ?_, fun v H' ⟨e1, X, e2, X0⟩ => ?_⟩
        · cases l with
          | none => exact ⟨_, rfl, rfl, _, rfl, iteF ⟨rfl, 1000, rfl, by decide⟩⟩
          | some l => exact ⟨_, rfl, rfl, _, rfl, iteT ⟨_, rfl, _, rfl, _, _, rfl, rfl, _, rfl, rfl, _, rfl, by split <;> omega⟩⟩
        subst e1 e2
        have mz : ∃ z : Int, (if X < 1000 then X else 1000) = z ∧ 0 ≤ z ∧ z ≤ 1000 := ⟨_, rfl, by split <;> omega, by split <;> omega⟩
        obtain ⟨z, ez, z0, z1⟩ := mz
        refine ⟨_, _, rfl, _, _, rfl, rfl, b, _, rfl, Z.B, by rw [ez]; omega, by rw [ez]; omega, fun j H1 j0 j1 B1 D1 => ⟨_, _, rfl, rfl, B1, D1, _, fun x e => ?_, fun e => (by cases e), rfl⟩⟩
        cases e
        omega
    rintro σ' H1 ⟨B1, D1, m, hm1, hm2, rfl⟩
    have Z1 := Z.but B1 D1
    refine ⟨fun σ' H' => H' = H1 ∧ ∃ m : Int, (∀ x, h = some x → m ≤ x) ∧ (∀ x, l = some x → x ≤ m) ∧ σ' = [some (.ref b), some (.ref p), some (.int (n : Nat)), some (.ref g), some (.int (a : Nat)), some (.int (c : Nat)), some (oiV h), some (oiV l), some (.int m)], ?_, ?_⟩
    · cases l with
      | none => exact ⟨_, rfl, rfl, _, rfl, iteF (iteF ⟨rfl, m, hm1, fun x e => (by cases e), rfl⟩)⟩
      | some l =>
        refine ⟨_, rfl, rfl, _, rfl, iteT ⟨_, rfl, _, rfl, _, _, rfl, rfl, _, rfl, ite2 (fun g => ?_) (fun g => ?_)⟩⟩
        · have g : m < l := of_decide_eq_true g
          refine ⟨_, rfl, rfl, l, fun x e => ?_, fun x e => (by cases e; exact Int.le_refl _), rfl⟩
          subst e
          obtain ⟨⟨φ, K, e⟩, _⟩ := Hl
          have := Hh.2 φ K
          omega
        · have g : ¬ m < l := fun z => g (decide_eq_true z)
          exact ⟨rfl, m, hm1, fun x e => (by cases e; omega), rfl⟩
    rintro σ' H2 ⟨rfl, m, hm1, hm2, rfl⟩
    refine ⟨_, rfl, _, rfl, _, rfl, _, rfl, _, rfl, _, rfl, p, t, n, us, ls, _, _, "int", "int", m, rfl, Z1.X, Z1.lok, by omega, by omega, .int _, .int _, fun h => (by rw [isx a an] at h; cases h), fun _ h => (by rw [isx c cn] at h; cases h), fun a2 c2 e1 e2 _ _ v H9 S9 hv => ?_⟩
    obtain rfl : a = a2 := by have := V.int.inj e1; omega
    obtain rfl : c = c2 := by have := V.int.inj e2; omega
    rcases hv with ⟨_, hv⟩ | ⟨ta, ts, rfl, hta, Tm, ed⟩
    · exact absurd (mid_has Hh Hl hm1 hm2) hv
    have Z3 := Z1.same S9
    refine ⟨_, rfl, _, rfl, _, rfl, g, ta, lus, ls, ts, n, a, c, m, rfl, Z3.L, hta, Z3.lok, by omega, by omega, an, cn, Tm, ed, fun H4 S4 => ⟨_, rfl, iteF ?_⟩⟩
    have Z4 := Z3.same S4
    have D4 := D1.trans (But.of (S9.trans S4))
    clear hta S9 S4 Z3 Z1 D1 B1
    cases h with
    | none =>
      refine ⟨_, rfl, rfl, _, rfl, iteF (iteF ?_)⟩
      refine ⟨_, rfl, rfl, _, rfl, iteF (iteF ?_)⟩
      cases l with
      | none => exact ⟨_, rfl, rfl, _, rfl, iteT (k _ Z4.B D4)⟩
      | some l =>
        refine ⟨_, rfl, rfl, _, rfl, iteF ?_⟩
        refine ⟨_, rfl, _, rfl, _, rfl, _, rfl, _, _, rfl, rfl, p, t, n, us, ls, _, _, "int", "int", _, rfl, Z4.X, Z4.lok, by omega, by omega, .int _, .int _, fun h => (by rw [isx a an] at h; cases h), fun _ h => (by rw [isx c cn] at h; cases h), fun a2 c2 e1 e2 _ _ v H9 S9 hv => ?_⟩
        obtain rfl : a = a2 := by have := V.int.inj e1; omega
        obtain rfl : c = c2 := by have := V.int.inj e2; omega
        rcases hv with ⟨rfl, _⟩ | ⟨ta, ts, _, _, Tm, ed⟩
        rotate_left
        · exfalso
          have := Hl.2 _ Tm.2
          rw [ed] at this
          have : l ≤ l - 1 := this
          omega
        exact ⟨rfl, k _ (Z4.B.same S9) (D4.trans (But.of S9))⟩
    | some h =>
      refine ⟨_, rfl, rfl, _, rfl, iteT ?_⟩
      refine ⟨_, rfl, _, rfl, _, rfl, _, rfl, _, _, rfl, rfl, _, rfl, b, rfl, Z4.B, fun am H5 B5 D5 => ⟨_, rfl, _, _, rfl, rfl, ?_⟩⟩
      have Z5 := Z4.but B5 D5
      refine ⟨p, t, n, us, ls, _, _, "int", "int", _, rfl, Z5.X, Z5.lok, by omega, by omega, .int _, .int _, fun h => (by rw [isx a an] at h; cases h), fun _ h => (by rw [isx c cn] at h; cases h), fun a2 c2 e1 e2 _ _ v H9 S9 hv => ?_⟩
      obtain rfl : a = a2 := by have := V.int.inj e1; omega
      obtain rfl : c = c2 := by have := V.int.inj e2; omega
      rcases hv with ⟨rfl, _⟩ | ⟨ta, ts, _, _, Tm, ed⟩
      rotate_left
      · exfalso
        have := Hh.2 _ Tm.2
        rw [ed] at this
        have : h + 1 + (if am < 0 then -am else am) ≤ h := this
        split at this <;> omega
      refine ⟨rfl, _, rfl, iteF ?_⟩
      have Z6 := Z5.same S9
      have D6 := D4.trans (D5.trans (But.of S9))
      clear S9 Z5 D5 Z4 D4
      refine ⟨_, rfl, rfl, _, rfl, iteT ?_⟩
      refine ⟨_, rfl, _, rfl, _, rfl, _, rfl, _, _, rfl, rfl, p, t, n, us, ls, _, _, "int", "int", _, rfl, Z6.X, Z6.lok, by omega, by omega, .int _, .int _, fun h => (by rw [isx a an] at h; cases h), fun _ h => (by rw [isx c cn] at h; cases h), fun a2 c2 e1 e2 _ _ v H9 S9 hv => ?_⟩
      obtain rfl : a = a2 := by have := V.int.inj e1; omega
      obtain rfl : c = c2 := by have := V.int.inj e2; omega
      rcases hv with ⟨rfl, _⟩ | ⟨ta, ts, _, _, Tm, ed⟩
      rotate_left
      · exfalso
        have := Hh.2 _ Tm.2
        rw [ed] at this
        have : h + 1 ≤ h := this
        omega
      refine ⟨rfl, _, rfl, iteF ?_⟩
      have Z7 := Z6.same S9
      have D7 := D6.trans (But.of S9)
      cases l with
      | none => exact ⟨_, rfl, rfl, _, rfl, iteT (k _ Z7.B D7)⟩
      | some l =>
        refine ⟨_, rfl, rfl, _, rfl, iteF ?_⟩
        refine ⟨_, rfl, _, rfl, _, rfl, _, rfl, _, _, rfl, rfl, p, t, n, us, ls, _, _, "int", "int", _, rfl, Z7.X, Z7.lok, by omega, by omega, .int _, .int _, fun h => (by rw [isx a an] at h; cases h), fun _ h => (by rw [isx c cn] at h; cases h), fun a2 c2 e1 e2 _ _ v H9 S9 hv => ?_⟩
        obtain rfl : a = a2 := by have := V.int.inj e1; omega
        obtain rfl : c = c2 := by have := V.int.inj e2; omega
        rcases hv with ⟨rfl, _⟩ | ⟨ta, ts, _, _, Tm, ed⟩
        rotate_left
        · exfalso
          have := Hl.2 _ Tm.2
          rw [ed] at this
          have : l ≤ l - 1 := this
          omega
        exact ⟨rfl, k _ (Z7.B.same S9) (D7.trans (But.of S9))⟩
theorem cal_between (T : Txt P w K mg cl) : Cal P w K mg base CX0 7 "_law_between" ["_law_bag_here", "_law_system", "_law_count", "_law_links_here", "_law_one", "_law_other", "_law_high", "_law_low"] (spBtw (cl "System")) := by
  obtain ⟨f, fd, F, m⟩ := T.d_between
  exact ⟨f, fd, ok_between F T, m, F.kp, F.binds fun _ _ _ _ _ _ us hl => match us, hl with | [_, _, _, _, _, _, _, _], _ => rfl⟩
end
end My
set_option Elab.async false
set_option linter.all false
set_option maxRecDepth 100000
set_option maxHeartbeats 1000000
namespace My
open PySem L2 Dw Wp
open C8 (pss_cut tCut)
set_option pp.maxSteps 600
open Bf
theorem ring_no {ls : List Lk} {n : Nat} {is : List Nat} {ts : List Int} (R : RingP ls n is) (T : TmsP ls n ts) : False := by
  obtain ⟨_, _, p, h1, h2⟩ := R
  have := h1.bound T.2
  omega
theorem walk_zipT {K : PySem.W.Frag} {a b : Addr} {xs ys : List V} {n : Nat} (hn : n = min xs.length ys.length) : Walk (RZ.ItzT K a b) n (fun H => SqT K H a xs ∧ SqT K H b ys) (YPair (fun i => xs[i]?) (fun i => ys[i]?)) := by
  subst hn
  refine ⟨fun i _ hi q => ?_, fun _ q => ⟨xs, ys, q.1, q.2, by omega⟩, fun i H v H' _ q y => ?_⟩
  · have h1 : i < xs.length := by omega
    have h2 : i < ys.length := by omega
    exact ⟨xs, ys, xs[i], ys[i], q.1, q.2, by simp [h1], by simp [h2]⟩
  · obtain ⟨T, x, z, h1, h2, h3, h4, h5⟩ := y
    exact ⟨T, x, z, h1, h2, h3, h4 xs q.1, h5 ys q.2⟩
theorem leads_parts {ls : List Lk} (pos : Pos ls) : ∀ {js : List Nat} {x y : Nat}, Leads (nls ls) js x y → (∀ k, k + 1 < js.length → e2 ls (js[k + 1]?.getD 0) = e1 ls (js[k]?.getD 0)) ∧ (js = [] → x = y) ∧ (js ≠ [] → e2 ls (js[0]?.getD 0) = (x : Int) ∧ e1 ls (js.getLast?.getD 0) = (y : Int))
  | [], x, y, h => ⟨fun k hk => absurd hk (Nat.not_lt_zero _), fun _ => h, fun z => absurd rfl z⟩
  | j :: js, x, y, ⟨l, h1, h2, h3⟩ => by
    obtain ⟨l', k1, rfl⟩ := nls_at h1
    obtain ⟨li, rfl⟩ := List.getElem?_eq_some_iff.mp k1
    obtain ⟨p1, p2⟩ := pos _ (List.getElem_mem li)
    have f1 : e1 ls j = ((nl ls[j]).1 : Nat) := by rw [← e1_at li]; exact (Int.toNat_of_nonneg p1).symm
    have f2 : e2 ls j = (x : Int) := by rw [← e2_at li, ← h2]; exact (Int.toNat_of_nonneg p2).symm
    obtain ⟨q1, q2, q3⟩ := leads_parts pos h3
    refine ⟨fun k hk => ?_, fun z => (by cases z), fun _ => ⟨f2, ?_⟩⟩
    · cases k with
      | zero =>
        cases js with
        | nil => simp at hk
        | cons j1 js => exact (q3 (by simp)).1.trans f1.symm
      | succ k => exact q1 k (by simp at hk; omega)
    · cases js with
      | nil =>
        show e1 ls j = _
        rw [f1, q2 rfl]
      | cons j1 js => exact (q3 (by simp)).2
theorem leads_pathN {ls : List Lk} (pos : Pos ls) {js : List Nat} {x y : Nat} (h : Leads (nls ls) js x y) : pathN ls js (x : Nat) (y : Nat) = none := by
  obtain ⟨q1, q2, q3⟩ := leads_parts pos h
  unfold pathN
  by_cases z : js = []
  · rw [if_pos z, if_pos (by rw [q2 z])]
  · obtain ⟨g1, g2⟩ := q3 z
    have ft : fits ls js = true := by
      unfold fits
      refine List.all_eq_true.mpr fun k hk => ?_
      have hk := List.mem_range.mp hk
      exact decide_eq_true (q1 k (by omega))
    rw [if_neg z, if_pos g1, if_pos ft, if_pos g2]
theorem tmW_none {ls : List Lk} {n : Nat} {ts : List Int} (T : TmsP ls n ts) : tmW ls n ts = none := by
  unfold tmW
  rw [if_pos T.1, if_pos (brk_nil.mpr T.2)]
theorem natI2 (js : List Nat) : (nI js).map Int.toNat = js := natI js
theorem gf_none {ls : List Lk} {n a c : Nat} {am : Int} {is : List Nat} {ts : List Int} (pos : Pos ls) (G : GrP ls n a c am is ts) : gfW ls n a c am (nI is) ts = none := by
  have hx : (nI is).all (isIx ls.length) = true := by
    refine List.all_eq_true.mpr fun x hx => ?_
    obtain ⟨j, h, rfl⟩ := List.mem_map.mp hx
    have := Leads.lt G.lead j h
    unfold isIx
    rw [decide_eq_true (Int.natCast_nonneg j), decide_eq_true (show (j : Int) < (ls.length : Int) by omega)]
    rfl
  unfold gfW
  rw [if_neg (by rw [hx]; decide), natI2, leads_pathN pos G.lead, if_pos (by rw [← sumO_nl]; exact G.sum), tmW_none G.tms, if_pos G.dif]
  rfl
theorem eg_none {ls : List Lk} {n a c : Nat} {is : List Nat} {ts : List Int} (ok : IxOk n (nls ls)) (pos : Pos ls) (an : a < n) (cn : c < n) (G : EnP ls n a c is ts) : egW ls n a c (nI is) ts = none := by
  have ok' : IxOk (og n c).length (nls ls) := by rw [og_len]; exact ok
  have h2 := sett_keeps ok' G.tms.2
  obtain ⟨_, _, _, sat, _, _⟩ := sett_kept ok' h2
  obtain ⟨_, z0, _⟩ := og_chain ok cn h2
  have mem : ∀ v, v < n → (v ∈ is ↔ gO (rch ls n c) v = none) := fun v hv => by
    rw [G.apart, List.mem_filter, List.mem_range, Option.isNone_iff_eq_none]
    exact ⟨fun h => h.2, fun h => ⟨hv, h⟩⟩
  have kn : nI is = knw n (nI is) := by
    unfold knw
    show nI is = nI _
    congr 1
    rw [G.apart]
    refine List.filter_congr fun v hv => ?_
    have hv := List.mem_range.mp hv
    rw [nI_in]
    have := mem v hv
    rw [G.apart] at this
    by_cases g : gO (rch ls n c) v = none
    · rw [decide_eq_true (this.mpr g), g]
      rfl
    · rw [decide_eq_false fun z => g (this.mp z)]
      cases h : gO (rch ls n c) v with
      | none => exact absurd h g
      | some x => rfl
  have ca : (nI is).contains (a : Int) = true := by rw [nI_in]; exact decide_eq_true ((mem a an).mpr G.non)
  have cc : (nI is).contains (c : Int) = false := by rw [nI_in]; exact decide_eq_false fun z => by have := (mem c cn).mp z; rw [z0] at this; cases this
  have lk : leak ls (nI is) = false := by
    unfold leak
    rw [List.any_eq_false]
    intro l hl
    obtain ⟨p1, p2⟩ := pos l hl
    have hm : nl l ∈ nls ls := List.mem_map.mpr ⟨l, hl, rfl⟩
    obtain ⟨o1, o2⟩ := ok _ hm
    have o1 : l.1.toNat < n := o1
    have o2 : l.2.1.toNat < n := o2
    rw [show l.1 = ((l.1.toNat : Nat) : Int) by omega, show l.2.1 = ((l.2.1.toNat : Nat) : Int) by omega, nI_in, nI_in]
    intro z
    simp only [Bool.and_eq_true, Bool.not_eq_true', decide_eq_true_eq, decide_eq_false_iff_not] at z
    obtain ⟨z1, z2⟩ := z
    have g1 := (mem _ o1).mp z1
    have g2 : gO (rch ls n c) l.2.1.toNat ≠ none := fun h => z2 ((mem _ o2).mpr h)
    obtain ⟨t, ht⟩ := Option.ne_none_iff_exists'.mp g2
    obtain ⟨w, hw, _⟩ := sat _ hm t ht
    have hw : gO (rch ls n c) l.1.toNat = some w := hw
    rw [g1] at hw
    cases hw
  unfold egW apW
  rw [if_pos kn, if_pos ca, if_neg (by rw [cc]; decide), if_neg (by rw [lk]; decide)]
  exact tmW_none G.tms
/-- an answer's amount, and where its times lie -/
theorem AnsAt.hi {CG CE : Addr} {ls : List Lk} {n a c : Nat} {H : Hp} {q : Addr} (ok : IxOk n (nls ls)) (cn : c < n) (A : AnsAt CG CE ls n a c H q) : HiP ls a c (gO (rch ls n c) a) := by
  rcases A with ⟨am, pa, ta, is, ts, h, G⟩ | ⟨pa, ta, is, ts, h, G⟩
  · rw [G.at_]
    exact G.hi
  · rw [G.non]
    exact G.hi ok cn
theorem TbAt.same {ls : List Lk} {n : Nat} {H H' : Hp} {R : Addr} (h : TbAt ls n H R) (S : Same H H') : TbAt ls n H' R := by
  obtain ⟨rows, h1, h2⟩ := h
  exact ⟨rows, S _ _ h1, Paired.impP (fun _ _ ⟨r, e, q⟩ => ⟨r, e, S _ _ q⟩) h2⟩
theorem TbAt.but {ls : List Lk} {n : Nat} {H H' : Hp} {R b : Addr} (h : TbAt ls n H R) (B : BgAt H b) (D : But b H H') : TbAt ls n H' R := by
  obtain ⟨rows, h1, h2⟩ := h
  exact ⟨rows, D _ _ h1 (B.tup h1), Paired.impP (fun _ _ ⟨r, e, q⟩ => ⟨r, e, D _ _ q (B.tup q)⟩) h2⟩
def mnI (i j : Int) : Int := if j < i then j else i
def mxI (i j : Int) : Int := if j > i then j else i
theorem mnI_eq (i j : Int) : mnI i j = min i j := by unfold mnI; split <;> omega
theorem mxI_eq (i j : Int) : mxI i j = max i j := by unfold mxI; split <;> omega
def spPair (C : Addr) : Sp := fun vs H Q _ => ∃ (b p t g tb : Addr) (n a c : Nat) (us lus : List V) (ls : List Lk) (ts : List Int), vs = [.ref b, .ref p, .int (n : Nat), .ref g, .ref tb, .int (a : Nat), .int (c : Nat)] ∧ Zs C b p t g n us lus ls H ∧ TbAt ls n H tb ∧ TmsP ls n ts ∧ a < n ∧ c < n ∧ ∀ H', BgAt H' b → But b H H' → Q (.bl true) H'
section
variable {P : Program} {w : World} {K : PySem.W.Frag} {mg : Str → Option Value} {base : Heap} {cl : String → Addr}
theorem ok_pair {f : Addr} {fd : FuncData} (F : Fun K "_law_pair" "_law_pair" s_pair f fd) (T : Txt P w K mg cl) : FnOk P w K mg base CX0 8 f fd ["_law_bag_here", "_law_system", "_law_count", "_law_links_here", "_law_table", "_law_one", "_law_other"] (spPair (cl "System")) := by
  refine F.ok sc_pair (fun vs H Q E h => ?_) (fun cdv A outer s H vs Q E hr h => ?_)
  · obtain ⟨b, p, t, g, tb, n, a, c, us, lus, ls, ts, rfl, _⟩ := h
    rfl
  · obtain ⟨b, p, t, g, tb, n, a, c, us, lus, ls, ts0, rfl, Z, Tb, Tm, an, cn, k⟩ := h
    have C_greatest : Cal P w K mg base (L2.CX P w) 5 "greatest" _ (spGr K (cl "System") (cl "NoInstant") (cl "NoTimes") (cl "Greatest") (cl "Endless")) := cal_greatest T
    have C_greatest_fault : Cal P w K mg base (L2.CX P w) 5 "greatest_fault" _ (spGF K (cl "System") (cl "NoInstant") (cl "Greatest") (cl "Endless")) := cal_greatest_fault T
    have C_is_greatest : Cal P w K mg base CX0 7 "_law_is_greatest" _ (spIsG (cl "System") (cl "Greatest") (cl "Endless")) := cal_is_greatest T
    have C_end : Cal P w K mg base CX0 1 "_law_end" _ (spEnd (cl "Greatest") (cl "Endless")) := cal_end T
    have C_keep : Cal P w K mg base CX0 1 "_law_keep" _ spLKeep := cal_keep T
    have C_between : Cal P w K mg base CX0 7 "_law_between" _ (spBtw (cl "System")) := cal_between T
    refine ⟨_, (pss_cons (ps_par (i := 7) (j := 8) rfl sc_pair.nd rfl rfl (by decide) rfl rfl (pa_cons (pe_cal C_greatest (hr.mono (by decide)) (pa_cons (pv 1) (pa_cons (pv 5) (pa_cons (pv 6) pa_nil)))) (pa_cons (pe_cal C_greatest (hr.mono (by decide)) (pa_cons (pv 1) (pa_cons (pv 6) (pa_cons (pv 5) pa_nil)))) pa_nil)) (by rfl))
        (pss_cons (ps_if (pt_not (pt_val (pe_cal C_is_greatest (hr.mono (by decide)) (pa_cons (pv 0) (pa_cons (pv 2) (pa_cons (pv 3) (pa_cons (pv 5) (pa_cons (pv 6) (pa_cons (pv 7) pa_nil)))))))))
          (pss_one (ps_ret pe_bl)) pss_nil)
        (pss_cons (ps_if (pt_not (pt_val (pe_cal C_is_greatest (hr.mono (by decide)) (pa_cons (pv 0) (pa_cons (pv 2) (pa_cons (pv 3) (pa_cons (pv 6) (pa_cons (pv 5) (pa_cons (pv 8) pa_nil)))))))))
          (pss_one (ps_ret pe_bl)) pss_nil)
        (pss_cut (ps_if (pt_cmpR op_notN (pe_cal C_greatest_fault (hr.mono (by decide)) (pa_cons (pv 1) (pa_cons (pv 5) (pa_cons (pv 6) (pa_cons (pv 7) pa_nil))))) pe_non (nomark _))
          (pss_one (ps_ret pe_bl)) pss_nil)
        (pss_cut (ps_par (i := 9) (j := 10) rfl sc_pair.nd rfl rfl (by decide) rfl rfl (pa_cons (pe_cal C_end (hr.mono (by decide)) (pa_cons (pv 7) pa_nil)) (pa_cons (pe_cal C_end (hr.mono (by decide)) (pa_cons (pv 8) pa_nil)) pa_nil)) (by rfl))
        (pss_cons (ps_par (i := 11) (j := 12) rfl sc_pair.nd rfl rfl (by decide) rfl rfl (pa_cons (pe_ix ix_tup (pv 4) (pv 5) (fun _ _ => rfl)) (pa_cons (pe_ix ix_tup (pv 4) (pv 6) (fun _ _ => rfl)) pa_nil)) (by rfl))
        (pss_cons (ps_if (PW.pt (pw_or (pt_cmpR op_ne (pe_ix ix_tup (pv 11) (pv 6) (fun _ _ => rfl)) (pv 9) (nomark _)) (pw_or (pt_cmpR op_ne (pe_ix ix_tup (pv 12) (pv 5) (fun _ _ => rfl)) (pv 10) (nomark _)) (pw_or1 (pt_val (pe_callB call_isi (by rfl) T.n_isinstance (by decide +kernel) (pa_cons (pe_ix ix_tup (pv 11) (pv 6) (fun _ _ => rfl)) (pa_cons (pe_ty "bool" T.n_bool) pa_nil))))))))
          (pss_one (ps_ret pe_bl)) pss_nil)
        (pss_cons (ps_setLc (i := 13) (own := [("_law_x", 15), ("_law_y", 16)]) (g := gTup K 2 (gCons (gName 15) (gCons (gName 16) gNil))) (tt := tYes) rfl sc_pair.nd rfl rfl (sw_true rfl rfl rfl (by decide +kernel)) (RZ.pi_zipA (by rfl) T.n_zip (pa_cons (pe_fld (pv 7) rfl) (pa_cons (pe_fld (pv 8) rfl) pa_nil))) (blkOk_by (own := [("_law_x", 15), ("_law_y", 16)]) (N := ["_law_bag_here", "_law_system", "_law_count", "_law_links_here", "_law_table", "_law_one", "_law_other", "_law_first", "_law_second", "_law_high", "_law_back", "_law_row", "_law_turned", "_law_least", "_law_most", "_law_x", "_law_y"]) (sc := defScope s_pair) (by decide +kernel)) (fun _ _ _ _ _ => (pg_tup rfl (pgs_cons (pg_name (i := 15) sc_pair.nd rfl (Or.inl rfl)) (pgs_cons (pg_name (i := 16) sc_pair.nd rfl (Or.inl rfl)) pgs_nil)))) (fun _ _ _ _ _ => pts_nil) (fun _ _ _ _ _ => (pe_callB (call_min2 rfl) (by rfl) T.n_min (by decide +kernel) (pa_cons (pv 15) (pa_cons (pv 16) pa_nil)))))
        (pss_cons (ps_setLc (i := 14) (own := [("_law_x", 15), ("_law_y", 16)]) (g := gTup K 2 (gCons (gName 15) (gCons (gName 16) gNil))) (tt := tYes) rfl sc_pair.nd rfl rfl (sw_true rfl rfl rfl (by decide +kernel)) (RZ.pi_zipA (by rfl) T.n_zip (pa_cons (pe_fld (pv 7) rfl) (pa_cons (pe_fld (pv 8) rfl) pa_nil))) (blkOk_by (own := [("_law_x", 15), ("_law_y", 16)]) (N := ["_law_bag_here", "_law_system", "_law_count", "_law_links_here", "_law_table", "_law_one", "_law_other", "_law_first", "_law_second", "_law_high", "_law_back", "_law_row", "_law_turned", "_law_least", "_law_most", "_law_x", "_law_y"]) (sc := defScope s_pair) (by decide +kernel)) (fun _ _ _ _ _ => (pg_tup rfl (pgs_cons (pg_name (i := 15) sc_pair.nd rfl (Or.inl rfl)) (pgs_cons (pg_name (i := 16) sc_pair.nd rfl (Or.inl rfl)) pgs_nil)))) (fun _ _ _ _ _ => pts_nil) (fun _ _ _ _ _ => (pe_callB (call_max2 rfl) (by rfl) T.n_max (by decide +kernel) (pa_cons (pv 15) (pa_cons (pv 16) pa_nil)))))
        (pss_cons (ps_if (PW.pt (pw_or (pt_not (pt_val (pe_cal C_keep (hr.mono (by decide)) (pa_cons (pv 3) (pa_cons (pv 13) pa_nil))))) (pw_or1 (pt_not (pt_val (pe_cal C_keep (hr.mono (by decide)) (pa_cons (pv 3) (pa_cons (pv 14) pa_nil))))))))
          (pss_one (ps_ret pe_bl)) pss_nil)
        (pss_one (ps_ret (pe_cal C_between (hr.mono (by decide)) (pa_cons (pv 0) (pa_cons (pv 1) (pa_cons (pv 2) (pa_cons (pv 3) (pa_cons (pv 5) (pa_cons (pv 6) (pa_cons (pv 9) (pa_cons (pe_ifExp (pt_cmpR op_isN (pv 10) pe_non (nomark _)) pe_non (pe_un un_neg (pv 10))) pa_nil))))))))))))))))))))), ?_⟩
    obtain ⟨ok, pos⟩ := Z.ix
    have n1 := Z.n1
    have n2 := Z.n2
    have ll := Z.ll
    refine ⟨_, rfl, _, rfl, _, rfl, p, t, n, us, ls, _, _, "int", "int", rfl, Z.X, Z.lok, by omega, by omega, .int _, .int _, fun h => (by rw [isx a an] at h; cases h), fun _ h => (by rw [isx c cn] at h; cases h), fun a2 c2 e1 e2 _ _ => ⟨fun x is R G e S ne hx nx => (ring_no R Tm).elim, fun q1 H1 S1 _ A1 => ?_⟩⟩
    obtain rfl : a = a2 := by have := V.int.inj e1; omega
    obtain rfl : c = c2 := by have := V.int.inj e2; omega
    have Z1 := Z.same S1
    refine ⟨_, rfl, _, rfl, _, rfl, p, t, n, us, ls, _, _, "int", "int", rfl, Z1.X, Z1.lok, by omega, by omega, .int _, .int _, fun h => (by rw [isx c cn] at h; cases h), fun _ h => (by rw [isx a an] at h; cases h), fun a2 c2 e1 e2 _ _ => ⟨fun x is R G e S ne hx nx => (ring_no R Tm).elim, fun q2 H2 S2 _ A2 => ?_⟩⟩
    obtain rfl : c = a2 := by have := V.int.inj e1; omega
    obtain rfl : a = c2 := by have := V.int.inj e2; omega
    have Z2 := Z1.same S2
    have A1 := A1.same S2
    refine ⟨_, _, rfl, ?_⟩
    refine ⟨_, rfl, _, rfl, _, rfl, _, rfl, _, rfl, _, rfl, b, p, t, g, q1, n, a, c, us, lus, ls, rfl, Z2, an, cn, A1, fun H3 B3 D3 => ⟨_, rfl, iteF ?_⟩⟩
    have Z3 := Z2.but B3 D3
    have A2 := A2.but Z2.B D3
    have A1 := A1.but Z2.B D3
    refine ⟨_, rfl, _, rfl, _, rfl, _, rfl, _, rfl, _, rfl, b, p, t, g, q2, n, c, a, us, lus, ls, rfl, Z3, cn, an, A2, fun H4 B4 D4 => ⟨_, rfl, iteF ?_⟩⟩
    have Z4 := Z3.but B4 D4
    have A2 := A2.but Z3.B D4
    have A1 := A1.but Z3.B D4
    have D4 := (But.of (S1.trans S2)).trans (D3.trans D4)
    have Tb4 := Tb.but Z.B D4
    clear Z3 Z2 Z1 B3 D3 S1 S2
    refine ⟨fun σ' H' => Same H4 H' ∧ σ' = [some (.ref b), some (.ref p), some (.int (n : Nat)), some (.ref g), some (.ref tb), some (.int (a : Nat)), some (.int (c : Nat)), some (.ref q1), some (.ref q2), none, none, none, none, none, none, none, none], ?_, ?_⟩
    · refine ⟨_, rfl, _, rfl, _, rfl, _, rfl, p, t, q1, n, us, ls, _, _, "int", "int", rfl, Z4.X, Z4.lok, by omega, by omega, .int _, .int _, fun h => (by rw [isx a an] at h; cases h), fun _ h => (by rw [isx c cn] at h; cases h), fun a2 c2 e1 e2 _ _ => ?_⟩
      obtain rfl : a = a2 := by have := V.int.inj e1; omega
      obtain rfl : c = c2 := by have := V.int.inj e2; omega
      rcases A1 with ⟨am, pa, ta, is, ts, ⟨hq, hpa, hta⟩, G⟩ | ⟨pa, ta, is, ts, ⟨hq, hpa, hta⟩, G⟩
      · refine .inl ⟨am, pa, ta, nI is, ts, ⟨hq, by rw [hpa]; unfold natT; rw [natV]; rfl, hta⟩, by have := G.len; unfold nI; rw [List.length_map]; omega, by have := G.tms.1; omega, fun H5 S5 => ?_⟩
        rw [gf_none pos G]
        exact ⟨rfl, _, rfl, iteF ⟨S5, rfl⟩⟩
      · refine .inr ⟨pa, ta, nI is, ts, ⟨hq, by rw [hpa]; unfold natT; rw [natV]; rfl, hta⟩, ?_, by have := G.tms.1; omega, fun H5 S5 => ?_⟩
        · rw [G.apart]
          unfold nI
          rw [List.length_map]
          have := List.length_filter_le (fun v => (gO (rch ls n c) v).isNone) (List.range n)
          rw [List.length_range] at this
          omega
        rw [eg_none ok pos an cn G]
        exact ⟨rfl, _, rfl, iteF ⟨S5, rfl⟩⟩
    rintro σ' H5 ⟨S5, rfl⟩
    have Z5 := Z4.same S5
    have A2 := A2.same S5
    have A1 := A1.same S5
    have Tb5 := Tb4.same S5
    have D5 := D4.trans (But.of S5)
    have Hh := A1.hi ok cn
    have Hl := (A2.hi ok an).lo
    obtain ⟨oh, eh⟩ : ∃ o, o = gO (rch ls n c) a := ⟨_, rfl⟩
    obtain ⟨ol, el⟩ : ∃ o, o = gO (rch ls n a) c := ⟨_, rfl⟩
    rw [← eh] at Hh
    rw [← el] at Hl
    refine ⟨fun σ' H' => H' = H5 ∧ σ' = [some (.ref b), some (.ref p), some (.int (n : Nat)), some (.ref g), some (.ref tb), some (.int (a : Nat)), some (.int (c : Nat)), some (.ref q1), some (.ref q2), some (oiV oh), some (oiV ol), none, none, none, none, none, none], ?_, ?_⟩
    · refine ⟨_, rfl, q1, rfl, ?_⟩
      rcases A1 with ⟨am, pa, ta, is, ts, hA, G1⟩ | ⟨pa, ta, is, ts, hA, G1⟩
      · refine .inl ⟨am, pa, ta, is, ts, hA, ?_⟩
        refine ⟨_, rfl, q2, rfl, ?_⟩
        rcases A2 with ⟨am, pa, ta, is, ts, hA, G2⟩ | ⟨pa, ta, is, ts, hA, G2⟩
        · refine .inl ⟨am, pa, ta, is, ts, hA, ?_⟩
          exact ⟨_, _, rfl, rfl, by rw [eh, el, G1.at_, G2.at_]; rfl⟩
        · refine .inr ⟨pa, ta, is, ts, hA, ?_⟩
          exact ⟨_, _, rfl, rfl, by rw [eh, el, G1.at_, G2.non]; rfl⟩
      · refine .inr ⟨pa, ta, is, ts, hA, ?_⟩
        refine ⟨_, rfl, q2, rfl, ?_⟩
        rcases A2 with ⟨am, pa, ta, is, ts, hA, G2⟩ | ⟨pa, ta, is, ts, hA, G2⟩
        · refine .inl ⟨am, pa, ta, is, ts, hA, ?_⟩
          exact ⟨_, _, rfl, rfl, by rw [eh, el, G1.non, G2.at_]; rfl⟩
        · refine .inr ⟨pa, ta, is, ts, hA, ?_⟩
          exact ⟨_, _, rfl, rfl, by rw [eh, el, G1.non, G2.non]; rfl⟩
    rintro σ' H6 ⟨rfl, rfl⟩
    obtain ⟨rows, hR, hp⟩ := Tb5
    obtain ⟨va, hva, ra, rfl, hra⟩ := Paired.at' (i := a) (y := a) hp (List.getElem?_range an)
    obtain ⟨vc, hvc, rc, rfl, hrc⟩ := Paired.at' (i := c) (y := c) hp (List.getElem?_range cn)
    have rat : ∀ x y, y < n → (rowO ls n x)[y]? = some (oiV (gO (rch ls n y) x)) := fun x y hy => by
      unfold rowO
      rw [List.getElem?_map, List.getElem?_range hy]
      rfl
    have r1 : (rowO ls n a)[c]? = some (oiV oh) := by rw [rat a c cn, eh]
    have r2 : (rowO ls n c)[a]? = some (oiV ol) := by rw [rat c a an, el]
    refine ⟨_, rfl, _, rfl, tb, _, _, _, rfl, rfl, SqT.of hR, atI_nat hva, _, rfl, _, rfl, tb, _, _, _, rfl, rfl, SqT.of hR, atI_nat hvc, _, _, rfl, ?_⟩
    refine ⟨_, rfl, _, rfl, ra, _, _, _, rfl, rfl, SqT.of hra, atI_nat r1, _, rfl, (by cases oh <;> rfl), _, rfl, ?_⟩
    rw [decide_eq_true rfl]
    refine iteF ⟨_, rfl, _, rfl, rc, _, _, _, rfl, rfl, SqT.of hrc, atI_nat r2, _, rfl, (by cases ol <;> rfl), _, rfl, ?_⟩
    rw [decide_eq_true rfl]
    obtain ⟨nm, dm, hk⟩ : ∃ nm, Dm K H6 (oiV oh) nm ∧ kitB nm "bool" = some false := by
      cases oh with
      | none => exact ⟨_, .non, by decide +kernel⟩
      | some i => exact ⟨_, .int i, by decide +kernel⟩
    refine iteF ⟨_, rfl, _, rfl, ra, _, _, _, rfl, rfl, SqT.of hra, atI_nat r1, _, _, _, _, _, rfl, .ty "bool", dm.ty, kit_ty hk, _, rfl, iteF ?_⟩
    have tm : ∀ {q : Addr} {x y : Nat}, AnsAt (cl "Greatest") (cl "Endless") ls n x y H6 q → ∃ (C dx ta : Addr) (fs : List (Str × V)) (ts : List Int), H6 q = some (HO.ins C dx fs) ∧ Cls K C ∧ NoAttr K C "times" ∧ List.lookup ("times" : Str) fs = some (V.ref ta) ∧ H6 ta = some (intT ts) ∧ TmsP ls n ts := fun A => by
      rcases A with ⟨am, pa, ta, is, ts, ⟨⟨d, hq⟩, hpa, hta⟩, G⟩ | ⟨pa, ta, is, ts, ⟨⟨d, hq⟩, hpa, hta⟩, G⟩
      · exact ⟨_, d, ta, _, ts, hq, T.cl_Greatest, T.na_Greatest _ (by decide), rfl, hta, G.tms⟩
      · exact ⟨_, d, ta, _, ts, hq, T.cl_Endless, T.na_Endless _ (by decide), rfl, hta, G.tms⟩
    obtain ⟨K1, d1, t1, f1, ts1, hq1, k1a, k1b, k1c, ht1, T1⟩ := tm A1
    obtain ⟨K2, d2, t2, f2, ts2, hq2, k2a, k2b, k2c, ht2, T2⟩ := tm A2
    have l1 := T1.1
    have l2 := T2.1
    refine ⟨_, rfl, q1, _, _, _, _, rfl, hq1, k1a, k1b, k1c, _, rfl, q2, _, _, _, _, rfl, hq2, k2a, k2b, k2c, t1, t2, _, _, rfl, .inr ⟨SqT.of ht1, SqT.of ht2, fun M nM => lc_it (walk_zipT (K := K) (xs := ts1.map V.int) (ys := ts2.map V.int) rfl) (fun i H' => H' M = some (.lst (((List.range i).map fun v => mnI (kF ts1 v) (kF ts2 v)).map V.int)) ∧ Same H6 H') ⟨upd_same, sNew nM⟩ (fun i H' _ z => ⟨SqT.of (z.2 _ _ ht1), SqT.of (z.2 _ _ ht2)⟩) ?_ ?_⟩⟩
    · rintro i xv G2 G3 hi ⟨hM, SG⟩ ⟨Tt, x1, y1, rfl, hT, rfl, e1, e2⟩
      have hi : i < n := by rw [List.length_map, List.length_map] at hi; omega
      have e1 : (ts1.map V.int)[i]? = some x1 := e1
      have e2 : (ts2.map V.int)[i]? = some y1 := e2
      rw [kF_at (by omega)] at e1 e2
      cases e1
      cases e2
      have ST := sNew (o := .tup [.int (kF ts1 i), .int (kF ts2 i)]) hT
      refine ⟨Tt, _, rfl, SqT.of upd_same, rfl, _, _, rfl, _, _, rfl, rfl, rfl, ?_⟩
      refine ⟨_, rfl, _, rfl, _, _, rfl, _, ST _ _ hM, small1000 (by rw [List.length_map, List.length_map, List.length_range]; omega), ?_, same_upd (SG.trans ST) nM⟩
      rw [upd_same, List.range_succ, List.map_append, List.map_append]
      rfl
    rintro H7 ⟨hM, S7⟩
    have mn : min (ts1.map V.int).length (ts2.map V.int).length = n := by rw [List.length_map, List.length_map]; omega
    rw [mn] at hM
    refine ⟨_, rfl, q1, _, _, _, _, rfl, S7 _ _ hq1, k1a, k1b, k1c, _, rfl, q2, _, _, _, _, rfl, S7 _ _ hq2, k2a, k2b, k2c, t1, t2, _, _, rfl, .inr ⟨SqT.of (S7 _ _ ht1), SqT.of (S7 _ _ ht2), fun M2 nM2 => lc_it (walk_zipT (K := K) (xs := ts1.map V.int) (ys := ts2.map V.int) rfl) (fun i H' => H' M2 = some (.lst (((List.range i).map fun v => mxI (kF ts1 v) (kF ts2 v)).map V.int)) ∧ Same H7 H') ⟨upd_same, sNew nM2⟩ (fun i H' _ z => ⟨SqT.of (z.2 _ _ (S7 _ _ ht1)), SqT.of (z.2 _ _ (S7 _ _ ht2))⟩) ?_ ?_⟩⟩
    · rintro i xv G2 G3 hi ⟨hM, SG⟩ ⟨Tt, x1, y1, rfl, hT, rfl, e1, e2⟩
      have hi : i < n := by rw [List.length_map, List.length_map] at hi; omega
      have e1 : (ts1.map V.int)[i]? = some x1 := e1
      have e2 : (ts2.map V.int)[i]? = some y1 := e2
      rw [kF_at (by omega)] at e1 e2
      cases e1
      cases e2
      have ST := sNew (o := .tup [.int (kF ts1 i), .int (kF ts2 i)]) hT
      refine ⟨Tt, _, rfl, SqT.of upd_same, rfl, _, _, rfl, _, _, rfl, rfl, rfl, ?_⟩
      refine ⟨_, rfl, _, rfl, _, _, rfl, _, ST _ _ hM, small1000 (by rw [List.length_map, List.length_map, List.length_range]; omega), ?_, same_upd (SG.trans ST) nM2⟩
      rw [upd_same, List.range_succ, List.map_append, List.map_append]
      rfl
    rintro H8 ⟨hM2, S8⟩
    rw [mn] at hM2
    have lr : ∀ f : Nat → Int, ((List.range n).map f).length = n := fun f => by rw [List.length_map, List.length_range]
    have kat : ∀ (f : Nat → Int) v, v < n → kF ((List.range n).map f) v = f v := fun f v hv => by
      unfold kF
      rw [List.getElem?_map, List.getElem?_range hv]
      rfl
    have Z8 := (Z5.same S7).same S8
    refine ⟨_, rfl, _, rfl, g, M, lus, ls, _, rfl, Z8.L, .inl (S8 _ _ hM), by rw [lr]; exact Z8.lok, by omega, fun H9 S9 => ?_⟩
    rw [brk_nil.mpr (fun l hl => by rw [kat _ _ (ok l hl).1, kat _ _ (ok l hl).2, mnI_eq, mnI_eq]; exact min_keeps T1.2 T2.2 l hl)]
    refine ⟨_, rfl, iteF ?_⟩
    have Z9 := Z8.same S9
    refine ⟨_, rfl, _, rfl, g, M2, lus, ls, _, rfl, Z9.L, .inl (S9 _ _ hM2), by rw [lr]; exact Z9.lok, by omega, fun H10 S10 => ?_⟩
    rw [brk_nil.mpr (fun l hl => by rw [kat _ _ (ok l hl).1, kat _ _ (ok l hl).2, mxI_eq, mxI_eq]; exact max_keeps T1.2 T2.2 l hl)]
    refine ⟨_, rfl, iteF ?_⟩
    have Z10 := Z9.same S10
    have D10 := D5.trans (But.of (S7.trans (S8.trans (S9.trans S10))))
    cases ol with
    | none =>
      exact ⟨_, rfl, _, rfl, _, rfl, _, rfl, _, rfl, _, rfl, _, rfl, _, rfl, rfl, _, rfl, iteT ⟨b, p, t, g, n, a, c, us, lus, ls, oh, none, rfl, Z10, an, cn, Hh, Hl, fun H11 B11 D11 => k H11 B11 (D10.trans D11)⟩⟩
    | some l =>
      exact ⟨_, rfl, _, rfl, _, rfl, _, rfl, _, rfl, _, rfl, _, rfl, _, rfl, rfl, _, rfl, iteF ⟨_, rfl, _, rfl, b, p, t, g, n, a, c, us, lus, ls, oh, some (-l), rfl, Z10, an, cn, Hh, Hl, fun H11 B11 D11 => k H11 B11 (D10.trans D11)⟩⟩
theorem cal_pair (T : Txt P w K mg cl) : Cal P w K mg base CX0 8 "_law_pair" ["_law_bag_here", "_law_system", "_law_count", "_law_links_here", "_law_table", "_law_one", "_law_other"] (spPair (cl "System")) := by
  obtain ⟨f, fd, F, m⟩ := T.d_pair
  exact ⟨f, fd, ok_pair F T, m, F.kp, F.binds fun _ _ _ _ _ _ us hl => match us, hl with | [_, _, _, _, _, _, _], _ => rfl⟩
end
end My
set_option Elab.async false
set_option linter.all false
set_option maxRecDepth 100000
set_option maxHeartbeats 1000000
namespace My
open PySem L2 Dw Wp
open C8 (pss_cut tCut)
set_option pp.maxSteps 600
open Bf
def misF (ls : List Lk) (is : List Nat) (k : Nat) : Option Int := if jo ls is k = true then none else some ((1 : Int) + (k : Nat))
theorem mis_all (ls : List Lk) (is : List Nat) : ∀ n, ((List.range n).filterMap (misF ls is)).isEmpty = (List.range n).all (jo ls is) := fun n => by
  induction n with
  | zero => rfl
  | succ n ih =>
    rw [List.range_succ, List.filterMap_append, List.all_append, ← ih]
    cases h : jo ls is n with
    | true => simp [misF, h]
    | false => simp [misF, h]
theorem ixF_ok {n : Nat} {is : List Int} : ∀ x ∈ (is.map V.int).filterMap (ixF n), okV x = true := fun x hx => by
  obtain ⟨y, hy, e⟩ := List.mem_filterMap.mp hx
  obtain ⟨i, _, rfl⟩ := List.mem_map.mp hy
  have e : (if isIx n i = true then none else some (V.int i)) = some x := e
  split at e
  · cases e
  · cases e
    rfl
theorem eqv_nilI (is : List Int) : PyData.eqv (sqD true ((is.map V.int).map vD)) (sqD true []) = is.isEmpty := by
  rw [eqv_nilO]
  cases is <;> rfl
def spPDu : Sp := fun vs H Q _ => ∃ (a q : Addr) (us : List V) (ls : List Lk) (is : List Int) (st en : Int), vs = [.ref a, .ref q, .int st, .int en] ∧ LlT H a us ls ∧ ls.length ≤ 900 ∧ H q = some (.tup (is.map V.int)) ∧ is.length ≤ 900 ∧
  (is.all (isIx ls.length) = false → ∀ H', Same H H' → Q (.str "index") H') ∧
  (∀ js : List Nat, is = (js.map fun (i : Nat) => (i : Int)) → (∀ j ∈ js, j < ls.length) → ∀ H', Same H H' → Q (optV (pathN ls js st en)) H')
def spTDu : Sp := fun vs H Q _ => ∃ (g a : Addr) (us : List V) (ls : List Lk) (n : Nat) (ts : List Int), vs = [.int (n : Nat), .ref g, .ref a] ∧ LlT H g us ls ∧ (∀ l ∈ ls, LkOk (n : Nat) l) ∧ ls.length ≤ 800 ∧ H a = some (intT ts) ∧ ∀ H', Same H H' → Q (optV (tmW ls n ts)) H'
section
variable {P : Program} {w : World} {K : PySem.W.Frag} {mg : Str → Option Value} {base : Heap} {cl : String → Addr}
theorem ok_path_due {f : Addr} {fd : FuncData} (F : Fun K "_law_path_due" "_law_path_due" s_path_due f fd) (T : Txt P w K mg cl) : FnOk P w K mg base CX0 2 f fd ["_law_links_here", "_law_path", "_law_start", "_law_end_here"] spPDu := by
  refine F.ok sc_path_due (fun vs H Q E h => ?_) (fun cdv A outer s H vs Q E hr h => ?_)
  · obtain ⟨a, q, us, ls, is, st, en, rfl, _⟩ := h
    rfl
  · obtain ⟨a, q, us, ls, is, st, en, rfl, hL, ln, hq, le, kx, kg⟩ := h
    refine ⟨_, (pss_cons (ps_if (pt_cmpR (op_neD hr.units) (pe_lc (own := [("_law_x", 4)]) (g := gName 4)  rfl sc_path_due.nd (pi_tup (pv 1)) (blkOk_by (own := [("_law_x", 4)]) (N := ["_law_links_here", "_law_path", "_law_start", "_law_end_here", "_law_x", "_law_k"]) (sc := defScope s_path_due) (by decide +kernel)) (fun _ _ _ _ _ => pg_name (i := 4) sc_path_due.nd rfl (Or.inl rfl)) (fun _ _ _ _ _ => pts_one (pt_not (pt_chain op_le op_lt pe_int (pv 4) (pe_callB (call_len_seqK (K := K) rfl) (by rfl) T.n_len PySem.boot_len (pa_cons (pv 0) pa_nil))))) (fun _ _ _ _ _ => (pv 4))) (pe_lst pa_nil) (nomark _))
          (pss_one (ps_ret pe_str)) pss_nil)
        (pss_cons (ps_if (pt_cmpR (op_eqD hr.units) (pv 1) (pe_tup pa_nil) (nomark _))
          (pss_one (ps_ret (pe_ifExp (pt_cmpR op_eq (pv 2) (pv 3) (nomark _)) pe_non pe_str))) pss_nil)
        (pss_cons (ps_if (pt_cmpR op_ne (pe_ix ix_tup (pe_ix ix_list (pv 0) (pe_ix ix_tup (pv 1) pe_int (fun _ _ => rfl)) (fun _ _ => rfl)) pe_int (fun _ _ => rfl)) (pv 2) (nomark _))
          (pss_one (ps_ret pe_str)) pss_nil)
        (pss_cons (ps_if (pt_cmpR (op_neD hr.units) (pe_lc (own := [("_law_k", 5)]) (g := gName 5)  rfl sc_path_due.nd (pi_range2 rfl T.n_range (pa_cons pe_int (pa_cons (pe_callB call_len_seq (by rfl) T.n_len PySem.boot_len (pa_cons (pv 1) pa_nil)) pa_nil))) (blkOk_by (own := [("_law_k", 5)]) (N := ["_law_links_here", "_law_path", "_law_start", "_law_end_here", "_law_x", "_law_k"]) (sc := defScope s_path_due) (by decide +kernel)) (fun _ _ _ _ _ => pg_name (i := 5) sc_path_due.nd rfl (Or.inl rfl)) (fun _ _ _ _ _ => pts_one (pt_cmpR op_ne (pe_ix (ix_tupK (K := K) rfl) (pe_ix (ix_listK (K := K) rfl) (pv 0) (pe_ix (ix_tupK (K := K) rfl) (pv 1) (pv 5) (fun _ _ => rfl)) (fun _ _ => rfl)) pe_int (fun _ _ => rfl)) (pe_ix (ix_tupK (K := K) rfl) (pe_ix (ix_listK (K := K) rfl) (pv 0) (pe_ix (ix_tupK (K := K) rfl) (pv 1) (pe_op op_sub (pv 5) pe_int) (fun _ _ => rfl)) (fun _ _ => rfl)) pe_int (fun _ _ => rfl)) (nomark _))) (fun _ _ _ _ _ => (pv 5))) (pe_lst pa_nil) (nomark _))
          (pss_one (ps_ret pe_str)) pss_nil)
        (pss_one (ps_ret (pe_ifExp (pt_cmpR op_eq (pe_ix ix_tup (pe_ix ix_list (pv 0) (pe_ix ix_tup (pv 1) (pe_un un_neg pe_int) (fun _ _ => rfl)) (fun _ _ => rfl)) pe_int (fun _ _ => rfl)) (pv 3) (nomark _)) pe_non pe_str))))))), ?_⟩
    have lu := hL.2.length
    refine ⟨_, rfl, q, rfl, ⟨_, SqT.of hq⟩, fun D nD => lc_tup (K := K) (a := q) (xs := is.map V.int) (PvF H D (is.map V.int) (ixF ls.length)) rfl (fun i H' _ z => by rw [z]; exact SqT.of (by rw [upd_ne (ne_of_none hq nD)]; exact hq)) (fun j x H' hx hH => ?_) (fun H' z => ?_)⟩
    · subst hH
      rw [List.getElem?_map] at hx
      obtain ⟨i, hi2, rfl⟩ : ∃ i, is[j]? = some i ∧ V.int i = x := by
        cases e : is[j]? with
        | none => rw [e] at hx; cases hx
        | some i => rw [e] at hx; exact ⟨i, rfl, Option.some.inj hx⟩
      have hx2 : (is.map V.int)[j]? = some (.int i) := is_at hi2
      have hz : (is.map V.int).length < sizeLine := small1000 (by rw [List.length_map]; omega)
      have hL := hL.same (sNew (o := .lst (((is.map V.int).take j).filterMap (ixF ls.length))) nD)
      refine ⟨rfl, _, rfl, _, _, rfl, rfl, _, rfl, ?_⟩
      refine ite2 (fun h1 => ?_) (fun h1 => ?_)
      · refine ⟨_, rfl, a, us, rfl, .inl (SqL.of hL.1), _, _, rfl, rfl, _, rfl, ?_⟩
        rw [lu]
        cases h2 : decide (i < (ls.length : Int)) with
        | true => exact iteF (fm_skip hx2 (show (if isIx ls.length i = true then none else some (V.int i)) = none from if_pos (by unfold isIx; rw [h1, h2]; rfl)))
        | false => exact iteT ⟨_, rfl, fm_put hx2 (show (if isIx ls.length i = true then none else some (V.int i)) = some (V.int i) from if_neg (by unfold isIx; rw [h1, h2]; decide)) hz⟩
      · exact ⟨_, rfl, iteT ⟨_, rfl, fm_put hx2 (show (if isIx ls.length i = true then none else some (V.int i)) = some (V.int i) from if_neg (by unfold isIx; rw [Bool.eq_false_iff.mpr h1]; simp)) hz⟩⟩
    obtain rfl := fm_end z
    refine ⟨by show 0 ≤ sizeLine; exact Nat.zero_le _, fun qq nqq => ?_⟩
    have S1 := (sNew (o := .lst ((is.map V.int).filterMap (ixF ls.length))) nD).trans (sNew (o := .lst []) nqq)
    refine ⟨_, _, dp_lst (SqL.of (sNew nqq _ _ upd_same)) (dpvs fun x hx => okV.flat (ixF_ok x hx)), dp_lst (SqL.of upd_same) .nil, row_shaped true ixF_ok, row_shaped (xs := []) true (by simp), _, rfl, ?_⟩
    rw [eqv_nilO, ix_all]
    have hL := hL.same S1
    have hq := S1 _ _ hq
    generalize upd (upd H D (.lst ((is.map V.int).filterMap (ixF ls.length)))) qq (.lst []) = H1 at S1 hL hq
    cases hx : is.all (isIx ls.length) with
    | false => exact iteT (kx hx _ S1)
    | true =>
      obtain ⟨js, rfl, hj⟩ := ix_nat hx
      have k := kg js rfl hj
      rw [List.length_map] at le
      refine iteF ⟨_, rfl, by show 0 ≤ sizeLine; exact Nat.zero_le _, fun q2 nq2 => ?_⟩
      have S2 := sNew (o := .tup []) nq2
      refine ⟨_, _, dp_tup (SqT.of (S2 _ _ hq)) (dpvs fun x hx => okV.flat (okI _ x hx)), dp_tup (SqT.of upd_same) .nil, row_shaped false (okI _), row_shaped (xs := []) false (by simp), _, rfl, ?_⟩
      rw [eqv_nilV]
      have hL := hL.same S2
      have hq := S2 _ _ hq
      have S1 := S1.trans S2
      generalize upd H1 q2 (.tup []) = H2 at S1 hL hq
      cases js with
      | nil =>
        have k : ∀ H', Same H H' → Q (optV (if st = en then (none : Option Str) else some ("end" : Str))) H' := k
        refine iteT ⟨_, rfl, _, rfl, rfl, _, rfl, ?_⟩
        refine ite2 (fun g => ?_) (fun g => ?_)
        · have g : st = en := V.int.inj (of_decide_eq_true g)
          rw [if_pos g] at k
          exact k _ S1
        · rw [if_neg fun z => g (decide_eq_true (congrArg V.int z))] at k
          exact k _ S1
      | cons j0 js =>
        have un : pathN ls (j0 :: js) st en = (if e2 ls j0 = st then (if fits ls (j0 :: js) = true then (if e1 ls ((j0 :: js).getLast?.getD 0) = en then none else some ("end" : Str)) else some ("joint" : Str)) else some ("start" : Str)) := by
          unfold pathN
          rw [if_neg (by simp)]
          rfl
        rw [un] at k
        refine iteF ?_
        have l0 := hj j0 List.mem_cons_self
        obtain ⟨b0, hb0, hc0⟩ := ll_at hL l0
        refine ⟨_, rfl, _, rfl, q, _, _, _, rfl, rfl, SqT.of hq, atI_nat (j := 0) rfl, a, _, _, _, rfl, rfl, SqL.of hL.1, atI_nat hb0, b0, _, _, _, rfl, rfl, SqT.of hc0, atI_nat (j := 1) rfl, _, rfl, rfl, _, rfl, ?_⟩
        rw [e2_at l0]
        refine ite2 (fun g => ?_) (fun g => ?_)
        · have g : ¬ e2 ls j0 = st := fun z => by
            rw [z] at g
            simp at g
          rw [if_neg g] at k
          exact k _ S1
        have g : e2 ls j0 = st := by
          by_cases z : e2 ls j0 = st
          · exact z
          · exfalso
            refine g ?_
            rw [decide_eq_false fun q => z (V.int.inj q)]
            rfl
        rw [if_pos g] at k
        generalize eks : (j0 :: js) = ks at *
        have lm : ((ks.map fun (i : Nat) => (i : Int)).map V.int).length = ks.length := by rw [List.length_map, List.length_map]
        refine ⟨_, rfl, q, _, rfl, .inr (SqT.of hq), _, _, rfl, ⟨by decide, by decide, by rw [lm]; omega, by rw [lm]; omega⟩, fun D nD => ?_⟩
        refine lc_range (fun i H' => H' = upd H2 D (.lst (((List.range i).filterMap (misF ls ks)).map V.int))) rfl ?_ ?_
        · rintro i H' hi rfl
          rw [lm] at hi
          have i1 : i + 1 < ks.length := by omega
          have i0 : i < ks.length := by omega
          have l1 := hj _ (List.getElem_mem i1)
          have l0 := hj _ (List.getElem_mem i0)
          have SD := sNew (o := .lst (((List.range i).filterMap (misF ls ks)).map V.int)) nD
          have hLd := hL.same SD
          have hqd := SD _ _ hq
          obtain ⟨b1, hb1, hc1⟩ := ll_at hLd l1
          obtain ⟨b0, hb0, hc0⟩ := ll_at hLd l0
          have at1 : atI ((ks.map fun (i : Nat) => (i : Int)).map V.int) ((1 : Int) + (i : Nat)) = some (.int (ks[i + 1] : Nat)) := by
            rw [show (1 : Int) + (i : Nat) = ((i + 1 : Nat) : Int) by omega]
            exact atI_nat (is_atN (List.getElem?_eq_getElem i1))
          have at0 : atI ((ks.map fun (i : Nat) => (i : Int)).map V.int) ((1 : Int) + (i : Nat) - 1) = some (.int (ks[i] : Nat)) := by
            rw [show (1 : Int) + (i : Nat) - 1 = ((i : Nat) : Int) by omega]
            exact atI_nat (is_atN (List.getElem?_eq_getElem i0))
          have ej : jo ls ks i = decide (ls[ks[i + 1]].2.1 = ls[ks[i]].1) := by
            unfold jo
            rw [List.getElem?_eq_getElem i1, List.getElem?_eq_getElem i0]
            show decide (e2 ls ks[i + 1] = e1 ls ks[i]) = _
            rw [e1_at l0, e2_at l1]
          refine ⟨rfl, _, rfl, _, rfl, _, rfl, q, _, _, _, rfl, rfl, SqT.of hqd, at1, a, _, _, _, rfl, rfl, SqL.of hLd.1, atI_nat hb1, b1, _, _, _, rfl, rfl, SqT.of hc1, atI_nat (j := 1) rfl, _, rfl, _, rfl, _, rfl, _, _, rfl, rfl, q, _, _, _, rfl, rfl, SqT.of hqd, at0, a, _, _, _, rfl, rfl, SqL.of hLd.1, atI_nat hb0, b0, _, _, _, rfl, rfl, SqT.of hc0, atI_nat (j := 0) rfl, rfl, _, rfl, ?_⟩
          by_cases g : ls[ks[i + 1]].2.1 = ls[ks[i]].1
          · rw [decide_eq_true (congrArg V.int g)]
            refine iteF ?_
            rw [List.range_succ, List.filterMap_append, show [i].filterMap (misF ls ks) = [] by simp [misF, ej, g], List.append_nil]
          · rw [decide_eq_false fun z => g (V.int.inj z)]
            refine iteT ⟨_, rfl, _, upd_same, small1000 ?_, ?_⟩
            · rw [List.length_map]
              have := List.length_filterMap_le (misF ls ks) (List.range i)
              rw [List.length_range] at this
              omega
            · rw [upd_upd, List.range_succ, List.filterMap_append, show [i].filterMap (misF ls ks) = [(1 : Int) + (i : Nat)] by simp [misF, ej, g], List.map_append]
              rfl
        · rintro H' rfl
          rw [lm, show ((ks.length : Int) - 1).toNat = ks.length - 1 by omega]
          refine ⟨by show 0 ≤ sizeLine; exact Nat.zero_le _, fun qq nqq => ?_⟩
          have S3 := (sNew (o := .lst (((List.range (ks.length - 1)).filterMap (misF ls ks)).map V.int)) nD).trans (sNew (o := .lst []) nqq)
          refine ⟨_, _, dpI (sNew nqq _ _ upd_same), dp_lst (SqL.of upd_same) .nil, row_shaped true (okI _), row_shaped (xs := []) true (by simp), _, rfl, ?_⟩
          rw [eqv_nilI, mis_all, show (List.range (ks.length - 1)).all (jo ls ks) = fits ls ks from rfl]
          have S1 := S1.trans S3
          have hL := hL.same S3
          cases hf : fits ls ks with
          | false =>
            rw [if_neg (by rw [hf]; decide)] at k
            exact iteT (k _ S1)
          | true =>
            rw [if_pos hf] at k
            have hq := S3 _ _ hq
            obtain ⟨ys, z2, ez⟩ : ∃ ys z, ks = ys ++ [z] := by
              rcases List.eq_nil_or_concat ks with h | ⟨ys, z, h⟩
              · rw [h] at eks
                cases eks
              · exact ⟨ys, z, by rw [h, List.concat_eq_append]⟩
            generalize upd (upd H2 D _) qq _ = H4 at S1 hL hq
            rw [ez] at k hj hq
            have lz := hj z2 (by simp)
            obtain ⟨bz, hbz, hcz⟩ := ll_at hL lz
            rw [List.map_append, List.map_append] at hq
            refine iteF ⟨_, rfl, _, rfl, _, rfl, q, _, _, _, rfl, rfl, SqT.of hq, atI_last _ _, a, _, _, _, rfl, rfl, SqL.of hL.1, atI_nat hbz, bz, _, _, _, rfl, rfl, SqT.of hcz, atI_nat (j := 0) rfl, _, rfl, rfl, _, rfl, ?_⟩
            rw [List.getLast?_append] at k
            have k : ∀ H', Same H H' → Q (optV (if e1 ls z2 = en then (none : Option Str) else some ("end" : Str))) H' := k
            rw [e1_at lz]
            refine ite2 (fun g => ?_) (fun g => ?_)
            · rw [if_pos (V.int.inj (of_decide_eq_true g))] at k
              exact k _ S1
            · rw [if_neg fun q => g (decide_eq_true (congrArg V.int q))] at k
              exact k _ S1
theorem cal_path_due (T : Txt P w K mg cl) : Cal P w K mg base CX0 2 "_law_path_due" ["_law_links_here", "_law_path", "_law_start", "_law_end_here"] (spPDu) := by
  obtain ⟨f, fd, F, m⟩ := T.d_path_due
  exact ⟨f, fd, ok_path_due F T, m, F.kp, F.binds fun _ _ _ _ _ _ us hl => match us, hl with | [_, _, _, _], _ => rfl⟩
theorem ok_times_due {f : Addr} {fd : FuncData} (F : Fun K "_law_times_due" "_law_times_due" s_times_due f fd) (T : Txt P w K mg cl) : FnOk P w K mg base CX0 2 f fd ["_law_count", "_law_links_here", "_law_times_here"] (spTDu) := by
  refine F.ok sc_times_due (fun vs H Q E h => ?_) (fun cdv A outer s H vs Q E hr h => ?_)
  · obtain ⟨g, a, us, ls, n, ts, rfl, _⟩ := h
    rfl
  · obtain ⟨g, a, us, ls, n, ts, rfl, hL, lok, ll, ha, k⟩ := h
    have C_keep : Cal P w K mg base CX0 1 "_law_keep" _ spLKeep := cal_keep T
    refine ⟨_, (pss_cons (ps_if (pt_cmpR op_ne (pe_callB call_len_seq (by rfl) T.n_len PySem.boot_len (pa_cons (pv 2) pa_nil)) (pv 0) (nomark _))
          (pss_one (ps_ret pe_str)) pss_nil)
        (pss_one (ps_ret (pe_ifExp (pt_val (pe_cal C_keep (hr.mono (by decide)) (pa_cons (pv 1) (pa_cons (pv 2) pa_nil)))) pe_non pe_str)))), ?_⟩
    refine ⟨_, rfl, a, _, rfl, .inr (SqT.of ha), _, rfl, rfl, _, rfl, ?_⟩
    rw [List.length_map]
    unfold tmW at k
    by_cases z : ts.length = n
    rotate_left
    · rw [if_neg z] at k
      rw [decide_eq_false fun e => z (by have := V.int.inj e; omega)]
      exact iteT (k H (Same.refl H))
    subst z
    rw [if_pos rfl] at k
    rw [decide_eq_true rfl]
    refine iteF ⟨_, rfl, _, rfl, g, a, us, ls, ts, rfl, hL, .inr ha, lok, ll, fun H1 S1 => ⟨_, rfl, ?_⟩⟩
    have k := k H1 S1
    refine ite2 (fun h => ?_) (fun h => ?_)
    · rw [if_pos h] at k
      exact k
    · rw [if_neg h] at k
      exact k
theorem cal_times_due (T : Txt P w K mg cl) : Cal P w K mg base CX0 2 "_law_times_due" ["_law_count", "_law_links_here", "_law_times_here"] (spTDu) := by
  obtain ⟨f, fd, F, m⟩ := T.d_times_due
  exact ⟨f, fd, ok_times_due F T, m, F.kp, F.binds fun _ _ _ _ _ _ us hl => match us, hl with | [_, _, _], _ => rfl⟩
end
end My
set_option Elab.async false
set_option linter.all false
set_option maxRecDepth 100000
set_option maxHeartbeats 1000000
namespace My
open PySem L2 Dw Wp
open C8 (pss_cut tCut)
set_option pp.maxSteps 600
open Bf
def ixW (ls : List Lk) (a c : Nat) (is : List Int) : Option Str := if is.all (isIx ls.length) = false then some "index" else pathN ls (is.map Int.toNat) (c : Nat) (a : Nat)
def suW (ls : List Lk) (am : Int) (is : List Int) : Option Str := if sumO ls (is.map Int.toNat) = am then none else some "sum"
def diW (a c : Nat) (am : Int) (ts : List Int) : Option Str := if kF ts a - kF ts c = am then none else some "amount"
theorem gf_or (ls : List Lk) (n a c : Nat) (am : Int) (is ts : List Int) : gfW ls n a c am is ts = orW (orW (orW (ixW ls a c is) (suW ls am is)) (tmW ls n ts)) (diW a c am ts) := by
  unfold gfW ixW suW diW
  split
  · rfl
  · cases pathN ls (is.map Int.toNat) (c : Nat) (a : Nat) with
    | some x => rfl
    | none =>
      show (if _ then _ else _) = orW (orW (if _ then _ else _) _) _
      split
      · rfl
      · rfl
def spGDu (CG : Addr) : Sp := fun vs H Q _ => ∃ (g q pa ta : Addr) (us : List V) (ls : List Lk) (n a c : Nat) (am : Int) (is ts : List Int), vs = [.int (n : Nat), .ref g, .int (a : Nat), .int (c : Nat), .ref q] ∧ LlT H g us ls ∧ (∀ l ∈ ls, LkOk (n : Nat) l) ∧ ls.length ≤ 800 ∧ a < n ∧ c < n ∧ GaAt CG H q am pa ta is ts ∧ is.length ≤ 800 ∧ ∀ H', Same H H' → Q (optV (gfW ls n a c am is ts)) H'
def spEDu (CE : Addr) : Sp := fun vs H Q _ => ∃ (g q pa ta : Addr) (us : List V) (ls : List Lk) (n a c : Nat) (is ts : List Int), vs = [.int (n : Nat), .ref g, .int (a : Nat), .int (c : Nat), .ref q] ∧ LlT H g us ls ∧ (∀ l ∈ ls, LkOk (n : Nat) l) ∧ ls.length ≤ 800 ∧ n ≤ 800 ∧ EaAt CE H q pa ta is ts ∧ is.length ≤ 800 ∧ ∀ H', Same H H' → Q (optV (egW ls n a c is ts)) H'
section
variable {P : Program} {w : World} {K : PySem.W.Frag} {mg : Str → Option Value} {base : Heap} {cl : String → Addr}
theorem ok_greatest_due {f : Addr} {fd : FuncData} (F : Fun K "_law_greatest_due" "_law_greatest_due" s_greatest_due f fd) (T : Txt P w K mg cl) : FnOk P w K mg base CX0 3 f fd ["_law_count", "_law_links_here", "_law_one", "_law_other", "_law_answer"] (spGDu (cl "Greatest")) := by
  refine F.ok sc_greatest_due (fun vs H Q E h => ?_) (fun cdv A outer s H vs Q E hr h => ?_)
  · obtain ⟨g, q, pa, ta, us, ls, n, a, c, am, is, ts, rfl, _⟩ := h
    rfl
  · obtain ⟨g, q, pa, ta, us, ls, n, a, c, am, is, ts, rfl, hL, lok, ll, an, cn, ⟨⟨dq, hq⟩, hpa, hta⟩, li, k⟩ := h
    have C_path_due : Cal P w K mg base CX0 2 "_law_path_due" _ spPDu := cal_path_due T
    have C_times_due : Cal P w K mg base CX0 2 "_law_times_due" _ spTDu := cal_times_due T
    have C_sum : Cal P w K mg base CX0 1 "_law_sum" _ spLSum := cal_sum T
    refine ⟨_, (pss_cons (ps_set (i := 5) sc_greatest_due.nd rfl (Or.inl rfl) (pe_cal C_path_due (hr.mono (by decide)) (pa_cons (pv 1) (pa_cons (pe_fld (pv 4) rfl) (pa_cons (pv 3) (pa_cons (pv 2) pa_nil))))))
        (pss_cut (ps_if (PW.pt (pw_and (pt_cmpR op_isN (pv 5) pe_non (nomark _)) (pw_and1 (pt_cmpR op_ne (pe_cal C_sum (hr.mono (by decide)) (pa_cons (pv 1) (pa_cons (pe_fld (pv 4) rfl) pa_nil))) (pe_fld (pv 4) rfl) (nomark _)))))
          (pss_one (ps_set (i := 5) sc_greatest_due.nd rfl (Or.inl rfl) pe_str)) pss_nil)
        (pss_cut (ps_if (pt_cmpR op_isN (pv 5) pe_non (nomark _))
          (pss_one (ps_set (i := 5) sc_greatest_due.nd rfl (Or.inl rfl) (pe_cal C_times_due (hr.mono (by decide)) (pa_cons (pv 0) (pa_cons (pv 1) (pa_cons (pe_fld (pv 4) rfl) pa_nil)))))) pss_nil)
        (pss_cut (ps_if (PW.pt (pw_and (pt_cmpR op_isN (pv 5) pe_non (nomark _)) (pw_and1 (pt_cmpR op_ne (pe_op op_sub (pe_ix ix_tup (pe_fld (pv 4) rfl) (pv 2) (fun _ _ => rfl)) (pe_ix ix_tup (pe_fld (pv 4) rfl) (pv 3) (fun _ _ => rfl))) (pe_fld (pv 4) rfl) (nomark _)))))
          (pss_one (ps_set (i := 5) sc_greatest_due.nd rfl (Or.inl rfl) pe_str)) pss_nil)
        (pss_one (ps_ret (pv 5))))))), ?_⟩
    rw [gf_or] at k
    have fin : ∀ (H1 : Hp) (w1 : Option Str), Same H H1 → w1 = ixW ls a c is → (w1 = none → ∀ i ∈ is.map Int.toNat, i < ls.length) → (w1 = none → is = nI (is.map Int.toNat)) → True := fun _ _ _ _ _ _ => trivial
    refine ⟨_, rfl, _, rfl, q, _, _, _, _, rfl, hq, T.cl_Greatest, T.na_Greatest _ (by decide), rfl, _, rfl, _, rfl, g, pa, us, ls, is, (c : Nat), (a : Nat), rfl, hL, by omega, hpa, by omega, fun hx H1 S1 => ?_, fun js ej hj H1 S1 => ?_⟩
    · have e1 : ixW ls a c is = some ("index" : Str) := by
        unfold ixW
        rw [if_pos hx]
      rw [e1] at k
      have k : ∀ H', Same H H' → Q (.str "index") H' := k
      refine ⟨(fun σ' H' => Same H H' ∧ σ' = [some (.int (n : Nat)), some (.ref g), some (.int (a : Nat)), some (.int (c : Nat)), some (.ref q), some (optV (some ("index" : Str)))]), ⟨_, rfl, rfl, _, rfl, iteF (iteF ⟨S1, rfl⟩)⟩, ?_⟩
      rintro σ' H2 ⟨S2, rfl⟩
      refine ⟨(fun σ' H' => Same H H' ∧ σ' = [some (.int (n : Nat)), some (.ref g), some (.int (a : Nat)), some (.int (c : Nat)), some (.ref q), some (optV (some ("index" : Str)))]), ⟨_, rfl, rfl, _, rfl, iteF ⟨S2, rfl⟩⟩, ?_⟩
      rintro σ' H3 ⟨S3, rfl⟩
      refine ⟨(fun σ' H' => Same H H' ∧ σ' = [some (.int (n : Nat)), some (.ref g), some (.int (a : Nat)), some (.int (c : Nat)), some (.ref q), some (optV (some ("index" : Str)))]), ⟨_, rfl, rfl, _, rfl, iteF (iteF ⟨S3, rfl⟩)⟩, ?_⟩
      rintro σ' H4 ⟨S4, rfl⟩
      exact ⟨_, rfl, k H4 S4⟩
    · have le2 : js.length ≤ 800 := by rw [ej, List.length_map] at li; exact li
      have hx : is.all (isIx ls.length) = true := by
        rw [ej]
        refine List.all_eq_true.mpr fun x hx => ?_
        obtain ⟨j, h, rfl⟩ := List.mem_map.mp hx
        have := hj j h
        unfold isIx
        rw [decide_eq_true (Int.natCast_nonneg j), decide_eq_true (show (j : Int) < (ls.length : Int) by omega)]
        rfl
      have e0 : is.map Int.toNat = js := by rw [ej]; exact natI js
      have e1 : ixW ls a c is = pathN ls js (c : Nat) (a : Nat) := by
        unfold ixW
        rw [if_neg (by rw [hx]; decide), e0]
      rw [e1] at k
      have hpa : H pa = some (natT js) := by
        rw [hpa, ej]
        unfold natT
        rw [natV]
        rfl
      cases hp : pathN ls js (c : Nat) (a : Nat) with
      | some x =>
        rw [hp] at k
        have k : ∀ H', Same H H' → Q (.str x) H' := k
        refine ⟨(fun σ' H' => Same H H' ∧ σ' = [some (.int (n : Nat)), some (.ref g), some (.int (a : Nat)), some (.int (c : Nat)), some (.ref q), some (optV (some x))]), ⟨_, rfl, rfl, _, rfl, iteF (iteF ⟨S1, rfl⟩)⟩, ?_⟩
        rintro σ' G1 ⟨T1, rfl⟩
        refine ⟨(fun σ' H' => Same H H' ∧ σ' = [some (.int (n : Nat)), some (.ref g), some (.int (a : Nat)), some (.int (c : Nat)), some (.ref q), some (optV (some x))]), ⟨_, rfl, rfl, _, rfl, iteF ⟨T1, rfl⟩⟩, ?_⟩
        rintro σ' G2 ⟨T2, rfl⟩
        refine ⟨(fun σ' H' => Same H H' ∧ σ' = [some (.int (n : Nat)), some (.ref g), some (.int (a : Nat)), some (.int (c : Nat)), some (.ref q), some (optV (some x))]), ⟨_, rfl, rfl, _, rfl, iteF (iteF ⟨T2, rfl⟩)⟩, ?_⟩
        rintro σ' G3 ⟨T3, rfl⟩
        exact ⟨_, rfl, k G3 T3⟩
      | none =>
        rw [hp] at k
        have k : ∀ H', Same H H' → Q (optV (orW (orW (suW ls am is) (tmW ls n ts)) (diW a c am ts))) H' := k
        refine ⟨(fun σ' H' => Same H H' ∧ σ' = [some (.int (n : Nat)), some (.ref g), some (.int (a : Nat)), some (.int (c : Nat)), some (.ref q), some (optV (suW ls am is))]), ?_, ?_⟩
        · refine ⟨_, rfl, rfl, _, rfl, iteT ?_⟩
          refine ⟨_, rfl, _, rfl, q, _, _, _, _, rfl, S1 _ _ hq, T.cl_Greatest, T.na_Greatest _ (by decide), rfl, g, pa, us, ls, js, rfl, hL.same S1, S1 _ _ hpa, le2, hj, fun H2 S2 => ?_⟩
          have S2 := S1.trans S2
          refine ⟨_, rfl, q, _, _, _, _, rfl, S2 _ _ hq, T.cl_Greatest, T.na_Greatest _ (by decide), rfl, rfl, _, rfl, ?_⟩
          unfold suW
          rw [e0]
          by_cases z : sumO ls js = am
          · rw [if_pos z, decide_eq_true (congrArg V.int z)]
            exact iteF ⟨S2, rfl⟩
          · rw [if_neg z, decide_eq_false fun h => z (V.int.inj h)]
            exact iteT ⟨S2, rfl⟩
        rintro σ' H2 ⟨S2, rfl⟩
        cases hsu : suW ls am is with
        | some x =>
          rw [hsu] at k
          have k : ∀ H', Same H H' → Q (.str x) H' := k
          refine ⟨(fun σ' H' => Same H H' ∧ σ' = [some (.int (n : Nat)), some (.ref g), some (.int (a : Nat)), some (.int (c : Nat)), some (.ref q), some (optV (some x))]), ⟨_, rfl, rfl, _, rfl, iteF ⟨S2, rfl⟩⟩, ?_⟩
          rintro σ' G2 ⟨T2, rfl⟩
          refine ⟨(fun σ' H' => Same H H' ∧ σ' = [some (.int (n : Nat)), some (.ref g), some (.int (a : Nat)), some (.int (c : Nat)), some (.ref q), some (optV (some x))]), ⟨_, rfl, rfl, _, rfl, iteF (iteF ⟨T2, rfl⟩)⟩, ?_⟩
          rintro σ' G3 ⟨T3, rfl⟩
          exact ⟨_, rfl, k G3 T3⟩
        | none =>
          rw [hsu] at k
          have k : ∀ H', Same H H' → Q (optV (orW (tmW ls n ts) (diW a c am ts))) H' := k
          refine ⟨(fun σ' H' => Same H H' ∧ σ' = [some (.int (n : Nat)), some (.ref g), some (.int (a : Nat)), some (.int (c : Nat)), some (.ref q), some (optV (tmW ls n ts))]), ?_, ?_⟩
          · refine ⟨_, rfl, rfl, _, rfl, iteT ?_⟩
            exact ⟨_, rfl, _, rfl, _, rfl, q, _, _, _, _, rfl, S2 _ _ hq, T.cl_Greatest, T.na_Greatest _ (by decide), rfl, g, ta, us, ls, n, ts, rfl, hL.same S2, lok, ll, S2 _ _ hta, fun H3 S3 => ⟨S2.trans S3, rfl⟩⟩
          rintro σ' H3 ⟨S3, rfl⟩
          cases htm : tmW ls n ts with
          | some x =>
            rw [htm] at k
            have k : ∀ H', Same H H' → Q (.str x) H' := k
            refine ⟨(fun σ' H' => Same H H' ∧ σ' = [some (.int (n : Nat)), some (.ref g), some (.int (a : Nat)), some (.int (c : Nat)), some (.ref q), some (optV (some x))]), ⟨_, rfl, rfl, _, rfl, iteF (iteF ⟨S3, rfl⟩)⟩, ?_⟩
            rintro σ' G3 ⟨T3, rfl⟩
            exact ⟨_, rfl, k G3 T3⟩
          | none =>
            rw [htm] at k
            have k : ∀ H', Same H H' → Q (optV (diW a c am ts)) H' := k
            have lts : ts.length = n := by
              unfold tmW at htm
              by_cases z : ts.length = n
              · exact z
              · rw [if_neg z] at htm
                cases htm
            have hta3 := S3 _ _ hta
            refine ⟨(fun σ' H' => Same H H' ∧ σ' = [some (.int (n : Nat)), some (.ref g), some (.int (a : Nat)), some (.int (c : Nat)), some (.ref q), some (optV (diW a c am ts))]), ?_, ?_⟩
            · refine ⟨_, rfl, rfl, _, rfl, iteT ?_⟩
              refine ⟨_, rfl, q, _, _, _, _, rfl, S3 _ _ hq, T.cl_Greatest, T.na_Greatest _ (by decide), rfl, _, rfl, ta, _, _, _, rfl, rfl, SqT.of hta3, atI_nat (kF_at (by omega)), _, rfl, q, _, _, _, _, rfl, S3 _ _ hq, T.cl_Greatest, T.na_Greatest _ (by decide), rfl, _, rfl, ta, _, _, _, rfl, rfl, SqT.of hta3, atI_nat (kF_at (by omega)), _, _, rfl, rfl, _, rfl, q, _, _, _, _, rfl, S3 _ _ hq, T.cl_Greatest, T.na_Greatest _ (by decide), rfl, rfl, _, rfl, ?_⟩
              unfold diW
              by_cases z : kF ts a - kF ts c = am
              · rw [if_pos z, decide_eq_true (congrArg V.int z)]
                exact iteF ⟨S3, rfl⟩
              · rw [if_neg z, decide_eq_false fun h => z (V.int.inj h)]
                exact iteT ⟨S3, rfl⟩
            rintro σ' H4 ⟨S4, rfl⟩
            exact ⟨_, rfl, k H4 S4⟩
theorem cal_greatest_due (T : Txt P w K mg cl) : Cal P w K mg base CX0 3 "_law_greatest_due" ["_law_count", "_law_links_here", "_law_one", "_law_other", "_law_answer"] (spGDu (cl "Greatest")) := by
  obtain ⟨f, fd, F, m⟩ := T.d_greatest_due
  exact ⟨f, fd, ok_greatest_due F T, m, F.kp, F.binds fun _ _ _ _ _ _ us hl => match us, hl with | [_, _, _, _, _], _ => rfl⟩
end
end My
set_option Elab.async false
set_option linter.all false
set_option maxRecDepth 100000
set_option maxHeartbeats 1000000
namespace My
open PySem L2 Dw Wp
open C8 (pss_cut tCut)
set_option pp.maxSteps 600
open Bf
theorem leak_succ {ls : List Lk} {ap : List Int} {i : Nat} {l : Lk} (h : ls[i]? = some l) : leak (ls.take (i + 1)) ap = (leak (ls.take i) ap || (ap.contains l.1 && !ap.contains l.2.1)) := by
  unfold leak
  rw [take_snoc h, List.any_append]
  simp
def spErr (C : Addr) : Sp := fun vs H Q _ => ∃ (b p t g : Addr) (n many : Nat) (us lus : List V) (ls : List Lk), vs = [.ref b, .ref p, .int (n : Nat), .int (many : Nat)] ∧ Zs C b p t g n us lus ls H ∧ many ≤ 3 ∧ ∀ H', BgAt H' b → But b H H' → Q (.bl true) H'
section
variable {P : Program} {w : World} {K : PySem.W.Frag} {mg : Str → Option Value} {base : Heap} {cl : String → Addr}
theorem ok_endless_due {f : Addr} {fd : FuncData} (F : Fun K "_law_endless_due" "_law_endless_due" s_endless_due f fd) (T : Txt P w K mg cl) : FnOk P w K mg base CX0 3 f fd ["_law_count", "_law_links_here", "_law_one", "_law_other", "_law_answer"] (spEDu (cl "Endless")) := by
  refine F.ok sc_endless_due (fun vs H Q E h => ?_) (fun cdv A outer s H vs Q E hr h => ?_)
  · obtain ⟨g, q, pa, ta, us, ls, n, a, c, is, ts, rfl, _⟩ := h
    rfl
  · obtain ⟨g, q0, q, ta, us, ls, n, a, c, ap, ts, rfl, hL, lok, ll, ln, ⟨⟨dq, hq0⟩, hq, hta⟩, lap, k⟩ := h
    have C_times_due : Cal P w K mg base CX0 2 "_law_times_due" _ spTDu := cal_times_due T
    refine ⟨_, (pss_cons (ps_set (i := 5) sc_endless_due.nd rfl (Or.inr rfl) (pe_fld (pv 4) rfl))
        (pss_cons (ps_if (pt_cmpR (op_neD hr.units) (pe_callTy call_list_of (by rfl) T.n_list (by decide +kernel) (pa_cons (pv 5) pa_nil)) (pe_lc (own := [("_law_x", 6)]) (g := gName 6)  rfl sc_endless_due.nd (pi_range1 rfl T.n_range (pa_cons (pv 0) pa_nil)) (blkOk_by (own := [("_law_x", 6)]) (N := ["_law_count", "_law_links_here", "_law_one", "_law_other", "_law_answer", "_law_apart", "_law_x"]) (sc := defScope s_endless_due) (by decide +kernel)) (fun _ _ _ _ _ => pg_name (i := 6) sc_endless_due.nd rfl (Or.inl rfl)) (fun _ _ _ _ _ => pts_one (pt_cmpR (op_in_seqK (K := K) rfl) (pv 6) (pv 5) (by rfl))) (fun _ _ _ _ _ => (pv 6))) (nomark _))
          (pss_one (ps_ret pe_str)) pss_nil)
        (pss_cons (ps_if (pt_cmpR op_notIn_seq (pv 2) (pv 5) (by rfl))
          (pss_one (ps_ret pe_str)) pss_nil)
        (pss_cons (ps_if (pt_cmpR op_in_seq (pv 3) (pv 5) (by rfl))
          (pss_one (ps_ret pe_str)) pss_nil)
        (pss_cons (ps_if (pt_cmpR (op_neD hr.units) (pe_lc (own := [("_law_x", 6)]) (g := gName 6)  rfl sc_endless_due.nd (pi_list (pv 1)) (blkOk_by (own := [("_law_x", 6)]) (N := ["_law_count", "_law_links_here", "_law_one", "_law_other", "_law_answer", "_law_apart", "_law_x"]) (sc := defScope s_endless_due) (by decide +kernel)) (fun _ _ _ _ _ => pg_name (i := 6) sc_endless_due.nd rfl (Or.inl rfl)) (fun _ _ _ _ _ => pts_one (PW.pt (pw_and (pt_cmpR (op_in_seqK (K := K) rfl) (pe_ix (ix_tupK (K := K) rfl) (pv 6) pe_int (fun _ _ => rfl)) (pv 5) (by rfl)) (pw_and1 (pt_cmpR (op_notIn_seqK (K := K) rfl) (pe_ix (ix_tupK (K := K) rfl) (pv 6) pe_int (fun _ _ => rfl)) (pv 5) (by rfl)))))) (fun _ _ _ _ _ => (pv 6))) (pe_lst pa_nil) (nomark _))
          (pss_one (ps_ret pe_str)) pss_nil)
        (pss_one (ps_ret (pe_cal C_times_due (hr.mono (by decide)) (pa_cons (pv 0) (pa_cons (pv 1) (pa_cons (pe_fld (pv 4) rfl) pa_nil))))))))))), ?_⟩
    have lapm : (ap.map V.int).length = ap.length := List.length_map _
    have hq : H q = some (.tup (ap.map V.int)) := hq
    refine ⟨_, rfl, q0, _, _, _, _, rfl, hq0, T.cl_Endless, T.na_Endless _ (by decide), rfl, ?_⟩
    refine ⟨_, rfl, q, _, rfl, .inr (SqT.of hq), fun L nL => ?_⟩
    have S1 := sNew (o := .lst (ap.map V.int)) nL
    refine ⟨_, rfl, (n : Int), rfl, by omega, by omega, fun D nD => lc_range (fun i H' => H' = upd (upd H L (.lst (ap.map V.int))) D (.lst ((knw i ap).map V.int))) rfl ?_ ?_⟩
    · rintro i H' hi rfl
      have hi : i < n := by omega
      have sz : ((knw i ap).map V.int).length < sizeLine := small1000 (by
        unfold knw
        rw [List.length_map, List.length_map]
        have := List.length_filter_le (fun v => ap.contains ((v : Nat) : Int)) (List.range i)
        rw [List.length_range] at this
        omega)
      refine ⟨rfl, _, rfl, _, rfl, q, _, rfl, .inr (SqT.of (sNew nD _ _ (S1 _ _ hq))), rfl, flatI ap, _, rfl, ?_⟩
      rw [in_ints, Int.zero_add]
      have st : knw (i + 1) ap = knw i ap ++ if ap.contains (i : Int) = true then [(i : Int)] else [] := by
        unfold knw
        rw [List.range_succ, List.filter_append, List.map_append]
        congr 1
        rw [List.filter_cons, List.filter_nil]
        split <;> rfl
      refine ite2 (fun g => ?_) (fun g => ?_)
      · refine ⟨_, rfl, _, upd_same, sz, ?_⟩
        have g : ap.contains (i : Int) = true := g
        rw [upd_upd, st, if_pos g, List.map_append]
        rfl
      · have g : ¬ ap.contains (i : Int) = true := g
        rw [st, if_neg g, List.append_nil]
    rintro H' rfl
    rw [Int.toNat_natCast]
    have S2 := sNew (o := .lst ((knw n ap).map V.int)) nD
    have S := S1.trans S2
    refine ⟨_, _, dpI (S2 _ _ upd_same), dpI upd_same, row_shaped true (okI _), row_shaped true (okI _), _, rfl, ?_⟩
    rw [eqv_ints]
    unfold egW apW at k
    by_cases g1 : ap = knw n ap
    rotate_left
    · rw [if_neg g1] at k
      rw [decide_eq_false g1]
      exact iteT (k _ S)
    rw [if_pos g1] at k
    rw [decide_eq_true g1]
    refine iteF ?_
    have hq2 := S _ _ hq
    have hL2 := hL.same S
    generalize upd (upd H L _) D _ = H2 at S hq2 hL2
    refine ⟨_, rfl, _, rfl, q, _, rfl, .inr (SqT.of hq2), rfl, flatI ap, _, rfl, ?_⟩
    rw [in_ints]
    cases ha : ap.contains (a : Int) with
    | false =>
      rw [ha] at k
      exact iteT (k _ S)
    | true =>
      rw [ha] at k
      refine iteF ⟨_, rfl, _, rfl, q, _, rfl, .inr (SqT.of hq2), rfl, flatI ap, _, rfl, ?_⟩
      rw [in_ints]
      cases hb : ap.contains (c : Int) with
      | true =>
        rw [hb] at k
        exact iteT (k _ S)
      | false =>
        rw [hb] at k
        refine iteF ?_
        refine ⟨_, rfl, g, rfl, ⟨_, SqL.of hL2.1⟩, fun M nM => lc_list (K := K) (a := g) (xs := us) (fun i H' => ∃ (ws : List V) (ks : List Lk), H' = upd H2 M (.lst ws) ∧ Paired (LkT H2) ws ks ∧ ks.isEmpty = !(leak (ls.take i) ap) ∧ ws.length ≤ i) ⟨[], [], rfl, .nil, rfl, Nat.le_refl _⟩ (fun i H' _ z => by obtain ⟨ws, ks, z, _⟩ := z; rw [z]; exact SqL.of (sNew nM _ _ hL2.1)) ?_ ?_⟩
        · rintro i x H' hx ⟨ws, ks, rfl, pw, eb, lw⟩
          obtain ⟨l, hl, e, rfl, he0⟩ := Paired.at hL2.2 hx
          have SD := sNew (o := .lst ws) nM
          have he := SD _ _ he0
          have hi := (List.getElem?_eq_some_iff.mp hx).1
          have lus := hL2.2.length
          have sc := leak_succ (ap := ap) hl
          refine ⟨rfl, _, rfl, e, _, _, _, rfl, rfl, SqT.of he, atI_nat (j := 0) rfl, _, rfl, q, _, rfl, .inr (SqT.of (SD _ _ hq2)), rfl, flatI ap, _, rfl, ?_⟩
          rw [in_ints]
          cases h1 : ap.contains l.1 with
          | false =>
            rw [h1] at sc
            exact iteF (iteF ⟨ws, ks, rfl, pw, by rw [sc, eb]; simp, by omega⟩)
          | true =>
            rw [h1] at sc
            refine iteT ⟨_, rfl, e, _, _, _, rfl, rfl, SqT.of he, atI_nat (j := 1) rfl, _, rfl, q, _, rfl, .inr (SqT.of (SD _ _ hq2)), rfl, flatI ap, _, rfl, ?_⟩
            rw [in_ints]
            cases h2 : ap.contains l.2.1 with
            | true =>
              rw [h2] at sc
              exact iteF ⟨ws, ks, rfl, pw, by rw [sc, eb]; simp, by omega⟩
            | false =>
              rw [h2] at sc
              exact iteT ⟨_, rfl, ws, upd_same, small1000 (by omega), ws ++ [.ref e], ks ++ [l], by rw [upd_upd], Paired.appendP pw (.cons ⟨e, rfl, he0⟩ .nil), by rw [sc]; cases ks <;> simp, by rw [List.length_append, List.length_singleton]; omega⟩
        rintro H' ⟨ws, ks, rfl, pw, eb, lw⟩
        rw [hL2.2.length, List.take_length] at eb
        have S3 := sNew (o := .lst ws) nM
        refine ⟨by show 0 ≤ sizeLine; exact Nat.zero_le _, fun qq nqq => ?_⟩
        have S4 := S3.trans (sNew (o := .lst []) nqq)
        refine ⟨_, _, dp_lst (SqL.of (sNew nqq _ _ upd_same)) (lks_dp (Paired.impP (fun _ _ h => h.same S4) pw)), dp_lst (SqL.of upd_same) .nil, fls_shaped true (lks_fl ks), row_shaped (xs := []) true (by simp), _, rfl, ?_⟩
        rw [eqv_nilE, show (ks.map lkD).isEmpty = !(leak ls ap) from (show (ks.map lkD).isEmpty = ks.isEmpty by cases ks <;> rfl).trans eb]
        have S5 := S.trans S4
        cases hlk : leak ls ap with
        | true =>
          rw [hlk] at k
          exact iteT (k _ S5)
        | false =>
          rw [hlk] at k
          have k : ∀ H', Same H H' → Q (optV (tmW ls n ts)) H' := k
          exact iteF ⟨_, rfl, _, rfl, _, rfl, q0, _, _, _, _, rfl, S5 _ _ hq0, T.cl_Endless, T.na_Endless _ (by decide), rfl, g, ta, us, ls, n, ts, rfl, hL.same S5, lok, ll, S5 _ _ hta, fun H3 S6 => k H3 (S5.trans S6)⟩
theorem cal_endless_due (T : Txt P w K mg cl) : Cal P w K mg base CX0 3 "_law_endless_due" ["_law_count", "_law_links_here", "_law_one", "_law_other", "_law_answer"] (spEDu (cl "Endless")) := by
  obtain ⟨f, fd, F, m⟩ := T.d_endless_due
  exact ⟨f, fd, ok_endless_due F T, m, F.kp, F.binds fun _ _ _ _ _ _ us hl => match us, hl with | [_, _, _, _, _], _ => rfl⟩
theorem ok_errors {f : Addr} {fd : FuncData} (F : Fun K "_law_errors" "_law_errors" s_errors f fd) (T : Txt P w K mg cl) : FnOk P w K mg base CX0 7 f fd ["_law_bag_here", "_law_system", "_law_count", "_law_many"] (spErr (cl "System")) := by
  refine F.ok sc_errors (fun vs H Q E h => ?_) (fun cdv A outer s H vs Q E hr h => ?_)
  · obtain ⟨b, p, t, g, n, many, us, lus, ls, rfl, _⟩ := h
    rfl
  · obtain ⟨b, p, t, g, n, many, us, lus, ls, rfl, Z, mm, k⟩ := h
    have C_take : Cal P w K mg base CX0 1 "_law_take" _ spTake := cal_take T
    have C_of : Cal P w K mg base CX0 2 "_law_of" _ spOf := cal_of T
    have C_no_instant : Cal P w K mg base CX0 6 "_law_no_instant" _ (spNoI (cl "System")) := cal_no_instant T
    refine ⟨_, (pss_cons (ps_set (i := 4) sc_errors.nd rfl (Or.inl rfl) (pe_cal C_of (hr.mono (by decide)) (pa_cons (pv 0) (pa_cons (pe_lst (pa_cons (pv 2) (pa_cons (pe_un un_neg pe_int) (pa_cons (pe_op op_add (pv 2) (pe_op op_pow pe_int pe_int)) (pa_cons (pe_op op_sub (pe_un un_neg (pv 2)) pe_int) pa_nil))))) pa_nil))))
        (pss_cons (ps_par (i := 5) (j := 6) rfl sc_errors.nd rfl rfl (by decide) rfl rfl (pa_cons (pe_cal C_take (hr.mono (by decide)) (pa_cons (pv 0) (pa_cons (pv 2) pa_nil))) (pa_cons (pe_cal C_of (hr.mono (by decide)) (pa_cons (pv 0) (pa_cons (pe_lst (pa_cons (pe_un un_neg pe_int) (pa_cons (pv 2) pa_nil))) pa_nil))) pa_nil)) (by rfl))
        (pss_cons (ps_if (pt_cmpR (op_neD hr.units) (pe_cal C_no_instant (hr.mono (by decide)) (pa_cons (pv 1) (pa_cons (pv 4) (pa_cons (pv 6) (pa_cons (pv 3) pa_nil))))) (pe_op op_rep (pe_lst (pa_cons (pv 4) pa_nil)) (pv 3)) (nomark _))
          (pss_one (ps_ret pe_bl)) pss_nil)
        (pss_one (ps_ret (pe_cmpR (op_eqD hr.units) (pe_cal C_no_instant (hr.mono (by decide)) (pa_cons (pv 1) (pa_cons (pv 5) (pa_cons (pv 6) (pa_cons (pv 3) pa_nil))))) (pe_op op_rep (pe_lst (pa_cons (pv 6) pa_nil)) (pv 3)) (nomark _))))))), ?_⟩
    have n1 := Z.n1
    have n2 := Z.n2
    have ll := Z.ll
    refine ⟨_, rfl, _, rfl, _, rfl, _, rfl, _, _, rfl, rfl, ⟨by decide, by decide, by decide⟩, _, _, rfl, rfl, _, rfl, _, rfl, _, _, rfl, rfl, by show 4 ≤ sizeLine; decide, fun q1 m1 => ?_⟩
    refine ⟨b, q1, _, rfl, Z.B.same (sNew m1), upd_same, Z.B.ne m1, (by show 1 ≤ 4; decide), (by show 4 ≤ 900; decide), fun jj x H2 hx B2 D2 => ?_⟩
    have hx := List.mem_of_getElem? hx
    obtain ⟨far, rfl, hf⟩ : ∃ i : Int, x = .int i ∧ isT (n : Nat) (.int i) = false := by
      have ff : ∀ i : Int, ¬ (0 ≤ i ∧ i < n) → isT (n : Nat) (.int i) = false := fun i h => by
        show (decide (0 ≤ i) && decide (i < (n : Int))) = false
        by_cases g : 0 ≤ i
        · rw [decide_eq_false (show ¬ i < (n : Int) from fun z => h ⟨g, z⟩), Bool.and_false]
        · rw [decide_eq_false g, Bool.false_and]
      simp only [List.mem_cons, List.not_mem_nil, or_false] at hx
      rcases hx with rfl | rfl | rfl | rfl
      · exact ⟨_, rfl, ff _ (by omega)⟩
      · exact ⟨_, rfl, ff _ (by omega)⟩
      · exact ⟨_, rfl, ff _ (by
          show ¬ (0 ≤ (n : Int) + (10 : Int) ^ 20 ∧ (n : Int) + (10 : Int) ^ 20 < n)
          have : (0 : Int) < (10 : Int) ^ 20 := by decide
          omega)⟩
      · exact ⟨_, rfl, ff _ (by omega)⟩
    have D2 : But b H H2 := (But.of (sNew m1)).trans D2
    have Z2 := Z.but B2 D2
    refine ⟨_, rfl, _, rfl, b, n, rfl, B2, by omega, by omega, fun near H3 j0 j1 B3 D3 => ?_⟩
    have D3 := D2.trans D3
    refine ⟨_, rfl, _, rfl, _, rfl, by show 2 ≤ sizeLine; decide, fun q2 m2 => ?_⟩
    refine ⟨b, q2, _, rfl, B3.same (sNew m2), upd_same, B3.ne m2, (by show 1 ≤ 2; decide), (by show 2 ≤ 900; decide), fun jj x H4 hx B4 D4 => ?_⟩
    have hx := List.mem_of_getElem? hx
    obtain ⟨last, rfl, hl⟩ : ∃ i : Int, x = .int i ∧ isT (n : Nat) (.int i) = false := by
      simp only [List.mem_cons, List.not_mem_nil, or_false] at hx
      rcases hx with rfl | rfl
      · exact ⟨_, rfl, rfl⟩
      · refine ⟨_, rfl, ?_⟩
        show (decide ((0 : Int) ≤ (n : Int)) && decide ((n : Int) < (n : Int))) = false
        simp
    have D4 : But b H H4 := D3.trans ((But.of (sNew m2)).trans D4)
    have Z4 := Z.but B4 D4
    have hn : isT (n : Nat) (.int near) = true := by
      show (decide (0 ≤ near) && decide (near < (n : Int))) = true
      simp
      omega
    refine ⟨_, _, rfl, ?_⟩
    refine ⟨_, rfl, _, rfl, _, rfl, _, rfl, p, t, n, many, far, last, far, us, ls, rfl, Z4.X, Z4.lok, n1, by omega, by omega, by omega, .inl ⟨hf, rfl⟩, fun D H5 nD S5 hD => ?_⟩
    refine ⟨_, rfl, by show 1 ≤ sizeLine; decide, fun r1 w1 => ?_⟩
    have SR1 := sNew (o := .lst [.int far]) w1
    refine ⟨_, rfl, r1, (many : Int), _, rfl, rfl, upd_same, by omega, by omega, (by rw [sizeLine_eq]; show 1 * many ≤ _; omega), fun r2 w2 => ?_⟩
    have eR : (List.replicate ((many : Nat) : Int).toNat [V.int far]).flatten = (List.replicate many far).map V.int := by
      rw [Int.toNat_natCast]
      simp
    rw [eR]
    have SR2 := sNew (o := .lst ((List.replicate many far).map V.int)) w2
    have hD2 := SR2 _ _ (SR1 _ _ hD)
    rw [show List.replicate many (V.int far) = (List.replicate many far).map V.int from (List.map_replicate).symm] at hD2
    refine ⟨_, _, dpI hD2, dpI upd_same, row_shaped true (okI _), row_shaped true (okI _), ?_⟩
    rw [eqv_ints, decide_eq_true rfl]
    refine ⟨_, rfl, iteF ?_⟩
    have S6 := S5.trans (SR1.trans SR2)
    have Z6 := Z4.same S6
    clear hD2 eR SR2 SR1
    generalize upd (upd H5 r1 _) r2 _ = H6 at S6 Z6
    clear w1 w2 r1 r2 hD nD
    refine ⟨_, rfl, _, rfl, _, rfl, _, rfl, p, t, n, many, near, last, last, us, ls, rfl, Z6.X, Z6.lok, n1, by omega, by omega, by omega, .inr ⟨hn, hl, rfl⟩, fun D H7 nD S7 hD => ?_⟩
    refine ⟨_, rfl, by show 1 ≤ sizeLine; decide, fun r1 w1 => ?_⟩
    have SR1 := sNew (o := .lst [.int last]) w1
    refine ⟨_, rfl, r1, (many : Int), _, rfl, rfl, upd_same, by omega, by omega, (by rw [sizeLine_eq]; show 1 * many ≤ _; omega), fun r2 w2 => ?_⟩
    have eR : (List.replicate ((many : Nat) : Int).toNat [V.int last]).flatten = (List.replicate many last).map V.int := by
      rw [Int.toNat_natCast]
      simp
    rw [eR]
    have SR2 := sNew (o := .lst ((List.replicate many last).map V.int)) w2
    have hD2 := SR2 _ _ (SR1 _ _ hD)
    rw [show List.replicate many (V.int last) = (List.replicate many last).map V.int from (List.map_replicate).symm] at hD2
    refine ⟨_, _, dpI hD2, dpI upd_same, row_shaped true (okI _), row_shaped true (okI _), ?_⟩
    rw [eqv_ints, decide_eq_true rfl]
    exact k _ (Z6.B.same (S7.trans (SR1.trans SR2))) (D4.trans (But.of (S6.trans (S7.trans (SR1.trans SR2)))))
theorem cal_errors (T : Txt P w K mg cl) : Cal P w K mg base CX0 7 "_law_errors" ["_law_bag_here", "_law_system", "_law_count", "_law_many"] (spErr (cl "System")) := by
  obtain ⟨f, fd, F, m⟩ := T.d_errors
  exact ⟨f, fd, ok_errors F T, m, F.kp, F.binds fun _ _ _ _ _ _ us hl => match us, hl with | [_, _, _, _], _ => rfl⟩
end
end My
set_option Elab.async false
set_option linter.all false
set_option maxRecDepth 100000
set_option maxHeartbeats 1000000
namespace My
open PySem L2 Dw Wp
open C8 (pss_cut tCut)
set_option pp.maxSteps 600
open Bf
def spBent : Sp := fun vs H Q _ => ∃ (b a : Addr) (is : List Int) (m : Nat), vs = [.ref b, .ref a, .int (m : Nat)] ∧ BgAt H b ∧ H a = some (intT is) ∧ is.length ≤ 300 ∧ m ≤ 1000 ∧ ∀ (r : Addr) (ks : List Int) (H' : Hp), H' r = some (intT ks) → ks.length ≤ 2 * is.length + 1 → BgAt H' b → But b H H' → Q (.ref r) H'
theorem cut_ints (is : List Int) (lo hi : Option Int) : ∃ ks : List Int, cutV (is.map V.int) lo hi = ks.map V.int ∧ ks.length ≤ is.length := by
  unfold cutV
  refine ⟨(is.drop _).take _, by rw [List.map_take, List.map_drop], ?_⟩
  rw [List.length_take, List.length_drop]
  omega
/-- a value that is a tuple of whole numbers -/
def TuI (H0 : Hp) (N : Nat) (v : V) (H' : Hp) : Prop := ∃ (r : Addr) (ks : List Int), v = .ref r ∧ H' r = some (intT ks) ∧ ks.length ≤ N ∧ Same H0 H'
theorem tu_ref {H0 G : Hp} {N : Nat} {a : Addr} {is : List Int} (h : G a = some (intT is)) (l : is.length ≤ N) (S : Same H0 G) : TuI H0 N (.ref a) G := ⟨a, is, rfl, h, l, S⟩
theorem tu_cut {H0 G : Hp} {N : Nat} {p : Addr} {is : List Int} {lo hi : Option Int} (S : Same H0 G) (np : G p = none) (l : is.length ≤ N) : TuI H0 N (.ref p) (upd G p (.tup (cutV (is.map V.int) lo hi))) := by
  obtain ⟨ks, e, le⟩ := cut_ints is lo hi
  exact ⟨p, ks, rfl, by rw [upd_same, e]; rfl, by omega, S.trans (sNew np)⟩
theorem tu_cat {H0 G : Hp} {N : Nat} {x y : Addr} {ks js : List Int} (hx : G x = some (intT ks)) (hy : G y = some (intT js)) (l : ks.length + js.length ≤ N) (S : Same H0 G) :
    (ks.map V.int = [] → TuI H0 N (.ref y) G) ∧ (ks.map V.int ≠ [] → js.map V.int = [] → TuI H0 N (.ref x) G) ∧ (ks.map V.int ≠ [] → js.map V.int ≠ [] → ∀ p, G p = none → TuI H0 N (.ref p) (upd G p (.tup (ks.map V.int ++ js.map V.int)))) := by
  refine ⟨fun _ => ⟨y, js, rfl, hy, by omega, S⟩, fun _ _ => ⟨x, ks, rfl, hx, by omega, S⟩, fun _ _ p np => ⟨p, ks ++ js, rfl, ?_, by rw [List.length_append]; exact l, S.trans (sNew np)⟩⟩
  rw [upd_same]
  unfold intT
  rw [List.map_append]
section
variable {P : Program} {w : World} {K : PySem.W.Frag} {mg : Str → Option Value} {base : Heap} {cl : String → Addr}
theorem ok_bent {f : Addr} {fd : FuncData} (F : Fun K "_law_bent" "_law_bent" s_bent f fd) (T : Txt P w K mg cl) : FnOk P w K mg base CX0 2 f fd ["_law_bag_here", "_law_row", "_law_most"] (spBent) := by
  refine F.ok sc_bent (fun vs H Q E h => ?_) (fun cdv A outer s H vs Q E hr h => ?_)
  · obtain ⟨b, a, is, m, rfl, _⟩ := h
    rfl
  · obtain ⟨b, a, is, m, rfl, B, ha, li, lm, k⟩ := h
    have C_take : Cal P w K mg base CX0 1 "_law_take" _ spTake := cal_take T
    refine ⟨_, (pss_cons (ps_par3 (i := 3) (j := 4) (l := 5) rfl sc_bent.nd rfl rfl rfl (by decide) (by decide) (by decide) rfl rfl rfl (pa_cons (pe_cal C_take (hr.mono (by decide)) (pa_cons (pv 0) (pa_cons pe_int pa_nil))) (pa_cons (pe_cal C_take (hr.mono (by decide)) (pa_cons (pv 0) (pa_cons (pe_op op_add (pe_callB call_len_seq (by rfl) T.n_len PySem.boot_len (pa_cons (pv 1) pa_nil)) pe_int) pa_nil))) (pa_cons (pe_op op_sub (pe_cal C_take (hr.mono (by decide)) (pa_cons (pv 0) (pa_cons (pe_op op_add (pv 2) pe_int) pa_nil))) pe_int) pa_nil))) (by rfl))
        (pss_cons (ps_if (pt_cmpR op_eq (pv 3) pe_int (nomark _))
          (pss_one (ps_ret (pe_cut (pe_op op_catA (pe_cut (pe_op op_catA (pe_cut (pe_slice sl_tupA (pv 1) po_none (po_some (pv 4)))) (pe_tup (pa_cons (pv 5) pa_nil)))) (pe_cut (pe_slice sl_tupA (pv 1) (po_some (pv 4)) po_none)))))) pss_nil)
        (pss_cons (ps_if (pt_cmpR op_eq (pv 3) pe_int (nomark _))
          (pss_one (ps_ret (pe_cut (pe_op op_catA (pe_cut (pe_slice sl_tupA (pv 1) po_none (po_some (pv 4)))) (pe_cut (pe_slice sl_tupA (pv 1) (po_some (pe_op op_add (pv 4) pe_int)) po_none)))))) pss_nil)
        (pss_cons (ps_if (pt_cmpR op_eq (pv 3) pe_int (nomark _))
          (pss_one (ps_ret (pe_cut (pe_op op_catA (pe_cut (pe_op op_catA (pe_cut (pe_slice sl_tupA (pv 1) po_none (po_some (pv 4)))) (pe_tup (pa_cons (pv 5) pa_nil)))) (pe_cut (pe_slice sl_tupA (pv 1) (po_some (pe_op op_add (pv 4) pe_int)) po_none)))))) pss_nil)
        (pss_one (ps_ret (pe_ifExp (pt_cmpR op_eq (pv 3) pe_int (nomark _)) (pe_revT (pv 1)) (pv 1)))))))), ?_⟩
    refine ⟨_, rfl, b, 8, rfl, B, by decide, by decide, fun i1 H1 i10 i11 B1 D1 => ?_⟩
    have ha1 := D1 _ _ ha (B.tup ha)
    refine ⟨_, rfl, _, rfl, a, _, rfl, .inr (SqT.of ha1), _, _, rfl, rfl, b, _, rfl, B1, by rw [List.length_map]; omega, by rw [List.length_map]; omega, fun i2 H2 i20 i21 B2 D2 => ?_⟩
    refine ⟨_, rfl, _, rfl, _, _, rfl, rfl, b, _, rfl, B2, by omega, by omega, fun i3 H3 i30 i31 B3 D3 => ?_⟩
    have D := D1.trans (D2.trans D3)
    have ha3 := D _ _ ha (B.tup ha)
    refine ⟨_, _, rfl, rfl, ?_⟩
    refine ⟨_, _, _, rfl, ?_⟩
    have fin : ∀ {r : Addr} {ks : List Int} {H9 : Hp}, H9 r = some (intT ks) → ks.length ≤ 2 * is.length + 1 → Same H3 H9 → Q (.ref r) H9 := fun hr lr S => k _ _ _ hr lr (B3.same S) (D.trans (But.of S))
    refine ⟨_, rfl, rfl, _, rfl, ite2 (fun g => ?_) (fun g => ?_)⟩
    · refine ⟨TuI H3 (2 * is.length + 1), ?_, fun v H9 ⟨r, ks, e, hr, lr, S9⟩ => (by subst e; exact fin hr lr S9)⟩
      refine ⟨TuI H3 (is.length + 1), ?_, fun v H4 ⟨r, ks, e, hr, lr, S4⟩ => ?_⟩
      · refine ⟨TuI H3 is.length, ?_, fun v H4 ⟨r, ks, e, hr, lr, S4⟩ => ?_⟩
        · exact ⟨_, rfl, _, rfl, _, rfl, a, is.map V.int, rfl, SqT.of ha3, fun _ => tu_ref ha3 (Nat.le_refl _) (Same.refl _), fun _ p np => tu_cut (Same.refl _) np (Nat.le_refl _)⟩
        · subst e
          refine ⟨_, rfl, by show 1 ≤ sizeLine; decide, fun q nq => ?_⟩
          have Sq := sNew (o := .tup [.int (i3 - 1)]) nq
          obtain ⟨c1, c2, c3⟩ := tu_cat (N := is.length + 1) (js := [i3 - 1]) (Sq _ _ hr) (show (upd H4 q (.tup [.int (i3 - 1)])) q = _ from upd_same) (by show ks.length + 1 ≤ _; omega) (S4.trans Sq)
          exact ⟨r, q, ks.map V.int, [.int (i3 - 1)], rfl, rfl, SqT.of (Sq _ _ hr), SqT.of upd_same, Nat.le_of_lt (small1000 (by rw [List.length_map]; show ks.length + 1 ≤ 1000; omega)), c1, c2, c3⟩
      · subst e
        refine ⟨TuI H4 is.length, ?_, fun v H5 ⟨r2, ks2, e2, hr2, lr2, S5⟩ => ?_⟩
        · exact ⟨_, rfl, _, rfl, _, rfl, a, is.map V.int, rfl, SqT.of (S4 _ _ ha3), fun _ => tu_ref (S4 _ _ ha3) (Nat.le_refl _) (Same.refl _), fun _ p np => tu_cut (Same.refl _) np (Nat.le_refl _)⟩
        · subst e2
          obtain ⟨c1, c2, c3⟩ := tu_cat (N := 2 * is.length + 1) (S5 _ _ hr) hr2 (by omega) (S4.trans S5)
          exact ⟨r, r2, ks.map V.int, ks2.map V.int, rfl, rfl, SqT.of (S5 _ _ hr), SqT.of hr2, Nat.le_of_lt (small1000 (by rw [List.length_map, List.length_map]; omega)), c1, c2, c3⟩
    refine ⟨_, rfl, rfl, _, rfl, ite2 (fun g => ?_) (fun g => ?_)⟩
    · refine ⟨TuI H3 (2 * is.length + 1), ?_, fun v H9 ⟨r, ks, e, hr, lr, S9⟩ => (by subst e; exact fin hr lr S9)⟩
      refine ⟨TuI H3 (is.length + 1), ?_, fun v H4 ⟨r, ks, e, hr, lr, S4⟩ => ?_⟩
      · exact ⟨_, rfl, _, rfl, _, rfl, a, is.map V.int, rfl, SqT.of ha3, fun _ => tu_ref ha3 (Nat.le_succ _) (Same.refl _), fun _ p np => tu_cut (Same.refl _) np (Nat.le_succ _)⟩
      · subst e
        refine ⟨TuI H4 is.length, ?_, fun v H5 ⟨r2, ks2, e2, hr2, lr2, S5⟩ => ?_⟩
        · exact ⟨_, rfl, _, rfl, _, _, rfl, rfl, _, rfl, a, is.map V.int, rfl, SqT.of (S4 _ _ ha3), fun _ => tu_ref (S4 _ _ ha3) (Nat.le_refl _) (Same.refl _), fun _ p np => tu_cut (Same.refl _) np (Nat.le_refl _)⟩
        · subst e2
          obtain ⟨c1, c2, c3⟩ := tu_cat (N := 2 * is.length + 1) (S5 _ _ hr) hr2 (by omega) (S4.trans S5)
          exact ⟨r, r2, ks.map V.int, ks2.map V.int, rfl, rfl, SqT.of (S5 _ _ hr), SqT.of hr2, Nat.le_of_lt (small1000 (by rw [List.length_map, List.length_map]; omega)), c1, c2, c3⟩
    refine ⟨_, rfl, rfl, _, rfl, ite2 (fun g => ?_) (fun g => ?_)⟩
    · refine ⟨TuI H3 (2 * is.length + 1), ?_, fun v H9 ⟨r, ks, e, hr, lr, S9⟩ => (by subst e; exact fin hr lr S9)⟩
      refine ⟨TuI H3 (is.length + 1), ?_, fun v H4 ⟨r, ks, e, hr, lr, S4⟩ => ?_⟩
      · refine ⟨TuI H3 is.length, ?_, fun v H4 ⟨r, ks, e, hr, lr, S4⟩ => ?_⟩
        · exact ⟨_, rfl, _, rfl, _, rfl, a, is.map V.int, rfl, SqT.of ha3, fun _ => tu_ref ha3 (Nat.le_refl _) (Same.refl _), fun _ p np => tu_cut (Same.refl _) np (Nat.le_refl _)⟩
        · subst e
          refine ⟨_, rfl, by show 1 ≤ sizeLine; decide, fun q nq => ?_⟩
          have Sq := sNew (o := .tup [.int (i3 - 1)]) nq
          obtain ⟨c1, c2, c3⟩ := tu_cat (N := is.length + 1) (js := [i3 - 1]) (Sq _ _ hr) (show (upd H4 q (.tup [.int (i3 - 1)])) q = _ from upd_same) (by show ks.length + 1 ≤ _; omega) (S4.trans Sq)
          exact ⟨r, q, ks.map V.int, [.int (i3 - 1)], rfl, rfl, SqT.of (Sq _ _ hr), SqT.of upd_same, Nat.le_of_lt (small1000 (by rw [List.length_map]; show ks.length + 1 ≤ 1000; omega)), c1, c2, c3⟩
      · subst e
        refine ⟨TuI H4 is.length, ?_, fun v H5 ⟨r2, ks2, e2, hr2, lr2, S5⟩ => ?_⟩
        · exact ⟨_, rfl, _, rfl, _, _, rfl, rfl, _, rfl, a, is.map V.int, rfl, SqT.of (S4 _ _ ha3), fun _ => tu_ref (S4 _ _ ha3) (Nat.le_refl _) (Same.refl _), fun _ p np => tu_cut (Same.refl _) np (Nat.le_refl _)⟩
        · subst e2
          obtain ⟨c1, c2, c3⟩ := tu_cat (N := 2 * is.length + 1) (S5 _ _ hr) hr2 (by omega) (S4.trans S5)
          exact ⟨r, r2, ks.map V.int, ks2.map V.int, rfl, rfl, SqT.of (S5 _ _ hr), SqT.of hr2, Nat.le_of_lt (small1000 (by rw [List.length_map, List.length_map]; omega)), c1, c2, c3⟩
    refine ⟨_, rfl, rfl, _, rfl, ite2 (fun g => ?_) (fun g => ?_)⟩
    · exact ⟨_, rfl, a, _, rfl, SqT.of ha3, fun r nr => fin (ks := is.reverse) (by rw [upd_same]; unfold intT; rw [List.map_reverse]) (by rw [List.length_reverse]; omega) (sNew nr)⟩
    · exact ⟨_, rfl, fin ha3 (by omega) (Same.refl _)⟩
theorem cal_bent (T : Txt P w K mg cl) : Cal P w K mg base CX0 2 "_law_bent" ["_law_bag_here", "_law_row", "_law_most"] (spBent) := by
  obtain ⟨f, fd, F, m⟩ := T.d_bent
  exact ⟨f, fd, ok_bent F T, m, F.kp, F.binds fun _ _ _ _ _ _ us hl => match us, hl with | [_, _, _], _ => rfl⟩
end
end My
set_option Elab.async false
set_option linter.all false
set_option maxRecDepth 100000
set_option maxHeartbeats 1000000
namespace My
open PySem L2 Dw Wp
open C8 (pss_cut tCut)
set_option pp.maxSteps 600
open Bf
theorem tup_len {ls : List Lk} {n a c : Nat} {is : List Nat} {ts : List Int} (G : EnP ls n a c is ts) : is.length ≤ n := by
  rw [G.apart]
  exact Nat.le_trans (List.length_filter_le _ _) (by rw [List.length_range]; exact Nat.le_refl _)
theorem sc_opt (w : Option Str) : scal (optV w) (optV w) = true := by cases w <;> rfl
def spJud (C : Addr) : Sp := fun vs H Q _ => ∃ (b p t g : Addr) (n a c : Nat) (us lus : List V) (ls : List Lk) (ts : List Int), vs = [.ref b, .ref p, .int (n : Nat), .ref g, .int (a : Nat), .int (c : Nat)] ∧ Zs C b p t g n us lus ls H ∧ TmsP ls n ts ∧ a < n ∧ c < n ∧ ∀ H', BgAt H' b → But b H H' → Q (.bl true) H'
section
variable {P : Program} {w : World} {K : PySem.W.Frag} {mg : Str → Option Value} {base : Heap} {cl : String → Addr}
theorem ok_judged {f : Addr} {fd : FuncData} (F : Fun K "_law_judged" "_law_judged" s_judged f fd) (T : Txt P w K mg cl) : FnOk P w K mg base CX0 6 f fd ["_law_bag_here", "_law_system", "_law_count", "_law_links_here", "_law_one", "_law_other"] (spJud (cl "System")) := by
  refine F.ok sc_judged (fun vs H Q E h => ?_) (fun cdv A outer s H vs Q E hr h => ?_)
  · obtain ⟨b, p, t, g, n, a, c, us, lus, ls, ts, rfl, _⟩ := h
    rfl
  · obtain ⟨b, p, t, g, n, a, c, us, lus, ls, ts0, rfl, Z, Tm, an, cn, k⟩ := h
    have C_take : Cal P w K mg base CX0 1 "_law_take" _ spTake := cal_take T
    have C_bent : Cal P w K mg base CX0 2 "_law_bent" _ spBent := cal_bent T
    have C_sum : Cal P w K mg base CX0 1 "_law_sum" _ spLSum := cal_sum T
    have C_greatest : Cal P w K mg base (L2.CX P w) 5 "greatest" _ (spGr K (cl "System") (cl "NoInstant") (cl "NoTimes") (cl "Greatest") (cl "Endless")) := cal_greatest T
    have C_greatest_fault : Cal P w K mg base (L2.CX P w) 5 "greatest_fault" _ (spGF K (cl "System") (cl "NoInstant") (cl "Greatest") (cl "Endless")) := cal_greatest_fault T
    have C_greatest_due : Cal P w K mg base CX0 3 "_law_greatest_due" _ (spGDu (cl "Greatest")) := cal_greatest_due T
    have C_endless_due : Cal P w K mg base CX0 3 "_law_endless_due" _ (spEDu (cl "Endless")) := cal_endless_due T
    have I_Greatest : CalC P w K mg base CX0 1 (cl "Greatest") _ (spFlds (cl "Greatest") ["amount", "path", "times"]) := cal_Greatest_init T
    have I_Endless : CalC P w K mg base CX0 1 (cl "Endless") _ (spFlds (cl "Endless") ["apart", "times"]) := cal_Endless_init T
    refine ⟨_, (pss_cons (ps_set (i := 6) sc_judged.nd rfl (Or.inl rfl) (pe_cal C_greatest (hr.mono (by decide)) (pa_cons (pv 1) (pa_cons (pv 4) (pa_cons (pv 5) pa_nil)))))
        (pss_cons (ps_set (i := 7) sc_judged.nd rfl (Or.inl rfl) (pe_cut (pe_ifExp (pt_cmpR op_gt (pe_cal C_take (hr.mono (by decide)) (pa_cons (pv 0) (pa_cons pe_int pa_nil))) pe_int (nomark _)) (pe_fld (pv 6) rfl) (pe_cal C_bent (hr.mono (by decide)) (pa_cons (pv 0) (pa_cons (pe_fld (pv 6) rfl) (pa_cons pe_int pa_nil)))))))
        (pss_cut (ps_if (pt_cmpR op_eq (pe_cal C_take (hr.mono (by decide)) (pa_cons (pv 0) (pa_cons pe_int pa_nil))) pe_int (nomark _))
          (pss_one (ps_set (i := 7) sc_judged.nd rfl (Or.inl rfl) (pe_callTy call_tuple_of (by rfl) T.n_tuple (by decide +kernel) (pa_cons (pe_lc (own := [("_law_x", 13)]) (g := gName 13) (tt := tYes) rfl sc_judged.nd (pi_tup (pv 7)) (blkOk_by (own := [("_law_x", 13)]) (N := ["_law_bag_here", "_law_system", "_law_count", "_law_links_here", "_law_one", "_law_other", "_law_told", "_law_times_here", "_law_path", "_law_fits", "_law_amount_here", "_law_answer", "_law_apart", "_law_x"]) (sc := defScope s_judged) (by decide +kernel)) (fun _ _ _ _ _ => pg_name (i := 13) sc_judged.nd rfl (Or.inl rfl)) (fun _ _ _ _ _ => pts_nil) (fun _ _ _ _ _ => (pe_op op_sub (pe_op op_add (pv 13) (pe_cal C_take (hr.mono (by decide)) (pa_cons (pv 0) (pa_cons pe_int pa_nil)))) pe_int))) pa_nil)))) pss_nil)
        (pss_cons (ps_if (pt_val (pe_callB call_isi (by rfl) T.n_isinstance (by decide +kernel) (pa_cons (pv 6) (pa_cons (pe_cls T.m_Greatest) pa_nil))))
          (pss_cons (ps_set (i := 8) sc_judged.nd rfl (Or.inl rfl) (pe_cut (pe_ifExp (pt_cmpR op_eq (pe_cal C_take (hr.mono (by decide)) (pa_cons (pv 0) (pa_cons pe_int pa_nil))) pe_int (nomark _)) (pe_fld (pv 6) rfl) (pe_cal C_bent (hr.mono (by decide)) (pa_cons (pv 0) (pa_cons (pe_fld (pv 6) rfl) (pa_cons (pe_callB call_len_seq (by rfl) T.n_len PySem.boot_len (pa_cons (pv 3) pa_nil)) pa_nil)))))))
            (pss_cons (ps_set (i := 9) sc_judged.nd rfl (Or.inl rfl) (pe_cmpR (op_eqD hr.units) (pe_lc (own := [("_law_x", 13)]) (g := gName 13)  rfl sc_judged.nd (pi_tup (pv 8)) (blkOk_by (own := [("_law_x", 13)]) (N := ["_law_bag_here", "_law_system", "_law_count", "_law_links_here", "_law_one", "_law_other", "_law_told", "_law_times_here", "_law_path", "_law_fits", "_law_amount_here", "_law_answer", "_law_apart", "_law_x"]) (sc := defScope s_judged) (by decide +kernel)) (fun _ _ _ _ _ => pg_name (i := 13) sc_judged.nd rfl (Or.inl rfl)) (fun _ _ _ _ _ => pts_one (pt_not (pt_chain op_le op_lt pe_int (pv 13) (pe_callB (call_len_seqK (K := K) rfl) (by rfl) T.n_len PySem.boot_len (pa_cons (pv 3) pa_nil))))) (fun _ _ _ _ _ => (pv 13))) (pe_lst pa_nil) (nomark _)))
            (pss_cons (ps_set (i := 10) sc_judged.nd rfl (Or.inl rfl) (pe_cut (pe_ifExp (PW.pt (pw_and (pt_val (pv 9)) (pw_and1 (pt_cmpR op_eq (pe_cal C_take (hr.mono (by decide)) (pa_cons (pv 0) (pa_cons pe_int pa_nil))) pe_int (nomark _))))) (pe_cal C_sum (hr.mono (by decide)) (pa_cons (pv 3) (pa_cons (pv 8) pa_nil))) (pe_fld (pv 6) rfl))))
            (pss_cut (ps_if (pt_cmpR op_eq (pe_cal C_take (hr.mono (by decide)) (pa_cons (pv 0) (pa_cons pe_int pa_nil))) pe_int (nomark _))
              (pss_one (ps_set (i := 10) sc_judged.nd rfl (Or.inl rfl) (pe_op op_sub (pe_op op_add (pv 10) (pe_cal C_take (hr.mono (by decide)) (pa_cons (pv 0) (pa_cons pe_int pa_nil)))) pe_int))) pss_nil)
            (pss_cons (ps_set (i := 11) sc_judged.nd rfl (Or.inl rfl) (pe_mk I_Greatest T.m_Greatest (hr.mono (by decide))  (pa_cons (pv 10) (pa_cons (pv 8) (pa_cons (pv 7) pa_nil)))))
            (pss_one (ps_ret (pe_cmpR op_eq (pe_cal C_greatest_fault (hr.mono (by decide)) (pa_cons (pv 1) (pa_cons (pv 4) (pa_cons (pv 5) (pa_cons (pv 11) pa_nil))))) (pe_cal C_greatest_due (hr.mono (by decide)) (pa_cons (pv 2) (pa_cons (pv 3) (pa_cons (pv 4) (pa_cons (pv 5) (pa_cons (pv 11) pa_nil)))))) (nomark _))))))))) pss_nil)
        (pss_cons (ps_set (i := 12) sc_judged.nd rfl (Or.inr rfl) (pe_cut (pe_ifExp (pt_cmpR op_eq (pe_cal C_take (hr.mono (by decide)) (pa_cons (pv 0) (pa_cons pe_int pa_nil))) pe_int (nomark _)) (pe_fld (pv 6) rfl) (pe_cal C_bent (hr.mono (by decide)) (pa_cons (pv 0) (pa_cons (pe_fld (pv 6) rfl) (pa_cons (pv 2) pa_nil)))))))
        (pss_cut (ps_if (pt_cmpR op_eq (pe_cal C_take (hr.mono (by decide)) (pa_cons (pv 0) (pa_cons pe_int pa_nil))) pe_int (nomark _))
          (pss_one (ps_set (i := 12) sc_judged.nd rfl (Or.inr rfl) (pe_callTy call_tuple_of (by rfl) T.n_tuple (by decide +kernel) (pa_cons (pe_lc (own := [("_law_x", 13)]) (g := gName 13)  rfl sc_judged.nd (pi_range1 rfl T.n_range (pa_cons (pv 2) pa_nil)) (blkOk_by (own := [("_law_x", 13)]) (N := ["_law_bag_here", "_law_system", "_law_count", "_law_links_here", "_law_one", "_law_other", "_law_told", "_law_times_here", "_law_path", "_law_fits", "_law_amount_here", "_law_answer", "_law_apart", "_law_x"]) (sc := defScope s_judged) (by decide +kernel)) (fun _ _ _ _ _ => pg_name (i := 13) sc_judged.nd rfl (Or.inl rfl)) (fun _ _ _ _ _ => pts_one (PW.pt (pw_and (pt_cmpR (op_in_seqK (K := K) rfl) (pv 13) (pv 12) (by rfl)) (pw_and1 (pt_cmpR op_gt (pe_cal C_take (hr.mono (by decide)) (pa_cons (pv 0) (pa_cons pe_int pa_nil))) pe_int (nomark _)))))) (fun _ _ _ _ _ => (pv 13))) pa_nil)))) pss_nil)
        (pss_cons (ps_set (i := 11) sc_judged.nd rfl (Or.inl rfl) (pe_mk I_Endless T.m_Endless (hr.mono (by decide))  (pa_cons (pv 12) (pa_cons (pv 7) pa_nil))))
        (pss_one (ps_ret (pe_cmpR op_eq (pe_cal C_greatest_fault (hr.mono (by decide)) (pa_cons (pv 1) (pa_cons (pv 4) (pa_cons (pv 5) (pa_cons (pv 11) pa_nil))))) (pe_cal C_endless_due (hr.mono (by decide)) (pa_cons (pv 2) (pa_cons (pv 3) (pa_cons (pv 4) (pa_cons (pv 5) (pa_cons (pv 11) pa_nil)))))) (nomark _))))))))))), ?_⟩
    obtain ⟨ok, pos⟩ := Z.ix
    have n1 := Z.n1
    have n2 := Z.n2
    have ll := Z.ll
    refine ⟨_, rfl, _, rfl, _, rfl, p, t, n, us, ls, _, _, "int", "int", rfl, Z.X, Z.lok, by omega, by omega, .int _, .int _, fun h => (by rw [isx a an] at h; cases h), fun _ h => (by rw [isx c cn] at h; cases h), fun a2 c2 e1 e2 _ _ => ⟨fun x is R G e S ne hx nx => (ring_no R Tm).elim, fun q H1 S1 nq A1 => ?_⟩⟩
    obtain rfl : a = a2 := by have := V.int.inj e1; omega
    obtain rfl : c = c2 := by have := V.int.inj e2; omega
    have Z1 := Z.same S1
    have D1 := But.of (d := b) S1
    clear S1
    obtain ⟨K1, d1, t1, f1, ts1, hq1, k1a, k1b, k1c, ht1, T1⟩ : ∃ (C dx ta : Addr) (fs : List (Str × V)) (ts : List Int), H1 q = some (HO.ins C dx fs) ∧ Cls K C ∧ NoAttr K C "times" ∧ List.lookup ("times" : Str) fs = some (V.ref ta) ∧ H1 ta = some (intT ts) ∧ TmsP ls n ts := by
      rcases A1 with ⟨am, pa, ta, is, ts, ⟨⟨d, hq⟩, hpa, hta⟩, G⟩ | ⟨pa, ta, is, ts, ⟨⟨d, hq⟩, hpa, hta⟩, G⟩
      · exact ⟨_, d, ta, _, ts, hq, T.cl_Greatest, T.na_Greatest _ (by decide), rfl, hta, G.tms⟩
      · exact ⟨_, d, ta, _, ts, hq, T.cl_Endless, T.na_Endless _ (by decide), rfl, hta, G.tms⟩
    have l1 := T1.1
    refine ⟨fun v H' => ∃ tt tss, v = .ref tt ∧ H' tt = some (intT tss) ∧ tss.length ≤ 25 ∧ BgAt H' b ∧ But b H1 H', ?_, fun v H2 ⟨tt, tss, ev, htt, ltt, B2, D2⟩ => ?_⟩
    · refine ⟨_, rfl, b, 3, rfl, Z1.B, by decide, by decide, fun j H2 j0 j1 B2 D2 => ⟨_, _, rfl, rfl, _, rfl, ite2 (fun _ => ?_) (fun _ => ?_)⟩⟩
      · exact ⟨_, rfl, q, _, _, _, _, rfl, D2 _ _ hq1 (Z1.B.ins hq1), k1a, k1b, k1c, t1, ts1, rfl, D2 _ _ ht1 (Z1.B.tup ht1), by omega, B2, D2⟩
      · exact ⟨_, rfl, _, rfl, q, _, _, _, _, rfl, D2 _ _ hq1 (Z1.B.ins hq1), k1a, k1b, k1c, b, t1, ts1, 20, rfl, B2, D2 _ _ ht1 (Z1.B.tup ht1), by omega, by decide, fun r ks H3 hr lr B3 D3 => ⟨r, ks, rfl, hr, by omega, B3, D2.trans D3⟩⟩
    subst ev
    have Z2 := Z1.but B2 D2
    have A2 := A1.but Z1.B D2
    have D2 := D1.trans D2
    clear A1 hq1 ht1 Z1
    refine ⟨fun σ' H' => BgAt H' b ∧ But b H2 H' ∧ ∃ tt tss, H' tt = some (intT tss) ∧ tss.length ≤ 25 ∧ σ' = [some (.ref b), some (.ref p), some (.int (n : Nat)), some (.ref g), some (.int (a : Nat)), some (.int (c : Nat)), some (.ref q), some (.ref tt), none, none, none, none, none, none], ?_, ?_⟩
    · refine ⟨_, rfl, b, 8, rfl, B2, by decide, by decide, fun j H3 j0 j1 B3 D3 => ⟨rfl, _, rfl, ite2 (fun _ => ?_) (fun _ => ?_)⟩⟩
      · have ht3 := D3 _ _ htt (B2.tup htt)
        refine ⟨_, rfl, tt, rfl, ⟨_, SqT.of ht3⟩, fun D nD => lc_tup (K := K) (a := tt) (xs := tss.map V.int) (fun i H' => ∃ ks : List Int, H' D = some (.lst (ks.map V.int)) ∧ ks.length = i ∧ BgAt H' b ∧ But b H3 H') ⟨[], upd_same, rfl, B3.same (sNew nD), But.of (sNew nD)⟩ (fun i H' _ z => by obtain ⟨_, _, _, _, z⟩ := z; exact SqT.of (z _ _ ht3 (B3.tup ht3))) ?_ ?_⟩
        · rintro i x H' hx ⟨ks, h1, h2, B4, D4⟩
          obtain ⟨z, _, rfl⟩ := List.mem_map.mp (List.mem_of_getElem? hx)
          have hi := (List.getElem?_eq_some_iff.mp hx).1
          rw [List.length_map] at hi
          have nDb := B3.ne nD
          refine ⟨rfl, _, rfl, _, rfl, b, 3, rfl, B4, by decide, by decide, fun j H5 _ _ B5 D5 => ⟨_, _, rfl, rfl, _, _, rfl, rfl, ?_⟩⟩
          refine ⟨_, D5 _ _ h1 nDb, small1000 (by rw [List.length_map]; omega), ks ++ [z + j - 1], ?_, by rw [List.length_append, h2]; rfl, B5.upd nDb, but_upd (D4.trans D5) nD⟩
          rw [List.map_append]
          exact upd_same
        · rintro H' ⟨ks, h1, h2, B4, D4⟩
          rw [List.length_map] at h2
          refine ⟨D, _, rfl, .inl ⟨SqL.of h1, fun r nr => ?_⟩⟩
          exact ⟨B4.same (sNew nr), D3.trans (D4.trans (But.of (sNew nr))), r, ks, upd_same, by omega, rfl⟩
      · exact ⟨B3, D3, tt, tss, D3 _ _ htt (B2.tup htt), ltt, rfl⟩
    clear htt ltt
    rintro σ' H3 ⟨B3, D3, tt, tss, htt, ltt, rfl⟩
    have Z3 := Z2.but B3 D3
    have A3 := A2.but Z2.B D3
    have D3 := D2.trans D3
    clear A2 Z2 D2
    rcases A3 with ⟨am, pa, ta, is, ts, ⟨⟨dq, hq⟩, hpa, hta⟩, G⟩ | ⟨pa, ta, is, ts, ⟨⟨dq, hq⟩, hpa, hta⟩, G⟩
    · have lis := G.len
      have hpa : H3 pa = some (intT (nI is)) := by rw [hpa]; unfold natT; rw [natV]; rfl
      refine ⟨_, rfl, _, _, _, _, _, rfl, .own (cl "Greatest"), .base (.ins hq T.cl_Greatest T.y_Greatest T.z1 T.z2 T.z3_Greatest), T.k_Gr_Gr, _, rfl, iteT ?_⟩
      refine ⟨fun v H' => ∃ px ps, v = .ref px ∧ H' px = some (intT ps) ∧ ps.length ≤ 25 ∧ BgAt H' b ∧ But b H3 H', ?_, fun v H4 ⟨px, ps, ev, hpx, lpx, B4, D4⟩ => ?_⟩
      · refine ⟨_, rfl, b, 2, rfl, B3, by decide, by decide, fun j H4 j0 j1 B4 D4 => ⟨rfl, _, rfl, ite2 (fun _ => ?_) (fun _ => ?_)⟩⟩
        · exact ⟨_, rfl, q, _, _, _, _, rfl, D4 _ _ hq (B3.ins hq), T.cl_Greatest, T.na_Greatest _ (by decide), rfl, pa, nI is, rfl, D4 _ _ hpa (B3.tup hpa), by unfold nI; rw [List.length_map]; omega, B4, D4⟩
        · have Lx := Z3.L.but Z3.ng Z3.B D4
          have lux := Lx.2.length
          exact ⟨_, rfl, _, rfl, q, _, _, _, _, rfl, D4 _ _ hq (B3.ins hq), T.cl_Greatest, T.na_Greatest _ (by decide), rfl, _, rfl, g, _, rfl, .inl (SqL.of Lx.1), b, pa, nI is, lus.length, rfl, B4, D4 _ _ hpa (B3.tup hpa), by unfold nI; rw [List.length_map]; omega, by omega, fun r ks H5 hr lr B5 D5 => ⟨r, ks, rfl, hr, by unfold nI at lr; rw [List.length_map] at lr; omega, B5, D4.trans D5⟩⟩
      subst ev
      have Z4 := Z3.but B4 D4
      have hq4 := D4 _ _ hq (B3.ins hq)
      have htt4 := D4 _ _ htt (B3.tup htt)
      have D4 := D3.trans D4
      have L4 := Z4.L
      have lu4 := L4.2.length
      refine ⟨_, rfl, px, rfl, ⟨_, SqT.of hpx⟩, fun D nD => lc_tup (K := K) (a := px) (xs := ps.map V.int) (PvF H4 D (ps.map V.int) (ixF ls.length)) rfl (fun i H' _ z => by rw [z]; exact SqT.of (sNew nD _ _ hpx)) (fun j x H' hx hH => ?_) (fun H' z => ?_)⟩
      · subst hH
        rw [List.getElem?_map] at hx
        obtain ⟨i, hi2, rfl⟩ : ∃ i, ps[j]? = some i ∧ V.int i = x := by
          cases e : ps[j]? with
          | none => rw [e] at hx; cases hx
          | some i => rw [e] at hx; exact ⟨i, rfl, Option.some.inj hx⟩
        have hx2 : (ps.map V.int)[j]? = some (.int i) := is_at hi2
        have hz : (ps.map V.int).length < sizeLine := small1000 (by rw [List.length_map]; omega)
        have hL := L4.same (sNew (o := .lst (((ps.map V.int).take j).filterMap (ixF ls.length))) nD)
        refine ⟨rfl, _, rfl, _, _, rfl, rfl, _, rfl, ?_⟩
        refine ite2 (fun h1 => ?_) (fun h1 => ?_)
        · refine ⟨_, rfl, g, lus, rfl, .inl (SqL.of hL.1), _, _, rfl, rfl, _, rfl, ?_⟩
          rw [lu4]
          cases h2 : decide (i < (ls.length : Int)) with
          | true => exact iteF (fm_skip hx2 (show (if isIx ls.length i = true then none else some (V.int i)) = none from if_pos (by unfold isIx; rw [h1, h2]; rfl)))
          | false => exact iteT ⟨_, rfl, fm_put hx2 (show (if isIx ls.length i = true then none else some (V.int i)) = some (V.int i) from if_neg (by unfold isIx; rw [h1, h2]; decide)) hz⟩
        · exact ⟨_, rfl, iteT ⟨_, rfl, fm_put hx2 (show (if isIx ls.length i = true then none else some (V.int i)) = some (V.int i) from if_neg (by unfold isIx; rw [Bool.eq_false_iff.mpr h1]; simp)) hz⟩⟩
      obtain rfl := fm_end z
      refine ⟨by show 0 ≤ sizeLine; exact Nat.zero_le _, fun qq nqq => ?_⟩
      have S5 := (sNew (o := .lst ((ps.map V.int).filterMap (ixF ls.length))) nD).trans (sNew (o := .lst []) nqq)
      refine ⟨_, _, dp_lst (SqL.of (sNew nqq _ _ upd_same)) (dpvs fun x hx => okV.flat (ixF_ok x hx)), dp_lst (SqL.of upd_same) .nil, row_shaped true ixF_ok, row_shaped (xs := []) true (by simp), ?_⟩
      rw [eqv_nilO, ix_all]
      have Z5 := Z4.same S5
      have hq5 := S5 _ _ hq4
      have htt5 := S5 _ _ htt4
      have hpx5 := S5 _ _ hpx
      have D5 := D4.trans (But.of S5)
      generalize upd (upd H4 D (.lst ((ps.map V.int).filterMap (ixF ls.length)))) qq (.lst []) = H5 at S5 Z5 hq5 htt5 hpx5 D5
      refine ⟨fun v H' => ∃ z : Int, v = .int z ∧ BgAt H' b ∧ But b H5 H', ?_, fun v H6 ⟨z, ev, B6, D6⟩ => ?_⟩
      · cases hx : ps.all (isIx ls.length) with
        | false => exact ⟨_, rfl, _, rfl, iteF (iteF ⟨_, rfl, q, _, _, _, _, rfl, hq5, T.cl_Greatest, T.na_Greatest _ (by decide), rfl, am, rfl, Z5.B, But.refl _ _⟩)⟩
        | true =>
          obtain ⟨js, ej, hj⟩ := ix_nat hx
          refine ⟨_, rfl, _, rfl, iteT ⟨_, rfl, b, 2, rfl, Z5.B, by decide, by decide, fun j H6 j0 j1 B6 D6 => ⟨rfl, _, rfl, ite2 (fun _ => ?_) (fun _ => ?_)⟩⟩⟩
          · refine ⟨_, rfl, _, rfl, g, px, lus, ls, js, rfl, Z5.L.but Z5.ng Z5.B D6, D6 _ _ (by rw [hpx5, ej]; unfold natT; rw [natV]; rfl) (Z5.B.tup hpx5), by rw [ej, List.length_map] at lpx; omega, hj, fun H7 S7 => ⟨_, rfl, B6.same S7, D6.trans (But.of S7)⟩⟩
          · exact ⟨_, rfl, q, _, _, _, _, rfl, D6 _ _ hq5 (Z5.B.ins hq5), T.cl_Greatest, T.na_Greatest _ (by decide), rfl, am, rfl, B6, D6⟩
      subst ev
      have Z6 := Z5.but B6 D6
      have htt6 := D6 _ _ htt5 (Z5.B.tup htt5)
      have hpx6 := D6 _ _ hpx5 (Z5.B.tup hpx5)
      have D6 := D5.trans D6
      refine ⟨fun σ' H' => BgAt H' b ∧ But b H6 H' ∧ ∃ (z : Int) (v9 : Option V), σ' = [some (.ref b), some (.ref p), some (.int (n : Nat)), some (.ref g), some (.int (a : Nat)), some (.int (c : Nat)), some (.ref q), some (.ref tt), some (.ref px), v9, some (.int z), none, none, none], ?_, ?_⟩
      · refine ⟨_, rfl, b, 6, rfl, B6, by decide, by decide, fun j H7 j0 j1 B7 D7 => ⟨rfl, _, rfl, ite2 (fun _ => ?_) (fun _ => ?_)⟩⟩
        · exact ⟨_, rfl, _, rfl, b, 3, rfl, B7, by decide, by decide, fun j H8 j0 j1 B8 D8 => ⟨_, _, rfl, rfl, _, _, rfl, rfl, B8, D7.trans D8, _, _, rfl⟩⟩
        · exact ⟨B7, D7, _, _, rfl⟩
      rintro σ' H7 ⟨B7, D7, z2, v9, rfl⟩
      have Z7 := Z6.but B7 D7
      have htt7 := D7 _ _ htt6 (B6.tup htt6)
      have hpx7 := D7 _ _ hpx6 (B6.tup hpx6)
      have D7 := D6.trans D7
      refine ⟨_, rfl, _, rfl, _, rfl, fun x d nx nd ne => ⟨x, d, [.int z2, .ref px, .ref tt], rfl, rfl, upd_same, rfl, ?_⟩⟩
      have M := made (o1 := .own x) (o2 := .ins (cl "Greatest") d []) (o3 := .ins (cl "Greatest") d [("amount", .int z2), ("path", .ref px), ("times", .ref tt)]) nx nd
      have Z8 := Z7.same M
      have GA : GaAt (cl "Greatest") (upd (upd (upd H7 d (.own x)) x (.ins (cl "Greatest") d [])) x (.ins (cl "Greatest") d [("amount", .int z2), ("path", .ref px), ("times", .ref tt)])) x z2 px tt ps tss := ⟨⟨d, upd_same⟩, M _ _ hpx7, M _ _ htt7⟩
      have D8 := D7.trans (But.of M)
      refine ⟨_, rfl, _, rfl, _, rfl, _, rfl, p, t, x, n, us, ls, _, _, "int", "int", rfl, Z8.X, Z8.lok, by omega, by omega, .int _, .int _, fun h => (by rw [isx a an] at h; cases h), fun _ h => (by rw [isx c cn] at h; cases h), fun a2 c2 e1 e2 _ _ => ?_⟩
      obtain rfl : a = a2 := by have := V.int.inj e1; omega
      obtain rfl : c = c2 := by have := V.int.inj e2; omega
      refine .inl ⟨z2, px, tt, ps, tss, GA, by omega, by omega, fun H9 S9 => ?_⟩
      refine ⟨_, rfl, _, rfl, _, rfl, _, rfl, _, rfl, g, x, px, tt, lus, ls, n, a, c, z2, ps, tss, rfl, Z8.L.same S9, Z8.lok, by omega, an, cn, ⟨GA.1.imp fun _ h => S9 _ _ h, S9 _ _ GA.2.1, S9 _ _ GA.2.2⟩, by omega, fun H10 S10 => ?_⟩
      refine ⟨sc_opt _, ?_⟩
      rw [decide_eq_true rfl]
      exact k _ (Z8.B.same (S9.trans S10)) (D8.trans (But.of (S9.trans S10)))
    · have lis := tup_len G
      have hpa : H3 pa = some (intT (nI is)) := by rw [hpa]; unfold natT; rw [natV]; rfl
      refine ⟨_, rfl, _, _, _, _, _, rfl, .own (cl "Greatest"), .base (.ins hq T.cl_Endless T.y_Endless T.z1 T.z2 T.z3_Endless), T.k_En_Gr, _, rfl, iteF ?_⟩
      refine ⟨fun v H' => ∃ px ps, v = .ref px ∧ H' px = some (intT ps) ∧ ps.length ≤ 25 ∧ BgAt H' b ∧ But b H3 H', ?_, fun v H4 ⟨px, ps, ev, hpx, lpx, B4, D4⟩ => ?_⟩
      · refine ⟨_, rfl, b, 2, rfl, B3, by decide, by decide, fun j H4 j0 j1 B4 D4 => ⟨rfl, _, rfl, ite2 (fun _ => ?_) (fun _ => ?_)⟩⟩
        · exact ⟨_, rfl, q, _, _, _, _, rfl, D4 _ _ hq (B3.ins hq), T.cl_Endless, T.na_Endless _ (by decide), rfl, pa, nI is, rfl, D4 _ _ hpa (B3.tup hpa), by unfold nI; rw [List.length_map]; omega, B4, D4⟩
        · exact ⟨_, rfl, _, rfl, q, _, _, _, _, rfl, D4 _ _ hq (B3.ins hq), T.cl_Endless, T.na_Endless _ (by decide), rfl, _, rfl, b, pa, nI is, n, rfl, B4, D4 _ _ hpa (B3.tup hpa), by unfold nI; rw [List.length_map]; omega, by omega, fun r ks H5 hr lr B5 D5 => ⟨r, ks, rfl, hr, by unfold nI at lr; rw [List.length_map] at lr; omega, B5, D4.trans D5⟩⟩
      subst ev
      have Z4 := Z3.but B4 D4
      have htt4 := D4 _ _ htt (B3.tup htt)
      have D4 := D3.trans D4
      refine ⟨fun σ' H' => BgAt H' b ∧ But b H4 H' ∧ ∃ px ps, H' px = some (intT ps) ∧ ps.length ≤ 25 ∧ σ' = [some (.ref b), some (.ref p), some (.int (n : Nat)), some (.ref g), some (.int (a : Nat)), some (.int (c : Nat)), some (.ref q), some (.ref tt), none, none, none, none, some (.ref px), none], ?_, ?_⟩
      · refine ⟨_, rfl, b, 4, rfl, B4, by decide, by decide, fun j H5 j0 j1 B5 D5 => ⟨rfl, _, rfl, ite2 (fun _ => ?_) (fun _ => ?_)⟩⟩
        · have hpx5 := D5 _ _ hpx (B4.tup hpx)
          refine ⟨_, rfl, (n : Int), rfl, by omega, by omega, fun D nD => lc_range (fun i H' => ∃ ks : List Int, H' D = some (.lst (ks.map V.int)) ∧ ks.length ≤ i ∧ BgAt H' b ∧ But b H5 H') ⟨[], upd_same, Nat.le_refl _, B5.same (sNew nD), But.of (sNew nD)⟩ ?_ ?_⟩
          · rintro i H' hi ⟨ks, h1, h2, B6, D6⟩
            have nDb := B5.ne nD
            refine ⟨rfl, _, rfl, _, rfl, px, _, rfl, .inr (SqT.of (D6 _ _ hpx5 (B5.tup hpx5))), rfl, flatI ps, _, rfl, ite2 (fun _ => ?_) (fun _ => ?_)⟩
            · refine ⟨_, rfl, b, 3, rfl, B6, by decide, by decide, fun j H7 _ _ B7 D7 => ⟨_, _, rfl, rfl, _, rfl, ite2 (fun _ => ?_) (fun _ => ?_)⟩⟩
              · refine ⟨_, rfl, _, D7 _ _ h1 nDb, small1000 (by rw [List.length_map]; omega), ks ++ [(0 : Int) + (i : Nat)], ?_, by rw [List.length_append, List.length_singleton]; omega, B7.upd nDb, but_upd (D6.trans D7) nD⟩
                rw [List.map_append]
                exact upd_same
              · exact ⟨ks, D7 _ _ h1 nDb, by omega, B7, D6.trans D7⟩
            · exact iteF ⟨ks, h1, by omega, B6, D6⟩
          · rintro H' ⟨ks, h1, h2, B6, D6⟩
            rw [Int.toNat_natCast] at h2
            refine ⟨D, _, rfl, .inl ⟨SqL.of h1, fun r nr => ?_⟩⟩
            exact ⟨B6.same (sNew nr), D5.trans (D6.trans (But.of (sNew nr))), r, ks, upd_same, by omega, rfl⟩
        · exact ⟨B5, D5, px, ps, D5 _ _ hpx (B4.tup hpx), lpx, rfl⟩
      clear hpx lpx
      rintro σ' H7 ⟨B7, D7, px, ps, hpx7, lpx, rfl⟩
      have Z7 := Z4.but B7 D7
      have htt7 := D7 _ _ htt4 (B4.tup htt4)
      have D7 := D4.trans D7
      refine ⟨_, rfl, _, rfl, fun x d nx nd ne => ⟨x, d, [.ref px, .ref tt], rfl, rfl, upd_same, rfl, ?_⟩⟩
      have M := made (o1 := .own x) (o2 := .ins (cl "Endless") d []) (o3 := .ins (cl "Endless") d [("apart", .ref px), ("times", .ref tt)]) nx nd
      have Z8 := Z7.same M
      have GA : EaAt (cl "Endless") (upd (upd (upd H7 d (.own x)) x (.ins (cl "Endless") d [])) x (.ins (cl "Endless") d [("apart", .ref px), ("times", .ref tt)])) x px tt ps tss := ⟨⟨d, upd_same⟩, M _ _ hpx7, M _ _ htt7⟩
      have D8 := D7.trans (But.of M)
      refine ⟨_, rfl, _, rfl, _, rfl, _, rfl, p, t, x, n, us, ls, _, _, "int", "int", rfl, Z8.X, Z8.lok, by omega, by omega, .int _, .int _, fun h => (by rw [isx a an] at h; cases h), fun _ h => (by rw [isx c cn] at h; cases h), fun a2 c2 e1 e2 _ _ => ?_⟩
      obtain rfl : a = a2 := by have := V.int.inj e1; omega
      obtain rfl : c = c2 := by have := V.int.inj e2; omega
      refine .inr ⟨px, tt, ps, tss, GA, by omega, by omega, fun H9 S9 => ?_⟩
      refine ⟨_, rfl, _, rfl, _, rfl, _, rfl, _, rfl, g, x, px, tt, lus, ls, n, a, c, ps, tss, rfl, Z8.L.same S9, Z8.lok, by omega, by omega, ⟨GA.1.imp fun _ h => S9 _ _ h, S9 _ _ GA.2.1, S9 _ _ GA.2.2⟩, by omega, fun H10 S10 => ?_⟩
      refine ⟨sc_opt _, ?_⟩
      rw [decide_eq_true rfl]
      exact k _ (Z8.B.same (S9.trans S10)) (D8.trans (But.of (S9.trans S10)))
theorem cal_judged (T : Txt P w K mg cl) : Cal P w K mg base CX0 6 "_law_judged" ["_law_bag_here", "_law_system", "_law_count", "_law_links_here", "_law_one", "_law_other"] (spJud (cl "System")) := by
  obtain ⟨f, fd, F, m⟩ := T.d_judged
  exact ⟨f, fd, ok_judged F T, m, F.kp, F.binds fun _ _ _ _ _ _ us hl => match us, hl with | [_, _, _, _, _, _], _ => rfl⟩
end
end My
set_option Elab.async false
set_option linter.all false
set_option maxRecDepth 100000
set_option maxHeartbeats 1000000
namespace My
open PySem L2 Dw Wp
open C8 (pss_cut tCut)
set_option pp.maxSteps 600
open Bf
theorem linkW_lk {c : Int} {l : Lk} (h : LkOk c l) : linkW c (lkR l) = none := by
  show (if (lkV l).length = 3 then linkV c (lkV l) else some "link") = none
  rw [if_pos (show (lkV l).length = 3 from rfl)]
  unfold linkV
  rw [if_neg (by show ¬ true = false; decide), if_pos]
  obtain ⟨⟨h1, h2⟩, h3, h4⟩ := h
  show ((decide ((0 : Int) ≤ l.1) && decide (l.1 < c)) && (decide (0 ≤ l.2.1) && decide (l.2.1 < c))) = true
  simp only [Bool.and_eq_true, decide_eq_true_eq]
  omega
theorem linksW_app {c : Int} {rs : List Rd} : ∀ {ls : List Lk} {i : Nat}, (∀ l ∈ ls, LkOk c l) → linksW c i (ls.map lkR ++ rs) = linksW c (i + ls.length) rs
  | [], _, _ => rfl
  | l :: ls, i, h => by
    have st0 : linksW c i (lkR l :: (ls.map lkR ++ rs)) = (match linkW c (lkR l) with
      | some w => some (V.int (i : Nat), w)
      | none => linksW c (i + 1) (ls.map lkR ++ rs)) := rfl
    rw [List.map_cons, List.cons_append, st0, linkW_lk (h l List.mem_cons_self)]
    show linksW c (i + 1) (ls.map lkR ++ rs) = _
    rw [linksW_app fun x hx => h x (List.mem_cons_of_mem _ hx), List.length_cons]
    congr 1
    omega
theorem sysW_app {c : Int} {ls : List Lk} {rs : List Rd} (c1 : 1 ≤ c) (c2 : c ≤ 12) (h : ∀ l ∈ ls, LkOk c l) (l : ls.length + rs.length ≤ 200) : sysW (.int c) (some (ls.map lkR ++ rs)) = linksW c ls.length rs := by
  rw [sysW_s (by rw [decide_eq_true c1, decide_eq_true c2]; rfl), if_neg (by rw [List.length_append, List.length_map]; omega), linksW_app h, Nat.zero_add]
theorem sysW_ls {c : Int} {ls : List Lk} (c1 : 1 ≤ c) (c2 : c ≤ 12) (h : ∀ l ∈ ls, LkOk c l) (l : ls.length ≤ 200) : sysW (.int c) (some (ls.map lkR)) = none := by
  have := sysW_app (rs := []) c1 c2 h (by simpa using l)
  rw [List.append_nil] at this
  exact this
theorem ring_none {ls : List Lk} {n : Nat} {js : List Nat} (pos : Pos ls) (R : RingP ls n js) : ringN ls js = none := by
  obtain ⟨ne, _, p, h1, h2⟩ := R
  obtain ⟨q1, _, q3⟩ := leads_parts pos h1
  obtain ⟨g1, g2⟩ := q3 ne
  have ft : fits ls js = true := by
    unfold fits
    refine List.all_eq_true.mpr fun k hk => ?_
    have hk := List.mem_range.mp hk
    exact decide_eq_true (q1 k (by omega))
  unfold ringN
  rw [ft, decide_eq_true (g1.trans g2.symm), if_pos (by decide), if_pos (by rw [← sumO_nl]; exact h2)]
theorem nI_inj : ∀ {js ks : List Nat}, nI js = nI ks → js = ks := fun {js ks} h => by
  have := congrArg (List.map Int.toNat) h
  rw [natI2, natI2] at this
  exact this
theorem no_times {ls : List Lk} {n : Nat} {is : List Nat} (R : RingP ls n is) : ∀ ts, ¬ TmsP ls n ts := fun ts T => ring_no R T
def PrIt (n : Nat) (H : Hp) (w : V) : Prop := ∃ (r : Addr) (x y : Nat), w = .ref r ∧ H r = some (.tup [.int (x : Nat), .int (y : Nat)]) ∧ x < n ∧ y < n
theorem PrIt.but {n : Nat} {H H' : Hp} {w : V} {b : Addr} (h : PrIt n H w) (B : BgAt H b) (D : But b H H') : PrIt n H' w := by
  obtain ⟨r, x, y, e, h, hx, hy⟩ := h
  exact ⟨r, x, y, e, D _ _ h (B.tup h), hx, hy⟩
theorem lkR_inj' : ∀ {ls ls' : List Lk}, ls.map lkR = ls'.map lkR → ls = ls'
  | [], [], _ => rfl
  | [], _ :: _, h => by cases h
  | _ :: _, [], h => by cases h
  | (a, b, c) :: ls, (a', b', c') :: ls', h => by
    rw [List.map_cons, List.map_cons] at h
    injection h with h1 h2
    have h1 : Rd.sq [.int a, .int b, .int c] = .sq [.int a', .int b', .int c'] := h1
    injection h1 with h1
    injection h1 with x1 h1
    injection h1 with x2 h1
    injection h1 with x3 _
    rw [V.int.inj x1, V.int.inj x2, V.int.inj x3, lkR_inj' h2]
def spLaw (K : PySem.W.Frag) : Sp := fun vs H Q _ => ∃ (a : Addr) (ns : List Int), vs = [.ref a] ∧ SqL K H a (ns.map V.int) ∧ ns.length ≤ 63 ∧ ∀ H', Q (.bl true) H'
section
variable {P : Program} {w : World} {K : PySem.W.Frag} {mg : Str → Option Value} {base : Heap} {cl : String → Addr}
theorem ok_law {f : Addr} {fd : FuncData} (F : Fun K "law" "law" s_law f fd) (T : Txt P w K mg cl) : FnOk P w K mg base CX0 10 f fd ["_law_script"] (spLaw K) := by
  refine F.ok sc_law (fun vs H Q E h => ?_) (fun cdv A outer s H vs Q E hr h => ?_)
  · obtain ⟨a, ns, rfl, _⟩ := h
    rfl
  · obtain ⟨a, ns, rfl, hS, hl, k⟩ := h
    have C_bag : Cal P w K mg base CX0 1 "_law_bag" _ (spBag K) := cal_bag T
    have C_take : Cal P w K mg base CX0 1 "_law_take" _ spTake := cal_take T
    have C_of : Cal P w K mg base CX0 2 "_law_of" _ spOf := cal_of T
    have C_times : Cal P w K mg base CX0 4 "_law_times" _ spTimes := cal_times T
    have C_links : Cal P w K mg base CX0 4 "_law_links" _ spLinks := cal_links T
    have C_solved : Cal P w K mg base CX0 3 "solved" _ (spSolved (cl "System") (cl "Ring") (cl "Kept")) := cal_solved T
    have C_solved_fault : Cal P w K mg base CX0 5 "solved_fault" _ (spSF K (cl "System") (cl "Ring") (cl "Kept")) := cal_solved_fault T
    have C_errors : Cal P w K mg base CX0 7 "_law_errors" _ (spErr (cl "System")) := cal_errors T
    have C_bars : Cal P w K mg base CX0 3 "_law_bars" _ spBars := cal_bars T
    have C_impossible : Cal P w K mg base CX0 7 "_law_impossible" _ (spImp (cl "System")) := cal_impossible T
    have C_L_are_times : Cal P w K mg base CX0 2 "_law_are_times" _ spLAre := cal_L_are_times T
    have C_keep : Cal P w K mg base CX0 1 "_law_keep" _ spLKeep := cal_keep T
    have C_spans : Cal P w K mg base (L2.CX P w) 5 "spans" _ (spSpans (cl "System") (cl "NoTimes")) := cal_spans T
    have C_pair : Cal P w K mg base CX0 8 "_law_pair" _ (spPair (cl "System")) := cal_pair T
    have C_judged : Cal P w K mg base CX0 6 "_law_judged" _ (spJud (cl "System")) := cal_judged T
    have I_System : CalC P w K mg base (L2.CX P w) 4 (cl "System") _ (spSys K (cl "System") (cl "BadSystem")) := cal_System_init T
    refine ⟨_, (pss_cons (ps_for PassesOwn.never rfl (pi_range1 rfl T.n_range (pa_cons (pe_callB (call_max2 rfl) (by rfl) T.n_max (by decide +kernel) (pa_cons pe_int (pa_cons (pe_callB (call_min2 rfl) (by rfl) T.n_min (by decide +kernel) (pa_cons pe_int (pa_cons (pe_callB call_len_seq (by rfl) T.n_len PySem.boot_len (pa_cons (pv 0) pa_nil)) pa_nil))) pa_nil))) pa_nil)) (pg_name (i := 1) sc_law.nd rfl (Or.inl rfl))
          (pss_cons (ps_set (i := 2) sc_law.nd rfl (Or.inr rfl) (pe_cal C_bag (hr.mono (by decide)) (pa_cons (pv 0) (pa_cons (pv 1) pa_nil))))
            (pss_cons (ps_set (i := 3) sc_law.nd rfl (Or.inl rfl) (pe_cmpR op_eq (pe_cal C_take (hr.mono (by decide)) (pa_cons (pv 2) (pa_cons pe_int pa_nil))) pe_int (nomark _)))
            (pss_cons (ps_set (i := 4) sc_law.nd rfl (Or.inr rfl) (pe_cut (pe_ifExp (pt_val (pv 3)) (pe_op op_sub pe_int (pe_cal C_take (hr.mono (by decide)) (pa_cons (pv 2) (pa_cons pe_int pa_nil)))) (pe_op op_add pe_int (pe_cal C_take (hr.mono (by decide)) (pa_cons (pv 2) (pa_cons pe_int pa_nil)))))))
            (pss_cons (ps_set (i := 5) sc_law.nd rfl (Or.inl rfl) (pe_cut (pe_ifExp (pt_cmpR op_gt (pe_cal C_take (hr.mono (by decide)) (pa_cons (pv 2) (pa_cons pe_int pa_nil))) pe_int (nomark _)) (pe_cal C_times (hr.mono (by decide)) (pa_cons (pv 2) (pa_cons (pv 4) pa_nil))) pe_non)))
            (pss_cons (ps_set (i := 6) sc_law.nd rfl (Or.inl rfl) (pe_cal C_links (hr.mono (by decide)) (pa_cons (pv 2) (pa_cons (pv 4) (pa_cons (pe_cut (pe_ifExp (pt_val (pv 3)) (pe_cal C_take (hr.mono (by decide)) (pa_cons (pv 2) (pa_cons pe_int pa_nil))) (pe_cal C_take (hr.mono (by decide)) (pa_cons (pv 2) (pa_cons pe_int pa_nil))))) (pa_cons (pv 5) pa_nil))))))
            (pss_cut (ps_set (i := 7) sc_law.nd rfl (Or.inl rfl) (pe_mk I_System T.m_System (hr.mono (by decide))  (pa_cons (pv 4) (pa_cons (pv 6) pa_nil))))
            (pss_cons (ps_set (i := 8) sc_law.nd rfl (Or.inl rfl) (pe_cal C_solved (hr.mono (by decide)) (pa_cons (pv 7) pa_nil)))
            (pss_cons (ps_if (pt_cmpR op_notN (pe_cal C_solved_fault (hr.mono (by decide)) (pa_cons (pv 7) (pa_cons (pv 8) pa_nil))) pe_non (nomark _))
              (pss_one (ps_ret pe_bl)) pss_nil)
            (pss_cons (ps_if (pt_not (pt_val (pe_cal C_errors (hr.mono (by decide)) (pa_cons (pv 2) (pa_cons (pv 7) (pa_cons (pv 4) (pa_cons (pe_cut (pe_ifExp (pt_val (pe_callB call_isi (by rfl) T.n_isinstance (by decide +kernel) (pa_cons (pv 8) (pa_cons (pe_cls T.m_Ring) pa_nil)))) pe_int pe_int)) pa_nil)))))))
              (pss_one (ps_ret pe_bl)) pss_nil)
            (pss_cons (ps_if (pt_val (pe_callB call_isi (by rfl) T.n_isinstance (by decide +kernel) (pa_cons (pv 8) (pa_cons (pe_cls T.m_Ring) pa_nil))))
              (pss_cons (ps_if (PW.pt (pw_or (pt_not (pt_val (pe_cal C_bars (hr.mono (by decide)) (pa_cons (pv 6) (pa_cons (pe_fld (pv 8) rfl) pa_nil))))) (pw_or1 (pt_not (pt_val (pe_cal C_impossible (hr.mono (by decide)) (pa_cons (pv 2) (pa_cons (pv 7) (pa_cons (pv 4) (pa_cons (pv 6) pa_nil))))))))))
                  (pss_one (ps_ret pe_bl)) pss_nil)
                (pss_one ps_continue)) pss_nil)
            (pss_cons (ps_if (PW.pt (pw_or (pt_not (pt_val (pe_callB call_isi (by rfl) T.n_isinstance (by decide +kernel) (pa_cons (pv 8) (pa_cons (pe_cls T.m_Kept) pa_nil))))) (pw_or (pt_not (pt_val (pe_cal C_L_are_times (hr.mono (by decide)) (pa_cons (pe_fld (pv 8) rfl) (pa_cons (pv 4) pa_nil))))) (pw_or1 (pt_not (pt_val (pe_cal C_keep (hr.mono (by decide)) (pa_cons (pv 6) (pa_cons (pe_fld (pv 8) rfl) pa_nil)))))))))
              (pss_one (ps_ret pe_bl)) pss_nil)
            (pss_cons (ps_set (i := 9) sc_law.nd rfl (Or.inl rfl) (pe_cal C_spans (hr.mono (by decide)) (pa_cons (pv 7) pa_nil)))
            (pss_cons (ps_if (PW.pt (pw_or (pt_not (pt_val (pe_callB call_isi (by rfl) T.n_isinstance (by decide +kernel) (pa_cons (pv 9) (pa_cons (pe_ty "tuple" T.n_tuple) pa_nil))))) (pw_or1 (pt_cmpR (op_neD hr.units) (pe_lc (own := [("_law_x", 13)]) (g := gName 13)  rfl sc_law.nd (pi_tup (pv 9)) (blkOk_by (own := [("_law_x", 13)]) (N := ["_law_script", "_law_at", "_law_bag_here", "_law_is_large", "_law_count", "_law_times_here", "_law_links_here", "_law_system", "_law_answer", "_law_table", "_law_pairs", "_law_one", "_law_other", "_law_x", "_law_k"]) (sc := defScope s_law) (by decide +kernel)) (fun _ _ _ _ _ => pg_name (i := 13) sc_law.nd rfl (Or.inl rfl)) (fun _ _ _ _ _ => pts_one (pt_val (pe_callB (call_isiK' (K := K) rfl) (by rfl) T.n_isinstance (by decide +kernel) (pa_cons (pv 13) (pa_cons (pe_ty "tuple" T.n_tuple) pa_nil))))) (fun _ _ _ _ _ => (pe_callB (call_len_seqK (K := K) rfl) (by rfl) T.n_len PySem.boot_len (pa_cons (pv 13) pa_nil)))) (pe_op op_rep (pe_lst (pa_cons (pv 4) pa_nil)) (pv 4)) (nomark _)))))
              (pss_one (ps_ret pe_bl)) pss_nil)
            (pss_cons (ps_set (i := 10) sc_law.nd rfl (Or.inr rfl) (pe_lc (own := [("_law_x", 13)]) (g := gName 13) (tt := tYes) rfl sc_law.nd (pi_range1 rfl T.n_range (pa_cons (pe_op op_mul (pv 4) (pv 4)) pa_nil)) (blkOk_by (own := [("_law_x", 13)]) (N := ["_law_script", "_law_at", "_law_bag_here", "_law_is_large", "_law_count", "_law_times_here", "_law_links_here", "_law_system", "_law_answer", "_law_table", "_law_pairs", "_law_one", "_law_other", "_law_x", "_law_k"]) (sc := defScope s_law) (by decide +kernel)) (fun _ _ _ _ _ => pg_name (i := 13) sc_law.nd rfl (Or.inl rfl)) (fun _ _ _ _ _ => pts_nil) (fun _ _ _ _ _ => (pe_tup (pa_cons (pe_op op_fdiv (pv 13) (pv 4)) (pa_cons (pe_op op_mod (pv 13) (pv 4)) pa_nil))))))
            (pss_cut (ps_if (pt_cmpR op_gt (pv 4) pe_int (nomark _))
              (pss_one (ps_set (i := 10) sc_law.nd rfl (Or.inr rfl) (pe_lc (own := [("_law_k", 14)]) (g := gName 14) (tt := tYes) rfl sc_law.nd (pi_range1 rfl T.n_range (pa_cons pe_int pa_nil)) (blkOk_by (own := [("_law_k", 14)]) (N := ["_law_script", "_law_at", "_law_bag_here", "_law_is_large", "_law_count", "_law_times_here", "_law_links_here", "_law_system", "_law_answer", "_law_table", "_law_pairs", "_law_one", "_law_other", "_law_x", "_law_k"]) (sc := defScope s_law) (by decide +kernel)) (fun _ _ _ _ _ => pg_name (i := 14) sc_law.nd rfl (Or.inl rfl)) (fun _ _ _ _ _ => pts_nil) (fun _ _ _ _ _ => (pe_cal C_of (hr.mono (by decide)) (pa_cons (pv 2) (pa_cons (pv 10) pa_nil))))))) pss_nil)
            (pss_one (ps_for PassesOwn.never rfl (pi_list (pv 10)) (pg_tup rfl (pgs_cons (pg_name (i := 11) sc_law.nd rfl (Or.inl rfl)) (pgs_cons (pg_name (i := 12) sc_law.nd rfl (Or.inl rfl)) pgs_nil)))
              (pss_cons (ps_if (pt_not (pt_val (pe_cal C_pair (hr.mono (by decide)) (pa_cons (pv 2) (pa_cons (pv 7) (pa_cons (pv 4) (pa_cons (pv 6) (pa_cons (pv 9) (pa_cons (pv 11) (pa_cons (pv 12) pa_nil))))))))))
                  (pss_one (ps_ret pe_bl)) pss_nil)
                (pss_one (ps_if (pt_not (pt_val (pe_cal C_judged (hr.mono (by decide)) (pa_cons (pv 2) (pa_cons (pv 7) (pa_cons (pv 4) (pa_cons (pv 6) (pa_cons (pv 11) (pa_cons (pv 12) pa_nil)))))))))
                  (pss_one (ps_ret pe_bl)) pss_nil)))))))))))))))))))))
        (pss_one (ps_ret pe_bl))), ?_⟩
    have lm : (ns.map V.int).length = ns.length := List.length_map _
    refine ⟨_, rfl, a, _, rfl, .inl hS, _, _, rfl, _, _, rfl, _, rfl, ?_⟩
    have mn : ∃ n : Nat, (if (if (((ns.map V.int).length : Nat) : Int) < 2 then (((ns.map V.int).length : Nat) : Int) else 2) > 1 then (if (((ns.map V.int).length : Nat) : Int) < 2 then (((ns.map V.int).length : Nat) : Int) else 2) else (1 : Int)) = (n : Int) ∧ n ≤ 2 := by
      by_cases h1 : (((ns.map V.int).length : Nat) : Int) < 2
      · rw [if_pos h1]
        by_cases h2 : (((ns.map V.int).length : Nat) : Int) > 1
        · rw [if_pos h2]
          exact ⟨_, rfl, by omega⟩
        · rw [if_neg h2]
          exact ⟨1, rfl, by decide⟩
      · rw [if_neg h1]
        exact ⟨2, rfl, by decide⟩
    obtain ⟨n0, en, hn0⟩ := mn
    rw [en]
    refine ⟨by omega, by omega, for_range (fun j σ H' => Same H H' ∧ ∃ (v1 v2 v3 v4 v5 v6 v7 v8 v9 v10 v11 v12 : Option V), σ = [some (.ref a), v1, v2, v3, v4, v5, v6, v7, v8, v9, v10, v11, v12, none, none]) ⟨Same.refl _, _, _, _, _, _, _, _, _, _, _, _, _, rfl⟩ ?_ (fun σ H' _ => k H')⟩
    rintro j σ H1 hj ⟨S1, v1, v2, v3, v4, v5, v6, v7, v8, v9, v10, v11, v12, rfl⟩
    rw [Int.toNat_natCast] at hj
    rw [show (0 : Int) + (j : Nat) = ((j : Nat) : Int) from Int.zero_add _]
    refine ⟨_, rfl, _, rfl, a, ns, j, rfl, Same.seq S1 hS, hl, by omega, fun b H2 nb B2 S2 => ?_⟩
    refine ⟨_, rfl, b, _, rfl, B2, by decide, by decide, fun x H3 _ _ B3 D3 => ⟨rfl, ?_⟩⟩
    generalize decide (V.int x = V.int 0) = lg
    refine ⟨fun v H' => ∃ c : Int, v = .int c ∧ 1 ≤ c ∧ c ≤ 12 ∧ BgAt H' b ∧ But b H3 H', ?_, fun v H4 ⟨c, hv, c1, c2, B4, D4⟩ => ?_⟩
    · refine ⟨_, rfl, _, rfl, ite2 (fun _ => ?_) (fun _ => ?_)⟩
      · exact ⟨_, rfl, b, _, rfl, B3, by decide, by decide, fun y H4 y0 y1 B4 D4 => ⟨_, _, rfl, rfl, _, rfl, by omega, by omega, B4, D4⟩⟩
      · exact ⟨_, rfl, b, _, rfl, B3, by decide, by decide, fun y H4 y0 y1 B4 D4 => ⟨_, _, rfl, rfl, _, rfl, by omega, by omega, B4, D4⟩⟩
    subst hv
    obtain ⟨n, rfl⟩ : ∃ n : Nat, c = (n : Int) := ⟨c.toNat, by omega⟩
    have D4 := D3.trans D4
    clear D3 B3
    refine ⟨fun v H' => TvAt H' b (n : Nat) v ∧ BgAt H' b ∧ But b H4 H', ?_, fun ft H6 ⟨hft, B6, D6⟩ => ?_⟩
    · refine ⟨_, rfl, b, _, rfl, B4, by decide, by decide, fun y H6 _ _ B6 D6 => ⟨_, _, rfl, rfl, _, rfl, ite2 (fun _ => ?_) (fun _ => ?_)⟩⟩
      · exact ⟨_, rfl, _, rfl, b, n, rfl, B6, c1, c2, fun tl ts H5 n5 h5 l5 B5 D5 => ⟨.inr ⟨tl, ts, rfl, h5, l5, B6.ne n5⟩, B5, D6.trans D5⟩⟩
      · exact ⟨.inl rfl, B6, D6⟩
    have D6 := D4.trans D6
    clear D4 B4
    refine ⟨_, rfl, _, rfl, fun v H' => ∃ m : Int, v = .int m ∧ 0 ≤ m ∧ m ≤ 60 ∧ BgAt H' b ∧ But b H6 H', ?_, fun v H7 ⟨m, hv, m0, m1, B7, D7⟩ => ?_⟩
    · refine ⟨_, rfl, _, rfl, ite2 (fun _ => ?_) (fun _ => ?_)⟩
      · exact ⟨_, rfl, b, _, rfl, B6, by decide, by decide, fun y H4 y0 y1 B4 D4 => ⟨_, rfl, by omega, by omega, B4, D4⟩⟩
      · exact ⟨_, rfl, b, _, rfl, B6, by decide, by decide, fun y H4 y0 y1 B4 D4 => ⟨_, rfl, by omega, by omega, B4, D4⟩⟩
    subst hv
    have hft : TvAt H7 b (n : Nat) ft := by
      rcases hft with rfl | ⟨tl', ts', rfl, g1, g2, g3⟩
      · exact .inl rfl
      · exact .inr ⟨tl', ts', rfl, D7 _ _ g1 g3, g2, g3⟩
    have D7 := D6.trans D7
    clear D6 B6
    refine ⟨_, rfl, b, n, m, ft, rfl, B7, c1, c2, m0, by omega, hft, fun g lus ls H8 n8 hL lok ll B8 D8 => ?_⟩
    have ngb := B7.ne n8
    have D8 := D7.trans D8
    have S8 : Same H H8 := fun z o e => D8 _ _ (S2 _ _ (S1 _ _ e)) (ne_of_none (S1 _ _ e) nb)
    have le : ls.length ≤ 60 := by omega
    have nbH : H b = none := S1.free nb
    clear D7 D8 B7 hft B2 S2 nb S1
    refine ⟨fun σ' H' => ∃ p t us, Zs (cl "System") b p t g n us lus ls H' ∧ Same H H' ∧ σ' = [some (.ref a), some (.int (j : Nat)), some (.ref b), some (.bl lg), some (.int (n : Nat)), some ft, some (.ref g), some (.ref p), v8, v9, v10, v11, v12, none, none], ?_, ?_⟩
    · refine ⟨_, rfl, _, rfl, mkSys (.int (n : Int)) (ro := some (ls.map lkR)) ⟨g, lus, rfl, .inl hL.1, lks_rd hL.2, fun x hx => (by obtain ⟨l, _, rfl⟩ := List.mem_map.mp hx; exact lkR_ok l), by rw [List.length_map]; omega⟩ (fun i w G e hd S he => ?_) (fun c' ls' p t us H9 h1 h2 h3 S9 X => ?_)⟩
      · rw [sysW_ls c1 c2 lok (by omega)] at hd
        cases hd
      · cases h1
        have e := lkR_inj' (Option.some.inj h2)
        subst e
        exact ⟨p, t, us, ⟨B8.same S9, X, hL.same S9, ngb, lok, by omega, by omega, by omega⟩, S8.trans S9, rfl⟩
    clear hL B8
    rintro σ' H9 ⟨p, t, us, Z, S9, rfl⟩
    obtain ⟨ok, pos⟩ := Z.ix
    refine ⟨_, rfl, p, t, n, us, ls, rfl, Z.X, Z.lok, by omega, by omega, fun q pa H10 S10 nq hv => ?_⟩
    have Z10 := Z.same S10
    have S10 := S9.trans S10
    clear Z S9
    rcases hv with ⟨⟨dq, hq⟩, is, hpa, R⟩ | ⟨⟨dq, hq⟩, ts, hpa, Tm⟩
    · have hpa : H10 pa = some (intT (nI is)) := by rw [hpa, natV]; rfl
      have lis := R.2.1
      have isN : ∀ j ∈ is, j < ls.length := by
        obtain ⟨_, _, x, h1, _⟩ := R
        exact Leads.lt h1
      refine ⟨_, rfl, _, rfl, p, q, t, pa, n, us, ls, nI is, rfl, Z10.X, Z10.lok, by omega, hpa, by unfold nI; rw [List.length_map]; omega, .inl ⟨⟨dq, hq⟩, fun e => absurd (nI_inj (ks := []) e) R.1, fun _ hx => ?_, fun js ne ej hj H11 S11 => ?_⟩⟩
      · exfalso
        have : (nI is).all (isIx ls.length) = true := by
          refine List.all_eq_true.mpr fun x hx => ?_
          obtain ⟨j, h, rfl⟩ := List.mem_map.mp hx
          have := isN j h
          unfold isIx
          rw [decide_eq_true (Int.natCast_nonneg j), decide_eq_true (show (j : Int) < (ls.length : Int) by omega)]
          rfl
        rw [this] at hx
        cases hx
      · obtain rfl := nI_inj (js := is) (ks := js) ej
        rw [ring_none pos R]
        refine ⟨rfl, _, rfl, iteF ?_⟩
        have Z11 := Z10.same S11
        have hq11 := S11 _ _ hq
        refine ⟨_, rfl, _, rfl, _, rfl, fun v H' => v = .int 2 ∧ H' = H11, ?_, fun v H' ⟨e1, e2⟩ => ?_⟩
        · exact ⟨_, rfl, _, _, _, _, _, rfl, .own (cl "Ring"), .base (.ins hq11 T.cl_Ring T.y_Ring T.z1 T.z2 T.z3_Ring), T.k_Ri_Ri, _, rfl, iteT ⟨rfl, rfl⟩⟩
        subst e1 e2
        refine ⟨b, p, t, g, n, 2, us, lus, ls, rfl, Z11, by decide, fun H12 B12 D12 => ⟨_, rfl, iteF ?_⟩⟩
        have Z12 := Z11.but B12 D12
        have hq12 := D12 _ _ hq11 (Z11.B.ins hq11)
        have hpa12 := D12 _ _ (S11 _ _ hpa) (Z11.B.tup (S11 _ _ hpa))
        have hpa12 : H12 pa = some (natT is) := by rw [hpa12]; unfold natT; rw [natV]; rfl
        refine ⟨_, rfl, _, _, _, _, _, rfl, .own (cl "Ring"), .base (.ins hq12 T.cl_Ring T.y_Ring T.z1 T.z2 T.z3_Ring), T.k_Ri_Ri, _, rfl, iteT ?_⟩
        refine ⟨_, rfl, _, rfl, q, _, _, _, _, rfl, hq12, T.cl_Ring, T.na_Ring _ (by decide), rfl, g, pa, lus, ls, is, n, rfl, Z12.L, hpa12, pos, by omega, R, fun H13 S13 => ⟨_, rfl, iteF ?_⟩⟩
        have Z13 := Z12.same S13
        refine ⟨_, rfl, _, rfl, _, rfl, _, rfl, b, p, t, g, n, us, lus, ls, rfl, Z13, no_times R, fun H14 B14 D14 => ⟨_, rfl, iteF ?_⟩⟩
        have S11 := S10.trans S11
        have S14 : Same H H14 := fun z o e => D14 _ _ (S13 _ _ (D12 _ _ (S11 _ _ e) (ne_of_none e nbH))) (ne_of_none e nbH)
        exact ⟨S14, _, _, _, _, _, _, _, _, _, _, _, _, rfl⟩
    · have lts := Tm.1
      refine ⟨_, rfl, _, rfl, p, q, t, pa, n, us, ls, ts, rfl, Z10.X, Z10.lok, by omega, hpa, by omega, .inr ⟨⟨dq, hq⟩, fun h => absurd (by omega) h, fun _ H11 S11 => ?_⟩⟩
      rw [if_pos (brk_nil.mpr Tm.2)]
      refine ⟨rfl, _, rfl, iteF ?_⟩
      have Z11 := Z10.same S11
      have hq11 := S11 _ _ hq
      refine ⟨_, rfl, _, rfl, _, rfl, fun v H' => v = .int 3 ∧ H' = H11, ?_, fun v H' ⟨e1, e2⟩ => ?_⟩
      · exact ⟨_, rfl, _, _, _, _, _, rfl, .own (cl "Ring"), .base (.ins hq11 T.cl_Kept T.y_Kept T.z1 T.z2 T.z3_Kept), T.k_Ke_Ri, _, rfl, iteF ⟨rfl, rfl⟩⟩
      subst e1 e2
      refine ⟨b, p, t, g, n, 3, us, lus, ls, rfl, Z11, by decide, fun H12 B12 D12 => ⟨_, rfl, iteF ?_⟩⟩
      have Z12 := Z11.but B12 D12
      have hq12 := D12 _ _ hq11 (Z11.B.ins hq11)
      have hpa12 := D12 _ _ (S11 _ _ hpa) (Z11.B.tup (S11 _ _ hpa))
      have S12 : Same H H12 := fun z o e => D12 _ _ (S11 _ _ (S10 _ _ e)) (ne_of_none e nbH)
      clear D12 hq11 Z11 S11 S10 Z10
      refine ⟨_, rfl, _, _, _, _, _, rfl, .own (cl "Ring"), .base (.ins hq12 T.cl_Kept T.y_Kept T.z1 T.z2 T.z3_Kept), T.k_Ke_Ri, _, rfl, iteF ?_⟩
      refine ⟨_, rfl, _, _, _, _, _, rfl, .own (cl "Kept"), .base (.ins hq12 T.cl_Kept T.y_Kept T.z1 T.z2 T.z3_Kept), T.k_Ke_Ke, _, rfl, iteF ?_⟩
      refine ⟨_, rfl, q, _, _, _, _, rfl, hq12, T.cl_Kept, T.na_Kept _ (by decide), rfl, _, rfl, pa, ts, n, rfl, hpa12, by omega, fun H13 S13 => ?_⟩
      rw [decide_eq_true (show (ts.length : Int) = (n : Int) by omega)]
      refine ⟨_, rfl, iteF ?_⟩
      have Z13 := Z12.same S13
      refine ⟨_, rfl, _, rfl, q, _, _, _, _, rfl, S13 _ _ hq12, T.cl_Kept, T.na_Kept _ (by decide), rfl, g, pa, lus, ls, ts, rfl, Z13.L, .inr (S13 _ _ hpa12), by rw [lts]; exact Z13.lok, by omega, fun H14 S14 => ?_⟩
      rw [brk_nil.mpr Tm.2]
      refine ⟨_, rfl, iteF ?_⟩
      have Z14 := Z13.same S14
      refine ⟨_, rfl, p, t, n, us, ls, rfl, Z14.X, Z14.lok, by omega, by omega, fun x is R => (ring_no R Tm).elim, fun tb H15 ts2 Tm2 S15 Tb => ?_⟩
      have Z15 := Z14.same S15
      have S15 := S12.trans (S13.trans (S14.trans S15))
      clear Z14 Z13 Z12 S12
      obtain ⟨rows, hR, hp⟩ := id Tb
      refine ⟨_, rfl, _, _, _, _, _, rfl, .ty "tuple", .base (.tup hR), (show _ = some true from kit_ty (by decide +kernel)), _, rfl, iteF ?_⟩
      have lrows := hp.length
      rw [List.length_range] at lrows
      have Z15' := Z15
      refine ⟨_, rfl, tb, rfl, ⟨_, SqT.of hR⟩, fun D nD => lc_tup (K := K) (a := tb) (xs := rows) (fun i H' => H' = upd H15 D (.lst ((List.replicate i (n : Int)).map V.int))) rfl (fun i H' _ e => by rw [e]; exact SqT.of (sNew nD _ _ hR)) ?_ ?_⟩
      · rintro i xv H' hx rfl
        obtain ⟨a2, ha2, r, rfl, hr2⟩ := Paired.at hp hx
        have hi := (List.getElem?_eq_some_iff.mp hx).1
        have hr3 := sNew (o := .lst ((List.replicate i (n : Int)).map V.int)) nD _ _ hr2
        refine ⟨rfl, _, rfl, _, _, _, _, _, rfl, .ty "tuple", .base (.tup hr3), (show _ = some true from kit_ty (by decide +kernel)), _, rfl, iteT ⟨_, rfl, r, _, rfl, .inr (SqT.of hr3), _, upd_same, small1000 (by rw [List.length_map, List.length_replicate]; omega), ?_⟩⟩
        rw [upd_upd, List.replicate_succ', List.map_append]
        show _ = upd H15 D (.lst (_ ++ [V.int (n : Int)]))
        unfold rowO
        rw [List.length_map, List.length_range]
      rintro H' rfl
      rw [lrows]
      have SD := sNew (o := .lst ((List.replicate n (n : Int)).map V.int)) nD
      refine ⟨_, rfl, by show 1 ≤ sizeLine; decide, fun r1 w1 => ?_⟩
      have SR1 := sNew (o := .lst [.int (n : Int)]) w1
      refine ⟨_, rfl, r1, (n : Int), _, rfl, rfl, upd_same, by omega, by omega, (by rw [sizeLine_eq]; show 1 * n ≤ _; omega), fun r2 w2 => ?_⟩
      have eR : (List.replicate ((n : Nat) : Int).toNat [V.int (n : Int)]).flatten = (List.replicate n (n : Int)).map V.int := by
        rw [Int.toNat_natCast]
        simp
      rw [eR]
      have SR2 := sNew (o := .lst ((List.replicate n (n : Int)).map V.int)) w2
      refine ⟨_, _, dpI (SR2 _ _ (SR1 _ _ upd_same)), dpI upd_same, row_shaped true (okI _), row_shaped true (okI _), _, rfl, ?_⟩
      rw [eqv_ints, decide_eq_true rfl]
      refine iteF ?_
      have S16 := SD.trans (SR1.trans SR2)
      have Z16 := Z15.same S16
      have Tb16 := Tb.same S16
      have S16 := S15.trans S16
      clear SD SR1 SR2 eR hR hp Z15' Z15 Tb
      generalize upd (upd (upd H15 D _) r1 _) r2 _ = H16 at Z16 Tb16 S16
      have nn : ((n : Int) * (n : Int)) = ((n * n : Nat) : Int) := (Int.natCast_mul n n).symm
      have n9 : n * n ≤ 144 := Nat.mul_le_mul (show n ≤ 12 by omega) (show n ≤ 12 by omega)
      have n8' : 1 ≤ n * n := Nat.mul_le_mul (show 1 ≤ n by omega) (show 1 ≤ n by omega)
      refine ⟨_, rfl, _, rfl, _, _, rfl, rfl, .inl ⟨by omega, by omega⟩, _, rfl, by rw [nn]; omega, by rw [nn]; omega, fun D nD => lc_range (fun i H' => Same H16 H' ∧ ∃ ws, H' D = some (.lst ws) ∧ (∀ w ∈ ws, ∃ r, w = V.ref r ∧ r ≠ D ∧ PrIt n H' w) ∧ ws.length = i) ⟨sNew nD, [], upd_same, (fun w hw => (by cases hw)), rfl⟩ ?_ ?_⟩
      · rintro i H' hi ⟨S17, ws, hD, hw, lw⟩
        have hi : i < n * n := by rw [nn] at hi; exact hi
        refine ⟨rfl, _, rfl, _, rfl, _, _, rfl, rfl, by unfold CDiv; omega, _, rfl, _, rfl, _, _, rfl, rfl, (by show (0 : Int) < (n : Int); omega), by show 2 ≤ sizeLine; decide, fun r nr => ?_⟩
        have Sr := sNew (o := .tup [.int (((0 : Int) + (i : Nat)) / (n : Int)), .int (((0 : Int) + (i : Nat)) % (n : Int))]) nr
        have nrD : r ≠ D := fun e => by rw [e, hD] at nr; cases nr
        have keep : ∀ w, (∃ r, w = V.ref r ∧ r ≠ D ∧ PrIt n H' w) → ∀ o : HO, ∃ r', w = V.ref r' ∧ r' ≠ D ∧ PrIt n (upd (upd H' r (.tup [.int (((0 : Int) + (i : Nat)) / (n : Int)), .int (((0 : Int) + (i : Nat)) % (n : Int))])) D o) w := fun w ⟨r', e, ne, r2, x, y, e2, h2, hx, hy⟩ o => by
          subst e
          cases e2
          exact ⟨_, rfl, ne, _, x, y, rfl, by rw [upd_ne ne]; exact Sr _ _ h2, hx, hy⟩
        refine ⟨ws, Sr _ _ hD, small1000 (by omega), same_upd (S17.trans Sr) nD, ws ++ [.ref r], upd_same, fun w hw2 => ?_, by rw [List.length_append, lw]; rfl⟩
        rcases List.mem_append.mp hw2 with hw2 | hw2
        · exact keep w (hw w hw2) _
        · rw [List.mem_singleton] at hw2
          subst hw2
          refine ⟨r, rfl, nrD, r, i / n, i % n, rfl, ?_, Nat.div_lt_of_lt_mul hi, Nat.mod_lt _ (by omega)⟩
          rw [upd_ne nrD, upd_same, Int.zero_add]
          rfl
      rintro H17 ⟨S17, ws, hD, hw, lw⟩
      rw [nn, Int.toNat_natCast] at lw
      have Z17 := Z16.same S17
      have Tb17 := Tb16.same S17
      have S17 := S16.trans S17
      have nDb : D ≠ b := Z16.B.ne nD
      clear Z16 Tb16 S16 nD
      refine ⟨fun σ' H' => Zs (cl "System") b p t g n us lus ls H' ∧ Same H H' ∧ TbAt ls n H' tb ∧ ∃ (M : Addr) (ws : List V), M ≠ b ∧ H' M = some (.lst ws) ∧ (∀ w ∈ ws, PrIt n H' w) ∧ ws.length ≤ 150 ∧ σ' = [some (.ref a), some (.int (j : Nat)), some (.ref b), some (.bl lg), some (.int (n : Nat)), some ft, some (.ref g), some (.ref p), some (.ref q), some (.ref tb), some (.ref M), v11, v12, none, none], ?_, ?_⟩
      · refine ⟨_, rfl, _, _, rfl, rfl, _, rfl, ite2 (fun _ => ?_) (fun _ => ?_)⟩
        · refine ⟨3, rfl, by decide, by decide, fun M nM => lc_range (fun i H' => BgAt H' b ∧ But b H17 H' ∧ ∃ xs, H' M = some (.lst xs) ∧ (∀ w ∈ xs, PrIt n H17 w) ∧ xs.length = i) ⟨Z17.B.same (sNew nM), But.of (sNew nM), [], upd_same, (fun w hw => (by cases hw)), rfl⟩ ?_ ?_⟩
          · rintro i H' hi ⟨B18, D18, xs, hM, hx, lx⟩
            have nMb := Z17.B.ne nM
            refine ⟨rfl, _, rfl, _, rfl, b, D, ws, rfl, B18, D18 _ _ hD nDb, nDb, by omega, by omega, fun jj y H19 hy B19 D19 => ?_⟩
            refine ⟨xs, D19 _ _ hM nMb, small1000 (by have : (3 : Int).toNat = 3 := rfl; omega), B19.upd nMb, but_upd (D18.trans D19) nM, xs ++ [y], upd_same, fun w hw2 => ?_, by rw [List.length_append, lx]; rfl⟩
            rcases List.mem_append.mp hw2 with hw2 | hw2
            · exact hx w hw2
            · rw [List.mem_singleton] at hw2
              subst hw2
              obtain ⟨_, _, _, h⟩ := hw _ (List.mem_of_getElem? hy)
              exact h
          · rintro H' ⟨B18, D18, xs, hM, hx, lx⟩
            have lx : xs.length = 3 := lx
            exact ⟨Z17.but B18 D18, fun z o e => D18 _ _ (S17 _ _ e) (ne_of_none e nbH), Tb17.but Z17.B D18, M, xs, Z17.B.ne nM, hM, fun w hw => (hx w hw).but Z17.B D18, by omega, rfl⟩
        · exact ⟨Z17, S17, Tb17, D, ws, nDb, hD, fun w hw2 => (hw w hw2).imp (fun _ h => h.2.2) |>.elim fun _ h => h, by omega, rfl⟩
      clear Z17 S17 Tb17 hD hw nDb
      rintro σ' H18 ⟨Z18, S18, Tb18, M, ws, nMb, hM, hw, lw, rfl⟩
      refine ⟨_, rfl, M, rfl, ⟨_, SqL.of hM⟩, for_list (K := K) (a := M) (xs := ws) (fun i σ H' => BgAt H' b ∧ But b H18 H' ∧ ∃ w11 w12 : Option V, σ = [some (.ref a), some (.int (j : Nat)), some (.ref b), some (.bl lg), some (.int (n : Nat)), some ft, some (.ref g), some (.ref p), some (.ref q), some (.ref tb), some (.ref M), w11, w12, none, none]) ⟨Z18.B, But.refl _ _, v11, v12, rfl⟩ (fun i σ H' _ z => SqL.of (z.2.1 _ _ hM nMb)) ?_ ?_⟩
      · rintro i x σ H19 hx ⟨B19, D19, w11, w12, rfl⟩
        obtain ⟨r, x1, y1, rfl, hr2, hx1, hy1⟩ := (hw x (List.mem_of_getElem? hx)).but Z18.B D19
        have Z19 := Z18.but B19 D19
        refine ⟨r, _, rfl, SqT.of hr2, rfl, _, _, rfl, _, _, rfl, rfl, ?_⟩
        refine ⟨_, rfl, _, rfl, _, rfl, _, rfl, _, rfl, _, rfl, _, rfl, b, p, t, g, tb, n, x1, y1, us, lus, ls, ts, rfl, Z19, Tb18.but Z18.B D19, Tm, hx1, hy1, fun H20 B20 D20 => ⟨_, rfl, iteF ?_⟩⟩
        have Z20 := Z19.but B20 D20
        refine ⟨_, rfl, _, rfl, _, rfl, _, rfl, _, rfl, _, rfl, b, p, t, g, n, x1, y1, us, lus, ls, ts, rfl, Z20, Tm, hx1, hy1, fun H21 B21 D21 => ⟨_, rfl, iteF ?_⟩⟩
        exact ⟨B21, D19.trans (D20.trans D21), _, _, rfl⟩
      · rintro σ H19 ⟨B19, D19, w11, w12, rfl⟩
        exact ⟨fun z o e => D19 _ _ (S18 _ _ e) (ne_of_none e nbH), _, _, _, _, _, _, _, _, _, _, _, _, rfl⟩
theorem cal_law (T : Txt P w K mg cl) : Cal P w K mg base CX0 10 "law" ["_law_script"] (spLaw K) := by
  obtain ⟨f, fd, F, m⟩ := T.d_law
  exact ⟨f, fd, ok_law F T, m, F.kp, F.binds fun _ _ _ _ _ _ us hl => match us, hl with | [_], _ => rfl⟩
end
end My
set_option Elab.async false
set_option linter.all false
set_option maxRecDepth 100000
set_option maxHeartbeats 8000000
namespace My
open PySem L2 Dw He
theorem txt_mk {P : Program} {w : World} {K : PySem.W.Frag} {h : Heap} {mg : Str → Option Value} (X : K.In h) (G : h.Ns mainGlobals mg) (hP : P.main.file = lawFile) (c0 : HeM.SaysM lawFile faL fnL iniL prpL tsL exB w K) (stop : (P.main.scope.names.lookup ("super" : Str)).isSome = false) : Txt P w K mg (fun s => ga K (Str.ofString s)) := by
  have cS : HeM.SaysM P.main.file faL fnL iniL prpL tsL exB w K := by rw [hP]; exact c0
  have hz : HeM.zB K = true := cS.ex_at (L := exL) 0 rfl
  have opq : PySem.W.nsIn K cStatics "thirdparty.any" = some none := eqO_ok (cS.ex_at (L := exL) 1 rfl)
  exact {
    n_len := He.free_ok X G (cS.d.fact 0 (f := .free "len") rfl)
    n_int := He.free_ok X G (cS.d.fact 1 (f := .free "int") rfl)
    n_bool := He.free_ok X G (cS.d.fact 2 (f := .free "bool") rfl)
    n_list := He.free_ok X G (cS.d.fact 3 (f := .free "list") rfl)
    n_tuple := He.free_ok X G (cS.d.fact 4 (f := .free "tuple") rfl)
    n_isinstance := He.free_ok X G (cS.d.fact 5 (f := .free "isinstance") rfl)
    n_range := He.free_ok X G (cS.d.fact 6 (f := .free "range") rfl)
    n_ValueError := He.free_ok X G (cS.d.fact 7 (f := .free "ValueError") rfl)
    n_abs := He.free_ok X G (cS.d.fact 8 (f := .free "abs") rfl)
    n_min := He.free_ok X G (cS.d.fact 9 (f := .free "min") rfl)
    n_max := He.free_ok X G (cS.d.fact 10 (f := .free "max") rfl)
    n_sum := He.free_ok X G (cS.d.fact 11 (f := .free "sum") rfl)
    n_iter := He.free_ok X G (cS.d.fact 12 (f := .free "iter") rfl)
    n_enumerate := He.free_ok X G (cS.d.fact 13 (f := .free "enumerate") rfl)
    n_zip := He.free_ok X G (cS.d.fact 14 (f := .free "zip") rfl)
    c_MOST_INSTANTS := (let ⟨_, h⟩ := He.int_ok X G (cS.d.fact 15 (f := .int "MOST_INSTANTS" (12)) rfl); ⟨_, h, ⟨_, rfl⟩⟩)
    c_MOST_LINKS := (let ⟨_, h⟩ := He.int_ok X G (cS.d.fact 16 (f := .int "MOST_LINKS" (200)) rfl); ⟨_, h, ⟨_, rfl⟩⟩)
    m_DeedError := (He.glo_ok X G (cS.d.fact 17 (f := .glo "DeedError") rfl))
    m_BadSystem := (He.glo_ok X G (cS.d.fact 18 (f := .glo "BadSystem") rfl))
    m_BadTimes := (He.glo_ok X G (cS.d.fact 19 (f := .glo "BadTimes") rfl))
    m_NoInstant := (He.glo_ok X G (cS.d.fact 20 (f := .glo "NoInstant") rfl))
    m_NoTimes := (He.glo_ok X G (cS.d.fact 21 (f := .glo "NoTimes") rfl))
    m_System := (He.glo_ok X G (cS.d.fact 22 (f := .glo "System") rfl))
    m_Kept := (He.glo_ok X G (cS.d.fact 23 (f := .glo "Kept") rfl))
    m_Ring := (He.glo_ok X G (cS.d.fact 24 (f := .glo "Ring") rfl))
    m_Greatest := (He.glo_ok X G (cS.d.fact 25 (f := .glo "Greatest") rfl))
    m_Endless := (He.glo_ok X G (cS.d.fact 26 (f := .glo "Endless") rfl))
    o_BadSystem := HeM.oxB_ok (cS.ex_at (L := exL) 2 rfl)
    i_BadSystem := (let ⟨fd, F⟩ := cS.d.def_ 0 (d := ⟨("BadSystem", some "__init__"), "__init__", "BadSystem.__init__", defArgs s_BadSystem_init, defBody s_BadSystem_init, defScope s_BadSystem_init, [], []⟩) rfl; ⟨_, fd, fun_of F, HeM.inB_ok (cS.ex_at (L := exL) 3 rfl)⟩)
    o_BadTimes := HeM.oxB_ok (cS.ex_at (L := exL) 4 rfl)
    i_BadTimes := (let ⟨fd, F⟩ := cS.d.def_ 1 (d := ⟨("BadTimes", some "__init__"), "__init__", "BadTimes.__init__", defArgs s_BadTimes_init, defBody s_BadTimes_init, defScope s_BadTimes_init, [], []⟩) rfl; ⟨_, fd, fun_of F, HeM.inB_ok (cS.ex_at (L := exL) 5 rfl)⟩)
    o_NoInstant := HeM.oxB_ok (cS.ex_at (L := exL) 6 rfl)
    i_NoInstant := (let ⟨fd, F⟩ := cS.d.def_ 2 (d := ⟨("NoInstant", some "__init__"), "__init__", "NoInstant.__init__", defArgs s_NoInstant_init, defBody s_NoInstant_init, defScope s_NoInstant_init, [], []⟩) rfl; ⟨_, fd, fun_of F, HeM.inB_ok (cS.ex_at (L := exL) 7 rfl)⟩)
    o_NoTimes := HeM.oxB_ok (cS.ex_at (L := exL) 8 rfl)
    i_NoTimes := (let ⟨fd, F⟩ := cS.d.def_ 3 (d := ⟨("NoTimes", some "__init__"), "__init__", "NoTimes.__init__", defArgs s_NoTimes_init, defBody s_NoTimes_init, defScope s_NoTimes_init, [], []⟩) rfl; ⟨_, fd, fun_of F, HeM.inB_ok (cS.ex_at (L := exL) 9 rfl)⟩)
    xf_BadSystem_index := eqO_ok (cS.ex_at (L := exL) 10 rfl)
    xf_BadSystem_what := eqO_ok (cS.ex_at (L := exL) 11 rfl)
    cr := ⟨(cS.ex_at (L := exL) 12 rfl), eqO_ok (cS.ex_at (L := exL) 13 rfl)⟩
    vi := HeM.valIs_ok (cS.ex_at (L := exL) 14 rfl)
    x_BadSystem := HeM.xcB_ok (cS.ex_at (L := exL) 15 rfl) hz
    x_BadTimes := HeM.xcB_ok (cS.ex_at (L := exL) 16 rfl) hz
    x_NoInstant := HeM.xcB_ok (cS.ex_at (L := exL) 17 rfl) hz
    x_NoTimes := HeM.xcB_ok (cS.ex_at (L := exL) 18 rfl) hz
    is_BadSystem := of_decide_eq_true (cS.ex_at (L := exL) 19 rfl)
    is_BadTimes := of_decide_eq_true (cS.ex_at (L := exL) 20 rfl)
    ne_System := ⟨of_decide_eq_true (cS.ex_at (L := exL) 21 rfl), eqO_ok (cS.ex_at (L := exL) 22 rfl)⟩
    cl_System := He.cls_ok (cS.d.fact 27 (f := .cls "System") rfl)
    na_System := (fun f hf => eqO_ok (List.all_eq_true.mp (cS.ex_at (L := exL) 23 rfl) f hf))
    y_System := eqO_ok (cS.ex_at (L := exL) 24 rfl)
    z3_System := of_decide_eq_true (cS.ex_at (L := exL) 21 rfl)
    cl_Kept := He.cls_ok (cS.d.fact 28 (f := .cls "Kept") rfl)
    na_Kept := (fun f hf => eqO_ok (List.all_eq_true.mp (cS.ex_at (L := exL) 25 rfl) f hf))
    y_Kept := eqO_ok (cS.ex_at (L := exL) 26 rfl)
    z3_Kept := of_decide_eq_true (cS.ex_at (L := exL) 27 rfl)
    cl_Ring := He.cls_ok (cS.d.fact 29 (f := .cls "Ring") rfl)
    na_Ring := (fun f hf => eqO_ok (List.all_eq_true.mp (cS.ex_at (L := exL) 28 rfl) f hf))
    y_Ring := eqO_ok (cS.ex_at (L := exL) 29 rfl)
    z3_Ring := of_decide_eq_true (cS.ex_at (L := exL) 30 rfl)
    k_in_Sy := (fun n hn => of_decide_eq_true (List.all_eq_true.mp (cS.ex_at (L := exL) 31 rfl) n hn))
    nf_System := (fun n hn => List.all_eq_true.mp (cS.ex_at (L := exL) 32 rfl) n hn)
    nf2_System := (cS.ex_at (L := exL) 33 rfl)
    k_Sy_Sy := of_decide_eq_true (cS.ex_at (L := exL) 34 rfl)
    k_Ri_Ri := of_decide_eq_true (cS.ex_at (L := exL) 35 rfl)
    k_Ke_Ri := of_decide_eq_true (cS.ex_at (L := exL) 36 rfl)
    i_System := (let ⟨fd, F⟩ := HeM.SaysM.var cS 0 (d := ⟨("System", some "__init__"), "__init__", "System.__init__", defArgs s_System_init, defBody s_System_init, defScope s_System_init, [], []⟩) (st := s_System_init) rfl rfl rfl rfl; ⟨_, fd, F, He.mkr_ok (cS.d.fact 30 (f := .mkr "System") rfl)⟩)
    i_Kept := (let ⟨fd, F⟩ := cS.d.def_ 4 (d := ⟨("Kept", some "__init__"), "__init__", "Kept.__init__", defArgs s_Kept_init, defBody s_Kept_init, defScope s_Kept_init, [], []⟩) rfl; ⟨_, fd, fun_of F, He.mkr_ok (cS.d.fact 31 (f := .mkr "Kept") rfl)⟩)
    i_Ring := (let ⟨fd, F⟩ := cS.d.def_ 5 (d := ⟨("Ring", some "__init__"), "__init__", "Ring.__init__", defArgs s_Ring_init, defBody s_Ring_init, defScope s_Ring_init, [], []⟩) rfl; ⟨_, fd, fun_of F, He.mkr_ok (cS.d.fact 32 (f := .mkr "Ring") rfl)⟩)
    d_System_broken := (let ⟨fd, F⟩ := cS.d.def_ 6 (d := ⟨("System", some "broken"), "broken", "System.broken", defArgs s_System_broken, defBody s_System_broken, defScope s_System_broken, [], []⟩) rfl; ⟨_, fd, fun_of F, He.meth_ok (cS.d.fact 33 (f := .meth "System" "broken") rfl)⟩)
    d_System_eq := (let ⟨fd, F⟩ := cS.d.def_ 7 (d := ⟨("System", some "__eq__"), "__eq__", "System.__eq__", defArgs s_System_eq, defBody s_System_eq, defScope s_System_eq, [], []⟩) rfl; ⟨_, fd, fun_of F, He.meth_ok (cS.d.fact 34 (f := .meth "System" "__eq__") rfl)⟩)
    d_System_len := (let ⟨fd, F⟩ := cS.d.def_ 8 (d := ⟨("System", some "__len__"), "__len__", "System.__len__", defArgs s_System_len, defBody s_System_len, defScope s_System_len, [], []⟩) rfl; ⟨_, fd, fun_of F, He.meth_ok (cS.d.fact 35 (f := .meth "System" "__len__") rfl)⟩)
    d_System_iter := (let ⟨fd, F⟩ := cS.d.def_ 9 (d := ⟨("System", some "__iter__"), "__iter__", "System.__iter__", defArgs s_System_iter, defBody s_System_iter, defScope s_System_iter, [], []⟩) rfl; ⟨_, fd, fun_of F, He.meth_ok (cS.d.fact 36 (f := .meth "System" "__iter__") rfl)⟩)
    d_is_integer := (let ⟨fd, F⟩ := cS.d.def_ 10 (d := ⟨("is_integer", none), "is_integer", "is_integer", defArgs s_is_integer, defBody s_is_integer, defScope s_is_integer, [], []⟩) rfl; ⟨_, fd, fun_of F, (He.glo_ok X G (cS.d.fact 37 (f := .glo "is_integer") rfl))⟩)
    d_is_instant := (let ⟨fd, F⟩ := cS.d.def_ 11 (d := ⟨("is_instant", none), "is_instant", "is_instant", defArgs s_is_instant, defBody s_is_instant, defScope s_is_instant, [], []⟩) rfl; ⟨_, fd, fun_of F, (He.glo_ok X G (cS.d.fact 38 (f := .glo "is_instant") rfl))⟩)
    d_are_times := (let ⟨fd, F⟩ := cS.d.def_ 12 (d := ⟨("are_times", none), "are_times", "are_times", defArgs s_are_times, defBody s_are_times, defScope s_are_times, [], []⟩) rfl; ⟨_, fd, fun_of F, (He.glo_ok X G (cS.d.fact 39 (f := .glo "are_times") rfl))⟩)
    d_link_fault := (let ⟨fd, F⟩ := cS.d.def_ 13 (d := ⟨("link_fault", none), "link_fault", "link_fault", defArgs s_link_fault, defBody s_link_fault, defScope s_link_fault, [], []⟩) rfl; ⟨_, fd, fun_of F, (He.glo_ok X G (cS.d.fact 40 (f := .glo "link_fault") rfl))⟩)
    d_keeps_link := (let ⟨fd, F⟩ := cS.d.def_ 14 (d := ⟨("keeps_link", none), "keeps_link", "keeps_link", defArgs s_keeps_link, defBody s_keeps_link, defScope s_keeps_link, [], []⟩) rfl; ⟨_, fd, fun_of F, (He.glo_ok X G (cS.d.fact 41 (f := .glo "keeps_link") rfl))⟩)
    d_check_instant := (let ⟨fd, F⟩ := cS.d.def_ 15 (d := ⟨("check_instant", none), "check_instant", "check_instant", defArgs s_check_instant, defBody s_check_instant, defScope s_check_instant, [], []⟩) rfl; ⟨_, fd, fun_of F, (He.glo_ok X G (cS.d.fact 42 (f := .glo "check_instant") rfl))⟩)
    d_are_indexes := (let ⟨fd, F⟩ := cS.d.def_ 16 (d := ⟨("are_indexes", none), "are_indexes", "are_indexes", defArgs s_are_indexes, defBody s_are_indexes, defScope s_are_indexes, [], []⟩) rfl; ⟨_, fd, fun_of F, (He.glo_ok X G (cS.d.fact 43 (f := .glo "are_indexes") rfl))⟩)
    d_has_joints := (let ⟨fd, F⟩ := cS.d.def_ 17 (d := ⟨("has_joints", none), "has_joints", "has_joints", defArgs s_has_joints, defBody s_has_joints, defScope s_has_joints, [], []⟩) rfl; ⟨_, fd, fun_of F, (He.glo_ok X G (cS.d.fact 44 (f := .glo "has_joints") rfl))⟩)
    d_sum_of := (let ⟨fd, F⟩ := cS.d.def_ 18 (d := ⟨("sum_of", none), "sum_of", "sum_of", defArgs s_sum_of, defBody s_sum_of, defScope s_sum_of, [], []⟩) rfl; ⟨_, fd, fun_of F, (He.glo_ok X G (cS.d.fact 45 (f := .glo "sum_of") rfl))⟩)
    d_path_fault := (let ⟨fd, F⟩ := cS.d.def_ 19 (d := ⟨("path_fault", none), "path_fault", "path_fault", defArgs s_path_fault, defBody s_path_fault, defScope s_path_fault, [], []⟩) rfl; ⟨_, fd, fun_of F, (He.glo_ok X G (cS.d.fact 46 (f := .glo "path_fault") rfl))⟩)
    d_ring_fault := (let ⟨fd, F⟩ := cS.d.def_ 20 (d := ⟨("ring_fault", none), "ring_fault", "ring_fault", defArgs s_ring_fault, defBody s_ring_fault, defScope s_ring_fault, [], []⟩) rfl; ⟨_, fd, fun_of F, (He.glo_ok X G (cS.d.fact 47 (f := .glo "ring_fault") rfl))⟩)
    d_times_fault := (let ⟨fd, F⟩ := cS.d.def_ 21 (d := ⟨("times_fault", none), "times_fault", "times_fault", defArgs s_times_fault, defBody s_times_fault, defScope s_times_fault, [], []⟩) rfl; ⟨_, fd, fun_of F, (He.glo_ok X G (cS.d.fact 48 (f := .glo "times_fault") rfl))⟩)
    d_ring_behind := (let ⟨fd, F⟩ := cS.d.def_ 22 (d := ⟨("ring_behind", none), "ring_behind", "ring_behind", defArgs s_ring_behind, defBody s_ring_behind, defScope s_ring_behind, [], []⟩) rfl; ⟨_, fd, fun_of F, (He.glo_ok X G (cS.d.fact 49 (f := .glo "ring_behind") rfl))⟩)
    d_settle := (let ⟨fd, F⟩ := cS.d.def_ 23 (d := ⟨("settle", none), "settle", "settle", defArgs s_settle, defBody s_settle, defScope s_settle, [], []⟩) rfl; ⟨_, fd, fun_of F, (He.glo_ok X G (cS.d.fact 50 (f := .glo "settle") rfl))⟩)
    d_settled_from := (let ⟨fd, F⟩ := cS.d.def_ 24 (d := ⟨("settled_from", none), "settled_from", "settled_from", defArgs s_settled_from, defBody s_settled_from, defScope s_settled_from, [], []⟩) rfl; ⟨_, fd, fun_of F, (He.glo_ok X G (cS.d.fact 51 (f := .glo "settled_from") rfl))⟩)
    d_solved := (let ⟨fd, F⟩ := cS.d.def_ 25 (d := ⟨("solved", none), "solved", "solved", defArgs s_solved, defBody s_solved, defScope s_solved, [], []⟩) rfl; ⟨_, fd, fun_of F, (He.glo_ok X G (cS.d.fact 52 (f := .glo "solved") rfl))⟩)
    d_kept_times := (let ⟨fd, F⟩ := cS.d.def_ 26 (d := ⟨("kept_times", none), "kept_times", "kept_times", defArgs s_kept_times, defBody s_kept_times, defScope s_kept_times, [], []⟩) rfl; ⟨_, fd, fun_of F, (He.glo_ok X G (cS.d.fact 53 (f := .glo "kept_times") rfl))⟩)
    d_solved_fault := (let ⟨fd, F⟩ := cS.d.def_ 27 (d := ⟨("solved_fault", none), "solved_fault", "solved_fault", defArgs s_solved_fault, defBody s_solved_fault, defScope s_solved_fault, [], []⟩) rfl; ⟨_, fd, fun_of F, (He.glo_ok X G (cS.d.fact 54 (f := .glo "solved_fault") rfl))⟩)
    d_path_back := (let ⟨fd, F⟩ := cS.d.def_ 28 (d := ⟨("path_back", none), "path_back", "path_back", defArgs s_path_back, defBody s_path_back, defScope s_path_back, [], []⟩) rfl; ⟨_, fd, fun_of F, (He.glo_ok X G (cS.d.fact 55 (f := .glo "path_back") rfl))⟩)
    d_completed := (let ⟨fd, F⟩ := cS.d.def_ 29 (d := ⟨("completed", none), "completed", "completed", defArgs s_completed, defBody s_completed, defScope s_completed, [], []⟩) rfl; ⟨_, fd, fun_of F, (He.glo_ok X G (cS.d.fact 56 (f := .glo "completed") rfl))⟩)
    d_greatest := (let ⟨fd, F⟩ := cS.d.def_ 30 (d := ⟨("greatest", none), "greatest", "greatest", defArgs s_greatest, defBody s_greatest, defScope s_greatest, [], []⟩) rfl; ⟨_, fd, fun_of F, (He.glo_ok X G (cS.d.fact 57 (f := .glo "greatest") rfl))⟩)
    d_apart_fault := (let ⟨fd, F⟩ := cS.d.def_ 31 (d := ⟨("apart_fault", none), "apart_fault", "apart_fault", defArgs s_apart_fault, defBody s_apart_fault, defScope s_apart_fault, [], []⟩) rfl; ⟨_, fd, fun_of F, (He.glo_ok X G (cS.d.fact 58 (f := .glo "apart_fault") rfl))⟩)
    d_greatest_fault := (let ⟨fd, F⟩ := cS.d.def_ 32 (d := ⟨("greatest_fault", none), "greatest_fault", "greatest_fault", defArgs s_greatest_fault, defBody s_greatest_fault, defScope s_greatest_fault, [], []⟩) rfl; ⟨_, fd, fun_of F, (He.glo_ok X G (cS.d.fact 59 (f := .glo "greatest_fault") rfl))⟩)
    d_times_with := (let ⟨fd, F⟩ := cS.d.def_ 33 (d := ⟨("times_with", none), "times_with", "times_with", defArgs s_times_with, defBody s_times_with, defScope s_times_with, [], []⟩) rfl; ⟨_, fd, fun_of F, (He.glo_ok X G (cS.d.fact 60 (f := .glo "times_with") rfl))⟩)
    d_spans := (let ⟨fd, F⟩ := cS.d.def_ 34 (d := ⟨("spans", none), "spans", "spans", defArgs s_spans, defBody s_spans, defScope s_spans, [], []⟩) rfl; ⟨_, fd, fun_of F, (He.glo_ok X G (cS.d.fact 61 (f := .glo "spans") rfl))⟩)
    d_bag := (let ⟨fd, F⟩ := cS.d.def_ 35 (d := ⟨("_law_bag", none), "_law_bag", "_law_bag", defArgs s_bag, defBody s_bag, defScope s_bag, [], []⟩) rfl; ⟨_, fd, fun_of F, (He.glo_ok X G (cS.d.fact 62 (f := .glo "_law_bag") rfl))⟩)
    d_take := (let ⟨fd, F⟩ := cS.d.def_ 36 (d := ⟨("_law_take", none), "_law_take", "_law_take", defArgs s_take, defBody s_take, defScope s_take, [], []⟩) rfl; ⟨_, fd, fun_of F, (He.glo_ok X G (cS.d.fact 63 (f := .glo "_law_take") rfl))⟩)
    d_of := (let ⟨fd, F⟩ := cS.d.def_ 37 (d := ⟨("_law_of", none), "_law_of", "_law_of", defArgs s_of, defBody s_of, defScope s_of, [], []⟩) rfl; ⟨_, fd, fun_of F, (He.glo_ok X G (cS.d.fact 64 (f := .glo "_law_of") rfl))⟩)
    d_amount := (let ⟨fd, F⟩ := cS.d.def_ 38 (d := ⟨("_law_amount", none), "_law_amount", "_law_amount", defArgs s_amount, defBody s_amount, defScope s_amount, [], []⟩) rfl; ⟨_, fd, fun_of F, (He.glo_ok X G (cS.d.fact 65 (f := .glo "_law_amount") rfl))⟩)
    d_times := (let ⟨fd, F⟩ := cS.d.def_ 39 (d := ⟨("_law_times", none), "_law_times", "_law_times", defArgs s_times, defBody s_times, defScope s_times, [], []⟩) rfl; ⟨_, fd, fun_of F, (He.glo_ok X G (cS.d.fact 66 (f := .glo "_law_times") rfl))⟩)
    d_links := (let ⟨fd, F⟩ := cS.d.def_ 40 (d := ⟨("_law_links", none), "_law_links", "_law_links", defArgs s_links, defBody s_links, defScope s_links, [], []⟩) rfl; ⟨_, fd, fun_of F, (He.glo_ok X G (cS.d.fact 67 (f := .glo "_law_links") rfl))⟩)
    d_is_whole := (let ⟨fd, F⟩ := cS.d.def_ 41 (d := ⟨("_law_is_whole", none), "_law_is_whole", "_law_is_whole", defArgs s_is_whole, defBody s_is_whole, defScope s_is_whole, [], []⟩) rfl; ⟨_, fd, fun_of F, (He.glo_ok X G (cS.d.fact 68 (f := .glo "_law_is_whole") rfl))⟩)
    d_L_are_times := (let ⟨fd, F⟩ := cS.d.def_ 42 (d := ⟨("_law_are_times", none), "_law_are_times", "_law_are_times", defArgs s_L_are_times, defBody s_L_are_times, defScope s_L_are_times, [], []⟩) rfl; ⟨_, fd, fun_of F, (He.glo_ok X G (cS.d.fact 69 (f := .glo "_law_are_times") rfl))⟩)
    d_keep := (let ⟨fd, F⟩ := cS.d.def_ 43 (d := ⟨("_law_keep", none), "_law_keep", "_law_keep", defArgs s_keep, defBody s_keep, defScope s_keep, [], []⟩) rfl; ⟨_, fd, fun_of F, (He.glo_ok X G (cS.d.fact 70 (f := .glo "_law_keep") rfl))⟩)
    d_leads := (let ⟨fd, F⟩ := cS.d.def_ 44 (d := ⟨("_law_leads", none), "_law_leads", "_law_leads", defArgs s_leads, defBody s_leads, defScope s_leads, [], []⟩) rfl; ⟨_, fd, fun_of F, (He.glo_ok X G (cS.d.fact 71 (f := .glo "_law_leads") rfl))⟩)
    d_sum := (let ⟨fd, F⟩ := cS.d.def_ 45 (d := ⟨("_law_sum", none), "_law_sum", "_law_sum", defArgs s_sum, defBody s_sum, defScope s_sum, [], []⟩) rfl; ⟨_, fd, fun_of F, (He.glo_ok X G (cS.d.fact 72 (f := .glo "_law_sum") rfl))⟩)
    d_bars := (let ⟨fd, F⟩ := cS.d.def_ 46 (d := ⟨("_law_bars", none), "_law_bars", "_law_bars", defArgs s_bars, defBody s_bars, defScope s_bars, [], []⟩) rfl; ⟨_, fd, fun_of F, (He.glo_ok X G (cS.d.fact 73 (f := .glo "_law_bars") rfl))⟩)
    d_reached := (let ⟨fd, F⟩ := cS.d.def_ 47 (d := ⟨("_law_reached", none), "_law_reached", "_law_reached", defArgs s_reached, defBody s_reached, defScope s_reached, [], []⟩) rfl; ⟨_, fd, fun_of F, (He.glo_ok X G (cS.d.fact 74 (f := .glo "_law_reached") rfl))⟩)
    d_barred := (let ⟨fd, F⟩ := cS.d.def_ 48 (d := ⟨("_law_barred", none), "_law_barred", "_law_barred", defArgs s_barred, defBody s_barred, defScope s_barred, [], []⟩) rfl; ⟨_, fd, fun_of F, (He.glo_ok X G (cS.d.fact 75 (f := .glo "_law_barred") rfl))⟩)
    d_no_instant := (let ⟨fd, F⟩ := cS.d.def_ 49 (d := ⟨("_law_no_instant", none), "_law_no_instant", "_law_no_instant", defArgs s_no_instant, defBody s_no_instant, defScope s_no_instant, [], []⟩) rfl; ⟨_, fd, fun_of F, (He.glo_ok X G (cS.d.fact 76 (f := .glo "_law_no_instant") rfl))⟩)
    d_impossible := (let ⟨fd, F⟩ := cS.d.def_ 50 (d := ⟨("_law_impossible", none), "_law_impossible", "_law_impossible", defArgs s_impossible, defBody s_impossible, defScope s_impossible, [], []⟩) rfl; ⟨_, fd, fun_of F, (He.glo_ok X G (cS.d.fact 77 (f := .glo "_law_impossible") rfl))⟩)
    d_has := (let ⟨fd, F⟩ := cS.d.def_ 51 (d := ⟨("_law_has", none), "_law_has", "_law_has", defArgs s_has, defBody s_has, defScope s_has, [], []⟩) rfl; ⟨_, fd, fun_of F, (He.glo_ok X G (cS.d.fact 78 (f := .glo "_law_has") rfl))⟩)
    d_is_greatest := (let ⟨fd, F⟩ := cS.d.def_ 52 (d := ⟨("_law_is_greatest", none), "_law_is_greatest", "_law_is_greatest", defArgs s_is_greatest, defBody s_is_greatest, defScope s_is_greatest, [], []⟩) rfl; ⟨_, fd, fun_of F, (He.glo_ok X G (cS.d.fact 79 (f := .glo "_law_is_greatest") rfl))⟩)
    d_between := (let ⟨fd, F⟩ := cS.d.def_ 53 (d := ⟨("_law_between", none), "_law_between", "_law_between", defArgs s_between, defBody s_between, defScope s_between, [], []⟩) rfl; ⟨_, fd, fun_of F, (He.glo_ok X G (cS.d.fact 80 (f := .glo "_law_between") rfl))⟩)
    d_end := (let ⟨fd, F⟩ := cS.d.def_ 54 (d := ⟨("_law_end", none), "_law_end", "_law_end", defArgs s_end, defBody s_end, defScope s_end, [], []⟩) rfl; ⟨_, fd, fun_of F, (He.glo_ok X G (cS.d.fact 81 (f := .glo "_law_end") rfl))⟩)
    d_pair := (let ⟨fd, F⟩ := cS.d.def_ 55 (d := ⟨("_law_pair", none), "_law_pair", "_law_pair", defArgs s_pair, defBody s_pair, defScope s_pair, [], []⟩) rfl; ⟨_, fd, fun_of F, (He.glo_ok X G (cS.d.fact 82 (f := .glo "_law_pair") rfl))⟩)
    d_path_due := (let ⟨fd, F⟩ := cS.d.def_ 56 (d := ⟨("_law_path_due", none), "_law_path_due", "_law_path_due", defArgs s_path_due, defBody s_path_due, defScope s_path_due, [], []⟩) rfl; ⟨_, fd, fun_of F, (He.glo_ok X G (cS.d.fact 83 (f := .glo "_law_path_due") rfl))⟩)
    d_times_due := (let ⟨fd, F⟩ := cS.d.def_ 57 (d := ⟨("_law_times_due", none), "_law_times_due", "_law_times_due", defArgs s_times_due, defBody s_times_due, defScope s_times_due, [], []⟩) rfl; ⟨_, fd, fun_of F, (He.glo_ok X G (cS.d.fact 84 (f := .glo "_law_times_due") rfl))⟩)
    d_greatest_due := (let ⟨fd, F⟩ := cS.d.def_ 58 (d := ⟨("_law_greatest_due", none), "_law_greatest_due", "_law_greatest_due", defArgs s_greatest_due, defBody s_greatest_due, defScope s_greatest_due, [], []⟩) rfl; ⟨_, fd, fun_of F, (He.glo_ok X G (cS.d.fact 85 (f := .glo "_law_greatest_due") rfl))⟩)
    d_endless_due := (let ⟨fd, F⟩ := cS.d.def_ 59 (d := ⟨("_law_endless_due", none), "_law_endless_due", "_law_endless_due", defArgs s_endless_due, defBody s_endless_due, defScope s_endless_due, [], []⟩) rfl; ⟨_, fd, fun_of F, (He.glo_ok X G (cS.d.fact 86 (f := .glo "_law_endless_due") rfl))⟩)
    d_bent := (let ⟨fd, F⟩ := cS.d.def_ 60 (d := ⟨("_law_bent", none), "_law_bent", "_law_bent", defArgs s_bent, defBody s_bent, defScope s_bent, [], []⟩) rfl; ⟨_, fd, fun_of F, (He.glo_ok X G (cS.d.fact 87 (f := .glo "_law_bent") rfl))⟩)
    d_judged := (let ⟨fd, F⟩ := cS.d.def_ 61 (d := ⟨("_law_judged", none), "_law_judged", "_law_judged", defArgs s_judged, defBody s_judged, defScope s_judged, [], []⟩) rfl; ⟨_, fd, fun_of F, (He.glo_ok X G (cS.d.fact 88 (f := .glo "_law_judged") rfl))⟩)
    d_errors := (let ⟨fd, F⟩ := cS.d.def_ 62 (d := ⟨("_law_errors", none), "_law_errors", "_law_errors", defArgs s_errors, defBody s_errors, defScope s_errors, [], []⟩) rfl; ⟨_, fd, fun_of F, (He.glo_ok X G (cS.d.fact 89 (f := .glo "_law_errors") rfl))⟩)
    d_law := (let ⟨fd, F⟩ := cS.d.def_ 63 (d := ⟨("law", none), "law", "law", defArgs s_law, defBody s_law, defScope s_law, [], []⟩) rfl; ⟨_, fd, fun_of F, (He.glo_ok X G (cS.d.fact 90 (f := .glo "law") rfl))⟩)
    xf_NoInstant_instant := eqO_ok (cS.ex_at (L := exL) 37 rfl)
    xf_NoTimes_path := eqO_ok (cS.ex_at (L := exL) 38 rfl)
    is_NoInstant := of_decide_eq_true (cS.ex_at (L := exL) 39 rfl)
    is_NoTimes := of_decide_eq_true (cS.ex_at (L := exL) 40 rfl)
    cl_Greatest := He.cls_ok (cS.d.fact 91 (f := .cls "Greatest") rfl)
    na_Greatest := (fun f hf => eqO_ok (List.all_eq_true.mp (cS.ex_at (L := exL) 41 rfl) f hf))
    y_Greatest := eqO_ok (cS.ex_at (L := exL) 42 rfl)
    z3_Greatest := of_decide_eq_true (cS.ex_at (L := exL) 43 rfl)
    cl_Endless := He.cls_ok (cS.d.fact 92 (f := .cls "Endless") rfl)
    na_Endless := (fun f hf => eqO_ok (List.all_eq_true.mp (cS.ex_at (L := exL) 44 rfl) f hf))
    y_Endless := eqO_ok (cS.ex_at (L := exL) 45 rfl)
    z3_Endless := of_decide_eq_true (cS.ex_at (L := exL) 46 rfl)
    i_Greatest := (let ⟨fd, F⟩ := cS.d.def_ 64 (d := ⟨("Greatest", some "__init__"), "__init__", "Greatest.__init__", defArgs s_Greatest_init, defBody s_Greatest_init, defScope s_Greatest_init, [], []⟩) rfl; ⟨_, fd, fun_of F, He.mkr_ok (cS.d.fact 93 (f := .mkr "Greatest") rfl)⟩)
    i_Endless := (let ⟨fd, F⟩ := cS.d.def_ 65 (d := ⟨("Endless", some "__init__"), "__init__", "Endless.__init__", defArgs s_Endless_init, defBody s_Endless_init, defScope s_Endless_init, [], []⟩) rfl; ⟨_, fd, fun_of F, He.mkr_ok (cS.d.fact 94 (f := .mkr "Endless") rfl)⟩)
    k_Gr_En := of_decide_eq_true (cS.ex_at (L := exL) 47 rfl)
    k_En_En := of_decide_eq_true (cS.ex_at (L := exL) 48 rfl)
    k_Gr_Gr := of_decide_eq_true (cS.ex_at (L := exL) 49 rfl)
    k_En_Gr := of_decide_eq_true (cS.ex_at (L := exL) 50 rfl)
    k_Ke_Ke := of_decide_eq_true (cS.ex_at (L := exL) 51 rfl)
    k_Ri_Ke := of_decide_eq_true (cS.ex_at (L := exL) 52 rfl)
    z1 := eqO_ok (ba hz).1
    z2 := of_decide_eq_true (ba hz).2 }
theorem law_end {w : World} {K : PySem.W.Frag} {h : Heap} {mg : Str → Option Value} {fa : Addr} (X : K.In h) (G : h.Ns mainGlobals mg) (hfa : mg ("law" : Str) = some (.ref fa)) (c : HeM.SaysM lawFile faL fnL iniL prpL tsL exB w K) :
    ∃ fd : FuncData, (∀ (s : Shared) (v : Value), BindsTo s fd ⟨[v], []⟩ [("_law_script", v)]) ∧ ∀ base : Heap, K.In base → base.Ns mainGlobals mg → FnOk Rw.prog w K mg base CX0 10 fa fd ["_law_script"] (spLaw K) := by
  have T : Txt Rw.prog w K mg (fun s => ga K (Str.ofString s)) := txt_mk X G rfl c (by decide +kernel)
  obtain ⟨f, fd, F, m⟩ := T.d_law
  have e := hfa.symm.trans m
  cases e
  exact ⟨fd, fun s v => Fun.bindsA1 F (fun _ _ _ _ _ _ us hl => match us, hl with | [_], _ => rfl) s v, fun base _ _ => ok_law F T⟩
end My
open PySem PySem.W PySem.Calls PyProof.Rows
set_option maxHeartbeats 0 in
theorem PySem.Challenge.cw_lastlife_k35_whole_greatest_differences_holds : PySem.Challenge.rw_lastlife_k35_whole_greatest_differences.Holds := by
  w_on; o_law
  refine HandSHeadRun.head_any (r := My.Rw) (q := view My.Rw.prog [71]) (H := My.hkM) (ob := My.obM) (M := 12000) (loose := My.looseL) (d := HandSHeadRun.topDef My.Rw.prog 71) (kwd := []) My.obM_eq
    (by kernel_rfl) (fun s => by kernel_rfl) My.runM (by kernel_rfl) (by kernel_rfl) (by kernel_rfl) (by rfl) (by first | assumption | decide +kernel) (by decide +kernel) ⟨rfl, rfl, rfl, rfl, rfl, by decide +kernel⟩ ?hw ?hc
  case hw => w_witness2
  case hc =>
    refine L2.walk_ofE (l := PySem.Challenge.rw_lastlife_k35_whole_greatest_differences) (n := 63) (k := 10) (x := "_law_script") (CX := L2.CX0) rfl (by decide) (by kernel_rfl) ⟨rfl, by decide, by decide⟩ ?F (fun _ _ _ _ z => z)
    intro w mg fa h Y G hmg0
    obtain ⟨K, KX, c⟩ := Y
    have hmg : mg ("law" : PySem.Str) = some (.ref fa) := by
      have e : (HandSHeadRun.topDef My.Rw.prog 71).name = ("law" : PySem.Str) := by kernel_rfl
      rw [← e]
      exact hmg0
    obtain ⟨fd, hb, hF⟩ := My.law_end (w := w) KX G hmg c
    exact ⟨K, fd, My.spLaw K, KX, hb, fun H a ns hl _ hS => ⟨a, ns, rfl, hS, hl, fun _ => rfl⟩, hF⟩
