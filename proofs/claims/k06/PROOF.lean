import PyProof.Rows.All
import Wide.All
import OpenK.AllK
import Wide.FinOn
import HandS.ForMost
import HandS.ForExc
import HandS.MakeKwOnly
import HandS.ExcOwn
import HandS.Codes
import HandS.IsInst
import HandS.Style
import HandS.Flow
import HandS.ExcInit
import KE.KExcSuper
import HandS.ExcIs
import HandS.ExcField
import HandS.ClsMeth
import HandS.ExcValue
import HandS.Base
import HandS.Call
import HandS.Exc
import HandS.List
import KE.KSuper
import KE.KStateDown
import HandS.Ends
import HandS.More
import HandS.Words
import HandS.WordsExc
import HandS.Defaults
import HandS.Head0
import HandS.Head1
import HandS.Head2
import HandS.HeadEnd
import HandS.HeadHook1
import HandS.HeadHook2
import HandS.HeadHook3
import HandS.Property
import HandS.OwnEq
import KE.KOwnIter
import HandS.IterVal
import PyProof.InstSpecial
import HandS.Walk
import KE.GoesEnum
import HandS.TupLe
import HandS.TupAny
import HandS.SetKeys
import HandS.Strs
import HandS.Text
import HandS.Deep
import KE.KSortTupAny
import KE.KSortKey
import HandS.SortKw
import HandS.Keys
import PySem.Challenge.RW_lastlife_k06_whole_facts_have_one_order
import HandS.Star
set_option Elab.async false
set_option linter.all false
set_option maxRecDepth 100000
set_option maxHeartbeats 4000000
/-! the draws: an object of six entries -/
namespace Dw
open PySem L2
/-- the entries of the draws -/
def drK (c : Addr) (nx dg rs sd tn : Int) : List (Key × V) :=
  [(.inr "cells", .ref c), (.inr "next", .int nx), (.inr "digits", .int dg), (.inr "rest", .int rs), (.inr "seed", .int sd), (.inr "turn", .int tn)]
section
variable {c : Addr} {nx dg rs sd tn y : Int}
theorem g_cells : valV (drK c nx dg rs sd tn) (.inr "cells") = some (.ref c) := rfl
theorem g_next : valV (drK c nx dg rs sd tn) (.inr "next") = some (.int nx) := rfl
theorem g_digits : valV (drK c nx dg rs sd tn) (.inr "digits") = some (.int dg) := rfl
theorem g_rest : valV (drK c nx dg rs sd tn) (.inr "rest") = some (.int rs) := rfl
theorem g_seed : valV (drK c nx dg rs sd tn) (.inr "seed") = some (.int sd) := rfl
theorem g_turn : valV (drK c nx dg rs sd tn) (.inr "turn") = some (.int tn) := rfl
theorem p_next : putK (drK c nx dg rs sd tn) (.inr "next") (.int y) = drK c y dg rs sd tn := rfl
theorem p_digits : putK (drK c nx dg rs sd tn) (.inr "digits") (.int y) = drK c nx y rs sd tn := rfl
theorem p_rest : putK (drK c nx dg rs sd tn) (.inr "rest") (.int y) = drK c nx dg y sd tn := rfl
theorem p_seed : putK (drK c nx dg rs sd tn) (.inr "seed") (.int y) = drK c nx dg rs y tn := rfl
theorem p_turn : putK (drK c nx dg rs sd tn) (.inr "turn") (.int y) = drK c nx dg rs sd y := rfl
end
/-- the draws at d, their cells at c -/
def Dr (H : Hp) (d c : Addr) : Prop := d ≠ c ∧ ∃ (ns : List Int) (nx dg rs sd tn : Int), H d = some (.dK (drK c nx dg rs sd tn)) ∧ H c = some (.lst (ns.map V.int)) ∧ ns.length ≤ 63 ∧ 0 ≤ nx
theorem Dr.keep {H H' : Hp} {d c : Addr} (x : Dr H d c) (kd : ∀ o, H d = some o → H' d = some o) (kc : ∀ o, H c = some o → H' c = some o) : Dr H' d c := by
  obtain ⟨n, ns, nx, dg, rs, sd, tn, h1, h2, h3, h4⟩ := x
  exact ⟨n, ns, nx, dg, rs, sd, tn, kd _ h1, kc _ h2, h3, h4⟩
theorem Dr.same {H H' : Hp} {d c : Addr} (x : Dr H d c) (k : Same H H') : Dr H' d c := x.keep (k d) (k c)
theorem Dr.upd {H : Hp} {d c a : Addr} {o : HO} (x : Dr H d c) (h1 : d ≠ a) (h2 : c ≠ a) : Dr (upd H a o) d c := x.keep (fun o e => by rw [upd_ne h1]; exact e) (fun o e => by rw [upd_ne h2]; exact e)
theorem Dr.new {H : Hp} {d c a : Addr} {o : HO} (x : Dr H d c) (h : H a = none) : Dr (L2.upd H a o) d c := by
  obtain ⟨n, ns, nx, dg, rs, sd, tn, h1, h2, h3, h4⟩ := id x
  exact x.upd (ne_of_none h1 h) (ne_of_none h2 h)
theorem Dr.ne {H : Hp} {d c a : Addr} (x : Dr H d c) (h : H a = none) : d ≠ a ∧ c ≠ a := by
  obtain ⟨n, ns, nx, dg, rs, sd, tn, h1, h2, h3, h4⟩ := id x
  exact ⟨ne_of_none h1 h, ne_of_none h2 h⟩
/-- all but the object at d is as it was -/
def But (d : Addr) (H H' : Hp) : Prop := ∀ b o, H b = some o → b ≠ d → H' b = some o
theorem But.refl (d : Addr) (H : Hp) : But d H H := fun _ _ h _ => h
theorem But.trans {d : Addr} {H H1 H2 : Hp} (a : But d H H1) (b : But d H1 H2) : But d H H2 := fun c o h n => b c o (a c o h n) n
theorem But.of {d : Addr} {H H1 : Hp} (a : Same H H1) : But d H H1 := fun c o h _ => a c o h
theorem But.upd (d : Addr) (H : Hp) (o : HO) : But d H (L2.upd H d o) := fun c u h n => by rw [upd_ne n]; exact h
theorem But.free {d a : Addr} {H H1 : Hp} (x : But d H H1) (hd : ∀ o, H1 d = some o → True) (h : H1 a = none) (n : a ≠ d) : H a = none := by
  cases e : H a with
  | none => rfl
  | some o => rw [x a o e n] at h; cases h
/-- a draw: a number from 0 to many - 1; nothing but the draws changes -/
def spNext : Sp := fun vs H Q _ => ∃ (d c : Addr) (many : Int), vs = [.ref d, .int many] ∧ Dr H d c ∧ 1 ≤ many ∧ many < 1073741824 ∧
  ∀ (k : Int) (H' : Hp), 0 ≤ k → k < many → Dr H' d c → But d H H' → Q (.int k) H'
/-- the draws of a script -/
def spDigits (K : PySem.W.Frag) : Sp := fun vs H Q _ => ∃ (a : Addr) (ns : List Int) (many : V), vs = [.ref a, many] ∧ SqL K H a (ns.map V.int) ∧ ns.length ≤ 63 ∧
  ∀ (d c : Addr) (H' : Hp), H d = none → H c = none → Dr H' d c → Same H H' → Q (.ref d) H'
theorem dgs {H : Hp} {a : Addr} {kvs : List (Key × V)} {x : Str} {v : V} (e : H a = some (.dK kvs)) (h : valV kvs (.inr x) = some v) : DGet H a (.str x) (some v) := by
  have q := DGet.k (k := .inr x) e
  rw [h] at q
  exact q
theorem dps {H : Hp} {a : Addr} {kvs kvs' : List (Key × V)} {x : Str} {v : V} (e : H a = some (.dK kvs)) (h : putK kvs (.inr x) v = kvs') (hl : kvs.length < sizeLine) : DPut H a (.str x) v (upd H a (.dK kvs')) := by
  have q := DPut.k (k := .inr x) (v := v) e hl
  rw [h] at q
  exact q
theorem dpu {H : Hp} {a : Addr} {kvs kvs' : List (Key × V)} {x : Str} {v : V} (h : putK kvs (.inr x) v = kvs') (hl : kvs.length < sizeLine) : DPut (upd H a (.dK kvs)) a (.str x) v (upd H a (.dK kvs')) := by
  have q := dps (H := upd H a (.dK kvs)) (a := a) upd_same h hl
  rw [upd_upd] at q
  exact q
theorem dr_len {c : Addr} {nx dg rs sd tn : Int} : (drK c nx dg rs sd tn).length < sizeLine := by show 6 < sizeLine; decide
end Dw
set_option Elab.async false
set_option linter.all false
set_option maxRecDepth 100000
set_option maxHeartbeats 4000000
/-! new instances and methods whose error is wished for at the caller's slots -/
namespace L2
open PySem PySem.Spec PyProof.Rows
/-- C(..), C(.., k = v, ..), o.m(..): what is raised is wished for at σ -/
def tMakeS (C : Addr) (sp : Sp) (dvs : List V) (E : St → XK) (t : TA) : TE := fun σ H Q => t σ H fun vs H1 => ∀ x dx, H1 x = none → H1 dx = none → dx ≠ x →
  sp (.ref x :: (vs ++ dvs)) (upd (upd H1 dx (.own x)) x (.ins C dx [])) (fun v H2 => v = .non ∧ Q (.ref x) H2) (E σ)
def tMakeKS (C : Addr) (n m : Nat) (sp : Sp) (gV : List V → List V → List V) (E : St → XK) (t tk : TA) : TE := fun σ H Q => t σ H fun vs H1 => tk σ H1 fun zs H2 => vs.length = n ∧ zs.length = m ∧ ∀ x dx, H2 x = none → H2 dx = none → dx ≠ x →
  sp (gV (.ref x :: vs) zs) (upd (upd H2 dx (.own x)) x (.ins C dx [])) (fun v H3 => v = .non ∧ Q (.ref x) H3) (E σ)
def tMethSA (C : Addr) (m : Str) (sp : Sp) (dvs : List V) (E : St → XK) (ta : TE) (t : TA) : TE := fun σ H Q => ta σ H fun x H1 => ∃ a dx fs, x = .ref a ∧ H1 a = some (.ins C dx fs) ∧ fs.lookup m = none ∧
  t σ H1 fun vs H2 => sp (x :: (vs ++ dvs)) H2 Q (E σ)
section
variable {X : Cx} {CX : CXT} {k n : Nat} {f C : Addr} {fd : FuncData} {ps ks : List Str} {sp : Sp} {E : St → XK} {x m : Str} {p pos apos : Pos} {e o : Expr} {es : List Expr} {kws : List Keyword} {ta : TE} {t tk : TA} {ds : List Value} {dvs : List V} {g : List Value → List Value → List Value} {gV : List V → List V → List V}
theorem mk_back {pins : List (Addr × Obj)} {σ : St} {H : Hp} {s s' : Shared} {Q : VK} {r : Result} {E1 : XK} {a : Addr} (hx : PassesAt CX X σ E1) (I2 : Inv X pins σ H s)
    (hq : CR CX X.stack X.prog X.w H s (fun v H3 => v = .non ∧ Q (.ref a) H3) E1 r s') :
    PySem.W.InitBack a (fun r s' => match r with | .ok (.ret u) => EP X pins σ Q u s' | .ok _ => False | .error e => X.xe e s') r s' := by
  cases r with
  | error e => exact hx pins H s e s' I2 hq
  | ok fl =>
    cases fl with
    | ret u =>
      obtain ⟨v, H', I3, rv, ev, q3⟩ := I2.after hq
      subst ev
      exact ⟨rv, V.ref a, H', I3, rfl, q3⟩
    | next => exact hq.elim
    | brk => exact hq.elim
    | cont => exact hq.elim
theorem run_makeS {pins : List (Addr × Obj)} {σ : St} {H : Hp} {s : Shared} {Q : VK} {us : List Value} {vs : List V} (M : Mk X.K C f) (F : FnOk X.prog X.w X.K X.mg X.base CX k f fd ps sp) (hr : Room (k + 1) X.A) (hb : Binds X.K fd ps ds) (hd : Vals dvs ds)
    (hx : PassesAt CX X σ (E σ)) (I : Inv X pins σ H s) (r : Vals vs us)
    (h : ∀ x dx, H x = none → H dx = none → dx ≠ x → sp (.ref x :: (vs ++ dvs)) (upd (upd H dx (.own x)) x (.ins C dx [])) (fun v H2 => v = .non ∧ Q (.ref x) H2) (E σ)) :
    wpAny (model X.prog X.w) X.A (call (.ref C) us) (EP X pins σ Q) X.xe s := by
  have q0 := h (s.heap.objs.size + 1) s.heap.objs.size (I.hok.fresh (Nat.le_succ _)) (I.hok.fresh (Nat.le_refl _)) (Nat.ne_of_lt (Nat.lt_succ_self _))
  have J := Inv.made (C := C) I
  have rr : Vals (V.ref (s.heap.objs.size + 1) :: (vs ++ dvs)) (Value.ref (s.heap.objs.size + 1) :: (us ++ ds)) := .cons rfl (r.append hd)
  have hl : (Value.ref (s.heap.objs.size + 1) :: us ++ ds).length = ps.length := (rr.length.symm.trans (F.len _ _ _ _ q0))
  exact wpAny_call (make_map (f := f) I.kIn M.makes M.init (beq_iff_eq.mp M.fn) (codeAny_mono (F.run _ X.stack _ _ ⟨Value.ref (s.heap.objs.size + 1) :: us, []⟩ (Value.ref (s.heap.objs.size + 1) :: (us ++ ds)) _ _ (E σ) (hr.make C us [])
    (J.env0.make C us []) (hb _ (Value.ref (s.heap.objs.size + 1) :: us) J.kIn hl) rr q0) fun r s' q => mk_back hx J q))
theorem run_makeKS {pins : List (Addr × Obj)} {σ : St} {H : Hp} {s : Shared} {Q : VK} {us ws : List Value} {vs zs : List V} (M : Mk X.K C f) (F : FnOk X.prog X.w X.K X.mg X.base CX k f fd ps sp) (hr : Room (k + 1) X.A) (hb : KBn X.K fd ps (n + 1) ks g gV) (hx : PassesAt CX X σ (E σ))
    (I : Inv X pins σ H s) (r : Vals vs us) (rz : Vals zs ws) (l1 : vs.length = n) (l2 : zs.length = ks.length)
    (h : ∀ x dx, H x = none → H dx = none → dx ≠ x → sp (gV (.ref x :: vs) zs) (upd (upd H dx (.own x)) x (.ins C dx [])) (fun v H2 => v = .non ∧ Q (.ref x) H2) (E σ)) :
    wpAny (model X.prog X.w) X.A (call (.ref C) us (ks.zip ws)) (EP X pins σ Q) X.xe s := by
  have q0 := h (s.heap.objs.size + 1) s.heap.objs.size (I.hok.fresh (Nat.le_succ _)) (I.hok.fresh (Nat.le_refl _)) (Nat.ne_of_lt (Nat.lt_succ_self _))
  have J := Inv.made (C := C) I
  have rr := hb.rel (show Vals (V.ref (s.heap.objs.size + 1) :: vs) (Value.ref (s.heap.objs.size + 1) :: us) from .cons rfl r) rz
  have n1 : (Value.ref (s.heap.objs.size + 1) :: us).length = n + 1 := congrArg Nat.succ (r.length.symm.trans l1)
  exact wpAny_call (make_map (f := f) I.kIn M.makes M.init (beq_iff_eq.mp M.fn) (codeAny_mono (F.run _ X.stack _ _ ⟨Value.ref (s.heap.objs.size + 1) :: us, ks.zip ws⟩ (g (Value.ref (s.heap.objs.size + 1) :: us) ws) _ _ (E σ) (hr.make C us (ks.zip ws))
    (J.env0.make C us (ks.zip ws)) (hb.to _ (Value.ref (s.heap.objs.size + 1) :: us) ws J.kIn n1 (rz.length.symm.trans l2)) rr q0) fun r s' q => mk_back hx J q))
/-- C(e, ..) -/
theorem pe_makeS (M : Mk X.K C f) (F : FnOk X.prog X.w X.K X.mg X.base CX k f fd ps sp) (hr : Room (k + 1) X.A) (hg : Gl X x) (hm : X.mg x = some (.ref C)) (hb : Binds X.K fd ps ds) (hd : Vals dvs ds) (hx : ∀ σ, PassesAt CX X σ (E σ)) (ha : PA X (e :: es) t)
    (hdb : (x == ("__debug__" : Str)) = false := by decide) (he : starEach (e :: es) X.env = (false, eval e X.env) :: starEach es X.env := by rfl) (hpl : (backTo pos (starEach es X.env)).any (·.1) = false := by rfl) :
    PE X (.Call (.Name x p) (e :: es) [] pos) (tMakeS C sp dvs E t) := ⟨fun pins s σ H Q I h =>
  wpAny_Call_Name_kw (ld_glob I hg hm (PySem.W.callWith_K (h₀ := X.base) I.ok.mod.kin M.kp (thn (ha.run pos pins s σ H _ I h) fun us s1 ⟨vs, H1, I1, r, q⟩ => ⟨I1.kIn, run_makeS M F hr hb hd (hx σ) I1 r q⟩) he hpl) hdb)⟩
/-- C(e, .., k = v, ..) -/
theorem pe_makeKS (M : Mk X.K C f) (F : FnOk X.prog X.w X.K X.mg X.base CX k f fd ps sp) (hr : Room (k + 1) X.A) (hg : Gl X x) (hm : X.mg x = some (.ref C)) (hb : KBn X.K fd ps (n + 1) ks g gV) (hx : ∀ σ, PassesAt CX X σ (E σ)) (ha : PA X (e :: es) t) (hkw : PK X kws tk)
    (hall : (backToKw pos (keywordEach kws X.env)).all (·.1.isSome) = true := by rfl) (hks : (backToKw pos (keywordEach kws X.env)).filterMap (·.1) = ks := by rfl) (hdb : (x == ("__debug__" : Str)) = false := by decide)
    (he : starEach (e :: es) X.env = (false, eval e X.env) :: starEach es X.env := by rfl) (hpl : ((backTo pos (starEach (e :: es) X.env)).any (·.1) || (backToKw pos (keywordEach kws X.env)).any (·.1.isNone)) = false := by rfl) :
    PE X (.Call (.Name x p) (e :: es) kws pos) (tMakeKS C n ks.length sp gV E t tk) := ⟨fun pins s σ H Q I h =>
  wpAny_Call_Name_kw (ld_glob I hg hm (PySem.W.callWith_KW (h₀ := X.base) I.ok.mod.kin M.kp hall (thn (ha.run pos pins s σ H _ I h) fun us s1 ⟨vs, H1, I1, r, q⟩ =>
    thn (hkw.run pos pins s1 σ H1 _ I1 q) fun ws s2 ⟨zs, H2, I2, rz, l1, l2, q2⟩ => ⟨I2.kIn, by rw [hks]; exact run_makeKS M F hr hb (hx σ) I2 r rz l1 l2 q2⟩) hpl he) hdb)⟩
/-- o.m(e, ..) -/
theorem pe_methSA {pl : Sem Bool} (ho : PE X o ta) (c : Cls X.K C) (hm : Meth X.K C m f) (F : FnOk X.prog X.w X.K X.mg X.base CX k f fd ps sp) (hr : Room k X.A) (hb : Binds X.K fd ps []) (hx : ∀ σ, PassesAt CX X σ (E σ)) (ha : PA X (e :: es) t)
    (hst : starEach (e :: es) X.env = (false, eval e X.env) :: starEach es X.env := by rfl) (hpl : (backTo pos (starEach es X.env)).any (·.1) = false := by rfl)
    (ht : eval (.Call (.Attribute o m apos) (e :: es) [] pos) X.env = (do
      let v0 ← eval o X.env
      standAt apos.atName
      let (f1, first) ← holding [v0] (getMethod v0 m pl)
      callWith pos f1 first (backTo pos (starEach (e :: es) X.env)) (backToKw pos (keywordEach [] X.env))) := by rfl) :
    PE X (.Call (.Attribute o m apos) (e :: es) [] pos) (tMethSA C m sp [] E ta t) := by
  refine ⟨fun pins s σ H Q I h => PySem.W.methodCall_KW (pl := pl) (thn (ho.run pins s σ H _ I h) fun u s1 hh => ?_) ht⟩
  obtain ⟨x, H1, I1, rx, a, dx, fs, ex, ea, l, q⟩ := hh
  subst ex
  obtain rfl : u = Value.ref a := rx
  refine getmeth_ok I1 ea c hm l (PySem.W.callWith_K (first := [.ref a]) (h₀ := X.base) I.ok.mod.kin hm.kp (thn (ha.run pos pins s1 σ H1 _ I1 q) fun us s2 hh2 => ?_) hst hpl)
  obtain ⟨vs, H2, I2, r, q2⟩ := hh2
  rw [List.append_nil] at q2
  exact ⟨I2.kIn, run_fnS (us := .ref a :: us) (vs := .ref a :: vs) F hr hb (hx σ) I2 (.cons rfl r) q2⟩
end
end L2
set_option Elab.async false
set_option linter.all false
set_option maxRecDepth 100000
set_option maxHeartbeats 4000000
namespace L2
open PySem PySem.Spec PyProof.Rows
/-- a def of the text that keeps sp, as its callers need it -/
def Cal (P : Program) (w : World) (K : PySem.W.Frag) (mg : Str → Option Value) (base : Heap) (CX : CXT) (k : Nat) (x : Str) (ps : List Str) (sp : Sp) : Prop :=
  ∃ (f : Addr) (fd : FuncData), FnOk P w K mg base CX k f fd ps sp ∧ mg x = some (.ref f) ∧ PySem.W.keepIn K (.ref f) = true ∧ Binds K fd ps []
/-- a method of the class at C that keeps sp -/
def CalM (P : Program) (w : World) (K : PySem.W.Frag) (mg : Str → Option Value) (base : Heap) (CX : CXT) (k : Nat) (C : Addr) (m : Str) (ps : List Str) (sp : Sp) : Prop :=
  ∃ (f : Addr) (fd : FuncData), FnOk P w K mg base CX k f fd ps sp ∧ Meth K C m f ∧ Binds K fd ps []
/-- the class at C makes its instances by sp -/
def CalC (P : Program) (w : World) (K : PySem.W.Frag) (mg : Str → Option Value) (base : Heap) (CX : CXT) (k : Nat) (C : Addr) (ps : List Str) (sp : Sp) : Prop :=
  ∃ (f : Addr) (fd : FuncData), FnOk P w K mg base CX k f fd ps sp ∧ Mk K C f ∧ Binds K fd ps []
/-- where a def stands -/
def Def (K : PySem.W.Frag) (mg : Str → Option Value) (x : Str) (st : Stmt) : Prop := ∃ (f : Addr) (fd : FuncData), Fun K x x st f fd ∧ mg x = some (.ref f)
def DefM (K : PySem.W.Frag) (C : Addr) (m qual : Str) (st : Stmt) : Prop := ∃ (f : Addr) (fd : FuncData), Fun K m qual st f fd ∧ Meth K C m f
def DefC (K : PySem.W.Frag) (C : Addr) (qual : Str) (st : Stmt) : Prop := ∃ (f : Addr) (fd : FuncData), Fun K "__init__" qual st f fd ∧ Mk K C f
section
variable {X : Cx} {CX : CXT} {k : Nat} {ps : List Str} {sp : Sp} {x : Str} {p pos apos : Pos} {e o : Expr} {es : List Expr} {t : TA} {ta : TE} {v : V} {C : Addr} {m : Str}
theorem pe_cal (c : Cal X.prog X.w X.K X.mg X.base CX k x ps sp) (hr : Room k X.A) (ha : PA X (e :: es) t) (hx : Passes CX X E0 := by first | exact pass0 | exact passL) (hg : Gl X x := by rfl) (hdb : (x == ("__debug__" : Str)) = false := by decide) (he : starEach (e :: es) X.env = (false, eval e X.env) :: starEach es X.env := by rfl)
    (hpl : (backTo pos (starEach es X.env)).any (·.1) = false := by rfl) : PE X (.Call (.Name x p) (e :: es) [] pos) (tCall sp [] E0 t) := by
  obtain ⟨f, fd, h1, h2, h3, h4⟩ := c
  exact pe_call h1 hr hg h2 h3 h4 .nil hx ha hdb he hpl
theorem pe_cal0 (c : Cal X.prog X.w X.K X.mg X.base CX k x ps sp) (hr : Room k X.A) (hx : Passes CX X E0 := by first | exact pass0 | exact passL) (hg : Gl X x := by rfl) (hdb : (x == ("__debug__" : Str)) = false := by decide) : PE X (.Call (.Name x p) [] [] pos) (tCall sp [] E0 tNil) := by
  obtain ⟨f, fd, h1, h2, h3, h4⟩ := c
  exact pe_call0 h1 hr hg h2 h3 h4 .nil hx hdb
/-- f(e, ..) within a try: what it raises is wished for at the slots -/
theorem pe_calS {E : St → XK} (c : Cal X.prog X.w X.K X.mg X.base CX k x ps sp) (hr : Room k X.A) (hx : ∀ σ, PassesAt CX X σ (E σ)) (ha : PA X (e :: es) t) (hg : Gl X x := by rfl) (hdb : (x == ("__debug__" : Str)) = false := by decide) (he : starEach (e :: es) X.env = (false, eval e X.env) :: starEach es X.env := by rfl)
    (hpl : (backTo pos (starEach es X.env)).any (·.1) = false := by rfl) : PE X (.Call (.Name x p) (e :: es) [] pos) (tCallS sp E t) := by
  obtain ⟨f, fd, h1, h2, h3, h4⟩ := c
  exact pe_callS h1 hr hg h2 h3 h4 hx ha hdb he hpl
/-- C(e, ..) -/
theorem pe_mk (c : CalC X.prog X.w X.K X.mg X.base CX k C ps sp) (hm : X.mg x = some (.ref C)) (hr : Room (k + 1) X.A) (ha : PA X (e :: es) t) (hx : Passes CX X E0 := by first | exact pass0 | exact passL) (hg : Gl X x := by rfl) (hdb : (x == ("__debug__" : Str)) = false := by decide) (he : starEach (e :: es) X.env = (false, eval e X.env) :: starEach es X.env := by rfl)
    (hpl : (backTo pos (starEach es X.env)).any (·.1) = false := by rfl) : PE X (.Call (.Name x p) (e :: es) [] pos) (tMake C sp [] E0 t) := by
  obtain ⟨f, fd, h1, h2, h4⟩ := c
  exact pe_make h2 h1 hr hg hm h4 .nil hx ha hdb he hpl
theorem pe_mkS {E : St → XK} (c : CalC X.prog X.w X.K X.mg X.base CX k C ps sp) (hm : X.mg x = some (.ref C)) (hr : Room (k + 1) X.A) (hx : ∀ σ, PassesAt CX X σ (E σ)) (ha : PA X (e :: es) t) (hg : Gl X x := by rfl) (hdb : (x == ("__debug__" : Str)) = false := by decide) (he : starEach (e :: es) X.env = (false, eval e X.env) :: starEach es X.env := by rfl)
    (hpl : (backTo pos (starEach es X.env)).any (·.1) = false := by rfl) : PE X (.Call (.Name x p) (e :: es) [] pos) (tMakeS C sp [] E t) := by
  obtain ⟨f, fd, h1, h2, h4⟩ := c
  exact pe_makeS h2 h1 hr hg hm h4 .nil hx ha hdb he hpl
/-- o.m(e, ..), o.m() -/
theorem pe_mth {pl : Sem Bool} (cl : Cls X.K C) (c : CalM X.prog X.w X.K X.mg X.base CX k C m ps sp) (hr : Room k X.A) (ho : PE X o ta) (ha : PA X (e :: es) t) (hx : Passes CX X E0 := by first | exact pass0 | exact passL) (hst : starEach (e :: es) X.env = (false, eval e X.env) :: starEach es X.env := by rfl) (hpl : (backTo pos (starEach es X.env)).any (·.1) = false := by rfl)
    (ht : eval (.Call (.Attribute o m apos) (e :: es) [] pos) X.env = (do
      let v0 ← eval o X.env
      standAt apos.atName
      let (f1, first) ← holding [v0] (getMethod v0 m pl)
      callWith pos f1 first (backTo pos (starEach (e :: es) X.env)) (backToKw pos (keywordEach [] X.env))) := by rfl) : PE X (.Call (.Attribute o m apos) (e :: es) [] pos) (tMeth C m sp [] E0 ta t) := by
  obtain ⟨f, fd, h1, h2, h4⟩ := c
  exact pe_meth ho cl h2 h1 hr h4 .nil hx ha hst hpl ht
theorem pe_mth0 {pl : Sem Bool} (cl : Cls X.K C) (c : CalM X.prog X.w X.K X.mg X.base CX k C m ps sp) (hr : Room k X.A) (ho : PE X o ta) (hx : Passes CX X E0 := by first | exact pass0 | exact passL)
    (ht : eval (.Call (.Attribute o m apos) [] [] pos) X.env = (do
      let v0 ← eval o X.env
      standAt apos.atName
      let (f1, first) ← holding [v0] (getMethod v0 m pl)
      callWith pos f1 first (backTo pos (starEach [] X.env)) (backToKw pos (keywordEach [] X.env))) := by rfl) : PE X (.Call (.Attribute o m apos) [] [] pos) (tMeth C m sp [] E0 ta tNil) := by
  obtain ⟨f, fd, h1, h2, h4⟩ := c
  exact pe_meth0 ho cl h2 h1 hr h4 .nil hx ht
theorem pe_mthS {pl : Sem Bool} {E : St → XK} (cl : Cls X.K C) (c : CalM X.prog X.w X.K X.mg X.base CX k C m ps sp) (hr : Room k X.A) (ho : PE X o ta) (hx : ∀ σ, PassesAt CX X σ (E σ)) (ha : PA X (e :: es) t) (hst : starEach (e :: es) X.env = (false, eval e X.env) :: starEach es X.env := by rfl) (hpl : (backTo pos (starEach es X.env)).any (·.1) = false := by rfl)
    (ht : eval (.Call (.Attribute o m apos) (e :: es) [] pos) X.env = (do
      let v0 ← eval o X.env
      standAt apos.atName
      let (f1, first) ← holding [v0] (getMethod v0 m pl)
      callWith pos f1 first (backTo pos (starEach (e :: es) X.env)) (backToKw pos (keywordEach [] X.env))) := by rfl) : PE X (.Call (.Attribute o m apos) (e :: es) [] pos) (tMethSA C m sp [] E ta t) := by
  obtain ⟨f, fd, h1, h2, h4⟩ := c
  exact pe_methSA ho cl h2 h1 hr h4 hx ha hst hpl ht
end
/-- a module's constant -/
theorem pe_gl {X : Cx} {x : Str} {pos : Pos} {v : V} (h : ∃ u, X.mg x = some u ∧ RelV v u) (hg : Gl X x := by rfl) (hdb : (x == ("__debug__" : Str)) = false := by decide) : PE X (.Name x pos) (tC v) := by
  obtain ⟨u, hm, r⟩ := h
  exact pe_glob hg hm r hdb
/-- a built-in class as a value -/
theorem pe_ty {X : Cx} {x : Str} {pos : Pos} (n : String) (hm : X.mg x = none) (hg : Gl X x := by rfl) (hv : bootBuiltins x = some (.type n) := by decide +kernel) (hn : x ≠ "__name__" := by decide) (hd : (x == ("__debug__" : Str)) = false := by decide) : PE X (.Name x pos) (tC (.ty n)) :=
  pe_bltn hg hm hv rfl hn hd
/-- an own class as a value -/
theorem pe_cls {X : Cx} {x : Str} {pos : Pos} {C : Addr} (hm : X.mg x = some (.ref C)) (hg : Gl X x := by rfl) (hd : (x == ("__debug__" : Str)) = false := by decide) : PE X (.Name x pos) (tC (.ref C)) := pe_glob hg hm rfl hd
/-- a plain value and the name of its type -/
inductive Dm (K : PySem.W.Frag) (H : Hp) : V → String → Prop where
  | non : Dm K H .non "NoneType"
  | bl (b : Bool) : Dm K H (.bl b) "bool"
  | int (i : Int) : Dm K H (.int i) "int"
  | str (x : Str) (h : x.length ≤ sizeLine) : Dm K H (.str x) "str"
  | lst {a : Addr} {xs : List V} (e : H a = some (.lst xs)) : Dm K H (.ref a) "list"
  | tup {a : Addr} {xs : List V} (e : H a = some (.tup xs)) : Dm K H (.ref a) "tuple"
section
variable {K : PySem.W.Frag} {H H' : Hp} {v : V} {n : String}
theorem Dm.mono (d : Dm K H v n) (k : ∀ a o, v = .ref a → H a = some o → (∃ o', H' a = some o' ∧ ((∃ xs ys, o = .lst xs ∧ o' = .lst ys) ∨ o' = o))) : Dm K H' v n := by
  cases d with
  | non => exact .non
  | bl b => exact .bl b
  | int i => exact .int i
  | str x h => exact .str x h
  | lst e =>
    obtain ⟨o', h1, h2⟩ := k _ _ rfl e
    rcases h2 with ⟨xs, ys, _, h3⟩ | h3
    · subst h3; exact .lst h1
    · subst h3; exact .lst h1
  | tup e =>
    obtain ⟨o', h1, h2⟩ := k _ _ rfl e
    rcases h2 with ⟨xs, ys, h3, _⟩ | h3
    · cases h3
    · subst h3; exact .tup h1
theorem Dm.same (d : Dm K H v n) (k : Same H H') : Dm K H' v n := d.mono fun a o _ e => ⟨o, k a o e, .inr rfl⟩
theorem Dm.ty (d : Dm K H v n) : TyX K H v (.type n) := by
  cases d with
  | non => exact .base .non
  | bl b => exact .base (.bl b)
  | int i => exact .base (.int i)
  | str x h => exact .base (.str x)
  | lst e => exact .base (.lst e)
  | tup e => exact .base (.tup e)
end
theorem sNew {H : Hp} {p : Addr} {o : HO} (h : H p = none) : Same H (upd H p o) := fun b u e => by rw [upd_ne (ne_of_none e h)]; exact e
/-! the same rules, the written part named -/
section
variable {X : Cx} {K : PySem.W.Frag}
theorem ix_listK (h : X.K = K) : IxR X (rIxL K) := h ▸ ix_list
theorem ix_tupK (h : X.K = K) : IxR X (rIxT K) := h ▸ ix_tup
theorem call_isiK' (h : X.K = K) : CallR X (.builtin "isinstance") (rIsi K) := h ▸ call_isi
theorem call_isiTK (h : X.K = K) : CallR X (.builtin "isinstance") (rIsiT K) := h ▸ call_isiT
theorem sl_listK (h : X.K = K) : SlR X (rSlL K) := h ▸ sl_list
end
/-- a comprehension over a text -/
theorem lc_str {x : Str} {g : TG} {tt : TT} {te : TE} {vs : List Nat} {σ : St} {H1 : Hp} {D : Addr} {Qd : Hp → Prop} (Pv : Nat → Hp → Prop) (h0 : Pv 0 (upd H1 D (.lst [])))
    (hs : ∀ i c H, x.cps[i]? = some c → Pv i H → g (.str ⟨#[c]⟩) (wipe σ vs) H fun σ2 H2 => wipe σ2 vs = wipe σ vs ∧ tt σ2 H2 fun b H3 =>
      if b = true then te σ2 H3 fun y H4 => ∃ acc, H4 D = some (.lst acc) ∧ acc.length < sizeLine ∧ Pv (i + 1) (upd H4 D (.lst (acc ++ [y]))) else Pv (i + 1) H3) (hd : ∀ H, Pv x.cps.size H → Qd H) :
    ∃ W : Nat → Nat → Hp → Prop, (∃ m, W 0 m (upd H1 D (.lst []))) ∧ ∀ i m H, W i m H →
      ((Its x).stop i H ∧ Qd H) ∨ ((Its x).go i H ∧ ∃ Nx : Hp → Prop, (∀ H', Nx H' → ∃ m', m' < m ∧ W (i + 1) m' H') ∧ ∀ y H', (Its x).yld i H y H' → g y (wipe σ vs) H' fun σ2 H2 => wipe σ2 vs = wipe σ vs ∧ tt σ2 H2 fun b H3 =>
        if b = true then te σ2 H3 fun y H4 => ∃ acc, H4 D = some (.lst acc) ∧ acc.length < sizeLine ∧ Nx (upd H4 D (.lst (acc ++ [y]))) else Nx H3) := by
  refine ⟨fun i m H => m = x.cps.size - i ∧ i ≤ x.cps.size ∧ Pv i H, ⟨x.cps.size, by simp, Nat.zero_le _, h0⟩, ?_⟩
  rintro i m H ⟨rfl, hi, p⟩
  by_cases hlt : i < x.cps.size
  · refine .inr ⟨hlt, Pv (i + 1), fun H' p' => ⟨x.cps.size - (i + 1), by omega, rfl, by omega, p'⟩, ?_⟩
    rintro y H' ⟨rfl, c, hc, rfl⟩
    exact hs i c H' hc p
  · have e : i = x.cps.size := by omega
    subst e
    exact .inl ⟨Nat.le_refl _, hd H p⟩
/-- a for over a text -/
theorem for_strT {x : Str} {g : TG} {tb : TS} {D : Ends} {σ : St} {H : Hp} (Pv : Nat → St → Hp → Prop) (h0 : Pv 0 σ H)
    (hs : ∀ i c σ H, x.cps[i]? = some c → Pv i σ H → g (.str ⟨#[c]⟩) σ H fun σ2 H2 => tb { D with nx := Pv (i + 1), ct := Pv (i + 1), bk := D.nx } σ2 H2) (hd : ∀ σ H, Pv x.cps.size σ H → D.nx σ H) :
    ∃ W : Nat → Nat → St → Hp → Prop, (∃ m, W 0 m σ H) ∧ ∀ i m σ H, W i m σ H →
      ((Its x).stop i H ∧ D.nx σ H) ∨ ((Its x).go i H ∧ ∃ N : St → Hp → Prop, (∀ σ' H', N σ' H' → ∃ m', m' < m ∧ W (i + 1) m' σ' H') ∧ ∀ y H', (Its x).yld i H y H' → g y σ H' fun σ2 H2 => tb { D with nx := N, ct := N, bk := D.nx } σ2 H2) := by
  refine ⟨fun i m σ H => m = x.cps.size - i ∧ i ≤ x.cps.size ∧ Pv i σ H, ⟨x.cps.size, by simp, Nat.zero_le _, h0⟩, ?_⟩
  rintro i m σ H ⟨rfl, hi, p⟩
  by_cases hlt : i < x.cps.size
  · refine .inr ⟨hlt, Pv (i + 1), fun σ' H' p' => ⟨x.cps.size - (i + 1), by omega, rfl, by omega, p'⟩, ?_⟩
    rintro y H' ⟨rfl, c, hc, rfl⟩
    exact hs i c σ H' hc p
  · have e : i = x.cps.size := by omega
    subst e
    exact .inl ⟨Nat.le_refl _, hd σ H p⟩
end L2
set_option Elab.async false
set_option linter.all false
set_option maxRecDepth 100000
set_option maxHeartbeats 4000000
namespace PySem
namespace ErrL
open PySem.W PySem.Calls PyProof.Rows PySem.HandSPX
/-! own errors whose first row calls the base's maker through super() -/
def supS (args : List Expr) (a1 a2 a3 a4 a5 : Pos) : Stmt :=
  .Expr (.Call (.Attribute (.Call (.Name "super" a1) [] [] a2) "__init__" a3) args [] a4) a5
def stoS (f : Str) (q1 q2 q3 q4 : Pos) : Stmt :=
  .Assign [.Attribute (.Name "self" q1) f q2] (.Name f q3) q4
/-- the facts about an error class at C whose maker stands at fI -/
structure SupC (prog : Program) (K : Frag) (C fI : Addr) (qual : Str) (params : Arguments) (body : List Stmt) (scope : Scope) : Prop where
  cls : ∃ nm q N bs bm sn sub ab col dd k0 k1 k2 k3 k5, K.lookup C = some (excClassObj nm q C N bs bm true sn sub ab col dd k0 k1 k2 k3 k5 "ValueError.__new__") ∧ refsVE bm = true
  fn : ∃ (oc : Value) (od : Option Addr) (kV doc pm : Value) (an : Option Addr) (cda : Addr) (ct : Value) (osl : Array (Option Value)) (cc : Addr) (vs : Array Value) (file : Str) (tf : Tok) (ccl : Value) (cdd : Option Addr) (ccs : Array (Option Value)) (cl : Value) (cld : Option Addr) (csl : Array (Option Value)),
    K.lookup fI = some ⟨oc, od, .func (ksFn "__init__" qual params body scope .none kV doc pm an (.ref cda) ct cc), osl⟩ ∧ codeIn K (.ref cda) qual = true ∧
    K.lookup cda = some ⟨ccl, cdd, .fields vs, ccs⟩ ∧ vs[2]? = some (.str file tf) ∧ ((prog.main.file : Str) == file) = true ∧
    K.lookup cc = some ⟨cl, cld, .cell (some (.ref C)), csl⟩
  self1 : mroIn K C (.ref C) = some true
  isVE : subIn K (.ref C) (.type "ValueError") = some true
  opq : nsIn K cStatics "thirdparty.any" = some none
  sup : ks_superIn K C C "__init__" = some (some (.builtin "ValueError.__init__"))
  sa : findIn K (.ref C) "__setattr__" = some (some (.builtin "object.__setattr__"))
  iC : findIn K (.ref C) "__init__" = some (some (.ref fI))
  tC : typeIn K (.ref fI) = some (.type "function")
  top : (prog.main.scope.names.lookup ("super" : Str)).isSome = false
/-- a method-wrapper of ValueError.__init__, bound to x, called -/
theorem call_mw {prog : Program} {w : World} {A : Around} {E : Value → Shared → Prop} {h : Heap} {g : Array GenState} {d : Drawn} {t : Nat} {os : OsState}
    {nm q : Str} {C N : Addr} {bs bm : List Value} {hdct : Bool} {sn : List Str} {sub : List Value} {ab : Bool} {col : Option Bool} {dd : Option Addr} {k0 k1 k2 k3 k5 : Option Value}
    {u e t0 : Addr} {rest : List Value} {Q : Value → Shared → Prop}
    (hC : h.get? C = some (excClassObj nm q C N bs bm hdct sn sub ab col dd k0 k1 k2 k3 k5 "ValueError.__new__")) (he : h.get? e = some (excO C t0)) (hu : h.get? u = some (kxs_mw "ValueError.__init__" e)) (hrest : rest.length ≤ sizeLine)
    (hq : ∀ h' t1, (∀ b o, b ≠ e → h.get? b = some o → h'.get? b = some o) → h'.get? e = some (excO C t1) → Q .none ⟨h', g, d, t, os⟩) :
    wpAny (model prog w) A (call (.ref u) rest) Q E ⟨h, g, d, t, os⟩ := by
  refine wpAny_call (codeAny_of_tree ?_)
  show wpAny _ A.in1 (callAny (.ref u) ⟨rest, []⟩) _ _ _
  simp only [callAny]
  refine wpAny_bind (wpAny_load hu ?_)
  refine KFB.if_so (by rfl) ?_
  refine wpAny_bind (check_bound_init F.excBase_ValueError.toExcCallFacts hC he rfl ?_)
  refine wpAny_bind (wpAny_pure (wpAny_pure ?_))
  refine ⟨plainId_quiet F.excBase_ValueError.init.plain _, codeAny_builtin F.excBase_ValueError.initEntry ?_⟩
  wp_walk
  refine hq _ h.objs.size (fun b o hb ho => ?_) ?_
  · rw [Heap.get?_update_other _ _ (Ne.symm hb)]
    exact Heap.get?_push_of_some _ ho
  · rw [Heap.get?_update_self _ (Heap.get?_push_of_some _ he) rfl]
    rfl

/-- what stands behind super().__init__(..): the exception has new args, all else is kept -/
theorem sup_first {prog : Program} {w : World} {A : Around} {E : Value → Shared → Prop} {K : Frag} {C fI : Addr} {qual : Str} {body : List Stmt} {scope : Scope} {mg mb : Str → Option Value}
    {ar : Arg} {x t0 L cda cc : Addr} {m : Str → Option Value} {e0 : Expr} {es : List Expr} {a1 a2 a3 a4 a5 : Pos} {s : Shared} {Q : Flow → Shared → Prop} {fd : FuncData} {oc ccl cl : Value} {od cdd cld : Option Addr} {osl ccs csl : Array (Option Value)} {vs : Array Value} {file : Str} {tf : Tok}
    {nm q : Str} {N : Addr} {bs bm : List Value} {sn : List Str} {sub : List Value} {ab : Bool} {col : Option Bool} {dd : Option Addr} {k0 k1 k2 k3 k5 : Option Value}
    (hC : K.lookup C = some (excClassObj nm q C N bs bm true sn sub ab col dd k0 k1 k2 k3 k5 "ValueError.__new__"))
    (X : K.In s.heap) (hg : s.heap.Ns mainGlobals mg) (hb : s.heap.Ns builtinsNs mb) (hbt : ∀ y : Str, y ≠ "__name__" → mb y = bootBuiltins y) (hsu : mg "super" = none)
    (hf : K.lookup fI = some ⟨oc, od, .func fd, osl⟩) (hp : (fd.params.posonlyargs ++ fd.params.args).head? = some ar)
    (hcode : K.lookup cda = some ⟨ccl, cdd, .fields vs, ccs⟩) (hvs : vs[2]? = some (.str file tf)) (hfile : ((prog.main.file : Str) == file) = true) (hcell : K.lookup cc = some ⟨cl, cld, .cell (some (.ref C)), csl⟩)
    (self1 : mroIn K C (.ref C) = some true) (isVE : subIn K (.ref C) (.type "ValueError") = some true) (opq : nsIn K cStatics "thirdparty.any" = some none) (sup : ks_superIn K C C "__init__" = some (some (.builtin "ValueError.__init__")))
    (htop : (prog.main.scope.names.lookup ("super" : Str)).isSome = false)
    (hns : s.heap.Ns L m) (hv : m ar.arg = some (.ref x)) (hx : s.heap.get? x = some (excO C t0))
    (hks : scope.names.lookup ("super" : Str) = some .globalImplicit) (hkc : scope.names.lookup ("__class__" : Str) = some .free) (hka : scope.names.lookup ar.arg = some .local) (hk : scope.kind = .function)
    (hargs : ∀ (s1 : Shared) (Q1 : List Value → Shared → Prop), s1.heap.Ns L m → s1.heap.Ns mainGlobals mg → s1.heap.Ns builtinsNs mb → (∀ us tk, us.length ≤ 10 → Q1 us { s1 with toks := tk }) →
      wpAny (model prog w) A (spliced (backTo a4 (starEach (e0 :: es) (ksEnv qual scope L fI (.ref cda) cc)))) Q1 E s1)
    (he : starEach (e0 :: es) (ksEnv qual scope L fI (.ref cda) cc) = (false, eval e0 (ksEnv qual scope L fI (.ref cda) cc)) :: starEach es (ksEnv qual scope L fI (.ref cda) cc))
    (hpl : (backTo a4 (starEach es (ksEnv qual scope L fI (.ref cda) cc))).any (·.1) = false)
    (hi : interactive (ksEnv qual scope L fI (.ref cda) cc) = false) {pl : Sem Bool}
    (hev : eval (.Call (.Attribute (.Call (.Name "super" a1) [] [] a2) "__init__" a3) (e0 :: es) [] a4) (ksEnv qual scope L fI (.ref cda) cc) = (do
      let ov ← attributeBase (.Call (.Name "super" a1) [] [] a2) "__init__" (ksEnv qual scope L fI (.ref cda) cc) (eval (.Call (.Name "super" a1) [] [] a2) (ksEnv qual scope L fI (.ref cda) cc))
      standAt a3.atName
      let (f, first) ← holding [ov] (getMethod ov "__init__" pl)
      callWith a4 f first (backTo a4 (starEach (e0 :: es) (ksEnv qual scope L fI (.ref cda) cc))) []))
    (hsw : swapsWith (.Call (.Attribute (.Call (.Name "super" a1) [] [] a2) "__init__" a3) (e0 :: es) [] a4) none a5.line (ksEnv qual scope L fI (.ref cda) cc) = pure false)
    (h : ∀ h' tk t1, (∀ b o, b ≠ x → s.heap.get? b = some o → h'.get? b = some o) → h'.get? x = some (excO C t1) → Q .next { s with heap := h', toks := tk }) :
    _root_.PySem.wpAt (model prog w) A (.func body (ksEnv qual scope L fI (.ref cda) cc)) (exec (supS (e0 :: es) a1 a2 a3 a4 a5) (ksEnv qual scope L fI (.ref cda) cc)) Q E s := by
  have hCc : clsIn K C = some { name := nm, bases := bs, mro := .ref C :: bm, ns := N, qualname := q, hasDict := true, slotNames := sn, subclasses := sub, abstract := ab, collection := col, hasDel := false } := by unfold clsIn; rw [hC] <;> rfl
  obtain ⟨hh, g, d, t, os⟩ := s
  have hCh := X _ _ hC
  have xC : x ≠ C := by
    rintro rfl
    rw [hCh] at hx
    cases hx
  unfold supS
  refine ks_wpAt_Expr_any (ks_wpAt_MethodCall ?_ hev) hi hsw
  refine ks_wpAt_super_base (env := ksEnv qual scope L fI (.ref cda) cc) hks hkc (by decide) rfl (X _ _ hf) rfl hp rfl (X _ _ hcode) rfl hvs hfile htop ?_
  refine ks_loadName_global hk hks (loadGlobal_builtin (env := ksEnv qual scope L fI (.ref cda) cc) hg hsu hb ((hbt _ (by decide +kernel)).trans (show bootBuiltins ("super" : Str) = some (.type "super") by decide +kernel)) ⟨rfl, ?_⟩)
  refine wpAny_loadName_free hk hkc rfl ⟨_, X _ _ hcell, rfl⟩ ?_
  refine wpAny_loadName_local hk hka hns hv ?_
  refine ks_wpAny_isType_cls hCh rfl ⟨rfl, ?_⟩
  refine ks_wpAny_call_super hCh rfl hx rfl (fun c e => ?_) (looks_mroIn X self1) (fun h1 e1 k1 => ?_)
  · cases e
  have X1 : K.In h1 := X.keeps k1
  have hx1 := k1 _ _ hx
  have hI : Looks (model prog w) h1 (isInstance (.ref x) (.type "ValueError")) true := (InstAt.type (od := none) ⟨hx1, rfl, rfl, trivial⟩).andThen (looks_subIn X1 isVE)
  have hsu2 := sup
  unfold ks_superIn at hsu2
  rw [hCc] at hsu2
  refine kxs_getMethod kxs_ValueError e1 (looks_opaque X1 opq) (l₀ := .ref C :: bm) ?_ rfl X1 hsu2 hI xC (by decide) ?_
  · exact fun A Q E s k q => wpAny_bind ((looks_clsIn X1 hCc) A _ E s k (wpAny_pure q))
  have k2 : ∀ b o, h1.get? b = some o → (h1.push (kxs_mw "ValueError.__init__" x)).get? b = some o := fun b o e => Heap.get?_push_of_some _ e
  have k12 : ∀ b o, hh.get? b = some o → (h1.push (kxs_mw "ValueError.__init__" x)).get? b = some o := fun b o e => k2 b o (k1 b o e)
  have mwn : (h1.push (kxs_mw "ValueError.__init__" x)).get? h1.objs.size = some (kxs_mw "ValueError.__init__" x) := Heap.get?_push_at rfl rfl
  rw [he]
  refine kxs_callWith (i := "ValueError.__init__") (x := x) (by show (false || (backTo a4 (starEach es (ksEnv qual scope L fI (.ref cda) cc))).any (·.1)) = false; rw [hpl]; rfl) ?_
  refine evalArgs_plain ?_
  have ha := hargs ⟨h1.push (kxs_mw "ValueError.__init__" x), g, d, t + 1, os⟩ (fun vs s₁ => KxsAt "ValueError.__init__" h1.objs.size x s₁.heap ∧ wpAny (model prog w) A (call (.ref h1.objs.size) ([] ++ vs)) (fun _ => Q .next) E s₁) (hns.keeps k12) (hg.keeps k12) (hb.keeps k12) (fun us tk hl => ?_)
  · rw [he] at ha
    exact ha
  refine ⟨mwn, ?_⟩
  refine call_mw ((X.keeps k12) _ _ hC) (k12 _ _ hx) mwn (Nat.le_trans hl (by rw [sizeLine_eq]; decide)) fun h' t1 k e => ?_
  exact h h' tk t1 (fun b o hb e => k b o hb (k12 b o e)) e

/-- what the text of the maker says: everything that hangs on its written scope -/
structure SupW (prog : Program) (w : World) (params : Arguments) (scope : Scope) (qual : Str) (fs : List Str) (ok : List Value → Prop) (e0 : Expr) (es : List Expr) (a1 a2 a3 a4 a5 : Pos) : Prop where
  hk : scope.kind = .function
  co : scope.isCoroutine = false
  gen : scope.isGenerator = false
  ks : scope.names.lookup ("super" : Str) = some .globalImplicit
  kc : scope.names.lookup ("__class__" : Str) = some .free
  kse : scope.names.lookup ("self" : Str) = some .local
  kf : ∀ f ∈ fs, scope.names.lookup f = some .local
  cell : ∀ y ∈ scope.names, y.2 ≠ .cell
  par : ∃ p, (params.posonlyargs ++ params.args).head? = some p ∧ p.arg = "self"
  hi : ∀ (L fI : Addr) (cd : Value) (cc : Addr), interactive (ksEnv qual scope L fI cd cc) = false
  hev : ∀ (L fI : Addr) (cd : Value) (cc : Addr), ∃ pl : Sem Bool, eval (.Call (.Attribute (.Call (.Name "super" a1) [] [] a2) "__init__" a3) (e0 :: es) [] a4) (ksEnv qual scope L fI cd cc) = (do
      let ov ← attributeBase (.Call (.Name "super" a1) [] [] a2) "__init__" (ksEnv qual scope L fI cd cc) (eval (.Call (.Name "super" a1) [] [] a2) (ksEnv qual scope L fI cd cc))
      standAt a3.atName
      let (f, first) ← holding [ov] (getMethod ov "__init__" pl)
      callWith a4 f first (backTo a4 (starEach (e0 :: es) (ksEnv qual scope L fI cd cc))) [])
  hsw : ∀ (L fI : Addr) (cd : Value) (cc : Addr), swapsWith (.Call (.Attribute (.Call (.Name "super" a1) [] [] a2) "__init__" a3) (e0 :: es) [] a4) none a5.line (ksEnv qual scope L fI cd cc) = pure false
  hst : ∀ (L fI : Addr) (cd : Value) (cc : Addr) (f : Str) (q1 q2 q3 q4 : Pos), swapsWith (.Name f q3) (some (.Attribute (.Name "self" q1) f q2)) q4.line (ksEnv qual scope L fI cd cc) = pure false
  he : ∀ (L fI : Addr) (cd : Value) (cc : Addr), starEach (e0 :: es) (ksEnv qual scope L fI cd cc) = (false, eval e0 (ksEnv qual scope L fI cd cc)) :: starEach es (ksEnv qual scope L fI cd cc)
  hpl : ∀ (L fI : Addr) (cd : Value) (cc : Addr), (backTo a4 (starEach es (ksEnv qual scope L fI cd cc))).any (·.1) = false
  hargs : ∀ (L fI : Addr) (cd : Value) (cc : Addr) (A : Around) (E : Value → Shared → Prop) (us : List Value) (s1 : Shared) (mg mb m : Str → Option Value) (Q1 : List Value → Shared → Prop), ok us → (∀ (i : Nat) (f : Str), fs[i]? = some f → m f = us[i]?) → us.length = fs.length → mg "str" = none → s1.heap.Ns L m → s1.heap.Ns mainGlobals mg → s1.heap.Ns builtinsNs mb →
      (∀ y : Str, y ≠ "__name__" → mb y = bootBuiltins y) → (∀ ws tk, ws.length ≤ 10 → Q1 ws { s1 with toks := tk }) →
      wpAny (model prog w) A (spliced (backTo a4 (starEach (e0 :: es) (ksEnv qual scope L fI cd cc)))) Q1 E s1
/-- what a maker leaves of a fresh exception at x: its dict holds the map -/
structure InitEnd (h h' : Heap) (x C dx : Addr) (mA : Str → Option Value) : Prop where
  keep : ∀ b o, b ≠ x → h.get? b = some o → h'.get? b = some o
  obj : ∃ t1, h'.get? x = some { cls := .ref C, dict := some dx, data := .fields #[.ref t1, .none, .none, .none, .bool false, .none] }
  dbig : h.objs.size ≤ dx
  dne : dx ≠ x
  ns : h'.Ns1 dx mA
theorem ldS {M : Model} {s : Shared} {env : Env} {m : Str → Option Value} {x : Str} {pos : Pos} {v : Value} {Q : Value → Shared → Prop} {A : Around} {E : Value → Shared → Prop} (hk : env.scope.kind = .function) (hl : env.kindOf x = some .local) (hn : s.heap.Ns env.locals m) (hv : m x = some v) (h : Q v s)
    (hd : (x == ("__debug__" : Str)) = false) : wpAny M A (eval (.Name x pos) env) Q E s := wpAny_Name (wpAny_loadName_local hk hl hn hv h) hd
section
variable {prog : Program} {w : World} {A : Around} {E : Value → Shared → Prop} {K : Frag} {C fI : Addr} {qual : Str} {params : Arguments} {body : List Stmt} {scope : Scope} {mg mb : Str → Option Value} {x t0 : Addr} {s : Shared} {R : Result → Shared → Prop}
    {f f1 f2 : Str} {ok : List Value → Prop} {e0 : Expr} {es : List Expr} {a1 a2 a3 a4 a5 q1 q2 q3 q4 r1 r2 r3 r4 : Pos}
theorem kin_but {h h' : Heap} (X : K.In h) (hx : K.lookup x = none) (k : ∀ b o, b ≠ x → h.get? b = some o → h'.get? b = some o) : K.In h' := fun a o e => k a o (fun z => by rw [z, hx] at e; cases e) (X a o e)
theorem ns_but {h h' : Heap} {L : Addr} {m : Str → Option Value} (n : L ≠ x) (hn : h.Ns L m) (k : ∀ b o, b ≠ x → h.get? b = some o → h'.get? b = some o) : h'.Ns L m := by
  obtain ⟨o, es, ep, ho, r⟩ := hn
  exact ⟨o, es, ep, k _ _ n ho, r⟩
/-- one field -/
theorem sup_init1 (T : SupC prog K C fI qual params [supS (e0 :: es) a1 a2 a3 a4 a5, stoS f q1 q2 q3 q4] scope) (W : SupW prog w params scope qual [f] ok e0 es a1 a2 a3 a4 a5) (hnf : findIn K (.ref C) f = some none) (hfd : (f == ("__debug__" : Str)) = false) (hfs : f ≠ "self") {v : Value} (hok : ok [v])
    (hb : ∀ (kV doc pm : Value) (an : Option Addr) (cdv ct : Value) (cc : Addr), bindArgs (ksFn "__init__" qual params [supS (e0 :: es) a1 a2 a3 a4 a5, stoS f q1 q2 q3 q4] scope .none kV doc pm an cdv ct cc) ⟨[.ref x, v], []⟩ = pure [(("self" : Str), Value.ref x), (f, v)])
    (X : K.In s.heap) (hlim : s.heap.NoLimit) (hg : s.heap.Ns mainGlobals mg) (hbn : s.heap.Ns builtinsNs mb) (hbt : ∀ y : Str, y ≠ "__name__" → mb y = bootBuiltins y) (hsu : mg "super" = none) (hstr : mg "str" = none)
    (hx : s.heap.get? x = some (excO C t0)) (hnx : K.lookup x = none) (hroom : A.depth < recursionLimit)
    (hq : ∀ h' tk dx, InitEnd s.heap h' x C dx (fun y => if y = f then some v else none) → R (.ok (.ret .none)) { s with heap := h', toks := tk }) :
    codeAny (model prog w) A (.call (.ref fI) ⟨[.ref x, v], []⟩) R s := by
  obtain ⟨nm, q, N, bs, bm, sn, sub, ab, col, dd, k0, k1, k2, k3, k5, hC, hbm⟩ := T.cls
  obtain ⟨oc, od, kV, doc, pm, an, cda, ct, osl, cc, vs, file, tf, ccl, cdd, ccs, cl, cld, csl, hf, hcd, hcode, hvs, hfile, hcell⟩ := T.fn
  obtain ⟨par, hp, hps⟩ := W.par
  have hcl : clsIn K C = some { name := nm, bases := bs, mro := .ref C :: bm, ns := N, qualname := q, hasDict := true, slotNames := sn, subclasses := sub, abstract := ab, collection := col, hasDel := false } := by unfold clsIn; rw [hC] <;> rfl
  refine ks_codeAny_call_defAt (fd := ksFn "__init__" qual params [supS (e0 :: es) a1 a2 a3 a4 a5, stoS f q1 q2 q3 q4] scope .none kV doc pm an (.ref cda) ct cc) (binds := [(("self" : Str), Value.ref x), (f, v)]) hroom (X _ _ hf) rfl hlim (codeRec_of X hcd) rfl (BindsTo.of_eq (hb ..)) W.cell ?_ (fun h₁ hn k₁ => ?_) W.co W.gen W.hk
  · intro y hy
    rcases List.mem_cons.mp hy with rfl | hy
    · exact W.kse
    · rcases List.mem_cons.mp hy with rfl | hy
      · exact W.kf f (List.mem_cons_self)
      · cases hy
  have hmf : (fun y => List.lookup y (List.reverse [(("self" : Str), Value.ref x), (f, v)])) f = some v := by
    show List.lookup f [(f, v), (("self" : Str), Value.ref x)] = some v
    simp [List.lookup]
  have hms : (fun y => List.lookup y (List.reverse [(("self" : Str), Value.ref x), (f, v)])) ("self" : Str) = some (Value.ref x) := by
    show List.lookup ("self" : Str) [(f, v), (("self" : Str), Value.ref x)] = some (.ref x)
    have e : (("self" : Str) == f) = false := by simpa using Ne.symm hfs
    simp [List.lookup, e]
  have X₁ : K.In h₁ := X.keeps k₁
  obtain ⟨pl, hev⟩ := W.hev s.heap.objs.size fI (.ref cda) cc
  show _root_.PySem.wpAt _ _ (.func _ (ksEnv qual scope s.heap.objs.size fI (.ref cda) cc)) (execs _ (ksEnv qual scope s.heap.objs.size fI (.ref cda) cc)) _ _ _
  refine ks_wpAt_execs_cons (sup_first hC X₁ (hg.keeps k₁) (hbn.keeps k₁) hbt hsu hf hp hcode hvs hfile hcell T.self1 T.isVE T.opq T.sup T.top hn (by rw [hps]; exact hms) (k₁ _ _ hx) W.ks W.kc (by rw [hps]; exact W.kse) W.hk ?_ (W.he ..) (W.hpl ..) (W.hi ..) hev (W.hsw ..) ?_)
  · intro s1 Q1 g1 g2 g3 g4
    refine W.hargs _ _ _ _ _ _ [v] s1 mg mb _ Q1 hok (fun i f' e => ?_) rfl hstr g1 g2 g3 hbt g4
    match i, e with
    | 0, e => cases e; exact hmf
  intro h₂ tk₂ t₁ k₂ hx₂
  refine wpAt_of_wpAny ?_
  have n₂ : s.heap.objs.size ≠ x := Nat.ne_of_gt (Heap.lt_size hx)
  have k12 : ∀ b o, b ≠ x → s.heap.get? b = some o → h₂.get? b = some o := fun b o hb e => k₂ b o hb (k₁ b o e)
  have X₂ : K.In h₂ := kin_but X₁ hnx k₂
  have hn₂ : h₂.Ns s.heap.objs.size _ := ns_but n₂ hn k₂
  show wpAny _ _ (execs _ _) _ _ _
  refine wpAny_execs_cons (plainObj_wpAny_Assign_Attribute ?_ (W.hst ..))
  refine ldS W.hk (W.kf f (List.mem_cons_self)) hn₂ hmf (ldS W.hk W.kse hn₂ hms ?_ (by decide)) hfd
  refine set_plain X₂ (ox := excO C t₁) (od := none) ⟨hx₂, rfl, rfl, trivial⟩ T.sa ?_
  refine exc_osa X₂ hx₂ hcl (show refsVE (.ref C :: bm) = true from hbm) rfl hnf (fun h₃ tk₃ dx k₃ dn dne hx₃ hn₃ => ?_)
  show wpAny _ _ (execs _ _) _ _ _
  refine wpAny_execs_nil (hq h₃ tk₃ dx ⟨fun b o hb e => k₃ b o hb (k12 b o hb e), ⟨_, hx₃⟩, ?_, dne, hn₃⟩)
  exact Nat.le_of_lt (Nat.lt_of_lt_of_le hn₂.lt dn)
/-- two fields -/
theorem sup_init2 (T : SupC prog K C fI qual params [supS (e0 :: es) a1 a2 a3 a4 a5, stoS f1 q1 q2 q3 q4, stoS f2 r1 r2 r3 r4] scope) (W : SupW prog w params scope qual [f1, f2] ok e0 es a1 a2 a3 a4 a5)
    (hnf1 : findIn K (.ref C) f1 = some none) (hnf2 : findIn K (.ref C) f2 = some none) (hfd1 : (f1 == ("__debug__" : Str)) = false) (hfd2 : (f2 == ("__debug__" : Str)) = false) (hfs1 : f1 ≠ "self") (hfs2 : f2 ≠ "self") (h12 : f1 ≠ f2) {v1 v2 : Value} (hok : ok [v1, v2])
    (hb : ∀ (kV doc pm : Value) (an : Option Addr) (cdv ct : Value) (cc : Addr), bindArgs (ksFn "__init__" qual params [supS (e0 :: es) a1 a2 a3 a4 a5, stoS f1 q1 q2 q3 q4, stoS f2 r1 r2 r3 r4] scope .none kV doc pm an cdv ct cc) ⟨[.ref x, v1, v2], []⟩ = pure [(("self" : Str), Value.ref x), (f1, v1), (f2, v2)])
    (X : K.In s.heap) (hlim : s.heap.NoLimit) (hg : s.heap.Ns mainGlobals mg) (hbn : s.heap.Ns builtinsNs mb) (hbt : ∀ y : Str, y ≠ "__name__" → mb y = bootBuiltins y) (hsu : mg "super" = none) (hstr : mg "str" = none)
    (hx : s.heap.get? x = some (excO C t0)) (hnx : K.lookup x = none) (hroom : A.depth < recursionLimit)
    (hq : ∀ h' tk dx, InitEnd s.heap h' x C dx (fun y => if y = f2 then some v2 else if y = f1 then some v1 else none) → R (.ok (.ret .none)) { s with heap := h', toks := tk }) :
    codeAny (model prog w) A (.call (.ref fI) ⟨[.ref x, v1, v2], []⟩) R s := by
  obtain ⟨nm, q, N, bs, bm, sn, sub, ab, col, dd, k0, k1, k2, k3, k5, hC, hbm⟩ := T.cls
  obtain ⟨oc, od, kV, doc, pm, an, cda, ct, osl, cc, vs, file, tf, ccl, cdd, ccs, cl, cld, csl, hf, hcd, hcode, hvs, hfile, hcell⟩ := T.fn
  obtain ⟨par, hp, hps⟩ := W.par
  have hcl : clsIn K C = some { name := nm, bases := bs, mro := .ref C :: bm, ns := N, qualname := q, hasDict := true, slotNames := sn, subclasses := sub, abstract := ab, collection := col, hasDel := false } := by unfold clsIn; rw [hC] <;> rfl
  have kf1 := W.kf f1 (List.mem_cons_self)
  have kf2 := W.kf f2 (List.mem_cons_of_mem _ (List.mem_cons_self))
  refine ks_codeAny_call_defAt (fd := ksFn "__init__" qual params [supS (e0 :: es) a1 a2 a3 a4 a5, stoS f1 q1 q2 q3 q4, stoS f2 r1 r2 r3 r4] scope .none kV doc pm an (.ref cda) ct cc) (binds := [(("self" : Str), Value.ref x), (f1, v1), (f2, v2)]) hroom (X _ _ hf) rfl hlim (codeRec_of X hcd) rfl (BindsTo.of_eq (hb ..)) W.cell ?_ (fun h₁ hn k₁ => ?_) W.co W.gen W.hk
  · intro y hy
    rcases List.mem_cons.mp hy with rfl | hy
    · exact W.kse
    rcases List.mem_cons.mp hy with rfl | hy
    · exact kf1
    rcases List.mem_cons.mp hy with rfl | hy
    · exact kf2
    · cases hy
  have e12 : (f1 == f2) = false := by simpa using h12
  have es1 : (("self" : Str) == f1) = false := by simpa using Ne.symm hfs1
  have es2 : (("self" : Str) == f2) = false := by simpa using Ne.symm hfs2
  have hmf1 : (fun y => List.lookup y (List.reverse [(("self" : Str), Value.ref x), (f1, v1), (f2, v2)])) f1 = some v1 := by
    show List.lookup f1 [(f2, v2), (f1, v1), (("self" : Str), Value.ref x)] = some v1
    simp [List.lookup, e12]
  have hmf2 : (fun y => List.lookup y (List.reverse [(("self" : Str), Value.ref x), (f1, v1), (f2, v2)])) f2 = some v2 := by
    show List.lookup f2 [(f2, v2), (f1, v1), (("self" : Str), Value.ref x)] = some v2
    simp [List.lookup]
  have hms : (fun y => List.lookup y (List.reverse [(("self" : Str), Value.ref x), (f1, v1), (f2, v2)])) ("self" : Str) = some (Value.ref x) := by
    show List.lookup ("self" : Str) [(f2, v2), (f1, v1), (("self" : Str), Value.ref x)] = some (.ref x)
    simp [List.lookup, es1, es2]
  have X₁ : K.In h₁ := X.keeps k₁
  obtain ⟨pl, hev⟩ := W.hev s.heap.objs.size fI (.ref cda) cc
  show _root_.PySem.wpAt _ _ (.func _ (ksEnv qual scope s.heap.objs.size fI (.ref cda) cc)) (execs _ (ksEnv qual scope s.heap.objs.size fI (.ref cda) cc)) _ _ _
  refine ks_wpAt_execs_cons (sup_first hC X₁ (hg.keeps k₁) (hbn.keeps k₁) hbt hsu hf hp hcode hvs hfile hcell T.self1 T.isVE T.opq T.sup T.top hn (by rw [hps]; exact hms) (k₁ _ _ hx) W.ks W.kc (by rw [hps]; exact W.kse) W.hk ?_ (W.he ..) (W.hpl ..) (W.hi ..) hev (W.hsw ..) ?_)
  · intro s1 Q1 g1 g2 g3 g4
    refine W.hargs _ _ _ _ _ _ [v1, v2] s1 mg mb _ Q1 hok (fun i f' e => ?_) rfl hstr g1 g2 g3 hbt g4
    match i, e with
    | 0, e => cases e; exact hmf1
    | 1, e => cases e; exact hmf2
  intro h₂ tk₂ t₁ k₂ hx₂
  refine wpAt_of_wpAny ?_
  have n₂ : s.heap.objs.size ≠ x := Nat.ne_of_gt (Heap.lt_size hx)
  have k12 : ∀ b o, b ≠ x → s.heap.get? b = some o → h₂.get? b = some o := fun b o hb e => k₂ b o hb (k₁ b o e)
  have X₂ : K.In h₂ := kin_but X₁ hnx k₂
  have hn₂ : h₂.Ns s.heap.objs.size _ := ns_but n₂ hn k₂
  show wpAny _ _ (execs _ _) _ _ _
  refine wpAny_execs_cons (plainObj_wpAny_Assign_Attribute ?_ (W.hst ..))
  refine ldS W.hk kf1 hn₂ hmf1 (ldS W.hk W.kse hn₂ hms ?_ (by decide)) hfd1
  refine set_plain X₂ (ox := excO C t₁) (od := none) ⟨hx₂, rfl, rfl, trivial⟩ T.sa ?_
  refine exc_osa X₂ hx₂ hcl (show refsVE (.ref C :: bm) = true from hbm) rfl hnf1 (fun h₃ tk₃ dx k₃ dn dne hx₃ hn₃ => ?_)
  have X₃ : K.In h₃ := kin_but X₂ hnx k₃
  have hLd : s.heap.objs.size ≠ dx := Nat.ne_of_lt (Nat.lt_of_lt_of_le hn₂.lt dn)
  have hn₃' : h₃.Ns s.heap.objs.size _ := ns_but n₂ hn₂ k₃
  obtain ⟨od3, ho3⟩ : ∃ o, h₃.get? dx = some o := by
    obtain ⟨o, _, _, e, _⟩ := hn₃
    exact ⟨o, e⟩
  show wpAny _ _ (execs _ _) _ _ _
  refine wpAny_execs_cons (plainObj_wpAny_Assign_Attribute ?_ (W.hst ..))
  refine ldS W.hk kf2 hn₃' hmf2 (ldS W.hk W.kse hn₃' hms ?_ (by decide)) hfd2
  refine set_plain X₃ (ox := { cls := .ref C, dict := some dx, data := .fields #[.ref t₁, .none, .none, .none, .bool false, .none] }) (od := some od3) ⟨hx₃, rfl, rfl, ho3⟩ T.sa ?_
  refine PySem.OEX.osa_old X₃ hx₃ hn₃ (nl := [f1]) (fun y hy => ?_) (by show 1 ≤ 1000; decide) hcl (show refsVE (.ref C :: bm) = true from hbm) rfl hnf2 (fun h₄ tk₄ k₄ hn₄ => ?_)
  · by_cases e : y = f1
    · rw [e]; exact List.mem_cons_self
    · exact absurd (if_neg e) hy
  show wpAny _ _ (execs _ _) _ _ _
  have hbig : s.heap.objs.size ≤ dx := Nat.le_of_lt (Nat.lt_of_lt_of_le hn₂.lt dn)
  refine wpAny_execs_nil (hq h₄ tk₄ dx ⟨fun b o hb e => k₄ b o (Nat.ne_of_lt (Nat.lt_of_lt_of_le (Heap.lt_size e) hbig)) (k₃ b o hb (k12 b o hb e)), ⟨_, k₄ _ _ (Ne.symm dne) hx₃⟩, hbig, dne, hn₄⟩)
end
/-- an error that is made -/
structure Made (h h' : Heap) (e C d : Addr) (mA : Str → Option Value) : Prop where
  keep : ∀ b o, h.get? b = some o → h'.get? b = some o
  new : h.objs.size ≤ e
  obj : ∃ t1 : Addr, h'.get? e = some { cls := .ref C, dict := some d, data := .fields #[.ref t1, .none, .none, .none, .bool false, .none] }
  dbig : h.objs.size ≤ d
  dne : d ≠ e
  ns : h'.Ns1 d mA
/-- the class at C makes errors of these fields -/
structure Makes (prog : Program) (w : World) (K : Frag) (mg : Str → Option Value) (C : Addr) (fs : List Str) (ok : List Value → Prop) : Prop where
  kC : keepIn K (.ref C) = true
  exC : subIn K (.ref C) (.type "BaseException") = some true
  tyC : typeIn K (.ref C) = some (.type "type")
  run : ∀ (A : Around) (s : Shared) (us : List Value) (mb : Str → Option Value) (R : Result → Shared → Prop), us.length = fs.length → ok us → K.In s.heap → s.heap.NoLimit → s.heap.Ns mainGlobals mg → s.heap.Ns builtinsNs mb → (∀ y : Str, y ≠ "__name__" → mb y = bootBuiltins y) →
    A.depth + 1 < recursionLimit → (∀ h' tk e d mA, (∀ f : Str, mA f = (fs.zip us).lookup f) → Made s.heap h' e C d mA → R (.ok (.ret (.ref e))) { s with heap := h', toks := tk }) → codeAny (model prog w) A (.call (.ref C) ⟨us, []⟩) R s
/-- from the maker to the class -/
theorem made_of {prog : Program} {w : World} {A : Around} {K : Frag} {C fI : Addr} {s : Shared} {us : List Value} {mA : Str → Option Value} {R : Result → Shared → Prop} {nm q : Str} {N : Addr} {bs bm : List Value} {sn : List Str} {sub : List Value} {ab : Bool} {col : Option Bool} {dd : Option Addr} {k0 k1 k2 k3 k5 : Option Value}
    (hC : K.lookup C = some (excClassObj nm q C N bs bm true sn sub ab col dd k0 k1 k2 k3 k5 "ValueError.__new__")) (hbm : refsVE bm = true) (iC : findIn K (.ref C) "__init__" = some (some (.ref fI))) (tC : typeIn K (.ref fI) = some (.type "function")) (hus : us.length ≤ 10)
    (X : K.In s.heap) (hlim : s.heap.NoLimit)
    (hin : ∀ (A' : Around) (s' : Shared) (x t0 : Addr) (R' : Result → Shared → Prop), A'.depth = A.depth + 1 → (∀ b o, s.heap.get? b = some o → s'.heap.get? b = some o) → s'.heap.get? x = some (excO C t0) → K.lookup x = none →
      (∀ h' tk dx, InitEnd s'.heap h' x C dx mA → R' (.ok (.ret .none)) { s' with heap := h', toks := tk }) → codeAny (model prog w) A' (.call (.ref fI) ⟨.ref x :: us, []⟩) R' s')
    (hq : ∀ h' tk e d, Made s.heap h' e C d mA → R (.ok (.ret (.ref e))) { s with heap := h', toks := tk }) :
    codeAny (model prog w) A (.call (.ref C) ⟨us, []⟩) R s := by
  obtain ⟨hp, g, dr, tk, os⟩ := s
  have k : ∀ b o, hp.get? b = some o → ((hp.push (kdv_tup us)).push (excO C hp.objs.size)).get? b = some o := fun b o e => Heap.get?_push_of_some _ (Heap.get?_push_of_some _ e)
  have hget : ((hp.push (kdv_tup us)).push (excO C hp.objs.size)).get? (hp.objs.size + 1) = some (excO C hp.objs.size) := by heap_get
  have hnx : K.lookup (hp.objs.size + 1) = none := by
    cases e : K.lookup (hp.objs.size + 1) with
    | none => rfl
    | some o =>
      have z : hp.get? (hp.objs.size + 1) = some o := X _ _ e
      exact absurd (Nat.lt_of_succ_lt (Heap.lt_size z)) (Nat.lt_irrefl _)
  refine call_own F.excBase_ValueError (fun X => refsVE_contains X bm hbm) (X _ _ hC) (looks_findIn X iC) (fun self => bind_fn X self tC) (Nat.le_trans hus (by rw [sizeLine_eq]; decide)) ?_
  refine hin (A.under (.builtin "type.__call__" ⟨.ref C :: us, []⟩)) ⟨(hp.push (kdv_tup us)).push (excO C hp.objs.size), g, dr, tk, os⟩ (hp.objs.size + 1) hp.objs.size _ rfl k hget hnx fun h' tk' dx ⟨k', hx, dn, dne, hns⟩ => ?_
  have old : ∀ b o, hp.get? b = some o → h'.get? b = some o := fun b o e => k' b o (Nat.ne_of_lt (Nat.lt_succ_of_lt (Heap.lt_size e))) (k b o e)
  have z : hp.objs.size + 1 + 1 ≤ dx := by
    first
      | (simpa only [Heap.size_push] using dn)
      | exact dn
      | (have q := dn; rw [Heap.size_push, Heap.size_push] at q; exact q)
  obtain ⟨t1, hx⟩ := hx
  exact ⟨rfl, hq h' tk' (hp.objs.size + 1) dx ⟨old, Nat.le_succ _, ⟨t1, hx⟩, Nat.le_trans (Nat.le_trans (Nat.le_succ _) (Nat.le_succ _)) z, dne, hns⟩⟩
section
variable {prog : Program} {w : World} {K : Frag} {C fI : Addr} {qual : Str} {params : Arguments} {scope : Scope} {mg : Str → Option Value} {f f1 f2 : Str} {ok : List Value → Prop} {e0 : Expr} {es : List Expr} {a1 a2 a3 a4 a5 q1 q2 q3 q4 r1 r2 r3 r4 : Pos}
theorem makes1 (T : SupC prog K C fI qual params [supS (e0 :: es) a1 a2 a3 a4 a5, stoS f q1 q2 q3 q4] scope) (W : SupW prog w params scope qual [f] ok e0 es a1 a2 a3 a4 a5) (kC : keepIn K (.ref C) = true) (exC : subIn K (.ref C) (.type "BaseException") = some true) (tyC : typeIn K (.ref C) = some (.type "type"))
    (hnf : findIn K (.ref C) f = some none) (hfd : (f == ("__debug__" : Str)) = false) (hfs : f ≠ "self") (hsu : mg "super" = none) (hstr : mg "str" = none)
    (hb : ∀ (x : Addr) (v : Value) (kV doc pm : Value) (an : Option Addr) (cdv ct : Value) (cc : Addr), bindArgs (ksFn "__init__" qual params [supS (e0 :: es) a1 a2 a3 a4 a5, stoS f q1 q2 q3 q4] scope .none kV doc pm an cdv ct cc) ⟨[.ref x, v], []⟩ = pure [(("self" : Str), Value.ref x), (f, v)]) :
    Makes prog w K mg C [f] ok where
  kC := kC
  exC := exC
  tyC := tyC
  run := fun A s us mb R hl hok X hlim hg hbn hbt hroom hq => by
    obtain ⟨nm, q, N, bs, bm, sn, sub, ab, col, dd, k0, k1, k2, k3, k5, hC, hbm⟩ := T.cls
    match us, hl with
    | [v], _ =>
      refine made_of (mA := fun y => if y = f then some v else none) hC hbm T.iC T.tC (by show 1 ≤ 10; decide) X hlim (fun A' s' x t0 R' hd k hx hnx h' => ?_) fun h' tk e d M => hq h' tk e d _ (fun g => ?_) M
      · exact sup_init1 T W hnf hfd hfs hok (hb x v) (X.keeps k) (hlim.keeps k) (hg.keeps k) (hbn.keeps k) hbt hsu hstr hx hnx (by rw [hd]; exact hroom) h'
      · by_cases e : g = f
        · subst e; simp [List.zip]
        · have e2 : (g == f) = false := by simpa using e
          simp [List.zip, List.lookup, e, e2]
theorem makes2 (T : SupC prog K C fI qual params [supS (e0 :: es) a1 a2 a3 a4 a5, stoS f1 q1 q2 q3 q4, stoS f2 r1 r2 r3 r4] scope) (W : SupW prog w params scope qual [f1, f2] ok e0 es a1 a2 a3 a4 a5) (kC : keepIn K (.ref C) = true) (exC : subIn K (.ref C) (.type "BaseException") = some true) (tyC : typeIn K (.ref C) = some (.type "type"))
    (hnf1 : findIn K (.ref C) f1 = some none) (hnf2 : findIn K (.ref C) f2 = some none) (hfd1 : (f1 == ("__debug__" : Str)) = false) (hfd2 : (f2 == ("__debug__" : Str)) = false) (hfs1 : f1 ≠ "self") (hfs2 : f2 ≠ "self") (h12 : f1 ≠ f2) (hsu : mg "super" = none) (hstr : mg "str" = none)
    (hb : ∀ (x : Addr) (v1 v2 : Value) (kV doc pm : Value) (an : Option Addr) (cdv ct : Value) (cc : Addr), bindArgs (ksFn "__init__" qual params [supS (e0 :: es) a1 a2 a3 a4 a5, stoS f1 q1 q2 q3 q4, stoS f2 r1 r2 r3 r4] scope .none kV doc pm an cdv ct cc) ⟨[.ref x, v1, v2], []⟩ = pure [(("self" : Str), Value.ref x), (f1, v1), (f2, v2)]) :
    Makes prog w K mg C [f1, f2] ok where
  kC := kC
  exC := exC
  tyC := tyC
  run := fun A s us mb R hl hok X hlim hg hbn hbt hroom hq => by
    obtain ⟨nm, q, N, bs, bm, sn, sub, ab, col, dd, k0, k1, k2, k3, k5, hC, hbm⟩ := T.cls
    match us, hl with
    | [v1, v2], _ =>
      refine made_of (mA := fun y => if y = f2 then some v2 else if y = f1 then some v1 else none) hC hbm T.iC T.tC (by show 2 ≤ 10; decide) X hlim (fun A' s' x t0 R' hd k hx hnx h' => ?_) fun h' tk e d M => hq h' tk e d _ (fun g => ?_) M
      · exact sup_init2 T W hnf1 hnf2 hfd1 hfd2 hfs1 hfs2 h12 hok (hb x v1 v2) (X.keeps k) (hlim.keeps k) (hg.keeps k) (hbn.keeps k) hbt hsu hstr hx hnx (by rw [hd]; exact hroom) h'
      · by_cases e : g = f2
        · subst e
          have e2 : (g == f1) = false := by simpa using Ne.symm h12
          simp [List.zip, List.lookup, e2]
        · have e2 : (g == f2) = false := by simpa using e
          by_cases e1 : g = f1
          · subst e1; simp [List.zip, List.lookup, e]
          · have e3 : (g == f1) = false := by simpa using e1
            simp [List.zip, List.lookup, e, e1, e2, e3]
end
end ErrL
end PySem

namespace L2
open PySem PySem.Spec PyProof.Rows
theorem relO_zip : ∀ {fs : List Str} {vs : List V} {us : List Value}, Vals vs us → ∀ f, RelO (List.lookup f (fs.zip vs)) (List.lookup f (fs.zip us))
  | [], vs, us, r, f => by simp [List.zip, RelO]
  | g :: fs, [], _, .nil, f => by simp [List.zip, RelO]
  | g :: fs, v :: vs, u :: us, .cons rv r, f => by
    by_cases e : f = g
    · subst e
      have q : RelO (some v) (some u) := rv
      simpa [List.zip, List.lookup] using q
    · have e2 : (f == g) = false := by simpa using e
      have ih := relO_zip (fs := fs) r f
      simpa [List.zip, List.lookup, e2] using ih
section
variable {X : Cx} {C : Addr} {fs : List Str} {ok : List Value → Prop}
/-- X(e, ..): a new error; okV says that the values may be written into its args -/
def tMkErr (C : Addr) (fs : List Str) (okV : List V → Prop) (ta : TA) : St → Hp → XK → Prop := fun σ H Q => ta σ H fun vs H1 => vs.length = fs.length ∧ okV vs ∧ ∀ d, H1 d = none → Q (.ref C) (some d) (upd H1 d (.xd (fs.zip vs)))
theorem pmk_err {x : Str} {e : Expr} {es : List Expr} {ta : TA} {p pos : Pos} {k : Nat} {okV : List V → Prop} (T : PySem.ErrL.Makes X.prog X.w X.K X.mg C fs ok) (hok : ∀ vs us, Vals vs us → okV vs → ok us) (gC : X.mg x = some (.ref C)) (hr : Room k X.A) (ha : PA X (e :: es) ta) (hg : Gl X x := by rfl)
    (hdb : (x == ("__debug__" : Str)) = false := by decide) (he : starEach (e :: es) X.env = (false, eval e X.env) :: starEach es X.env := by rfl) (hpl : (backTo pos (starEach es X.env)).any (·.1) = false := by rfl) :
    PMk X (.Call (.Name x p) (e :: es) [] pos) (tMkErr C fs okV ta) := by
  intro pins s σ H Q I h
  refine wpAny_Call_Name_kw (ld_glob I hg gC ?_ hdb)
  refine PySem.W.callWith_K (h₀ := X.base) I.ok.mod.kin T.kC (thn (ha.run pos pins s σ H _ I h) fun us s1 hh => ?_) he hpl
  obtain ⟨vs, H1, I1, r1, hl, hov, q1⟩ := hh
  refine ⟨I1.kIn, ?_⟩
  show wpAny _ _ (call (.ref C) us) _ _ _
  obtain ⟨mb, hmb, hbt⟩ := I1.mod.blt
  have hlim := I1.nolimit
  have hgl := I1.mod.glob.keeps I1.bk
  have hbl := hmb.keeps I1.bk
  have kin := I1.kIn
  obtain ⟨hp, g, dr, tk, os⟩ := s1
  refine wpAny_call (T.run _ _ us mb _ (by rw [← hl]; exact (Vals.length r1).symm) (hok vs us r1 hov) kin hlim hgl hbl hbt (by have := hr.dp; omega) fun h' tk' e d mA hmA M => ?_)
  show MkP X pins σ Q (.ref e) ⟨h', g, dr, tk', os⟩
  obtain ⟨t1, hoe⟩ := M.obj
  have hns := M.ns
  obtain ⟨G', g1, g2⟩ := restrict h' fun b => decide (b ≠ e)
  have gk : ∀ b, b ≠ e → G'.get? b = h'.get? b := fun b hb => g1 b (decide_eq_true hb)
  have ge : G'.get? e = none := g2 e (by simp)
  have old : ∀ b o, hp.get? b = some o → G'.get? b = some o := fun b o q => (gk b (Nat.ne_of_lt (Nat.lt_of_lt_of_le (Heap.lt_size q) M.new))).trans (M.keep b o q)
  have ob : ObjOk X.prog X.w (upd H1 d (.xd (fs.zip vs))) G' d (.xd (fs.zip vs)) :=
    ⟨_, hns.at (fun o q => (gk d M.dne).trans q), fun f => by rw [hmA]; exact relO_zip r1 f⟩
  have J : Inv X pins σ (upd H1 d (.xd (fs.zip vs))) ⟨G', g, dr, tk', os⟩ := I1.laid (t' := tk') old M.dbig ob
  refine ⟨e, _, _, ⟨G', g, dr, tk', os⟩, _, .ref C, some d, rfl, J, fun b o q => ?_, ge, hoe, ⟨rfl, rfl⟩, rfl, rfl, ?_, rfl, I1.bare, raises_own T.exC T.tyC, q1 d (I1.hok.fresh M.dbig)⟩
  · by_cases hb : b = e
    · have q' : G'.get? b = some o := q
      rw [hb, ge] at q'; cases q'
    · exact (gk b hb).symm.trans q
  · rw [upd_ne (Ne.symm M.dne)]
    exact I1.hok.fresh M.new
/-- raise X(e, ..) -/
def tRaiseErr (C : Addr) (fs : List Str) (okV : List V → Prop) (W : WX) (ta : TA) : TS := fun _ σ H => tMkErr C fs okV ta σ H fun cls d H' => W cls d σ H'
theorem ps_raiseErr {W : WX} {x : Str} {e : Expr} {es : List Expr} {ta : TA} {p pos pos2 : Pos} {k : Nat} {okV : List V → Prop} (hc : X.calm = true) (T : PySem.ErrL.Makes X.prog X.w X.K X.mg C fs ok) (hok : ∀ vs us, Vals vs us → okV vs → ok us) (gC : X.mg x = some (.ref C)) (hr : Room k X.A) (tk : Takes X W) (ha : PA X (e :: es) ta) (hg : Gl X x := by rfl)
    (hdb : (x == ("__debug__" : Str)) = false := by decide) (he : starEach (e :: es) X.env = (false, eval e X.env) :: starEach es X.env := by rfl) (hpl : (backTo pos (starEach es X.env)).any (·.1) = false := by rfl) :
    PS X (.Raise (some (.Call (.Name x p) (e :: es) [] pos)) none pos2) (tRaiseErr C fs okV W ta) := ps_raise hc tk (pmk_err T hok gC hr ha hg hdb he hpl)
end
end L2
set_option Elab.async false
set_option linter.all false
set_option maxRecDepth 100000
set_option maxHeartbeats 4000000
namespace PySem
namespace ErrL
open PySem.W PySem.Calls PyProof.Rows PySem.HandSPX
section
variable {prog : Program} {w : World} {params : Arguments} {scope : Scope} {qual : Str} {f f1 f2 : Str} {a1 a2 a3 a4 a5 p0 p1 p2 p3 : Pos} {j0 : Nat} {z : Str}
theorem args_c (hk : scope.kind = .function) (L fI : Addr) (cd : Value) (cc : Addr) (A : Around) (E : Value → Shared → Prop) (s1 : Shared) (Q1 : List Value → Shared → Prop) (h : ∀ (ws : List Value) tk, ws.length ≤ 10 → Q1 ws { s1 with toks := tk }) :
    wpAny (model prog w) A (spliced (backTo a4 (starEach [.Constant (.str z) j0 p0] (ksEnv qual scope L fI cd cc)))) Q1 E s1 := by
  show wpAny _ _ (spliced [(false, eval (.Constant (.str z) j0 p0) (ksEnv qual scope L fI cd cc))]) _ _ _
  exact spliced_cons (wpAny_Constant_str (spliced_nil (h _ _ (by show 1 ≤ 10; decide))))
theorem args_cn (hk : scope.kind = .function) (kf : scope.names.lookup f = some .local) (hfd : (f == ("__debug__" : Str)) = false) (L fI : Addr) (cd : Value) (cc : Addr) (A : Around) (E : Value → Shared → Prop) (v : Value) (s1 : Shared) (m : Str → Option Value) (Q1 : List Value → Shared → Prop)
    (hm : m f = some v) (hn : s1.heap.Ns L m) (h : ∀ (ws : List Value) tk, ws.length ≤ 10 → Q1 ws { s1 with toks := tk }) :
    wpAny (model prog w) A (spliced (backTo a4 (starEach [.Constant (.str z) j0 p0, .Name f p1] (ksEnv qual scope L fI cd cc)))) Q1 E s1 := by
  show wpAny _ _ (spliced [(false, eval (.Constant (.str z) j0 p0) (ksEnv qual scope L fI cd cc)), (false, eval (.Name f p1) (ksEnv qual scope L fI cd cc))]) _ _ _
  refine spliced_cons (wpAny_Constant_str (spliced_cons ?_))
  exact ldS hk kf hn hm (spliced_nil (h _ _ (by show 2 ≤ 10; decide))) hfd
theorem args_csn (hk : scope.kind = .function) (kf1 : scope.names.lookup f1 = some .local) (kf2 : scope.names.lookup f2 = some .local) (kstr : scope.names.lookup ("str" : Str) = some .globalImplicit) (hfd1 : (f1 == ("__debug__" : Str)) = false) (hfd2 : (f2 == ("__debug__" : Str)) = false)
    (L fI : Addr) (cd : Value) (cc : Addr) (A : Around) (E : Value → Shared → Prop) (i : Int) (t : Tok) (v2 : Value) (s1 : Shared) (m mg mb : Str → Option Value) (Q1 : List Value → Shared → Prop) (hi : i.natAbs.log2 < 1920)
    (hm1 : m f1 = some (.int i t)) (hm2 : m f2 = some v2) (hstr : mg "str" = none) (hn : s1.heap.Ns L m) (hg : s1.heap.Ns mainGlobals mg) (hb : s1.heap.Ns builtinsNs mb) (hbt : ∀ y : Str, y ≠ "__name__" → mb y = bootBuiltins y) (h : ∀ (ws : List Value) tk, ws.length ≤ 10 → Q1 ws { s1 with toks := tk })
    (he1 : starEach [.Name f1 p2] (ksEnv qual scope L fI cd cc) = (false, eval (.Name f1 p2) (ksEnv qual scope L fI cd cc)) :: starEach [] (ksEnv qual scope L fI cd cc)) :
    wpAny (model prog w) A (spliced (backTo a4 (starEach [.Constant (.str z) j0 p0, .Call (.Name "str" p1) [.Name f1 p2] [] p3, .Name f2 a5] (ksEnv qual scope L fI cd cc)))) Q1 E s1 := by
  show wpAny _ _ (spliced [(false, eval (.Constant (.str z) j0 p0) (ksEnv qual scope L fI cd cc)), (false, eval (.Call (.Name "str" p1) [.Name f1 p2] [] p3) (ksEnv qual scope L fI cd cc)), (false, eval (.Name f2 a5) (ksEnv qual scope L fI cd cc))]) _ _ _
  refine spliced_cons (wpAny_Constant_str (spliced_cons ?_))
  refine wpAny_Call_Name_kw ?_
  refine wpAny_Name ?_ (by decide)
  refine ks_loadName_global hk kstr (loadGlobal_builtin (env := ksEnv qual scope L fI cd cc) hg hstr hb ((hbt _ (by decide +kernel)).trans (show bootBuiltins ("str" : Str) = some (.type "str") by decide +kernel)) ?_)
  refine PyProof.Rows.callWith_type1 ?_ he1 rfl
  show wpAny _ _ (spliced [(false, eval (.Name f1 p2) (ksEnv qual scope L fI cd cc))]) _ _ _
  refine spliced_cons (ldS hk kf1 hn hm1 (spliced_nil ?_) hfd1)
  refine PySem.P.str_of_int hi (spliced_cons ?_)
  exact ldS hk kf2 hn hm2 (spliced_nil (h _ _ (by show 3 ≤ 10; decide))) hfd2
end
end ErrL
end PySem
set_option Elab.async false
set_option linter.all false
set_option maxRecDepth 100000
set_option maxHeartbeats 4000000
/-! isinstance of a caught error that has its own dict -/
namespace PySem.ErrL
open PySem PySem.W PySem.Spec PySem.Calls PyProof.Rows
section
variable {prog : Program} {w : World} {A : Around} {E : Value → Shared → Prop} {s : Shared} {K : Frag} {x D : Addr} {ox : Obj} {od : Option Obj}
theorem find_cls (hd : hasDictIn K D = true) (ha : findIn K (.ref D) "__class__" = some (some (.builtin "object.__class__"))) (hn : specialIn K (.builtin "object.__class__") "__get__" = some (some (.builtin "getset_descriptor.__get__"))) (ht : takesIn K (.builtin "object.__class__") = some true) :
    findObj K D od "__class__" = some (.bind (.builtin "getset_descriptor.__get__") (.builtin "object.__class__")) := by
  obtain ⟨cd, hc, _⟩ := any_some hd
  unfold findObj
  rw [hc, Option.bind_some, ha, Option.bind_some]
  simp [hn, ht]
/-- e.__class__, e an error with its dict -/
theorem cls_of (T : L2.ExcC K D) {Q : Option Value → Shared → Prop} (X : K.In s.heap) (I : InstAt s.heap x ox D od) (h : Q (some (.ref D)) { s with toks := s.toks + 1 }) : wpAny (model prog w) A (getAttr? (.ref x) "__class__") Q E s := by
  have hf := find_cls (od := od) T.hd T.ha T.hn T.ht
  obtain ⟨hp, g, d, t, os⟩ := s
  have ty := I.type (M := model prog w); have l1 := looks_findIn (M := model prog w) X T.hg; have l2 := looks_findIn (M := model prog w) X T.hk
  have l3 := looks_find (M := model prog w) X I hf; have sb : Looks (model prog w) hp (isInstance (.ref x) (.type "BaseException")) true := ty.andThen (looks_subIn X T.hs)
  have n2 : (Value.builtin "BaseException.__getattribute__" == Value.builtin "object.__getattribute__") = false := by decide +kernel
  have n1 : (onTheHeap (Value.ref D) && Value.builtin "BaseException.__getattribute__" == Value.builtin "object.__getattribute__") = false := (by rw [n2]; rfl)
  unfold getAttr? getAttrBy? getAttrBy
  refine wpAny_bind (wpAny_mkText (wpAny_bind (wpAny_attempt (wpAny_holding (wpAny_bind (ty.at (wpAny_bind (l1.at ?_))))))))
  show wpAny _ _ (if (onTheHeap (Value.ref D) && Value.builtin "BaseException.__getattribute__" == Value.builtin "object.__getattribute__") = true then _ else _) _ _ _
  rw [n1, if_neg Bool.false_ne_true]; unfold getAttrByItsOwn hookBefore
  refine wpAny_bind ?_
  rw [if_pos (show onTheHeap (Value.ref D) = true from rfl)]
  refine l2.at (wpAny_bind (wpAny_attempt (wpAny_holding ?_)))
  unfold callGetattribute
  rw [show (false && onTheHeap (Value.builtin "BaseException.__getattribute__")) = false from rfl, if_neg Bool.false_ne_true]; unfold boundAndCalled; rw [PySem.F.excAttr_ValueError.ga.bind (.ref x)]
  refine wpAny_bind (wpAny_pure ?_)
  show wpAny _ _ (call (.builtin "BaseException.__getattribute__") [.ref x, .str "__class__" t]) _ _ _
  refine wpAny_call (codeAny_call_builtin PySem.F.excAttr_ValueError.ga.plain PySem.F.entry_bexc_ga (@check_slot (model prog w) _ _ ⟨hp, g, d, t + 1, os⟩ "BaseException.__getattribute__" "BaseException" "__getattribute__" (.ref x) [.str "__class__" t] [] _ (by decide +kernel) (by decide +kernel) sb (PySem.F.args_bexc_ga (.ref x) (.str "__class__" t)) ?_))
  unfold Builtin.«object.__getattribute__»
  refine wpAny_bind (wpAny_of_eq (a := ((Value.ref x : Value), [Value.str "__class__" t])) (by first | rfl | (simp only [slotArgs]; rfl)) (wpAny_bind (wpAny_pure (wpAny_bind (ty.at (wpAny_bind (l3.at ?_)))))))
  show wpAny _ _ (holding [Value.builtin "object.__class__"] (call (.builtin "getset_descriptor.__get__") [.builtin "object.__class__", .ref x, .ref D]) >>= ret) _ _ _
  refine wpAny_bind (wpAny_holding (wpAny_call (class_get (s := ⟨hp, g, d, t + 1, os⟩) (ox := ox) (od := od) X I T.hm (wpAny_pure ?_))))
  show wpAny _ _ (handedOut (.ref D)) _ _ _
  rw [handedOut_of (v := .ref D) rfl]
  first
    | exact wpAny_pure (wpAny_pure h)
    | exact wpAny_pure h
    | exact wpAny_pure (wpAny_bind (wpAny_pure (wpAny_pure h)))
theorem kitx_err (T : L2.ExcC K D) : KitX K (.ref x) (.ref D) (fun h => InstAt h x ox D od) where
  ty := fun _ _ _ I => I.type
  it := fun M h X I => by
    obtain ⟨cd, hc, _⟩ := any_some T.hd
    unfold clsIn at hc
    split at hc
    · rename_i c' d' cd' sl' ho
      intro A' Q' E' s' k q; unfold isType loadHead; exact wpAny_bind (wpAny_loadPart (k _ _ (X _ _ ho)) (wpAny_pure q))
    · cases hc
  ne := (handS_kitx_exc (x := x) (ox := ox) T.hg T.hk T.hs T.hd T.ha T.hn T.ht T.hm).ne
  ca := fun X I k => cls_of T X I k
end
end PySem.ErrL
namespace L2
open PySem PySem.Spec PyProof.Rows
theorem ExcC.xf {K : PySem.W.Frag} {C : Addr} (T : ExcC K C) : XfC K C := ⟨T.hg, T.hk, T.hs, T.hd⟩
/-- isinstance(e, c), e the error that the suite holds, its dict at dd -/
def rIsErr (K : PySem.W.Frag) (cls : Value) (d : Option Addr) (a : Addr) : List V → Hp → VK → Prop := fun xs H Q => ∃ (c : V) (cv : Value) (b : Bool) (D dd : Addr) (fs : List (Str × V)), xs = [.ref a, c] ∧ cls = .ref D ∧ d = some dd ∧ H dd = some (.xd fs) ∧ ExcC K D ∧ ClsV c cv ∧ PySem.W.kitOne K (.ref D) cv = some b ∧ Q (.bl b) H
theorem call_isErr {X : Cx} {a : Addr} {cls : Value} {d : Option Addr} {oe : Obj} {pn : List (Addr × Obj)} (hz : Zc cls d oe) (hf : ∃ vs, oe.data = .fields vs) : CallR (X.suite a ((a, oe) :: pn)) (.builtin "isinstance") (rIsErr X.K cls d a) := by
  intro pins s σ H xs us Q I r h
  obtain ⟨c, cv, b, D, dd, fs, rfl, rfl, rfl, hdd, T, hcv, e, q⟩ := h
  obtain ⟨u1, u2, rfl, r1, r2⟩ := vals2 r
  obtain rfl : u1 = Value.ref a := r1
  have ec := hcv.eq r2
  subst ec
  obtain ⟨hget, _⟩ := I.pin (a, oe) (List.mem_append.mpr (.inl List.mem_cons_self))
  obtain ⟨vs, hv⟩ := hf
  obtain ⟨mA, hns, _⟩ := (show ObjOk X.prog X.w H s.heap dd (.xd fs) from I.hok dd _ hdd)
  obtain ⟨o', es, ep, ho, _⟩ := hns
  have J : PySem.W.InstAt s.heap a oe D (some o') := ⟨hget, hz.1, by unfold PySem.W.notCls; rw [hv] <;> rfl, by rw [hz.2]; exact ho⟩
  exact PySem.W.kia_one (PySem.ErrL.kitx_err T) I.kIn J e (fun z => nomatch z) fun tk => ⟨.bl b, H, I.kept (t' := tk) fun _ _ z => z, rfl, q⟩
theorem call_isErrK {X : Cx} {K : PySem.W.Frag} {a : Addr} {cls : Value} {d : Option Addr} {oe : Obj} {pn : List (Addr × Obj)} (h : X.K = K) (hz : Zc cls d oe) (hf : ∃ vs, oe.data = .fields vs) : CallR (X.suite a ((a, oe) :: pn)) (.builtin "isinstance") (rIsErr K cls d a) := h ▸ call_isErr hz hf
/-- .. with a dict or without -/
def rIsErr2 (K : PySem.W.Frag) (cls : Value) (d : Option Addr) (a : Addr) : List V → Hp → VK → Prop := fun xs H Q => ∃ (c : V) (cv : Value) (b : Bool) (D : Addr), xs = [.ref a, c] ∧ cls = .ref D ∧ (∀ dd, d = some dd → ∃ fs, H dd = some (.xd fs)) ∧ ExcC K D ∧ ClsV c cv ∧ PySem.W.kitOne K (.ref D) cv = some b ∧ Q (.bl b) H
theorem call_isErr2 {X : Cx} {a : Addr} {cls : Value} {d : Option Addr} {oe : Obj} {pn : List (Addr × Obj)} (hz : Zc cls d oe) (hf : ∃ vs, oe.data = .fields vs) : CallR (X.suite a ((a, oe) :: pn)) (.builtin "isinstance") (rIsErr2 X.K cls d a) := by
  intro pins s σ H xs us Q I r h
  obtain ⟨c, cv, b, D, rfl, rfl, hdd, T, hcv, e, q⟩ := h
  obtain ⟨u1, u2, rfl, r1, r2⟩ := vals2 r
  obtain rfl : u1 = Value.ref a := r1
  have ec := hcv.eq r2
  subst ec
  obtain ⟨hget, _⟩ := I.pin (a, oe) (List.mem_append.mpr (.inl List.mem_cons_self))
  obtain ⟨vs, hv⟩ := hf
  have J : ∃ od : Option Obj, PySem.W.InstAt s.heap a oe D od := by
    cases d with
    | none => exact ⟨none, hget, hz.1, by unfold PySem.W.notCls; rw [hv] <;> rfl, by rw [hz.2]; exact trivial⟩
    | some dd =>
      obtain ⟨fs, h⟩ := hdd dd rfl
      obtain ⟨mA, hns, _⟩ := (show ObjOk X.prog X.w H s.heap dd (.xd fs) from I.hok dd _ h)
      obtain ⟨o', es, ep, ho, _⟩ := hns
      exact ⟨some o', hget, hz.1, by unfold PySem.W.notCls; rw [hv] <;> rfl, by rw [hz.2]; exact ho⟩
  obtain ⟨od, J⟩ := J
  exact PySem.W.kia_one (PySem.ErrL.kitx_err T) I.kIn J e (fun z => nomatch z) fun tk => ⟨.bl b, H, I.kept (t' := tk) fun _ _ z => z, rfl, q⟩
theorem call_isErr2K {X : Cx} {K : PySem.W.Frag} {a : Addr} {cls : Value} {d : Option Addr} {oe : Obj} {pn : List (Addr × Obj)} (h : X.K = K) (hz : Zc cls d oe) (hf : ∃ vs, oe.data = .fields vs) : CallR (X.suite a ((a, oe) :: pn)) (.builtin "isinstance") (rIsErr2 K cls d a) := h ▸ call_isErr2 hz hf
end L2
set_option Elab.async false
set_option linter.all false
set_option maxRecDepth 100000
set_option maxHeartbeats 4000000
/-! own errors held as values -/
namespace L2
open PySem PySem.Spec PyProof.Rows
section
variable {X : Cx} {C : Addr} {fs : List Str} {ok : List Value → Prop} {x : Str} {e : Expr} {es : List Expr} {ta : TA} {p p1 p2 pos : Pos}
/-- X(e, ..), a value: the error and its dict -/
def tErV (C : Addr) (fs : List Str) (okV : List V → Prop) (ta : TA) : TE := fun σ H Q => ta σ H fun vs H1 => vs.length = fs.length ∧ okV vs ∧ ∀ a d, H1 a = none → H1 d = none → d ≠ a → Q (.ref a) (upd (upd H1 d (exd d (fs.zip vs))) a (exo a C (some d)))
theorem pe_erV {k : Nat} {okV : List V → Prop} (T : PySem.ErrL.Makes X.prog X.w X.K X.mg C fs ok) (hok : ∀ vs us, Vals vs us → okV vs → ok us) (gC : X.mg x = some (.ref C)) (hr : Room k X.A) (ha : PA X (e :: es) ta) (hg : Gl X x := by rfl)
    (hdb : (x == ("__debug__" : Str)) = false := by decide) (he : starEach (e :: es) X.env = (false, eval e X.env) :: starEach es X.env := by rfl) (hpl : (backTo pos (starEach es X.env)).any (·.1) = false := by rfl) :
    PE X (.Call (.Name x p) (e :: es) [] pos) (tErV C fs okV ta) := by
  refine ⟨fun pins s σ H Q I h => ?_⟩
  refine wpAny_Call_Name_kw (ld_glob I hg gC ?_ hdb)
  refine PySem.W.callWith_K (h₀ := X.base) I.ok.mod.kin T.kC (thn (ha.run pos pins s σ H _ I h) fun us s1 hh => ?_) he hpl
  obtain ⟨vs, H1, I1, r1, hl, hov, q1⟩ := hh
  refine ⟨I1.kIn, ?_⟩
  show wpAny _ _ (call (.ref C) us) _ _ _
  obtain ⟨mb, hmb, hbt⟩ := I1.mod.blt
  have hlim := I1.nolimit
  have hgl := I1.mod.glob.keeps I1.bk
  have hbl := hmb.keeps I1.bk
  have kin := I1.kIn
  obtain ⟨hp, g, dr, tk, os⟩ := s1
  refine wpAny_call (T.run _ _ us mb _ (by rw [← hl]; exact (Vals.length r1).symm) (hok vs us r1 hov) kin hlim hgl hbl hbt (by have := hr.dp; omega) fun h' tk' a d mA hmA M => ?_)
  obtain ⟨t1, hoe⟩ := M.obj
  have ha0 : hp.get? a = none := Heap.get?_none_of_le M.new
  have hd0 : hp.get? d = none := Heap.get?_none_of_le M.dbig
  have na : H1 a = none := I1.hok.fresh M.new
  have nd : H1 d = none := I1.hok.fresh M.dbig
  have rel : ∀ f, RelO ((fs.zip vs).lookup f) (mA f) := fun f => by rw [hmA]; exact relO_zip r1 f
  have U : Un X.fs [] H1 (upd (upd H1 d (exd d (fs.zip vs))) a (exo a C (some d))) hp h' := {
    keep := fun b u q _ _ _ => M.keep b u q
    slot := fun b u q _ _ _ => ⟨u.slots, M.keep b u q⟩
    free := fun b u q n _ => by rw [upd_ne (fun z => by rw [z, ha0] at q; cases q), upd_ne (fun z => by rw [z, hd0] at q; cases q)]; exact n
    there := fun b u q _ => ⟨u, M.keep b u q⟩
    tups := fun b xs q => by rw [upd_ne (ne_of_none q na), upd_ne (ne_of_none q nd)]; exact q
    frzs := fun b u xs q => by rw [upd_ne (ne_of_none q na), upd_ne (ne_of_none q nd)]; exact q
    tbls := fun b ps q => ⟨#[], by rw [upd_ne (ne_of_none q na), upd_ne (ne_of_none q nd), q]; simp⟩ }
  have hok2 : HOk X.prog X.w (upd (upd H1 d (exd d (fs.zip vs))) a (exo a C (some d))) h' := fun b u q => by
    by_cases hb : b = a
    · subst hb
      rw [upd_same] at q
      cases q
      exact exo_ok hoe
    · rw [upd_ne hb] at q
      by_cases hb2 : b = d
      · subst hb2
        rw [upd_same] at q
        cases q
        exact exd_ok M.ns rel
      · rw [upd_ne hb2] at q
        exact (I1.hok b u q).stay (fun c v _ z => M.keep c v z) (fun c z => by rw [upd_ne (ne_of_none z na), upd_ne (ne_of_none z nd)]; exact z) fun c xs z => by rw [upd_ne (ne_of_none z na), upd_ne (ne_of_none z nd)]; exact z
  exact ⟨.ref a, _, I1.un (t' := tk') U hok2, rfl, q1 a d na nd M.dne⟩
/-- X(e, ..), a value, X's own __init__ walked -/
def tOeV (C : Addr) (sp : Sp) (dvs : List V) (ta : TA) : TE := fun σ H Q => ta σ H fun vs H1 => vs.length ≤ 1000 ∧ ∀ a, H1 a = none → sp (.ref a :: (vs ++ dvs)) (upd H1 a (exo a C none)) (fun v H2 => v = .non ∧ Q (.ref a) H2) (fun _ _ _ => False)
theorem run_oeV {CX : CXT} {fI : Addr} {k : Nat} {fd : FuncData} {ps : List Str} {sp : Sp} {ds : List Value} {dvs : List V} {pins : List (Addr × Obj)} {σ : St} {H1 : Hp} {s1 : Shared} {Q : VK} {us : List Value} {vs : List V} (T : OexC X.K C) (iC : PySem.W.findIn X.K (.ref C) "__init__" = some (some (.ref fI))) (tI : PySem.W.typeIn X.K (.ref fI) = some (.type "function"))
    (F1 : FnOk X.prog X.w X.K X.mg X.base CX k fI fd ps sp) (hr : Room (k + 1) X.A) (hb : Binds X.K fd ps ds) (hd : Vals dvs ds) (hx : Passes CX X (fun _ _ _ => False)) (I1 : Inv X pins σ H1 s1) (r1 : Vals vs us) (hz : vs.length ≤ 1000)
    (q1 : ∀ a, H1 a = none → sp (.ref a :: (vs ++ dvs)) (upd H1 a (exo a C none)) (fun v H2 => v = .non ∧ Q (.ref a) H2) (fun _ _ _ => False)) : wpAny (model X.prog X.w) X.A (call (.ref C) us) (EP X pins σ Q) X.xe s1 := by
  obtain ⟨nm, q, N, bs, bm, sn, sub, ab, col, dd, k0, k1, k2, k3, k5, hC, hbm⟩ := T.cls
  obtain ⟨hp, g, dr, tk, os⟩ := s1
  have hsz : hp.objs.size ≤ hp.objs.size + 1 := Nat.le_succ _
  have hn : H1 (hp.objs.size + 1) = none := I1.hok.fresh hsz
  have hq := q1 (hp.objs.size + 1) hn
  have kk : ∀ b o, hp.get? b = some o → ((hp.push (PySem.W.kdv_tup us)).push (PySem.HandSPX.excO C hp.objs.size)).get? b = some o := fun b o e => Heap.get?_push_of_some _ (Heap.get?_push_of_some _ e)
  have hget : ((hp.push (PySem.W.kdv_tup us)).push (PySem.HandSPX.excO C hp.objs.size)).get? (hp.objs.size + 1) = some (PySem.HandSPX.excO C hp.objs.size) := by heap_get
  have I2 : Inv X pins σ (upd H1 (hp.objs.size + 1) (exo (hp.objs.size + 1) C none)) ⟨(hp.push (PySem.W.kdv_tup us)).push (PySem.HandSPX.excO C hp.objs.size), g, dr, tk, os⟩ :=
    I1.laid (t' := tk) (a := hp.objs.size + 1) (o := exo (hp.objs.size + 1) C none) (h' := (hp.push (PySem.W.kdv_tup us)).push (PySem.HandSPX.excO C hp.objs.size)) kk hsz (exo_ok hget)
  have r2 : Vals (V.ref (hp.objs.size + 1) :: (vs ++ dvs)) (Value.ref (hp.objs.size + 1) :: (us ++ ds)) := .cons rfl (r1.append hd)
  have hl : (Value.ref (hp.objs.size + 1) :: us ++ ds).length = ps.length := by
    have e := r2.length
    rw [F1.len _ _ _ _ hq] at e
    exact e.symm
  have hus : us.length ≤ sizeLine := by
    rw [← Paired.length r1, sizeLine_eq]
    omega
  refine wpAny_call (PySem.HandSPX.call_own F.excBase_ValueError (fun Y => PySem.HandSPX.refsVE_contains Y bm hbm) (I1.kIn _ _ hC) (PySem.W.looks_findIn I1.kIn iC) (fun self => PySem.W.bind_fn I1.kIn self tI) hus
    (codeAny_mono (F1.run _ X.stack _ _ ⟨Value.ref (hp.objs.size + 1) :: us, []⟩ (Value.ref (hp.objs.size + 1) :: (us ++ ds)) _ _ (fun _ _ _ => False) (hr.make C us []) (I2.env0.make C us []) (hb _ (Value.ref (hp.objs.size + 1) :: us) I2.kIn hl) r2 hq) fun r s' hq' => ?_))
  cases r with
  | error er => exact hx pins σ _ _ er s' I2 hq'
  | ok fl =>
    cases fl with
    | ret u =>
      obtain ⟨v, H2, J, rv, ev, q2⟩ := I2.after hq'
      subst ev
      exact ⟨rv, .ref (hp.objs.size + 1), H2, J, rfl, q2⟩
    | next => exact False.elim hq'
    | brk => exact False.elim hq'
    | cont => exact False.elim hq'
theorem pe_oeV {CX : CXT} {fI : Addr} {k : Nat} {fd : FuncData} {ps : List Str} {sp : Sp} {ds : List Value} {dvs : List V} (T : OexC X.K C) (iC : PySem.W.findIn X.K (.ref C) "__init__" = some (some (.ref fI))) (tI : PySem.W.typeIn X.K (.ref fI) = some (.type "function"))
    (F1 : FnOk X.prog X.w X.K X.mg X.base CX k fI fd ps sp) (hr : Room (k + 1) X.A) (hb : Binds X.K fd ps ds) (hd : Vals dvs ds) (hx : Passes CX X (fun _ _ _ => False)) (hm : X.mg x = some (.ref C)) (ha : PA X (e :: es) ta) (hg : Gl X x := by rfl)
    (hdb : (x == ("__debug__" : Str)) = false := by decide) (he : starEach (e :: es) X.env = (false, eval e X.env) :: starEach es X.env := by rfl) (hpl : (backTo pos (starEach es X.env)).any (·.1) = false := by rfl) :
    PE X (.Call (.Name x p) (e :: es) [] pos) (tOeV C sp dvs ta) := by
  refine ⟨fun pins s σ H Q I h => ?_⟩
  refine wpAny_Call_Name_kw (ld_glob I hg hm ?_ hdb)
  refine PySem.W.callWith_K (h₀ := X.base) I.ok.mod.kin T.kC (thn (ha.run pos pins s σ H _ I h) fun us s1 ⟨vs, H1, I1, r1, hz, q1⟩ => ⟨I1.kIn, ?_⟩) he hpl
  exact run_oeV T iC tI F1 hr hb hd hx I1 r1 hz q1
theorem pe_oeV0 {CX : CXT} {fI : Addr} {k : Nat} {fd : FuncData} {ps : List Str} {sp : Sp} {ds : List Value} {dvs : List V} (T : OexC X.K C) (iC : PySem.W.findIn X.K (.ref C) "__init__" = some (some (.ref fI))) (tI : PySem.W.typeIn X.K (.ref fI) = some (.type "function"))
    (F1 : FnOk X.prog X.w X.K X.mg X.base CX k fI fd ps sp) (hr : Room (k + 1) X.A) (hb : Binds X.K fd ps ds) (hd : Vals dvs ds) (hx : Passes CX X (fun _ _ _ => False)) (hm : X.mg x = some (.ref C)) (hg : Gl X x := by rfl)
    (hdb : (x == ("__debug__" : Str)) = false := by decide) : PE X (.Call (.Name x p) [] [] pos) (tOeV C sp dvs tNil) := by
  refine ⟨fun pins s σ H Q I h => ?_⟩
  refine wpAny_Call_Name_kw (ld_glob I hg hm ?_ hdb)
  exact PySem.W.callWith_K0 I.kIn T.kC (run_oeV (us := []) T iC tI F1 hr hb hd hx I .nil h.1 h.2)
/-- X(), a value, X a class without a text of its own -/
theorem pe_exV0 {bmB : List Value} {B newId initId : String} (F : ExcBaseFacts B newId initId bmB) (q : PySem.W.excIn X.K C bmB newId = true) (gC : X.mg x = some (.ref C)) (kC : PySem.W.keepIn X.K (.ref C) = true) (hg : Gl X x := by rfl) (hdb : (x == ("__debug__" : Str)) = false := by decide) :
    PE X (.Call (.Name x p) [] [] pos) (fun σ H Q => ∀ a, H a = none → Q (.ref a) (upd H a (exo a C none))) := by
  refine ⟨fun pins s σ H Q I h => ?_⟩
  refine wpAny_Call_Name_kw (ld_glob I hg gC ?_ hdb)
  refine PySem.W.callWith_K0 I.kIn kC ?_
  show wpAny _ _ (call (.ref C) []) _ _ _
  obtain ⟨bm, N, nm, qn, bs, hdct, sn, sub, ab, col, dd, k0, k1, k2, k3, k5, mN, hC, hN, hni, T⟩ := exc_obj I.kIn q
  refine wpAny_call_exc_subT F T hC hN hni (fun h' a hm => ?_) (by show 0 ≤ sizeLine; omega)
  have hn : H a = none := I.hok.gone hm.new
  obtain ⟨t, ht, _, _⟩ := hm.there
  exact ⟨.ref a, upd H a (exo a C none), I.laidN hm.keeps hm.new hn (exo_ok ht), rfl, h a hn⟩
/-- raise X() -/
theorem pmk_ex0 {bmB : List Value} {B newId initId : String} (F : ExcBaseFacts B newId initId bmB) (q : PySem.W.excIn X.K C bmB newId = true) (gC : X.mg x = some (.ref C)) (kC : PySem.W.keepIn X.K (.ref C) = true) (r : Raises X (.ref C)) (hg : Gl X x := by rfl) (hdb : (x == ("__debug__" : Str)) = false := by decide) :
    PMk X (.Call (.Name x p) [] [] pos) (fun _ H Q => Q (.ref C) none H) := by
  intro pins s σ H Q I h
  refine wpAny_Call_Name_kw (ld_glob I hg gC ?_ hdb)
  refine PySem.W.callWith_K0 I.kIn kC ?_
  show wpAny _ _ (call (.ref C) []) _ _ _
  obtain ⟨bm, N, nm, qn, bs, hdct, sn, sub, ab, col, dd, k0, k1, k2, k3, k5, mN, hC, hN, hni, T⟩ := exc_obj I.kIn q
  refine wpAny_call_exc_subT F T hC hN hni (fun h' e hm => ?_) (by show 0 ≤ sizeLine; omega)
  exact mk_of I hm r h (I.hok.gone hm.new)
/-- B.__init__(self, ..), B an own class that leaves it to ValueError -/
theorem pe_deinit {pl : Sem Bool} {B : Addr} {mc : Value} (r : ClX.CRead X.K B mc) (vV : PySem.W.findCls X.K (.ref B) mc "__init__" = some (.val (.builtin "ValueError.__init__"))) (hm : X.mg x = some (.ref B)) (ha : PA X (e :: es) ta)
    (hc : eval (.Call (.Attribute (.Name x p1) "__init__" p2) (e :: es) [] pos) X.env = (do
      let ov ← eval (.Name x p1) X.env
      standAt p2.atName
      let (f, first) ← holding [ov] (getMethod ov "__init__" pl)
      callWith pos f first (backTo pos (starEach (e :: es) X.env)) (backToKw pos (keywordEach [] X.env))) := by rfl) (hg : Gl X x := by rfl) (hdb : (x == ("__debug__" : Str)) = false := by decide)
    (he : starEach (e :: es) X.env = (false, eval e X.env) :: starEach es X.env := by rfl) (hpl : (backTo pos (starEach es X.env)).any (·.1) = false := by rfl) :
    PE X (.Call (.Attribute (.Name x p1) "__init__" p2) (e :: es) [] pos) (tVeI X.K ta) := by
  refine ⟨fun pins s σ H Q I h => ?_⟩
  refine PySem.W.methodCall_KW (ld_glob I hg hm ?_ hdb) hc
  refine PySem.W.method_cls I.kIn r.ga (PySem.W.cls_value I.kIn r.rd vV (by rfl) ?_)
  show wpAny _ _ (callWith pos (Value.builtin "ValueError.__init__") [] (backTo pos (starEach (e :: es) X.env)) []) _ _ _
  refine PyProof.Rows.callWith_method1 (thn (ha.run pos pins _ σ H _ (I.tok _) h) fun us s1 ⟨vs, H1, I1, r1, a, C, ws, ev, hl, T, ea, q⟩ => ?_) he hpl
  subst ev
  cases r1 with
  | @cons _ u0 _ ur ra rw' =>
    obtain rfl : u0 = Value.ref a := ra
    have hlen : ur.length ≤ sizeLine := by
      rw [← Paired.length rw', sizeLine_eq]
      omega
    exact oinit_ok T I1 ea hlen fun s' J => ⟨.non, H1, J, rfl, q⟩
/-- e.f, e an error that is a value -/
def tFldE (K : PySem.W.Frag) (f : Str) (te : TE) : TE := fun σ H Q => te σ H fun x H1 => ∃ (a C d : Addr) (fs : List (Str × V)) (v : V), x = .ref a ∧ H1 a = some (exo a C (some d)) ∧ H1 d = some (exd d fs) ∧ XfC K C ∧ PySem.W.findIn K (.ref C) f = some none ∧ fs.lookup f = some v ∧ Q v H1
theorem pe_fldE {o : Expr} {te : TE} {n : Str} (he : PE X o te) (hb : attributeBase o n X.env (eval o X.env) = eval o X.env := by rfl) : PE X (.Attribute o n pos) (tFldE X.K n te) := by
  refine ⟨fun pins s σ H Q I h => ?_⟩
  refine attr_of hb (thn (he.run pins s σ H _ I h) fun u s1 hh => ?_)
  obtain ⟨x, H1, I1, rx, a, C, d, fs, v, ex, ea, ed, T, hno, l, q⟩ := hh
  subst ex
  obtain rfl : u = Value.ref a := rx
  obtain ⟨t1, ho⟩ := exo_at I1.hok ea
  obtain ⟨mA, hns, hr⟩ := exd_at I1.hok ed
  obtain ⟨od, hod, hl⟩ := lookIn_ns hns
  obtain ⟨u, hu, ru⟩ := RelO.some_of (v := v) (o := mA n) (by rw [← l]; exact hr n)
  have J : PySem.W.InstAt s1.heap a { cls := .ref C, dict := some d, data := .fields #[.ref t1, .none, .none, .none, .bool false, .none] } C (some od) := ⟨ho, rfl, rfl, hod⟩
  exact HandSPX.exc_get I1.kIn J T.ga T.gg T.exC (PySem.W.findObj_own T.hdC hno rfl (by rw [hl, hu])) (handed_of ru) ⟨v, H1, I1.tok _, ru, q⟩
/-- isinstance(e, c), e an error that is a value -/
def rIsEv (K : PySem.W.Frag) : List V → Hp → VK → Prop := fun xs H Q => ∃ (a C : Addr) (d : Option Addr) (c : V) (cv : Value) (b : Bool), xs = [.ref a, c] ∧ H a = some (exo a C d) ∧ (∀ dd, d = some dd → ∃ fs, H dd = some (exd dd fs)) ∧ ExcC K C ∧ ClsV c cv ∧ PySem.W.kitOne K (.ref C) cv = some b ∧ Q (.bl b) H
theorem call_isEv : CallR X (.builtin "isinstance") (rIsEv X.K) := by
  intro pins s σ H xs us Q I r h
  obtain ⟨a, C, d, c, cv, b, rfl, ea, hd, T, hcv, e, q⟩ := h
  obtain ⟨u1, u2, rfl, r1, r2⟩ := vals2 r
  obtain rfl : u1 = Value.ref a := r1
  have ec := hcv.eq r2
  subst ec
  obtain ⟨t1, ho⟩ := exo_at I.hok ea
  have hod : ∃ od : Option Obj, PySem.W.InstAt s.heap a { cls := .ref C, dict := d, data := .fields #[.ref t1, .none, .none, .none, .bool false, .none] } C od := by
    cases d with
    | none => exact ⟨none, ho, rfl, rfl, trivial⟩
    | some dd =>
      obtain ⟨fs, ed⟩ := hd dd rfl
      obtain ⟨mA, hns, hr⟩ := exd_at I.hok ed
      obtain ⟨od, hod, hl⟩ := lookIn_ns hns
      exact ⟨some od, ho, rfl, rfl, hod⟩
  obtain ⟨od, J⟩ := hod
  exact PySem.W.kia_one (PySem.ErrL.kitx_err T) I.kIn J e (fun z => nomatch z) fun tk => ⟨.bl b, H, I.kept (t' := tk) fun _ _ z => z, rfl, q⟩
/-- the class at C makes its errors by a maker that is walked -/
def CalO (P : Program) (w : World) (K : PySem.W.Frag) (mg : Str → Option Value) (base : Heap) (k : Nat) (C : Addr) (ps : List Str) (sp : Sp) : Prop :=
  OexC K C ∧ ∃ (f : Addr) (fd : FuncData), FnOk P w K mg base CX0 k f fd ps sp ∧ PySem.W.findIn K (.ref C) "__init__" = some (some (.ref f)) ∧ PySem.W.typeIn K (.ref f) = some (.type "function") ∧ Binds K fd ps []
theorem pe_calO {k : Nat} {ps : List Str} {sp : Sp} (c : CalO X.prog X.w X.K X.mg X.base k C ps sp) (hm : X.mg x = some (.ref C)) (hr : Room (k + 1) X.A) (ha : PA X (e :: es) ta) (hx : Passes CX0 X (fun _ _ _ => False) := by first | exact pass0 | exact passL) (hg : Gl X x := by rfl)
    (hdb : (x == ("__debug__" : Str)) = false := by decide) (he : starEach (e :: es) X.env = (false, eval e X.env) :: starEach es X.env := by rfl) (hpl : (backTo pos (starEach es X.env)).any (·.1) = false := by rfl) :
    PE X (.Call (.Name x p) (e :: es) [] pos) (tOeV C sp [] ta) := by
  obtain ⟨T, f, fd, h1, h2, h3, h4⟩ := c
  exact pe_oeV T h2 h3 h1 hr h4 .nil hx hm ha hg hdb he hpl
theorem pe_calO0 {k : Nat} {ps : List Str} {sp : Sp} (c : CalO X.prog X.w X.K X.mg X.base k C ps sp) (hm : X.mg x = some (.ref C)) (hr : Room (k + 1) X.A) (hx : Passes CX0 X (fun _ _ _ => False) := by first | exact pass0 | exact passL) (hg : Gl X x := by rfl)
    (hdb : (x == ("__debug__" : Str)) = false := by decide) : PE X (.Call (.Name x p) [] [] pos) (tOeV C sp [] tNil) := by
  obtain ⟨T, f, fd, h1, h2, h3, h4⟩ := c
  exact pe_oeV0 T h2 h3 h1 hr h4 .nil hx hm hg hdb
end
/-! ### what stands of an error that is a value -/
/-- e is an error of the class at C -/
def ErV (H : Hp) (e C : Addr) : Prop := ∃ d : Option Addr, H e = some (exo e C d) ∧ ∀ dd, d = some dd → ∃ fs, H dd = some (exd dd fs)
/-- .. with these fields -/
def ErF (H : Hp) (e C : Addr) (g : List (Str × V)) : Prop := ∃ (d : Addr) (fs : List (Str × V)), H e = some (exo e C (some d)) ∧ H d = some (exd d fs) ∧ ∀ f v, g.lookup f = some v → fs.lookup f = some v
section
variable {K : PySem.W.Frag} {H H' : Hp} {e C : Addr} {g : List (Str × V)}
theorem ErF.v (x : ErF H e C g) : ErV H e C := by
  obtain ⟨d, fs, h1, h2, _⟩ := x
  exact ⟨some d, h1, fun dd q => by cases q; exact ⟨fs, h2⟩⟩
theorem ErV.same (x : ErV H e C) (S : Same H H') : ErV H' e C := by
  obtain ⟨d, h1, h2⟩ := x
  refine ⟨d, S _ _ h1, fun dd q => ?_⟩
  obtain ⟨fs, h⟩ := h2 dd q
  exact ⟨fs, S _ _ h⟩
theorem ErF.same (x : ErF H e C g) (S : Same H H') : ErF H' e C g := by
  obtain ⟨d, fs, h1, h2, h3⟩ := x
  exact ⟨d, fs, S _ _ h1, S _ _ h2, h3⟩
/-- X(e, ..) by super().__init__ -/
theorem erV_ok {fs : List Str} {okV : List V → Prop} {vs : List V} {Q : Addr → Hp → Prop} (hl : vs.length = fs.length) (hv : okV vs) (k : ∀ a H', Same H H' → ErF H' a C (fs.zip vs) → Q a H') :
    vs.length = fs.length ∧ okV vs ∧ ∀ a d, H a = none → H d = none → d ≠ a → Q a (upd (upd H d (exd d (fs.zip vs))) a (exo a C (some d))) := by
  refine ⟨hl, hv, fun a d na nd ne => k a _ ?_ ⟨d, fs.zip vs, upd_same, by rw [upd_ne ne]; exact upd_same, fun _ _ z => z⟩⟩
  exact (sNew nd).trans (sNew (by rw [upd_ne (Ne.symm ne)]; exact na))
/-- X() by a maker that is walked, or by none -/
theorem fldE_ok {f : Str} {v : V} {Q : VK} (x : ErF H e C g) (T : XfC K C) (hno : PySem.W.findIn K (.ref C) f = some none) (l : g.lookup f = some v) (k : Q v H) :
    ∃ (a C' d : Addr) (fs : List (Str × V)) (v' : V), V.ref e = .ref a ∧ H a = some (exo a C' (some d)) ∧ H d = some (exd d fs) ∧ XfC K C' ∧ PySem.W.findIn K (.ref C') f = some none ∧ fs.lookup f = some v' ∧ Q v' H := by
  obtain ⟨d, fs, h1, h2, h3⟩ := x
  exact ⟨e, C, d, fs, v, rfl, h1, h2, T, hno, h3 f v l, k⟩
theorem isE_ok {c : V} {cv : Value} {b : Bool} {Q : VK} (x : ErV H e C) (T : ExcC K C) (hc : ClsV c cv) (hk : PySem.W.kitOne K (.ref C) cv = some b) (k : Q (.bl b) H) : rIsEv K [.ref e, c] H Q := by
  obtain ⟨d, h1, h2⟩ := x
  exact ⟨e, C, d, c, cv, b, rfl, h1, h2, T, hc, hk, k⟩
/-- the promise of a maker that is walked: what it makes of a new error -/
def spIni (C : Addr) (fs : List Str) : Sp := fun vs H Q _ => ∃ (a : Addr) (us : List V), vs = .ref a :: us ∧ us.length = fs.length ∧ H a = some (exo a C none) ∧
  (fs = [] → Q .non H) ∧ ∀ dx H', H dx = none → dx ≠ a → (∀ b o, H b = some o → b ≠ a → H' b = some o) → H' a = some (exo a C (some dx)) → H' dx = some (exd dx (fs.zip us).reverse) → Q .non H'
theorem oeV_ok {fs : List Str} {vs : List V} {Q : Addr → Hp → Prop} (hl : vs.length = fs.length) (hz : vs.length ≤ 1000) (hn : fs ≠ []) (hd : ∀ f v, (fs.zip vs).lookup f = some v → (fs.zip vs).reverse.lookup f = some v) (k : ∀ a H', Same H H' → ErF H' a C (fs.zip vs) → Q a H') :
    vs.length ≤ 1000 ∧ ∀ a, H a = none → spIni C fs (.ref a :: (vs ++ [])) (upd H a (exo a C none)) (fun v H2 => v = .non ∧ Q a H2) (fun _ _ _ => False) := by
  refine ⟨hz, fun a na => ⟨a, vs, by rw [List.append_nil], hl, upd_same, fun z => absurd z hn, fun dx H' nd ne kp h1 h2 => ⟨rfl, k a H' (fun b o q => ?_) ⟨dx, _, h1, h2, hd⟩⟩⟩⟩
  have nb : b ≠ a := ne_of_none q na
  exact kp b o (by rw [upd_ne nb]; exact q) nb
theorem oeV0_ok {Q : Addr → Hp → Prop} (k : ∀ a H', Same H H' → ErV H' a C → Q a H') :
    ([] : List V).length ≤ 1000 ∧ ∀ a, H a = none → spIni C [] (.ref a :: ([] ++ [])) (upd H a (exo a C none)) (fun v H2 => v = .non ∧ Q a H2) (fun _ _ _ => False) :=
  ⟨by decide, fun a na => ⟨a, [], rfl, rfl, upd_same, fun _ => ⟨rfl, k a _ (sNew na) ⟨none, upd_same, fun dd q => by cases q⟩⟩, fun dx H' nd ne kp h1 h2 => ⟨rfl, k a H' (fun b o q => kp b o (by rw [upd_ne (ne_of_none q na)]; exact q) (ne_of_none q na)) ⟨some dx, h1, fun dd q => by cases q; exact ⟨_, h2⟩⟩⟩⟩⟩
theorem exV0_ok {Q : Addr → Hp → Prop} (k : ∀ a H', Same H H' → ErV H' a C → Q a H') : ∀ a, H a = none → Q a (upd H a (exo a C none)) :=
  fun a na => k a _ (sNew na) ⟨none, upd_same, fun dd q => by cases q⟩
end
end L2
set_option Elab.async false
set_option linter.all false
set_option maxRecDepth 100000
/-! several clauses «except X as n», the name alike in all -/
namespace L2
open PySem PySem.Spec PyProof.Rows
/-- the ends of a suite that holds a name at slot i: the name is gone behind it -/
def endsAs (i : Nat) (D : Ends) : Ends where
  nx := fun τ G => D.nx (τ.set i none) G
  rt := D.rt
  bk := fun τ G => D.bk (τ.set i none) G
  ct := fun τ G => D.ct (τ.set i none) G
/-- what the clauses wish, one behind the other -/
def wAsM (K : PySem.W.Frag) (i : Nat) (Wo : WX) (D : Ends) : List (Value × (Addr → Value → Option Addr → TS)) → WX
  | [] => Wo
  | (c, ts) :: r => fun cls d τ G => ∃ t, PySem.W.exmOne K cls c = some t ∧ (t = true → ∀ a, G a = none → ts a cls d (endsAs i D) (τ.set i (some (.ref a))) G) ∧ (t = false → wAsM K i Wo D r cls d τ G)
/-- the clauses, written -/
inductive ClsAs (X : Cx) (n : Str) : List ExceptHandler → List (Value × (Addr → Value → Option Addr → TS)) → Prop
  | nil : ClsAs X n [] []
  | cons {x : Str} {c : Value} {ts : Addr → Value → Option Addr → TS} {b0 : Stmt} {rest : List Stmt} {p q : Pos} {hs : List ExceptHandler} {l : List (Value × (Addr → Value → Option Addr → TS))} (hc : Names X x c)
      (hsu : ∀ (a : Addr) (oe : Obj) (cls : Value) (d : Option Addr) (pn : List (Addr × Obj)), Zc cls d oe → (∃ vs, oe.data = .fields vs) → PSs (X.suite a ((a, oe) :: pn)) (b0 :: rest) (ts a cls d)) (more : ClsAs X n hs l) :
      ClsAs X n (.ExceptHandler (some (.Name x p)) (some n) (b0 :: rest) q :: hs) ((c, ts) :: l)
section
variable {X : Cx} {n : Str} {i : Nat} {body : List Stmt} {c0 : ExceptHandler} {cs : List ExceptHandler} {l : List (Value × (Addr → Value → Option Addr → TS))} {pos : Pos} {tb : WX → TS} {Wo : WX}
theorem ps_try_asM (hst : X.stack = X.env :: X.outer) (hfr : X.env.frame = some X.env.locals) (hN : X.N.Nodup) (hi : X.N[i]? = some n) (hln : X.env.kindOf n = some .local) (tk : Takes X Wo)
    (hb : ∀ (W : WX) (pn : List (Addr × Obj)) (xe : Value → Shared → Prop), Takes (X.tr pn xe) W → PassesOwn (model X.prog X.w) X.A X.env xe → PSs (X.tr pn xe) body (tb W))
    (hh : ClsAs X n (c0 :: cs) l) : PS X (.Try body (c0 :: cs) [] [] pos) (fun D τ G => tb (wAsM X.K i Wo D l) D τ G) := by
  refine ⟨fun pins s τ G D I wish => ?_⟩
  have good := I.ok
  have frames : X.A.frames = some (X.env :: X.outer) := by rw [good.frames, hst]
  have loc : Loc X.env.scope n := .inl hln
  refine wpAny_Try_except (wpAny_mono ((hb (wAsM X.K i Wo D l) (X.pn ++ pins) (fun e s1 => wpAny (model X.prog X.w) X.A (noteFrame e X.env) (fun _ s2 => wpAny (model X.prog X.w) X.A (setFlight e none) (fun _ s3 =>
    wpAny (model X.prog X.w) X.A (handleBy e X.env (c0 :: cs)) (SP X pins D) X.xe s3) X.xe s2) X.xe s1) (fun u s1 caught => ?_) PassesOwn.looking).run [] s τ G D (I.toTry _) wish) (fun r s1 came => ?_) (fun e s1 z => z))
  · obtain ⟨a, B, sI, pinsI, τ1, G1, cls, d, rfl, J0, nb, up, sky, na, os, ag, w⟩ := caught
    have J : Inv X pins τ1 G1 sI := J0.ofTry good
    have skyX : Sky B (X.env :: X.outer) a (Zc cls d) X.env.locals s1.heap := by rw [← hst]; exact sky
    show wpAny _ X.A (noteFrame (.ref a) X.env) _ _ _
    refine Sky.land Zc.steady frames hfr skyX fun hp fl upL => ?_
    have J1 : Inv X pins τ1 G1 { s1 with heap := hp } := J.landed nb fl.1 (up.trans upL) os ag
    obtain ⟨oe, vs, hoe, hz, hdat⟩ := fl.there
    have notin : a ∉ frs (X.env :: X.outer) := fun hm => by
      obtain ⟨_, ob, eb, nf⟩ := fl.2.2.1.mem hm
      rw [hoe] at eb
      cases eb
      exact nf _ hdat
    have nL : a ≠ X.env.locals := fun z => notin (List.mem_filterMap.mpr ⟨X.env, List.mem_cons_self, by rw [hfr, z]⟩)
    have nF : a ∉ X.fs := fun hm => by
      obtain ⟨e, he, z⟩ := List.mem_filterMap.mp hm
      exact notin (List.mem_filterMap.mpr ⟨e, List.mem_cons_of_mem _ he, z⟩)
    have S1 := J1.suite hoe hdat na nL nF
    suffices go : ∀ {hs : List ExceptHandler} {ll : List (Value × (Addr → Value → Option Addr → TS))}, ClsAs X n hs ll → wAsM X.K i Wo D ll cls d τ1 G1 → wpAny (model X.prog X.w) X.A (handleBy (.ref a) X.env hs) (SP X pins D) X.xe { s1 with heap := hp } from go hh w
    intro hs ll hk
    induction hk with
    | nil =>
      intro out
      refine wpAny_handleBy_nil ?_
      obtain ⟨_, _, _, oe2, vs2, T, oT, tt, e2, _, d2, v2, _⟩ := id fl
      have fin : wpAny (model X.prog X.w) X.A (setFlight (.ref a) X.env.frame) (fun _ s4 => wpAny (model X.prog X.w) X.A (throw (.ref a) : Sem Flow) (SP X pins D) X.xe s4) X.xe { s1 with heap := hp } := by
        rw [hfr]
        refine HandSPX.setFlight_upZ fl fun h4 sk up4 => wpAny_throw (tk _ _ ?_)
        exact ⟨a, B, sI, pins, τ1, G1, cls, d, rfl, J, nb, (up.trans upL).trans up4, .inr (.inr (by rw [hst]; exact sk)), na, os, ag, out⟩
      unfold PySem.passOn
      refine wpAny_bind (wpAny_field e2 d2 v2 ?_)
      rw [if_neg (by simp)]
      first
        | exact wpAny_bind (wpAny_pure (wpAny_bind fin))
        | exact wpAny_bind fin
    | @cons x c ts b0 rest p q hs2 l2 hc hsu more ih =>
      intro out
      obtain ⟨t, ht, yes, no⟩ := out
      refine wpAny_handleBy_cons (codeAny_handlers_test ?_) (by intro z; cases z)
      have LM := PySem.W.exm_one (M := model X.prog X.w) J1.kIn (show PySem.W.Looks (model X.prog X.w) hp (typeOf (.ref a)) cls from fun _ _ _ _ k z => wpAny_typeOf_ref (k _ _ hoe) (by rw [hz.1]; exact z)) ht
      have ask : ∀ {Q : Value → Shared → Prop} {E : Value → Shared → Prop}, Q c { s1 with heap := hp } → wpAny (model X.prog X.w) (X.A.mark (some (.ref a))) (eval (.Name x p) X.env) Q E { s1 with heap := hp } := fun {Q E} z => by
        obtain ⟨hg, hdbg, hm | ⟨hm, hv, hnn⟩⟩ := hc
        · exact ld_glob (X := X.suite a ((a, oe) :: (X.pn ++ pins))) S1 hg hm z hdbg
        · exact ld_blt (X := X.suite a ((a, oe) :: (X.pn ++ pins))) S1 hg hm hv z hnn hdbg
      refine ask (LM.here ?_)
      cases t with
      | false => exact (show wpAny _ X.A (handleBy (.ref a) X.env hs2) _ _ _ from ih (no rfl))
      | true =>
        refine codeAny_handlers_suite_as (HandSPX.lands_againZ fl fun hp2 fl2 up2 => ?_)
        have J2 : Inv X pins τ1 G1 { s1 with heap := hp2 } := J.landed nb fl2.1 ((up.trans upL).trans up2) os ag
        obtain ⟨oe2, vs2, hoe2, hz2, hdat2⟩ := fl2.there
        refine store_ok (X := X.suite a ((a, oe2) :: (X.pn ++ pins))) (v := .ref a) (J2.suite hoe2 hdat2 na nL nF) hN hi loc rfl (fun s5 S5 => ?_) (.inr hln)
        refine wpAny_mono ((hsu a oe2 cls d (X.pn ++ pins) hz2 ⟨_, hdat2⟩).run [] s5 _ G1 _ S5 (yes rfl a na)) (fun r s6 came => ?_) (fun _ _ z => False.elim z)
        have gone : ∀ {τ6 : St} {G6 : Hp} {Q : Shared → Prop}, Inv (X.suite a ((a, oe2) :: (X.pn ++ pins))) [] τ6 G6 s6 → (∀ s7, Inv X pins (τ6.set i none) G6 s7 → Q s7) →
            wpAny (model X.prog X.w) X.A (do bindName X.env n .none; unbindBehindTheSuite X.env n q) (fun _ s7 => Q s7) X.xe s6 := fun S6 z => gone_ok (S6.unsuite good) hN hi hln z
        cases r with
        | next => obtain ⟨_, _, S6, w6⟩ := came; exact gone S6 fun _ J7 => ⟨_, _, J7, w6⟩
        | brk => obtain ⟨_, _, S6, w6⟩ := came; exact gone S6 fun _ J7 => ⟨_, _, J7, w6⟩
        | cont => obtain ⟨_, _, S6, w6⟩ := came; exact gone S6 fun _ J7 => ⟨_, _, J7, w6⟩
        | ret u => obtain ⟨_, _, _, S6, r6, w6⟩ := came; exact gone S6 fun _ J7 => ⟨_, _, _, J7, r6, w6⟩
  · cases r with
    | next => obtain ⟨_, _, J2, w2⟩ := came; exact wpAny_execs_nil ⟨_, _, J2.ofTry good, w2⟩
    | brk => obtain ⟨_, _, J2, w2⟩ := came; exact ⟨_, _, J2.ofTry good, w2⟩
    | cont => obtain ⟨_, _, J2, w2⟩ := came; exact ⟨_, _, J2.ofTry good, w2⟩
    | ret u => obtain ⟨_, _, _, J2, r2, w2⟩ := came; exact ⟨_, _, _, J2.ofTry good, r2, w2⟩
theorem ps_try_as2 {x1 x2 : Str} {c1 c2 : Value} {b1 b2 : Stmt} {r1 r2 : List Stmt} {p1 p2 q1 q2 : Pos} {ts1 ts2 : Addr → Value → Option Addr → TS} (hst : X.stack = X.env :: X.outer) (hfr : X.env.frame = some X.env.locals) (hN : X.N.Nodup) (hi : X.N[i]? = some n) (hln : X.env.kindOf n = some .local)
    (hc1 : Names X x1 c1) (hc2 : Names X x2 c2) (tk : Takes X Wo)
    (hb : ∀ (W : WX) (pn : List (Addr × Obj)) (xe : Value → Shared → Prop), Takes (X.tr pn xe) W → PassesOwn (model X.prog X.w) X.A X.env xe → PSs (X.tr pn xe) body (tb W))
    (h1 : ∀ (a : Addr) (oe : Obj) (cls : Value) (d : Option Addr) (pn : List (Addr × Obj)), Zc cls d oe → (∃ vs, oe.data = .fields vs) → PSs (X.suite a ((a, oe) :: pn)) (b1 :: r1) (ts1 a cls d))
    (h2 : ∀ (a : Addr) (oe : Obj) (cls : Value) (d : Option Addr) (pn : List (Addr × Obj)), Zc cls d oe → (∃ vs, oe.data = .fields vs) → PSs (X.suite a ((a, oe) :: pn)) (b2 :: r2) (ts2 a cls d)) :
    PS X (.Try body [.ExceptHandler (some (.Name x1 p1)) (some n) (b1 :: r1) q1, .ExceptHandler (some (.Name x2 p2)) (some n) (b2 :: r2) q2] [] [] pos) (fun D τ G => tb (wAsM X.K i Wo D [(c1, ts1), (c2, ts2)]) D τ G) :=
  ps_try_asM hst hfr hN hi hln tk hb (.cons hc1 h1 (.cons hc2 h2 .nil))
end
section
variable {X : Cx} {o e : Expr} {to : TE} {t : TA} {apos cpos : Pos}
/-- o.append(e) -/
theorem pe_app1 (ho : PE X o to) (ha : PA X [e] t) (hbase : attributeBase o "append" X.env (eval o X.env) = eval o X.env := by rfl)
    (hfew : ((backTo cpos (starEach [e] X.env)).all (fun x => !x.1) && (backToKw cpos (keywordEach [] X.env)).all (fun x => x.1.isSome) && decide ([e].length + ([] : List Keyword).length + (if ([] : List Keyword).isEmpty then 0 else 1) < 30)) = true := by rfl)
    (hline : (apos.endLine == cpos.line) = true := by rfl) (hs : starEach [e] X.env = (false, eval e X.env) :: starEach [] X.env := by rfl) (hplain : (backTo cpos (starEach [] X.env)).any (·.1) = false := by rfl) :
    PE X (.Call (.Attribute o "append" apos) [e] [] cpos) (tBM X.K "list" rAppend to t) := pe_bm PySem.F.plainAttrs_list PySem.F.slot_list_append PySem.F.type_list_append mt_append ho ha hbase hfew hline hs hplain
end
end L2
set_option Elab.async false
set_option linter.all false
set_option maxRecDepth 100000
set_option maxHeartbeats 4000000
/-! super().__init__(..) of an own class, anywhere in a maker's body -/
namespace L2
open PySem PySem.Spec PyProof.Rows
open PySem.ErrL (supS)
/-- the body of a maker that names super -/
def cxSup (CX : CXT) (P : Program) (w : World) (K : PySem.W.Frag) (mg : Str → Option Value) (base : Heap) (N : List Str) (qual : Str) (scope : Scope) (f : Addr) (cd : Value) (cc : Addr) (A : Around) (outer : List Env) (s : Shared) (H : Hp) (E : XK) : Cx where
  prog := P
  w := w
  K := K
  mg := mg
  base := base
  A := A.deeper (PySem.W.ksEnv qual scope s.heap.objs.size f cd cc)
  N := N
  s_0 := s
  H_0 := H
  env := PySem.W.ksEnv qual scope s.heap.objs.size f cd cc
  outer := outer
  stack := PySem.W.ksEnv qual scope s.heap.objs.size f cd cc :: outer
  ex := []
  calm := true
  fn := fun _ => false
  pn := []
  xe := fun e s' => wpAny (model P w) (A.deeper (PySem.W.ksEnv qual scope s.heap.objs.size f cd cc)) (leaving (PySem.W.ksEnv qual scope s.heap.objs.size f cd cc) e) (fun _ s'' => CX outer H s E e s'') (fun e' s'' => CX outer H s E e' s'') s'
structure FnScopeS (N P : List Str) (sc : Scope) : Prop where
  kind : sc.kind = .function
  co : sc.isCoroutine = false
  gen : sc.isGenerator = false
  nd : N.Nodup
  pre : N.take P.length = P
  par : ∀ x ∈ P, sc.names.lookup x = some .local
  nocell : ∀ y ∈ sc.names, y.2 ≠ .cell
  free : ∀ y ∈ sc.names, y.2 = .free → y.1 = "__class__"
  ks : sc.names.lookup ("super" : Str) = some .globalImplicit
  kc : sc.names.lookup ("__class__" : Str) = some .free
  self : P[0]? = some ("self" : Str)
theorem rev_lookup : ∀ {ps : List Str} {us : List Value} {i : Nat} {y : Str} {u : Value}, ps.Nodup → ps[i]? = some y → us[i]? = some u → (ps.zip us).reverse.lookup y = some u := fun {ps us i y u} nd hp hu => by
  have mem : (y, u) ∈ ps.zip us := by
    refine List.mem_iff_getElem?.mpr ⟨i, ?_⟩
    rw [List.getElem?_zip_eq_some]
    exact ⟨hp, hu⟩
  have uni : ∀ v, (y, v) ∈ ps.zip us → v = u := fun v hv => by
    obtain ⟨j, hj⟩ := List.mem_iff_getElem?.mp hv
    rw [List.getElem?_zip_eq_some] at hj
    have := nodup_ix nd hp hj.1
    subst this
    rw [hu] at hj
    exact (Option.some.inj hj.2).symm
  have memR : (y, u) ∈ (ps.zip us).reverse := List.mem_reverse.mpr mem
  have uniR : ∀ v, (y, v) ∈ (ps.zip us).reverse → v = u := fun v hv => uni v (List.mem_reverse.mp hv)
  generalize (ps.zip us).reverse = L at memR uniR
  induction L with
  | nil => cases memR
  | cons a L ih =>
    obtain ⟨n, v⟩ := a
    by_cases z : y = n
    · subst z
      rw [List.lookup_cons_self, uniR v List.mem_cons_self]
    · rw [List.lookup_cons, show (y == n) = false from by simpa using z]
      refine ih ?_ fun v hv => uniR v (List.mem_cons_of_mem _ hv)
      rcases List.mem_cons.mp memR with e | e
      · cases e
        exact absurd rfl z
      · exact e
theorem inv_sup {CX : CXT} {P : Program} {w : World} {K : PySem.W.Frag} {mg : Str → Option Value} {base : Heap} {N ps : List Str} {qual : Str} {scope : Scope} {f cc : Addr} {cd : Value} {A : Around} {outer : List Env} {s : Shared} {H : Hp} {E : XK} {us : List Value} {vs : List V} {cl : Value} {cld : Option Addr} {v0 : Option Value} {csl : Array (Option Value)} {h₀ : Heap} {tk : Nat}
    (S : FnScopeS N ps scope) (hd : A.handled = none) (e0 : Env0 P w K mg base A outer s H) (hl : vs.length = ps.length) (r : Vals vs us) (hcc : K.lookup cc = some ⟨cl, cld, .cell v0, csl⟩)
    (hn : h₀.Ns s.heap.objs.size fun x => (ps.zip us).reverse.lookup x) (hk : ∀ b o, s.heap.get? b = some o → h₀.get? b = some o) :
    Inv (cxSup CX P w K mg base N qual scope f cd cc A outer s H E) [] (start N vs) H { s with heap := h₀, toks := tk } := by
  have hpl : ps.length ≤ N.length := by have := congrArg List.length S.pre; rw [List.length_take] at this; omega
  have noA : ∀ b : Addr, b ∉ (cxSup CX P w K mg base N qual scope f cd cc A outer s H E).ex := fun b z => absurd (show b ∈ ([] : List Addr) from z) (by simp)
  have cells : ∀ y c, ([("__class__", cc)] : List (Str × Addr)).lookup y = some c → y = "__class__" ∧ c = cc := fun y c h => by
    by_cases z : y = "__class__"
    · subst z
      rw [List.lookup_cons_self] at h
      exact ⟨rfl, (Option.some.inj h).symm⟩
    · rw [List.lookup_cons, show (y == ("__class__" : Str)) = false from by simpa using z] at h
      cases h
  have hbc : base.get? cc = some ⟨cl, cld, .cell v0, csl⟩ := e0.mod.kin _ _ hcc
  obtain ⟨hsc, hHc⟩ := e0.bs _ _ hbc
  refine ⟨⟨e0.mod, S.kind, rfl, rfl, Nat.le_refl _, fun y z c h1 h2 => ?_, fun y hy => ?_, fun y c h _ => ?_, fun _ => hd, Around.frames_deeper e0.frames, .inr ⟨rfl, rfl⟩, fun b z => absurd z (noA b), e0.bs, e0.bsz, fun b _ _ => noA b, fun b z => absurd z (noA b), e0.funs, e0.frf⟩,
    rfl, e0.bare, Un.kept hk, ⟨_, hn, fun i y v h1 h2 h3 => ?_⟩, fun y c h => ?_, e0.hok.fresh (Nat.le_refl _), fun y c h => ?_, fun p hp => absurd (show p ∈ ([] : List (Addr × Obj)) from hp) (by simp), e0.hok.kept hk, ?_⟩
  · rw [(cells y c h1).1, (cells z c h2).1]
  · have hy : scope.names.lookup y = some .cell ∨ scope.names.lookup y = some .free := hy
    rcases hy with hy | hy
    · exact absurd rfl (S.nocell _ (PySem.mem_of_lookup hy))
    · have := S.free _ (PySem.mem_of_lookup hy) rfl
      have this : y = "__class__" := this
      subst this
      exact ⟨cc, List.lookup_cons_self⟩
  · cases (show (false : Bool) = true from h)
  · have hi : i < vs.length := by
      unfold start at h2
      by_cases hi : i < vs.length
      · exact hi
      · rw [List.getElem?_append_right (by simpa using hi)] at h2
        rw [List.getElem?_replicate] at h2
        split at h2 <;> cases h2
    have ha : vs[i]? = some v := by
      unfold start at h2
      rw [List.getElem?_append_left (by simpa using hi), List.getElem?_map] at h2
      cases e : vs[i]? with
      | none => rw [e] at h2; cases h2
      | some a => rw [e] at h2; cases h2; rfl
    obtain ⟨u, hu, rv⟩ := r.get ha
    have hp : ps[i]? = some y := by
      rw [← S.pre, List.getElem?_take_of_lt (by omega)]; exact h1
    have ndP : ps.Nodup := by rw [← S.pre]; exact S.nd.sublist (List.take_sublist _ _)
    exact ⟨u, rv, .inl ⟨S.par y (List.mem_of_getElem? hp), rev_lookup ndP hp hu⟩⟩
  · obtain ⟨_, rfl⟩ := cells y c h
    exact ⟨v0, _, hk _ _ hsc, rfl⟩
  · obtain ⟨_, rfl⟩ := cells y c h
    exact hHc
  · unfold start
    show _ = N.length
    rw [List.length_append, List.length_map, List.length_replicate]
    omega
/-- statements of a def whose code is known -/
structure WSs (X : Cx) (b sts : List Stmt) (t : TS) : Prop where
  run : ∀ (pins : List (Addr × Obj)) (s : Shared) (σ : St) (H : Hp) (D : Ends), Inv X pins σ H s → t D σ H → _root_.PySem.wpAt (model X.prog X.w) X.A (.func b X.env) (execs sts X.env) (SP X pins D) X.xe s
section
variable {X : Cx} {b rest : List Stmt} {st : Stmt} {t u : TS}
theorem wss_of {sts : List Stmt} (h : PSs X sts t) : WSs X b sts t := ⟨fun pins s σ H D I q => _root_.PySem.wpAt_of_wpAny (h.run pins s σ H D I q)⟩
theorem wss_cons (h1 : PS X st t) (h2 : WSs X b rest u) : WSs X b (st :: rest) (tSeq t u) := by
  refine ⟨fun pins s σ H D I h => ?_⟩
  refine ks_wpAt_execs_cons (_root_.PySem.wpAt_of_wpAny (thn (h1.run pins s σ H { D with nx := u D } I h) fun f s1 q => ?_))
  cases f with
  | next =>
    obtain ⟨σ', H', I', q⟩ := q
    exact h2.run pins s1 σ' H' D I' q
  | ret v => exact q
  | brk => exact q
  | cont => exact q
theorem wss_cut (h1 : PS X st t) (h2 : WSs X b rest u) : WSs X b (st :: rest) (C8.tCut t u) := by
  refine ⟨fun pins s σ H D I h => ?_⟩
  obtain ⟨Mid, hm, hu⟩ := h
  refine ks_wpAt_execs_cons (_root_.PySem.wpAt_of_wpAny (thn (h1.run pins s σ H { D with nx := Mid } I hm) fun f s1 q => ?_))
  cases f with
  | next =>
    obtain ⟨σ', H', I', q⟩ := q
    exact h2.run pins s1 σ' H' D I' (hu σ' H' q)
  | ret v => exact q
  | brk => exact q
  | cont => exact q
end
/-- super().__init__(..) of the class at C; sp: what the base's maker promises -/
def tSup (C : Addr) (sp : Sp) (E : XK) (ta : TA) (u : TS) : TS := fun D σ H => ∃ (x dx : Addr) (fs : List (Str × V)), σ[0]? = some (some (.ref x)) ∧ H x = some (.ins C dx fs) ∧ ta σ H fun vs H1 => sp (.ref x :: vs) H1 (fun _ H2 => u D σ H2) E
/-- what the text says of a maker that names super -/
structure SupF (prog : Program) (K : PySem.W.Frag) (C fI fB : Addr) (name qual : Str) (params : Arguments) (body : List Stmt) (scope : Scope) (kV doc pm : Value) (an : Option Addr) (cda : Addr) (ct : Value) (cc : Addr) : Prop where
  fn : ∃ (oc : Value) (od : Option Addr) (osl : Array (Option Value)), K.lookup fI = some ⟨oc, od, .func (PySem.W.ksFn name qual params body scope .none kV doc pm an (.ref cda) ct cc), osl⟩
  code : PySem.W.codeIn K (.ref cda) qual = true
  file : ∃ (ccl : Value) (cdd : Option Addr) (vs : Array Value) (ccs : Array (Option Value)) (file : Str) (tf : Tok), K.lookup cda = some ⟨ccl, cdd, .fields vs, ccs⟩ ∧ vs[2]? = some (.str file tf) ∧ ((prog.main.file : Str) == file) = true
  cell : ∃ (cl : Value) (cld : Option Addr) (csl : Array (Option Value)), K.lookup cc = some ⟨cl, cld, .cell (some (.ref C)), csl⟩
  self1 : PySem.W.mroIn K C (.ref C) = some true
  opq : PySem.W.nsIn K cStatics "thirdparty.any" = some none
  sup : PySem.W.ks_superIn K C C "__init__" = some (some (.ref fB))
  isF : PySem.W.fnIn K fB = true
  tB : PySem.W.typeIn K (.ref fB) = some (.type "function")
  top : (prog.main.scope.names.lookup ("super" : Str)).isSome = false
theorem typeIn_fn {K : PySem.W.Frag} {f : Addr} (h : PySem.W.typeIn K (.ref f) = some (.type "function")) : ∃ o, K.lookup f = some o ∧ o.cls = .type "function" := by
  have h : (K.lookup f).map (fun o => o.cls) = some (.type "function") := h
  cases e : K.lookup f with
  | none => rw [e] at h; cases h
  | some o => rw [e] at h; exact ⟨o, rfl, Option.some.inj h⟩
section
variable {CX CXB : CXT} {P : Program} {w : World} {K : PySem.W.Frag} {mg : Str → Option Value} {base : Heap} {N ps psB : List Str} {name qual : Str} {params : Arguments} {body rest : List Stmt} {scope : Scope} {kV doc pm ct : Value} {an : Option Addr} {C fI fB cda cc : Addr} {A : Around} {outer : List Env} {s0 : Shared} {H0 : Hp} {E EB : XK} {kB : Nat} {fdB : FuncData} {spB : Sp} {e0 : Expr} {es : List Expr} {a1 a2 a3 a4 a5 : Pos} {ta : TA} {u : TS}
theorem wss_sup (T : SupF P K C fI fB name qual params body scope kV doc pm an cda ct cc) (S : FnScopeS N ps scope) (par : ∃ p, (params.posonlyargs ++ params.args).head? = some p ∧ p.arg = "self") (hsu : mg "super" = none)
    (F : FnOk P w K mg base CXB kB fB fdB psB spB) (hr : Room kB (cxSup CX P w K mg base N qual scope fI (.ref cda) cc A outer s0 H0 E).A) (hb : Binds K fdB psB []) (hx : Passes CXB (cxSup CX P w K mg base N qual scope fI (.ref cda) cc A outer s0 H0 E) EB)
    (ha : PA (cxSup CX P w K mg base N qual scope fI (.ref cda) cc A outer s0 H0 E) (e0 :: es) ta) (hrest : WSs (cxSup CX P w K mg base N qual scope fI (.ref cda) cc A outer s0 H0 E) body rest u)
    (he : starEach (e0 :: es) (cxSup CX P w K mg base N qual scope fI (.ref cda) cc A outer s0 H0 E).env = (false, eval e0 (cxSup CX P w K mg base N qual scope fI (.ref cda) cc A outer s0 H0 E).env) :: starEach es (cxSup CX P w K mg base N qual scope fI (.ref cda) cc A outer s0 H0 E).env)
    (hpl : (backTo a4 (starEach es (cxSup CX P w K mg base N qual scope fI (.ref cda) cc A outer s0 H0 E).env)).any (·.1) = false)
    (hi : interactive (cxSup CX P w K mg base N qual scope fI (.ref cda) cc A outer s0 H0 E).env = false)
    (hev : ∃ pl : Sem Bool, eval (.Call (.Attribute (.Call (.Name "super" a1) [] [] a2) "__init__" a3) (e0 :: es) [] a4) (cxSup CX P w K mg base N qual scope fI (.ref cda) cc A outer s0 H0 E).env = (do
      let ov ← attributeBase (.Call (.Name "super" a1) [] [] a2) "__init__" (cxSup CX P w K mg base N qual scope fI (.ref cda) cc A outer s0 H0 E).env (eval (.Call (.Name "super" a1) [] [] a2) (cxSup CX P w K mg base N qual scope fI (.ref cda) cc A outer s0 H0 E).env)
      standAt a3.atName
      let (f, first) ← holding [ov] (getMethod ov "__init__" pl)
      callWith a4 f first (backTo a4 (starEach (e0 :: es) (cxSup CX P w K mg base N qual scope fI (.ref cda) cc A outer s0 H0 E).env)) []))
    (hsw : swapsWith (.Call (.Attribute (.Call (.Name "super" a1) [] [] a2) "__init__" a3) (e0 :: es) [] a4) none a5.line (cxSup CX P w K mg base N qual scope fI (.ref cda) cc A outer s0 H0 E).env = pure false) :
    WSs (cxSup CX P w K mg base N qual scope fI (.ref cda) cc A outer s0 H0 E) body (supS (e0 :: es) a1 a2 a3 a4 a5 :: rest) (tSup C spB EB ta u) := by
  refine ⟨fun pins s σ H D I h => ?_⟩
  obtain ⟨x, dx, fs, h0, hx0, hta⟩ := h
  obtain ⟨oc, od, osl, hf⟩ := T.fn
  obtain ⟨ccl, cdd, cvs, ccs, file, tf, hcode, hvs, hfile⟩ := T.file
  obtain ⟨cl, cld, csl, hcell⟩ := T.cell
  obtain ⟨par, hp, hps⟩ := par
  obtain ⟨pl, hev⟩ := hev
  have X0 : K.In s.heap := I.kIn
  obtain ⟨m, hns, hloc⟩ := I.loc
  have n0 : N[0]? = some ("self" : Str) := by
    have := S.self
    rw [← S.pre] at this
    cases hP : ps.length with
    | zero => rw [hP] at this; cases this
    | succ k =>
      rw [hP, List.getElem?_take_of_lt (Nat.succ_pos k)] at this
      exact this
  have ksf : scope.names.lookup ("self" : Str) = some .local := S.par "self" (List.mem_of_getElem? S.self)
  obtain ⟨v, rv, lk⟩ := hloc 0 "self" (.ref x) n0 h0 (.inl ksf)
  obtain rfl : v = .ref x := rv
  have hms : m "self" = some (.ref x) := by
    rcases lk with ⟨_, e⟩ | ⟨hk, _⟩
    · exact e
    · exfalso
      have hk : scope.names.lookup ("self" : Str) = some .cell ∨ scope.names.lookup ("self" : Str) = some .free := hk
      rw [ksf] at hk
      rcases hk with hk | hk <;> cases hk
  obtain ⟨mA, O, _⟩ := ins_get I.hok hx0
  obtain ⟨odx, J, _⟩ := O.look
  obtain ⟨cdC, hcC⟩ : ∃ cd, PySem.W.clsIn K C = some cd := by
    have h2 := T.sup
    unfold PySem.W.ks_superIn at h2
    cases e : PySem.W.clsIn K C with
    | none => rw [e] at h2; cases h2
    | some cd => exact ⟨cd, rfl⟩
  have hsup := T.sup
  unfold PySem.W.ks_superIn at hsup
  rw [hcC] at hsup
  have hsup : PySem.W.alongIn K "__init__" ((cdC.mro.dropWhile (· != .ref C)).drop 1) = some (some (.ref fB)) := hsup
  have xC : x ≠ C := PySem.W.ks_ne X0 J hcC
  obtain ⟨oC, hC1, hC2⟩ : ∃ oD, s.heap.get? C = some oD ∧ oD.data = .cls cdC := by
    unfold PySem.W.clsIn at hcC
    split at hcC
    · rename_i c d cd' sl ho
      cases hcC
      exact ⟨_, X0 _ _ ho, rfl⟩
    · cases hcC
  obtain ⟨oB, hoB, hoBc⟩ := typeIn_fn T.tB
  have hg : s.heap.Ns mainGlobals mg := I.mod.glob.keeps I.bk
  obtain ⟨mb, hb1, hb2⟩ := I.mod.blt
  have hb1 : s.heap.Ns builtinsNs mb := hb1.keeps I.bk
  have hkind : scope.kind = .function := S.kind
  unfold supS
  refine ks_wpAt_execs_cons (ks_wpAt_Expr_any (ks_wpAt_MethodCall ?_ hev) hi hsw)
  obtain ⟨hh, g, d, t, os⟩ := s
  refine ks_wpAt_super_base (env := PySem.W.ksEnv qual scope s0.heap.objs.size fI (.ref cda) cc) S.ks S.kc (by decide) rfl (X0 _ _ hf) rfl hp rfl (X0 _ _ hcode) rfl hvs hfile T.top ?_
  refine PySem.W.ks_loadName_global hkind S.ks (PySem.Calls.loadGlobal_builtin (env := PySem.W.ksEnv qual scope s0.heap.objs.size fI (.ref cda) cc) hg hsu hb1 ((hb2 _ (by decide +kernel)).trans (show bootBuiltins ("super" : Str) = some (.type "super") by decide +kernel)) ⟨rfl, ?_⟩)
  refine wpAny_loadName_free hkind S.kc rfl ⟨_, X0 _ _ hcell, rfl⟩ ?_
  refine wpAny_loadName_local hkind (by rw [hps]; exact ksf) hns (by rw [hps]; exact hms) ?_
  refine ks_wpAny_isType_cls hC1 hC2 ⟨rfl, ?_⟩
  refine ks_wpAny_call_super hC1 hC2 J.at_ J.cls (fun c e => ?_) (PySem.W.looks_mroIn X0 T.self1) (fun h1 e1 k1 => ?_)
  · have := J.no
    unfold PySem.W.notCls at this
    rw [e] at this
    exact Bool.noConfusion this
  have X1 : K.In h1 := X0.keeps k1
  refine ks_wpAny_getMethod_super (l₀ := cdC.mro) e1 (PySem.W.looks_opaque X1 T.opq) (fun A Q E s k q => wpAny_bind ((PySem.W.looks_clsIn X1 hcC) A _ E s k (wpAny_pure q))) rfl X1 hsup (X1 _ _ hoB) hoBc xC (by decide) ?_
  have k12 : ∀ b o, hh.get? b = some o → (h1.push (PySem.W.methodObj (.ref fB) (.ref x))).get? b = some o := fun b o e => Heap.get?_push_of_some _ (k1 b o e)
  have I2 : Inv (cxSup CX P w K mg base N qual scope fI (.ref cda) cc A outer s0 H0 E) pins σ H ⟨h1.push (PySem.W.methodObj (.ref fB) (.ref x)), g, d, t + 1, os⟩ := I.kept (t' := t + 1) k12
  have mq : (h1.push (PySem.W.methodObj (.ref fB) (.ref x))).get? h1.objs.size = some (PySem.W.methodObj (.ref fB) (.ref x)) := Heap.get?_push_at rfl rfl
  have sz : hh.objs.size ≤ h1.objs.size := Nat.le_of_lt (Heap.lt_size e1)
  have z0 : H h1.objs.size = none := I.hok.fresh sz
  obtain ⟨f0, f1, f2, _⟩ := I.fpOk (b := h1.objs.size) sz z0
  have I3 : Inv (cxSup CX P w K mg base N qual scope fI (.ref cda) cc A outer s0 H0 E) ((h1.objs.size, PySem.W.methodObj (.ref fB) (.ref x)) :: pins) σ H ⟨h1.push (PySem.W.methodObj (.ref fB) (.ref x)), g, d, t + 1, os⟩ := I2.pins_of fun p hp => by
    rcases List.mem_cons.mp hp with rfl | hp
    · exact ⟨mq, f0, f1, f2, fun v e => by cases e⟩
    · exact I2.pin p (List.mem_append_right _ hp)
  have hA := ha.run a4 _ _ σ H _ I3 hta
  rw [he] at hA
  show wpAny _ _ (callWith a4 (.ref h1.objs.size) [] (backTo a4 (starEach (e0 :: es) _)) []) _ _ _
  rw [he]
  refine PySem.W.callWith_of (P := PySem.W.MethP K h1.objs.size fB (.ref x)) (by show ((false || (backTo a4 (starEach es _)).any (·.1)) || false) = false; rw [hpl]; rfl) (PySem.W.keeps_M T.isF) (Calls.evalArgs_plain ?_)
  refine thn hA fun us s1 ⟨vs, H1, I4, r, q⟩ => ?_
  have hm := (I4.pin (h1.objs.size, PySem.W.methodObj (.ref fB) (.ref x)) (List.mem_append_right _ List.mem_cons_self)).1
  refine ⟨⟨hm, I4.kIn⟩, ?_⟩
  have hl : (Value.ref x :: us).length = psB.length := by rw [List.length_cons, ← r.length]; exact F.len _ _ _ _ q
  have hbd := hb s1 (.ref x :: us) I4.kIn (by rw [List.append_nil]; exact hl)
  rw [List.append_nil] at hbd
  refine wpAny_call (ks_codeAny_call_bound hm (codeAny_mono (F.run (cxSup CX P w K mg base N qual scope fI (.ref cda) cc A outer s0 H0 E).A (cxSup CX P w K mg base N qual scope fI (.ref cda) cc A outer s0 H0 E).stack s1 H1 ⟨.ref x :: us, []⟩ (.ref x :: us) (.ref x :: vs) _ EB hr I4.env0 hbd (.cons rfl r) q) fun r s' hq => ?_))
  cases r with
  | error e => exact hx _ σ H1 s1 e s' I4 hq
  | ok fl =>
    cases fl with
    | ret v =>
      obtain ⟨v', H', I5, r5, q5⟩ := I4.after hq
      have I6 : Inv (cxSup CX P w K mg base N qual scope fI (.ref cda) cc A outer s0 H0 E) pins σ H' s' := I5.pins_of fun p hp => I5.pin p (List.mem_append_right _ (List.mem_cons_of_mem _ hp))
      exact hrest.run pins s' σ H' D I6 q5
    | next => exact False.elim hq
    | brk => exact False.elim hq
    | cont => exact False.elim hq
/-- THE RULE for a maker that names super -/
theorem fn_sup {k : Nat} {sp : Sp} (T : SupF P K C fI fB name qual params body scope kV doc pm an cda ct cc) (S : FnScopeS N ps scope) (len : ∀ vs H Q E, sp vs H Q E → vs.length = ps.length)
    (hbody : ∀ (A : Around) (outer : List Env) (s : Shared) (H : Hp) (vs : List V) (Q : VK) (E : XK), Room k (A.deeper (PySem.W.ksEnv qual scope s.heap.objs.size fI (.ref cda) cc)) → sp vs H Q E →
      ∃ t, WSs (cxSup CX P w K mg base N qual scope fI (.ref cda) cc A outer s H E) body body t ∧ t { nx := fun _ H' => Q .non H', rt := Q } (start N vs) H) :
    FnOk P w K mg base CX (k + 1) fI (PySem.W.ksFn name qual params body scope .none kV doc pm an (.ref cda) ct cc) ps sp := by
  refine ⟨len, fun A outer s H args us vs Q E hr e0 hb r hsp => ?_⟩
  obtain ⟨oc, od, osl, lk⟩ := T.fn
  obtain ⟨cl, cld, csl, hcell⟩ := T.cell
  have hl := len _ _ _ _ hsp
  have KX : K.In s.heap := e0.mod.kin.keeps fun b o e => (e0.bs b o e).1
  have lim : s.heap.NoLimit := e0.mod.nolimit.keeps fun b o e => (e0.bs b o e).1
  refine ks_codeAny_call_defAt (fd := PySem.W.ksFn name qual params body scope .none kV doc pm an (.ref cda) ct cc) (binds := ps.zip us) hr.depth (KX _ _ lk) rfl lim (PySem.W.codeRec_of KX T.code) rfl hb S.nocell (fun ⟨n, v⟩ hy => S.par n (List.of_mem_zip hy).1) (fun h₁ hn k₁ => ?_) S.co S.gen S.kind
  obtain ⟨t, ht, hq⟩ := hbody A outer s H vs Q E (hr.deeper _) hsp
  have I : Inv (cxSup CX P w K mg base N qual scope fI (.ref cda) cc A outer s H E) [] (start N vs) H { s with heap := h₁, toks := s.toks + (ps.zip us).length } := inv_sup S hr.hd e0 hl r hcell hn k₁
  refine ks_wpAt_mono (ht.run [] _ (start N vs) H _ I hq) (fun fl s' hs => ?_) fun e s' hs => hs
  have fin : ∀ {σ' : St} {H' : Hp} {v : V} {u : Value}, Inv (cxSup CX P w K mg base N qual scope fI (.ref cda) cc A outer s H E) [] σ' H' s' → RelV v u → Q v H' → CE outer P w H s Q u s' :=
    fun {σ' H' v u} J rv q => ⟨v, H', J.os, J.bare, J.base, J.hok, rv, q⟩
  cases fl with
  | ret u =>
    obtain ⟨v, σ', H', J, rv, q⟩ := hs
    exact fin J rv q
  | next =>
    obtain ⟨σ', H', J, q⟩ := hs
    exact fin (v := V.non) (u := Value.none) J rfl q
  | brk =>
    obtain ⟨_, _, _, q⟩ := hs
    exact False.elim q
  | cont =>
    obtain ⟨_, _, _, q⟩ := hs
    exact False.elim q
/-- how its arguments bind -/
theorem sup_binds (T : SupF P K C fI fB name qual params body scope kV doc pm an cda ct cc) (h : ∀ us : List Value, us.length = ps.length → bindArgs (PySem.W.ksFn name qual params body scope .none kV doc pm an (.ref cda) ct cc) ⟨us, []⟩ = pure (ps.zip us)) : Binds K (PySem.W.ksFn name qual params body scope .none kV doc pm an (.ref cda) ct cc) ps [] := .all h
end
end L2
set_option Elab.async false
set_option linter.all false
set_option maxRecDepth 100000
set_option maxHeartbeats 4000000
/-! a head by one run: own errors' makers, any Bool of the written part -/
namespace HeM
open PySem PySem.Spec PyProof.Rows L2 He
/-! ### looks that answer true or false -/
/-- the object of an own error class -/
def ecB (K : PySem.W.Frag) (C : Addr) : Bool := match K.lookup C with
  | some ⟨.type "type", _, .cls cd, sl⟩ => (match cd.mro, sl.toList with
    | .ref C' :: bm, [_, _, _, _, some (.builtin n), _] => C' == C && (n == "ValueError.__new__" && (!cd.hasDel && (cd.hasDict && PySem.HandSPX.refsVE bm)))
    | _, _ => false)
  | _ => false
theorem ecB_ok {K : PySem.W.Frag} {C : Addr} (q : ecB K C = true) :
    ∃ nm q N bs bm sn sub ab col dd k0 k1 k2 k3 k5, K.lookup C = some (excClassObj nm q C N bs bm true sn sub ab col dd k0 k1 k2 k3 k5 "ValueError.__new__") ∧ PySem.HandSPX.refsVE bm = true := by
  unfold ecB at q
  split at q
  · rename_i dd cd sl ho
    split at q
    · rename_i C' bm k0 k1 k2 k3 n k5 hm hs
      simp only [Bool.and_eq_true, beq_iff_eq, Bool.not_eq_true'] at q
      obtain ⟨rfl, rfl, hdel, hdict, ht⟩ := q
      obtain ⟨nm, bs, mro, ns, qn, hd, sn, sub, ab, col, del⟩ := cd
      dsimp only at hm hdel hdict
      subst hm hdel hdict
      have hsl : sl = #[k0, k1, k2, k3, some (.builtin "ValueError.__new__"), k5] := by
        obtain ⟨l⟩ := sl
        simp only at hs
        rw [hs]
      subst hsl
      exact ⟨nm, qn, ns, bs, bm, sn, sub, ab, col, dd, k0, k1, k2, k3, k5, ho, ht⟩
    · cases q
  · cases q
/-- isinstance may be asked of its errors -/
def xcB (K : PySem.W.Frag) (D : Addr) : Bool :=
  eqO (PySem.W.findIn K (.ref D) "__getattribute__") (some (some (.builtin "BaseException.__getattribute__"))) && (eqO (PySem.W.findIn K (.ref D) "__getattr__") (some none) && (decide (PySem.W.subIn K (.ref D) (.type "BaseException") = some true) && (PySem.W.hasDictIn K D &&
    (eqO (PySem.W.findIn K (.ref D) "__class__") (some (some (.builtin "object.__class__"))) && decide (PySem.W.mroIn K D (.type "object") = some true)))))
def zB (K : PySem.W.Frag) : Bool := eqO (PySem.W.specialIn K (.builtin "object.__class__") "__get__") (some (some (.builtin "getset_descriptor.__get__"))) && decide (PySem.W.takesIn K (.builtin "object.__class__") = some true)
theorem xcB_ok {K : PySem.W.Frag} {D : Addr} (h : xcB K D = true) (z : zB K = true) : ExcC K D := by
  obtain ⟨h1, h⟩ := ba h
  obtain ⟨h2, h⟩ := ba h
  obtain ⟨h3, h⟩ := ba h
  obtain ⟨h4, h⟩ := ba h
  obtain ⟨h5, h6⟩ := ba h
  obtain ⟨z1, z2⟩ := ba z
  exact ⟨eqO_ok h1, eqO_ok h2, of_decide_eq_true h3, h4, eqO_ok h5, eqO_ok z1, of_decide_eq_true z2, of_decide_eq_true h6⟩
/-- its errors may be made -/
def oxB (K : PySem.W.Frag) (C : Addr) : Bool := ecB K C && (eqO (PySem.W.findIn K (.ref C) "__setattr__") (some (some (.builtin "object.__setattr__"))) && (decide (PySem.W.subIn K (.ref C) (.type "BaseException") = some true) && (decide (PySem.W.typeIn K (.ref C) = some (.type "type")) && PySem.W.keepIn K (.ref C))))
theorem oxB_ok {K : PySem.W.Frag} {C : Addr} (h : oxB K C = true) : OexC K C := by
  obtain ⟨h1, h⟩ := ba h
  obtain ⟨h2, h⟩ := ba h
  obtain ⟨h3, h⟩ := ba h
  obtain ⟨h4, h5⟩ := ba h
  exact ⟨ecB_ok h1, eqO_ok h2, of_decide_eq_true h3, of_decide_eq_true h4, h5⟩
/-- the maker stands in the class itself -/
def inB (K : PySem.W.Frag) (C : Str) : Bool := eqO (PySem.W.findIn K (.ref (ga K C)) "__init__") (some (some (.ref (ma K (ga K C) "__init__")))) && decide (PySem.W.typeIn K (.ref (ma K (ga K C) "__init__")) = some (.type "function"))
/-- found in the class as a value that it has -/
def valIs : Option PySem.W.CFound → Value → Bool
  | some (.val u), v => decide (u = v)
  | _, _ => false
theorem valIs_ok {o : Option PySem.W.CFound} {v : Value} (h : valIs o v = true) : o = some (.val v) := by
  cases o with
  | none => cases h
  | some f =>
    cases f with
    | val u => rw [of_decide_eq_true (show decide (u = v) = true from h)]
    | get _ _ _ _ => cases h
/-! ### makers that call super -/
structure IniD where
  C : Str
  qual : Str
  params : Arguments
  body : List Stmt
  scope : Scope
  base : Option Str
abbrev IniW : Type := Option (Str × Str × Arguments × FuncBody × Scope × Addr × Addr)
def iniW (K : PySem.W.Frag) (d : IniD) : IniW := match K.lookup (ma K (ga K d.C) "__init__") with
  | some ⟨_, _, .func fd, _⟩ => some (fd.name, fd.qualname, fd.params, fd.body, fd.scope, fd.globals, fd.builtins)
  | _ => none
def IniD.val (d : IniD) : IniW := some ("__init__", d.qual, d.params, .stmts d.body, d.scope, mainGlobals, builtinsNs)
/-- its function object: no defaults, one cell -/
def fnB (file : Str) (K : PySem.W.Frag) (C : Addr) (q : Str) : Option Obj → Bool
  | some ⟨_, _, .func fd, _⟩ => (match fd.closure, fd.defaults, fd.code with
    | [(x, cc)], .none, .ref cda => decide (x = "__class__") && (PySem.W.codeIn K (.ref cda) q && ((match K.lookup cda with
      | some ⟨_, _, .fields vs, _⟩ => (match (vs[2]? : Option Value) with
        | some (Value.str f _) => file == f
        | _ => false)
      | _ => false) && (match K.lookup cc with
      | some ⟨_, _, .cell (some (.ref C')), _⟩ => C' == C
      | _ => false)))
    | _, _, _ => false)
  | _ => false
def iniB (file : Str) (K : PySem.W.Frag) (d : IniD) : Bool := match d.base with
  | none => oxB K (ga K d.C) && (inB K d.C && (decide (PySem.W.mroIn K (ga K d.C) (.ref (ga K d.C)) = some true) && (decide (PySem.W.subIn K (.ref (ga K d.C)) (.type "ValueError") = some true) &&
    (decide (PySem.W.ks_superIn K (ga K d.C) (ga K d.C) "__init__" = some (some (.builtin "ValueError.__init__"))) && fnB file K (ga K d.C) d.qual (K.lookup (ma K (ga K d.C) "__init__"))))))
  | some B => inB K d.C && (decide (PySem.W.mroIn K (ga K d.C) (.ref (ga K d.C)) = some true) && (decide (PySem.W.ks_superIn K (ga K d.C) (ga K d.C) "__init__" = some (some (.ref (ma K (ga K B) "__init__")))) &&
    (PySem.W.fnIn K (ma K (ga K B) "__init__") && (decide (PySem.W.typeIn K (.ref (ma K (ga K B) "__init__")) = some (.type "function")) && fnB file K (ga K d.C) d.qual (K.lookup (ma K (ga K d.C) "__init__"))))))
/-- what the makers' objects say, with a class or without -/
theorem iniFn {P : Program} {K : PySem.W.Frag} {d : IniD} (e : iniW K d = d.val) (h6 : fnB P.main.file K (ga K d.C) d.qual (K.lookup (ma K (ga K d.C) "__init__")) = true) :
    ∃ (oc : Value) (od : Option Addr) (kV doc pm : Value) (an : Option Addr) (cda : Addr) (ct : Value) (osl : Array (Option Value)) (cc : Addr) (vs : Array Value) (file : Str) (tf : Tok) (ccl : Value) (cdd : Option Addr) (ccs : Array (Option Value)) (cl : Value) (cld : Option Addr) (csl : Array (Option Value)),
    K.lookup (ma K (ga K d.C) "__init__") = some ⟨oc, od, .func (PySem.W.ksFn "__init__" d.qual d.params d.body d.scope .none kV doc pm an (.ref cda) ct cc), osl⟩ ∧ PySem.W.codeIn K (.ref cda) d.qual = true ∧
    K.lookup cda = some ⟨ccl, cdd, .fields vs, ccs⟩ ∧ vs[2]? = some (.str file tf) ∧ ((P.main.file : Str) == file) = true ∧
    K.lookup cc = some ⟨cl, cld, .cell (some (.ref (ga K d.C))), csl⟩ := by
  unfold iniW at e
  cases q : K.lookup (ma K (ga K d.C) "__init__") with
  | none =>
    rw [q] at e
    cases e
  | some o =>
    obtain ⟨oc, od, dt, osl⟩ := o
    rw [q] at e h6
    cases dt with
    | func fd =>
      obtain ⟨n1, n2, n3, n4, n5, n6, n7, n8, n9, n10, n11, n12, n13, n14, n15⟩ := fd
      have e2 : (some (n1, n2, n3, n4, n5, n6, n15) : IniW) = some (("__init__" : Str), d.qual, d.params, FuncBody.stmts d.body, d.scope, mainGlobals, builtinsNs) := e
      simp only [Option.some.injEq, Prod.mk.injEq] at e2
      obtain ⟨g1, g2, g3, g4, g5, g6, g7⟩ := e2
      subst g1 g2 g3 g4 g5 g6 g7
      unfold fnB at h6
      dsimp only at h6
      split at h6
      · rename_i x cc cda
        obtain ⟨r1, h6⟩ := ba h6
        obtain ⟨r2, h6⟩ := ba h6
        obtain ⟨r3, r4⟩ := ba h6
        obtain rfl := of_decide_eq_true r1
        split at r3
        · rename_i ccl cdd vs ccs hl
          split at r3
          · rename_i f tf hv
            split at r4
            · rename_i cl cld C' csl hc
              obtain rfl : C' = ga K d.C := beq_iff_eq.mp r4
              exact ⟨oc, od, n9, n10, n11, n12, cda, n14, osl, cc, vs, f, tf, ccl, cdd, ccs, cl, cld, csl, rfl, r2, hl, hv, r3, hc⟩
            · cases r4
          · cases r3
        · cases r3
      · cases h6
    | _ => cases e
theorem iniB_ok {P : Program} {K : PySem.W.Frag} {d : IniD} (hb : d.base = none) (e : iniW K d = d.val) (h : iniB P.main.file K d = true) (opq : PySem.W.nsIn K cStatics "thirdparty.any" = some none) (top : (P.main.scope.names.lookup ("super" : Str)).isSome = false) :
    PySem.ErrL.SupC P K (ga K d.C) (ma K (ga K d.C) "__init__") d.qual d.params d.body d.scope := by
  unfold iniB at h
  rw [hb] at h
  dsimp only at h
  obtain ⟨h1, h⟩ := ba h
  obtain ⟨h2, h⟩ := ba h
  obtain ⟨h3, h⟩ := ba h
  obtain ⟨h4, h⟩ := ba h
  obtain ⟨h5, h6⟩ := ba h
  obtain ⟨i1, i2⟩ := ba h2
  have T := oxB_ok h1
  exact ⟨T.cls, iniFn e h6, of_decide_eq_true h3, of_decide_eq_true h4, opq, of_decide_eq_true h5, T.sa, eqO_ok i1, of_decide_eq_true i2, top⟩
theorem supB_ok {P : Program} {K : PySem.W.Frag} {d : IniD} {B : Str} (hb : d.base = some B) (e : iniW K d = d.val) (h : iniB P.main.file K d = true) (opq : PySem.W.nsIn K cStatics "thirdparty.any" = some none) (top : (P.main.scope.names.lookup ("super" : Str)).isSome = false) :
    ∃ (kV doc pm : Value) (an : Option Addr) (cda : Addr) (ct : Value) (cc : Addr), SupF P K (ga K d.C) (ma K (ga K d.C) "__init__") (ma K (ga K B) "__init__") "__init__" d.qual d.params d.body d.scope kV doc pm an cda ct cc := by
  unfold iniB at h
  rw [hb] at h
  dsimp only at h
  obtain ⟨h1, h⟩ := ba h
  obtain ⟨h3, h⟩ := ba h
  obtain ⟨h5, h⟩ := ba h
  obtain ⟨h6, h⟩ := ba h
  obtain ⟨h7, h8⟩ := ba h
  obtain ⟨oc, od, kV, doc, pm, an, cda, ct, osl, cc, vs, f, tf, ccl, cdd, ccs, cl, cld, csl, g1, g2, g3, g4, g5, g6⟩ := iniFn e h8
  exact ⟨kV, doc, pm, an, cda, ct, cc, ⟨oc, od, osl, g1⟩, g2, ⟨ccl, cdd, vs, ccs, f, tf, g3, g4, g5⟩, ⟨cl, cld, csl, g6⟩, of_decide_eq_true h3, opq, of_decide_eq_true h5, h6, of_decide_eq_true h7, top⟩
/-! ### properties -/
/-- the getter of the property m -/
def pg (K : PySem.W.Frag) (C : Addr) (m : Str) : Addr := match PySem.W.recIn K (ma K C m) "property" with
  | some (.ref g :: _) => g
  | _ => 0
def pgD (K : PySem.W.Frag) (d : DefD) : Addr := pg K (ga K d.at_.1) (d.at_.2.getD "")
def fnWp (K : PySem.W.Frag) (d : DefD) : FnW := match K.lookup (pgD K d) with
  | some ⟨_, _, .func fd, _⟩ => some (fd.name, fd.qualname, fd.params, fd.body, fd.scope, fd.globals, fd.closure, fd.builtins)
  | _ => none
def isSomeHd : Option (List Value) → Addr → Bool
  | some (.ref g :: _), h => g == h
  | _, _ => false
def prpB (K : PySem.W.Frag) (d : DefD) : Bool :=
  eqO (PySem.W.findIn K (.ref (ga K d.at_.1)) (d.at_.2.getD "")) (some (some (.ref (ma K (ga K d.at_.1) (d.at_.2.getD ""))))) && (eqO (PySem.W.specialIn K (.ref (ma K (ga K d.at_.1) (d.at_.2.getD ""))) "__get__") (some (some (.builtin "property.__get__"))) &&
    (decide (PySem.W.takesIn K (.ref (ma K (ga K d.at_.1) (d.at_.2.getD ""))) = some true) && (isSomeHd (PySem.W.recIn K (ma K (ga K d.at_.1) (d.at_.2.getD "")) "property") (pgD K d) && (PySem.W.keepIn K (.ref (pgD K d)) && (match K.lookup (pgD K d) with
      | some ⟨_, _, .func fd, _⟩ => PySem.W.codeIn K fd.code d.qual && decide (fd.defaults = .none)
      | _ => false)))))
theorem prp_of {K : PySem.W.Frag} {d : DefD} (h : prpB K d = true) : PropOf K (ga K d.at_.1) (d.at_.2.getD "") (ma K (ga K d.at_.1) (d.at_.2.getD "")) (pgD K d) := by
  obtain ⟨h1, h⟩ := ba h
  obtain ⟨h2, h⟩ := ba h
  obtain ⟨h3, h⟩ := ba h
  obtain ⟨h4, h⟩ := ba h
  refine ⟨eqO_ok h1, eqO_ok h2, of_decide_eq_true h3, ?_⟩
  unfold isSomeHd at h4
  split at h4
  · rename_i g rest e
    obtain rfl : g = pgD K d := beq_iff_eq.mp h4
    exact ⟨rest, e⟩
  · cases h4
theorem prp_fun {K : PySem.W.Frag} {d : DefD} {st : Stmt} (e : fnWp K d = d.val) (h : prpB K d = true) (h1 : d.params = defArgs st) (h2 : d.body = defBody st) (h3 : d.scope = defScope st) : ∃ fd, Fun K d.name d.qual st (pgD K d) fd := by
  obtain ⟨_, h⟩ := ba h
  obtain ⟨_, h⟩ := ba h
  obtain ⟨_, h⟩ := ba h
  obtain ⟨_, h⟩ := ba h
  obtain ⟨kp, h⟩ := ba h
  unfold fnWp at e
  cases q : K.lookup (pgD K d) with
  | none =>
    rw [q] at h
    cases h
  | some o =>
    obtain ⟨oc, od, dt, osl⟩ := o
    rw [q] at h e
    cases dt with
    | func fd =>
      obtain ⟨n1, n2, n3, n4, n5, n6, n7, n8, n9, n10, n11, n12, n13, n14, n15⟩ := fd
      have e2 : (some (n1, n2, n3, n4, n5, n6, n7, n15) : FnW) = some (d.name, d.qual, d.params, .stmts d.body, d.scope, mainGlobals, [], builtinsNs) := e
      simp only [Option.some.injEq, Prod.mk.injEq] at e2
      obtain ⟨g1, g2, g3, g4, g5, g6, g7, g8⟩ := e2
      subst g1 g2 g3 g4 g5 g6 g7 g8
      obtain ⟨k1, k2⟩ := ba (show (PySem.W.codeIn K n13 d.qual && decide (n8 = .none)) = true from h)
      obtain rfl : n8 = .none := of_decide_eq_true k2
      refine ⟨_, ⟨oc, od, n9, n10, n11, n12, n13, n14, osl, ?_, q, k1⟩, kp⟩
      rw [← h1, ← h2, ← h3]
    | _ => cases h
/-! ### the Hook -/
/-- what the names of the module reach in n steps, and the table of third parties -/
def asM (g : Addr → Option Obj) : Nat → List Addr
  | 0 => [mainGlobals, cStatics]
  | n + 1 => growD g (asM g n)
/-- tables with text keys; defs whose defaults are not told -/
abbrev TabM : Type := List (Str × List Str) × List DefD
/-- the only default of a def: an empty tuple -/
def dfA (K : PySem.W.Frag) (d : DefD) : Addr := match K.lookup (fAd K d.at_) with
  | some ⟨_, _, .func fd, _⟩ => (match fd.defaults with
    | .ref T => (match K.lookup T with
      | some ⟨_, _, .seq its _, _⟩ => (match its.toList with
        | [.ref a] => a
        | _ => 0)
      | _ => 0)
    | _ => 0)
  | _ => 0
def etB (K : PySem.W.Frag) (a : Addr) : Bool := match K.lookup a with
  | some ⟨.type c, _, .seq its _, _⟩ => decide (c = "tuple") && its.isEmpty
  | _ => false
theorem etB_ok {K : PySem.W.Frag} {a : Addr} (h : etB K a = true) (H : Hp) : SqT K H a [] := by
  unfold etB at h
  split at h
  · rename_i c _ its n _ e
    obtain ⟨h1, h2⟩ := ba h
    obtain rfl : its = #[] := Array.isEmpty_iff.mp h2
    exact .inr ⟨_, #[], n, e, congrArg Value.type (of_decide_eq_true h1), rfl, Nat.zero_le _, .nil⟩
  · cases h
def codB (K : PySem.W.Frag) (d : DefD) : Bool := PySem.W.keepIn K (.ref (fAd K d.at_)) && (etB K (dfA K d) && (match K.lookup (fAd K d.at_) with
  | some ⟨_, _, .func fd, _⟩ => PySem.W.codeIn K fd.code d.qual && dflB K fd.defaults [.ref (dfA K d)]
  | _ => false))
abbrev AlM : Type := AlD × (List IniW × (List FnW × (List (Option (List (Option (Str × Int)))) × (List FnW × Bool))))
def obsM (file : Str) (fa : List Fa) (fn : List DefD) (ini : List IniD) (pr : List DefD) (ts : TabM) (ex : PySem.W.Frag → Bool) (K : PySem.W.Frag) : AlM := (obsD fa fn K, (ini.map fun d => iniW K d, (pr.map fun d => fnWp K d, (ts.1.map fun t => dicW K (ga K t.1), (ts.2.map fun d => fnW K d.at_, (ini.all fun d => iniB file K d) && ((pr.all fun d => prpB K d) && ((ts.2.all fun d => codB K d) && ex K)))))))
def valM (fn : List DefD) (ini : List IniD) (pr : List DefD) (ts : TabM) (w : World) : AlM := (valD fn, (ini.map IniD.val, (pr.map DefD.val, (ts.1.map fun t => some (keysIn w.params t.2), (ts.2.map DefD.val, true)))))
def obsMG (file : Str) (n : Nat) (fa : List Fa) (fn : List DefD) (ini : List IniD) (pr : List DefD) (ts : TabM) (ex : PySem.W.Frag → Bool) (g : Addr → Option Obj) : AlM := obsM file fa fn ini pr ts ex (frG g (asM g n))
/-- what is told -/
structure SaysM (file : Str) (fa : List Fa) (fn : List DefD) (ini : List IniD) (pr : List DefD) (ts : TabM) (ex : PySem.W.Frag → Bool) (w : World) (K : PySem.W.Frag) : Prop where
  t : ts.1.map (fun t => dicW K (ga K t.1)) = ts.1.map fun t => some (keysIn w.params t.2)
  v : ts.2.map (fun d => fnW K d.at_) = ts.2.map DefD.val
  vb : ∀ d ∈ ts.2, codB K d = true
  d : SaysD fa fn K
  w : ini.map (fun d => iniW K d) = ini.map IniD.val
  p : pr.map (fun d => fnWp K d) = pr.map DefD.val
  pb : ∀ d ∈ pr, prpB K d = true
  b : ∀ d ∈ ini, iniB file K d = true
  x : ex K = true
theorem saysM_of {file : Str} {fa : List Fa} {fn : List DefD} {ini : List IniD} {pr : List DefD} {ts : TabM} {ex : PySem.W.Frag → Bool} {w : World} {K : PySem.W.Frag} (e : obsM file fa fn ini pr ts ex K = valM fn ini pr ts w) : SaysM file fa fn ini pr ts ex w K := by
  have e1 : obsD fa fn K = valD fn := congrArg (fun z : AlM => z.1) e
  have e2 : ini.map (fun d => iniW K d) = ini.map IniD.val := congrArg (fun z : AlM => z.2.1) e
  have e3 : ((ini.all fun d => iniB file K d) && ((pr.all fun d => prpB K d) && ((ts.2.all fun d => codB K d) && ex K))) = true := congrArg (fun z : AlM => z.2.2.2.2.2) e
  have e5 : ts.1.map (fun t => dicW K (ga K t.1)) = ts.1.map fun t => some (keysIn w.params t.2) := congrArg (fun z : AlM => z.2.2.2.1) e
  have e6 : ts.2.map (fun d => fnW K d.at_) = ts.2.map DefD.val := congrArg (fun z : AlM => z.2.2.2.2.1) e
  have e4 : pr.map (fun d => fnWp K d) = pr.map DefD.val := congrArg (fun z : AlM => z.2.2.1) e
  obtain ⟨h1, h2⟩ := ba e3
  obtain ⟨h2, h3⟩ := ba h2
  obtain ⟨h4, h3⟩ := ba h3
  exact ⟨e5, e6, List.all_eq_true.mp h4, e1, e2, e4, List.all_eq_true.mp h2, List.all_eq_true.mp h1, h3⟩
theorem SaysM.prp {file : Str} {fa : List Fa} {fn : List DefD} {ini : List IniD} {pr : List DefD} {ts : TabM} {ex : PySem.W.Frag → Bool} {w : World} {K : PySem.W.Frag} (c : SaysM file fa fn ini pr ts ex w K) (i : Nat) {d : DefD} {st : Stmt} (h : pr[i]? = some d) (h1 : d.params = defArgs st) (h2 : d.body = defBody st) (h3 : d.scope = defScope st) :
    PropOf K (ga K d.at_.1) (d.at_.2.getD "") (ma K (ga K d.at_.1) (d.at_.2.getD "")) (pgD K d) ∧ ∃ fd, Fun K d.name d.qual st (pgD K d) fd := by
  have e2 : (pr.map fun d => fnWp K d)[i]? = (pr.map DefD.val)[i]? := by rw [c.p]
  rw [List.getElem?_map, List.getElem?_map, h] at e2
  have b := c.pb d (List.mem_of_getElem? h)
  exact ⟨prp_of b, prp_fun (Option.some.inj e2) b h1 h2 h3⟩
theorem SaysM.ini {P : Program} {fa : List Fa} {fn : List DefD} {ini : List IniD} {pr : List DefD} {ts : TabM} {ex : PySem.W.Frag → Bool} {w : World} {K : PySem.W.Frag} (c : SaysM P.main.file fa fn ini pr ts ex w K) (i : Nat) {d : IniD} (opq : PySem.W.nsIn K cStatics "thirdparty.any" = some none) (top : (P.main.scope.names.lookup ("super" : Str)).isSome = false) (h : ini[i]? = some d := by rfl) (hb : d.base = none := by rfl) :
    PySem.ErrL.SupC P K (ga K d.C) (ma K (ga K d.C) "__init__") d.qual d.params d.body d.scope := by
  have e2 : (ini.map fun d => iniW K d)[i]? = (ini.map IniD.val)[i]? := by rw [c.w]
  rw [List.getElem?_map, List.getElem?_map, h] at e2
  exact iniB_ok hb (Option.some.inj e2) (c.b d (List.mem_of_getElem? h)) opq top
theorem SaysM.sup {P : Program} {fa : List Fa} {fn : List DefD} {ini : List IniD} {pr : List DefD} {ts : TabM} {ex : PySem.W.Frag → Bool} {w : World} {K : PySem.W.Frag} (c : SaysM P.main.file fa fn ini pr ts ex w K) (i : Nat) {d : IniD} {B : Str} (opq : PySem.W.nsIn K cStatics "thirdparty.any" = some none) (top : (P.main.scope.names.lookup ("super" : Str)).isSome = false) (h : ini[i]? = some d := by rfl) (hb : d.base = some B := by rfl) :
    ∃ (kV doc pm : Value) (an : Option Addr) (cda : Addr) (ct : Value) (cc : Addr), SupF P K (ga K d.C) (ma K (ga K d.C) "__init__") (ma K (ga K B) "__init__") "__init__" d.qual d.params d.body d.scope kV doc pm an cda ct cc := by
  have e2 : (ini.map fun d => iniW K d)[i]? = (ini.map IniD.val)[i]? := by rw [c.w]
  rw [List.getElem?_map, List.getElem?_map, h] at e2
  exact supB_ok hb (Option.some.inj e2) (c.b d (List.mem_of_getElem? h)) opq top
theorem SaysM.ox {file : Str} {fa : List Fa} {fn : List DefD} {ini : List IniD} {pr : List DefD} {ts : TabM} {ex : PySem.W.Frag → Bool} {w : World} {K : PySem.W.Frag} (c : SaysM file fa fn ini pr ts ex w K) (i : Nat) {d : IniD} (h : ini[i]? = some d := by rfl) (hb : d.base = none := by rfl) : OexC K (ga K d.C) := by
  have q := c.b d (List.mem_of_getElem? h)
  unfold iniB at q
  rw [hb] at q
  exact oxB_ok (ba q).1
theorem SaysM.ex_at {file : Str} {fa : List Fa} {fn : List DefD} {ini : List IniD} {pr : List DefD} {ts : TabM} {L : List (PySem.W.Frag → Bool)} {w : World} {K : PySem.W.Frag} (c : SaysM file fa fn ini pr ts (fun K => L.all fun b => b K) w K) (i : Nat) {b : PySem.W.Frag → Bool} (h : L[i]? = some b := by rfl) : b K = true :=
  List.all_eq_true.mp c.x b (List.mem_of_getElem? h)
theorem SaysM.tab {file : Str} {fa : List Fa} {fn : List DefD} {ini : List IniD} {pr : List DefD} {ts : TabM} {ex : PySem.W.Frag → Bool} {w : World} {K : PySem.W.Frag} (c : SaysM file fa fn ini pr ts ex w K) (i : Nat) {t : Str × List Str} (h : ts.1[i]? = some t := by rfl) : dicW K (ga K t.1) = some (keysIn w.params t.2) := by
  have e2 : (ts.1.map fun t => dicW K (ga K t.1))[i]? = (ts.1.map fun t => some (keysIn w.params t.2))[i]? := by rw [c.t]
  rw [List.getElem?_map, List.getElem?_map, h] at e2
  exact Option.some.inj e2
/-- a def as it stands behind the top, its one default an empty tuple -/
def FunV (K : PySem.W.Frag) (x qual : Str) (st : Stmt) (f : Addr) (fd : FuncData) : Prop := ∃ a0, FunD K x qual (defArgs st) (defBody st) (defScope st) [.ref a0] [] f fd ∧ ∀ H, SqT K H a0 []
theorem FunV.ok {P : Program} {w : World} {K : PySem.W.Frag} {mg : Str → Option Value} {base : Heap} {x qual : Str} {st : Stmt} {f : Addr} {fd : FuncData} {CX : CXT} {N ps : List Str} {k : Nat} {sp : Sp} (F : FunV K x qual st f fd) (S : FnScope N ps (defScope st)) (len : ∀ vs H Q E, sp vs H Q E → vs.length = ps.length)
    (hbody : ∀ (cdv : Value) (A : Around) (outer : List Env) (s : Shared) (H : Hp) (vs : List V) (Q : VK) (E : XK), Room k (A.deeper (envOfC qual (defScope st) s.heap.objs.size f cdv)) → sp vs H Q E →
      ∃ t, PSs (cxOf CX P w K mg base N qual (defScope st) f cdv A outer s H E) (defBody st) t ∧ t { nx := fun _ H' => Q .non H', rt := Q } (start N vs) H) : FnOk P w K mg base CX (k + 1) f fd ps sp := by
  obtain ⟨a0, F, _⟩ := F
  exact F.ok S len hbody
theorem FunV.binds {K : PySem.W.Frag} {x qual : Str} {st : Stmt} {f : Addr} {fd : FuncData} {ps : List Str} (F : FunV K x qual st f fd)
    (h : ∀ (T : Addr) (kV doc pm : Value) (an : Option Addr) (cdv ct : Value) (us its : List Value), us.length = ps.length → its.length = 1 →
      ∃ k, bindArgs (PySem.W.fnOf x qual (defArgs st) (defBody st) (defScope st) (.ref T) kV doc pm an cdv ct) ⟨us, []⟩ = seqItems? (.ref T) >>= k ∧ k (some its.toArray) = pure (ps.zip (us ++ its.drop 1))) : Binds K fd ps [] := by
  obtain ⟨a0, F, _⟩ := F
  obtain ⟨ds, r, b⟩ := F.binds1 (ps := ps) ps.length 1 (by simp) rfl h
  cases r
  exact b
theorem funV_of {K : PySem.W.Frag} {d : DefD} {st : Stmt} (e : fnW K d.at_ = d.val) (h : codB K d = true) (h1 : d.params = defArgs st) (h2 : d.body = defBody st) (h3 : d.scope = defScope st) : ∃ fd, FunV K d.name d.qual st (fAd K d.at_) fd := by
  obtain ⟨kp, h⟩ := ba h
  obtain ⟨et, h⟩ := ba h
  unfold fnW at e
  cases q : K.lookup (fAd K d.at_) with
  | none =>
    rw [q] at h
    cases h
  | some o =>
    obtain ⟨oc, od, dt, osl⟩ := o
    rw [q] at h e
    cases dt with
    | func fd =>
      obtain ⟨n1, n2, n3, n4, n5, n6, n7, n8, n9, n10, n11, n12, n13, n14, n15⟩ := fd
      have e2 : (some (n1, n2, n3, n4, n5, n6, n7, n15) : FnW) = some (d.name, d.qual, d.params, .stmts d.body, d.scope, mainGlobals, [], builtinsNs) := e
      simp only [Option.some.injEq, Prod.mk.injEq] at e2
      obtain ⟨g1, g2, g3, g4, g5, g6, g7, g8⟩ := e2
      subst g1 g2 g3 g4 g5 g6 g7 g8
      obtain ⟨k1, k2⟩ := ba (show (PySem.W.codeIn K n13 d.qual && dflB K n8 [.ref (dfA K d)]) = true from h)
      refine ⟨_, dfA K d, ⟨⟨oc, od, n8, n9, n10, n11, n12, n13, n14, osl, ?_, q, k1, dflB_ok k2, .inl rfl⟩, kp⟩, etB_ok et⟩
      rw [← h1, ← h2, ← h3]
    | _ => cases h
theorem SaysM.var {file : Str} {fa : List Fa} {fn : List DefD} {ini : List IniD} {pr : List DefD} {ts : TabM} {ex : PySem.W.Frag → Bool} {w : World} {K : PySem.W.Frag} (c : SaysM file fa fn ini pr ts ex w K) (i : Nat) {d : DefD} {st : Stmt} (h : ts.2[i]? = some d) (h1 : d.params = defArgs st) (h2 : d.body = defBody st) (h3 : d.scope = defScope st) :
    ∃ fd, FunV K d.name d.qual st (fAd K d.at_) fd := by
  have e2 : (ts.2.map fun d => fnW K d.at_)[i]? = (ts.2.map DefD.val)[i]? := by rw [c.v]
  rw [List.getElem?_map, List.getElem?_map, h] at e2
  exact funV_of (Option.some.inj e2) (c.vb d (List.mem_of_getElem? h)) h1 h2 h3
theorem inB_ok {K : PySem.W.Frag} {C : Str} (h : inB K C = true) : PySem.W.findIn K (.ref (ga K C)) "__init__" = some (some (.ref (ma K (ga K C) "__init__"))) ∧ PySem.W.typeIn K (.ref (ma K (ga K C) "__init__")) = some (.type "function") := by
  obtain ⟨h1, h2⟩ := ba h
  exact ⟨eqO_ok h1, of_decide_eq_true h2⟩
def hookM (file : Str) (n : Nat) (fa : List Fa) (fn : List DefD) (ini : List IniD) (pr : List DefD) (ts : TabM) (ex : PySem.W.Frag → Bool) : PySem.W.Hook where
  α := AlM
  obs := fun s => obsMG file n fa fn ini pr ts ex s.heap.get?
  val := fun w => valM fn ini pr ts w
  says := fun w h => ∃ K : PySem.W.Frag, K.In h ∧ SaysM file fa fn ini pr ts ex w K
  of := fun _ _ e => ⟨_, frG_in, saysM_of e⟩
  keeps := fun _ _ _ ⟨K, hK, c⟩ k => ⟨K, PySem.W.Frag.In.keeps hK k, c⟩
theorem obsMG_eq {file : Str} {n : Nat} {fa : List Fa} {fn : List DefD} {ini : List IniD} {pr : List DefD} {ts : TabM} {ex : PySem.W.Frag → Bool} {g : Addr → Option Obj} {s : Shared} (h : ∀ a, g a = s.heap.get? a) : obsMG file n fa fn ini pr ts ex g = (hookM file n fa fn ini pr ts ex).obs s := by
  have e : g = s.heap.get? := funext h
  rw [e] <;> rfl
end HeM
namespace L2
open PySem PySem.Spec PyProof.Rows
theorem fun_of {K : PySem.W.Frag} {x qual : Str} {st : Stmt} {f : Addr} {fd : FuncData} (F : FunD K x qual (defArgs st) (defBody st) (defScope st) [] [] f fd) : Fun K x qual st f fd := by
  obtain ⟨oc, od, dV, kV, doc, pm, an, cdv, ct, osl, rfl, lk, hcd, hD, hK⟩ := F.ex
  rcases hD with ⟨_, rfl⟩ | ⟨e, _⟩
  · exact ⟨⟨oc, od, kV, doc, pm, an, cdv, ct, osl, rfl, lk, hcd⟩, F.kp⟩
  · exact absurd rfl e
theorem Fun.bindsA1 {K : PySem.W.Frag} {x qual y : Str} {st : Stmt} {f : Addr} {fd : FuncData} (F : Fun K x qual st f fd)
    (h : ∀ (kV doc pm : Value) (an : Option Addr) (cdv ct : Value) (us : List Value), us.length = [y].length → bindArgs (PySem.W.fnOf x qual (defArgs st) (defBody st) (defScope st) .none kV doc pm an cdv ct) ⟨us, []⟩ = pure ([y].zip us)) (s : Shared) (v : Value) : BindsTo s fd ⟨[v], []⟩ [(y, v)] := by
  obtain ⟨oc, od, kV, doc, pm, an, cdv, ct, osl, rfl, lk, hcd⟩ := F.ex
  exact .of_eq (h kV doc pm an cdv ct [v] rfl)
end L2
set_option Elab.async false
set_option linter.all false
set_option maxRecDepth 100000
set_option maxHeartbeats 4000000
/-! == by an own __eq__ that may say False -/
namespace L2
open PySem PySem.Spec PyProof.Rows
def rOwn (K : PySem.W.Frag) (C : Addr) (sp : Sp) : R2 := fun x y H Q => ∃ (a dx : Addr) (fs : List (Str × V)) (t : Value), x = .ref a ∧ H a = some (.ins C dx fs) ∧ TyX K H y t ∧ PySem.W.notFirst K C t = true ∧ sp [x, y] H (fun v H' => (∃ b, v = .bl b) ∧ Q v H') E0
theorem op_own {X : Cx} {CX : CXT} {C : Addr} {k : Nat} {ps : List Str} {sp : Sp} (c : CalM X.prog X.w X.K X.mg X.base CX k C "__eq__" ps sp) (hr : Room k X.A) (hx : Passes CX X E0 := by first | exact pass0 | exact passL) : OpR X (compareOp .Eq) (rOwn X.K C sp) := by
  intro pins s σ H x y v u Q I rx ry h
  obtain ⟨f, fd, h1, h2, h4⟩ := c
  obtain ⟨a, dx, fs, t, rfl, ha, hy, hn, q⟩ := h
  obtain rfl : v = Value.ref a := rx
  obtain ⟨mA, J, _⟩ := ins_get I.hok ha
  obtain ⟨od, J, _⟩ := J.look
  obtain ⟨Pz, Z, pz, _⟩ := kit_of I ry hy
  obtain ⟨m, hF⟩ := I.fr
  show wpAny (model X.prog X.w) X.A (richCompare .Eq (.ref a) u) (EP X pins σ Q) X.xe s
  refine PySem.W.cmp_K (op := .Eq) (tb := t) hr.units0 hF I.ok.mod.kin J (Z.ty _ _ I.kIn pz) hn h2.at_ h2.fn ?_
  refine wpAny_mono (run_fn (us := [.ref a, u]) (vs := [.ref a, y]) (dvs := []) h1 hr h4 .nil hx I (.cons (show RelV (.ref a) (.ref a) from rfl) (.cons ry .nil)) q) (fun r s' hq => ?_) fun _ _ z => z
  obtain ⟨v', H', I', rv, ⟨b, rfl⟩, q'⟩ := hq
  obtain rfl : r = Value.bool b := rv
  exact ⟨.bl b, H', I', rfl, q'⟩
end L2
set_option Elab.async false
set_option linter.all false
set_option maxRecDepth 100000
set_option maxHeartbeats 400000
/-! len(o), a walk over o, o.f: by the class's own __len__, __iter__, properties -/
namespace L2
open PySem PySem.Spec PyProof.Rows
section
variable {X : Cx} {CX : CXT} {C : Addr} {k : Nat} {ps : List Str} {sp : Sp}
/-- a call of a def at one more level down -/
theorem run_in1 {pins : List (Addr × Obj)} {σ : St} {H : Hp} {s : Shared} {Q : VK} {f : Addr} {fd : FuncData} {us : List Value} {vs : List V} (F : FnOk X.prog X.w X.K X.mg X.base CX k f fd ps sp) (hr : Room (k + 1) X.A) (hb : Binds X.K fd ps [])
    (hx : Passes CX X E0) (I : Inv X pins σ H s) (r : Vals vs us) (h : sp vs H Q E0) : wpAny (model X.prog X.w) X.A.in1 (call (.ref f) us) (EP X pins σ Q) X.xe s := by
  have hl : (us ++ []).length = ps.length := by
    rw [List.append_nil, ← r.length]
    exact F.len _ _ _ _ h
  have hb' := hb s us I.kIn hl
  rw [List.append_nil] at hb'
  refine wpAny_call (codeAny_mono (F.run X.A.in1 X.stack s H ⟨us, []⟩ us vs Q E0 hr.in1 I.env0.in1 hb' r h) fun z s' hq => ?_)
  match z, hq with
  | .error e, hq => exact (hx pins σ H s e s' I hq)
  | .ok (.ret u), hq => exact I.after hq
/-- len(o) -/
def rLenOwn (C : Addr) (sp : Sp) : List V → Hp → VK → Prop := fun xs H Q => ∃ (a dx : Addr) (fs : List (Str × V)), xs = [.ref a] ∧ H a = some (.ins C dx fs) ∧ sp [.ref a] H (fun v H' => ∃ n : Nat, v = .int n ∧ n < 1000000 ∧ Q (.int n) H') E0
theorem call_lenOwn (c : CalM X.prog X.w X.K X.mg X.base CX k C "__len__" ps sp) (hr : Room (k + 1) X.A) (hx : Passes CX X E0 := by first | exact pass0 | exact passL) : CallR X (.builtin "len") (rLenOwn C sp) := by
  intro pins s σ H xs us Q I r h
  obtain ⟨f, fd, h1, h2, h4⟩ := c
  obtain ⟨a, dx, fs, rfl, ha, q⟩ := h
  obtain ⟨u, rfl, ru⟩ := vals1 r
  obtain rfl : u = Value.ref a := ru
  obtain ⟨mA, J, _⟩ := ins_get I.hok ha
  obtain ⟨od, J, _⟩ := J.look
  refine Calls.call_function_entry kind_len plain_len entry_len (args_len1 _) ?_
  unfold Builtin.«len»
  refine wpAny_bind (m := oneArg "len" _) (wpAny_pure ?_)
  refine wpAny_bind (m := callSpecial? (.ref a) (Str.ofString "__len__")) (PySem.W.special_fn I.kIn J h2.at_ (beq_iff_eq.mp h2.fn) (wpAny_mono (run_in1 h1 hr h4 hx I (show Vals [V.ref a] [Value.ref a] from .cons rfl .nil) q) (fun v s' hv => ?_) fun _ _ z => z))
  obtain ⟨v', H', I', rv, n, rfl, hn, q'⟩ := hv
  obtain ⟨t, rfl⟩ := rv
  refine wpAny_bind (wpAny_holding (wpAny_pure ?_))
  refine wpAny_bind (wpAny_letGo ?_)
  show wpAny _ _ (if (n : Int) < 0 then _ else _) _ _ _
  rw [if_neg (show ¬ ((n : Int) < 0) by omega)]
  show wpAny _ _ (if (n : Int) ≥ 2 ^ 63 then _ else _) _ _ _
  rw [if_neg (show ¬ ((n : Int) ≥ 2 ^ 63) by omega)]
  exact wpAny_bind (wpAny_mkInt (wpAny_pure ⟨_, rfl, .int n, H', I'.tok _, ⟨_, rfl⟩, q'⟩))
end
/-- as FnOk, the promise told the size of the memory at the call -/
structure FnN (P : Program) (w : World) (K : PySem.W.Frag) (mg : Str → Option Value) (base : Heap) (CX : CXT) (k : Nat) (f : Addr) (fd : FuncData) (ps : List Str) (sp : Nat → Sp) : Prop where
  len : ∀ n vs H Q E, sp n vs H Q E → vs.length = ps.length
  run : ∀ (A : Around) (outer : List Env) (s : Shared) (H : Hp) (us : List Value) (vs : List V) (Q : VK) (E : XK), Room k A → Env0 P w K mg base A outer s H → BindsTo s fd ⟨us, []⟩ (ps.zip us) → Vals vs us → sp s.heap.objs.size vs H Q E →
    codeAny (model P w) A (.call (.ref f) ⟨us, []⟩) (CR CX outer P w H s Q E) s
section
variable {P : Program} {w : World} {K : PySem.W.Frag} {mg : Str → Option Value} {base : Heap}
theorem Fun.okN {x qual : Str} {st : Stmt} {f : Addr} {fd : FuncData} {N ps : List Str} {k : Nat} {sp : Nat → Sp} (F : Fun K x qual st f fd) (S : FnScope N ps (defScope st)) (len : ∀ n vs H Q E, sp n vs H Q E → vs.length = ps.length)
    (body : ∀ (cdv : Value) (A : Around) (outer : List Env) (s : Shared) (H : Hp) (vs : List V) (Q : VK) (E : XK), Room k (A.deeper (envOfC qual (defScope st) s.heap.objs.size f cdv)) → sp s.heap.objs.size vs H Q E →
      ∃ t, PSs (cxOf CX0 P w K mg base N qual (defScope st) f cdv A outer s H E).nox (defBody st) t ∧ t { nx := fun _ H' => Q .non H', rt := Q } (start N vs) H) : FnN P w K mg base CX0 (k + 1) f fd ps sp := by
  obtain ⟨oc, od, kV, doc, pm, an, cdv, ct, osl, rfl, lk, hcd⟩ := F.ex
  refine ⟨len, fun A outer s H us vs Q E room env0 binds rel promise => ?_⟩
  have hlen := len _ _ _ _ _ promise
  have kin : K.In s.heap := env0.mod.kin.keeps fun b o e => (env0.bs b o e).1
  have nolim : s.heap.NoLimit := env0.mod.nolimit.keeps fun b o e => (env0.bs b o e).1
  have kinds : ∀ y ∈ ps.zip us, (defScope st).names.lookup y.1 = some .local ∨ ((defScope st).names.lookup y.1 = some .cell ∧ ((cellsFrom (s.heap.objs.size + 1) (defScope st).names []).lookup y.1).isSome = true) := by
    rintro ⟨n, v⟩ hy
    cases S.par n (List.of_mem_zip hy).1 with
    | inl q => exact .inl q
    | inr q => exact .inr ⟨q, PySem.W.cellsFrom_some _ _ _ (.inl q)⟩
  refine codeAny_call_function room.depth (kin _ _ lk) rfl S.co S.gen rfl (PySem.W.codeRec_of kin hcd) (binds _ _ _ _ (wpAny_newFunctionEnv_cells S.kind kinds fun env he s1 x => ?_))
  subst he
  refine ⟨nolim.keeps x.toInCall.keep, codeAny_func ?_⟩
  obtain ⟨t, ht, hq⟩ := body cdv A outer s H vs Q E (room.deeper _) promise
  have start_ok := inv_start (CX := CX0) (E := E) S room.hd env0 hlen rel x
  refine wpAny_mono (ht.nox.run [] s1 (start N vs) H _ start_ok hq) (fun fl s' hs => ?_) fun e s' hs => hs
  cases fl with
  | brk => exact False.elim (let ⟨_, _, _, q⟩ := hs; q)
  | cont => exact False.elim (let ⟨_, _, _, q⟩ := hs; q)
  | next =>
    obtain ⟨σ', H', J, q⟩ := hs
    exact ⟨V.non, H', J.os, J.bare, J.base, J.hok, rfl, q⟩
  | ret u =>
    obtain ⟨v, σ', H', J, rv, q⟩ := hs
    exact ⟨v, H', J.os, J.bare, J.base, J.hok, rv, q⟩
end
/-- at it the iterator of the tuple at t -/
def ItT (t it : Addr) : HO := .ext fun h => h.get? it = some { cls := .type "tuple_iterator", data := .fields #[.ref t, .int 0 0] }
theorem itT_ok {P : Program} {w : World} {H : Hp} {h : Heap} {t it : Addr} (e : h.get? it = some { cls := .type "tuple_iterator", data := .fields #[.ref t, .int 0 0] }) : ObjOk P w H h it (ItT t it) := ⟨e, ⟨_, e⟩, fun _ _ q k => k _ q⟩
/-- iter(t), t a tuple; the new thing lies behind n -/
def rIterT (K : PySem.W.Frag) (n : Nat) : List V → Hp → VK → Prop := fun xs H Q => ∃ (l : Addr) (zs : List V), xs = [.ref l] ∧ SqT K H l zs ∧ ∀ it, H it = none → n ≤ it → Q (.ref it) (upd H it (ItT l it))
theorem call_iterT {X : Cx} : CallR X (.builtin "iter") (rIterT X.K X.s_0.heap.objs.size) := by
  intro pins s σ H xs us Q I r h
  obtain ⟨l, zs, rfl, hq, q⟩ := h
  obtain ⟨u, rfl, ru⟩ := vals1 r
  obtain rfl : u = Value.ref l := ru
  obtain ⟨its, rv, pl, hz⟩ := I.tuple hq
  refine Calls.call_function_entry (by decide +kernel) (by decide +kernel) PySem.W.kdk_entry_iter (PySem.W.kdk_args_iter _) ?_
  unfold Builtin.«iter»
  refine wpAny_bind (m := someArgs "iter" 1 2 _) (wpAny_of_eq (a := [Value.ref l]) (by first | rfl | kernel_rfl!) ?_)
  show wpAny _ _ (pyIter (.ref l) >>= _) _ _ _
  refine wpAny_bind (wpAny_pyIter_tuple (show s.heap.IsTuple l its.toArray from pl) (wpAny_pure ⟨_, rfl, ?_⟩))
  have e : (s.heap.push { cls := .type "tuple_iterator", data := .fields #[.ref l, .int 0 0] }).get? s.heap.objs.size = some { cls := .type "tuple_iterator", data := .fields #[.ref l, .int 0 0] } := Heap.get?_push_size _ rfl
  exact ⟨.ref s.heap.objs.size, _, I.laid (o := ItT l s.heap.objs.size) (t' := s.toks) (fun b u e => Heap.get?_push_of_some _ e) (Nat.le_refl _) (itT_ok e), rfl, q _ (I.hok.fresh (Nat.le_refl _)) I.sz⟩
/-- what such an __iter__ promises -/
def spItT (K : PySem.W.Frag) (C : Addr) (f : Str) (n : Nat) : Sp := fun vs H Q _ => ∃ (a dx t : Addr) (fs : List (Str × V)) (zs : List V), vs = [.ref a] ∧ H a = some (.ins C dx fs) ∧ fs.lookup f = some (.ref t) ∧ SqT K H t zs ∧ ∀ it, H it = none → n ≤ it → Q (.ref it) (upd H it (ItT t it))
/-- the class at C walks over the tuple in its field f -/
def CalI (P : Program) (w : World) (K : PySem.W.Frag) (mg : Str → Option Value) (base : Heap) (k : Nat) (C : Addr) (f : Str) : Prop :=
  ∃ (g : Addr) (fd : FuncData), FnN P w K mg base CX0 k g fd ["self"] (spItT K C f) ∧ Meth K C "__iter__" g ∧ Binds K fd ["self"] []
def iOwn (K : PySem.W.Frag) (C : Addr) (f : Str) (tl : TE) : TI := fun σ H R => tl σ H fun x H1 => ∃ (a dx t : Addr) (fs : List (Str × V)), x = .ref a ∧ H1 a = some (.ins C dx fs) ∧ fs.lookup f = some (.ref t) ∧ (∃ zs, SqT K H1 t zs) ∧ R (Itt K t) H1
theorem looks_next {M : Model} {A : Around} {E : Value → Shared → Prop} {s : Shared} {it t : Addr} {Q : Option Value → Shared → Prop} (e : s.heap.get? it = some { cls := .type "tuple_iterator", data := .fields #[.ref t, .int 0 0] }) (h : ∀ g, Q (some g) s) : wpAny M A (specialOf (.ref it) "__next__") Q E s := by
  unfold specialOf
  refine wpAny_bind (wpAny_typeOf (T := "tuple_iterator") ⟨_, e, rfl⟩ (wpAny_of_eq (F.slot_tuple_iterator_next.lookup) (h _)))
theorem pi_own {X : Cx} {tg l : Expr} {tl : TE} {k : Nat} {C : Addr} {f : Str} (c : CalI X.prog X.w X.K X.mg X.base k C f) (hr : Room k X.A) (hl : PE X l tl) : PI X tg l (iOwn X.K C f tl) := by
  refine ⟨fun pins s σ H R I h => ?_⟩
  obtain ⟨g, fd, h1, h2, h4⟩ := c
  refine thn (hl.run pins s σ H _ I h) fun v s1 ⟨x, H1, I1, r1, q1⟩ => ?_
  obtain ⟨a, dx, t, fs, e, ha, hf, ⟨zs, hz⟩, q⟩ := q1
  subst e
  obtain rfl : v = Value.ref a := r1
  obtain ⟨mA, J, _⟩ := ins_get I1.hok ha
  obtain ⟨od, J, _⟩ := J.look
  obtain ⟨m0, hF⟩ := I1.fr
  refine PySem.W.owit_iter hF I1.ok.mod.kin J h2.at_ h2.fn ?_
  have pr : spItT X.K C f s1.heap.objs.size [.ref a] H1 (fun v H' => ∃ it, v = .ref it ∧ H1 it = none ∧ s1.heap.objs.size ≤ it ∧ H' = upd H1 it (ItT t it)) E0 := ⟨a, dx, t, fs, zs, rfl, ha, hf, hz, fun it n1 n2 => ⟨it, rfl, n1, n2, rfl⟩⟩
  have hb' := h4 s1 [.ref a] I1.kIn rfl
  rw [List.append_nil] at hb'
  refine wpAny_call (codeAny_mono (h1.run X.A X.stack s1 H1 [.ref a] [.ref a] _ E0 hr I1.env0 hb' (.cons rfl .nil) pr) fun z s' hq => ?_)
  match z, hq with
  | .error e, hq => exact hq.elim
  | .ok (.ret u), hq =>
    obtain ⟨v, H', I', rv, it, rfl, n1, n2, rfl⟩ := I1.after hq
    obtain rfl : u = Value.ref it := rv
    have eo := (I'.hok it _ upd_same).1
    unfold PySem.W.OwitIt
    refine looks_next eo fun _ => ?_
    have I2 := ItX.inv_drop I' (a := it) (φ := fun h => h.get? it = some { cls := .type "tuple_iterator", data := .fields #[.ref t, .int 0 0] }) upd_same
    have fp := ItX.inv_fp I' (a := it) (u := ItT t it) upd_same (Nat.le_trans I1.sz n2)
    rw [ItX.dropH_upd n1] at I2 fp
    refine ⟨it, [it], _, _, H1, rfl, I2, turn_tuple t it, ⟨_, eo, rfl, rfl⟩, fun b hb => ?_, q⟩
    obtain rfl : b = it := by simpa using hb
    exact fp
/-- the class at C has the property f, its getter keeps sp -/
def CalP (P : Program) (w : World) (K : PySem.W.Frag) (mg : Str → Option Value) (base : Heap) (k : Nat) (C : Addr) (f : Str) (sp : Sp) : Prop :=
  ∃ (p g : Addr) (fd : FuncData), FnOk P w K mg base CX0 k g fd ["self"] sp ∧ PropOf K C f p g ∧ Binds K fd ["self"] []
/-- o.f, a property -/
theorem pe_prp {X : Cx} {e : Expr} {pos : Pos} {ta : TE} {k : Nat} {C : Addr} {f : Str} {sp : Sp} (c : Cls X.K C) (h : CalP X.prog X.w X.K X.mg X.base k C f sp) (hr : Room (k + 1) X.A) (he : PE X e ta) (hab : attributeBase e f X.env (eval e X.env) = eval e X.env := by rfl) :
    PE X (.Attribute e f pos) (tProp C sp [] E0 ta) := by
  obtain ⟨p, g, fd, h1, h2, h3⟩ := h
  exact pe_prop he c h2 h1 hr h3 .nil pass0 hab
end L2
set_option Elab.async false
set_option linter.all false
set_option maxRecDepth 100000
set_option maxHeartbeats 1000000
/-! for i, x in enumerate(v), v a list or a tuple -/
namespace EnT
open PySem
open Sem (wp)
open AutoSeq1 (wpAny_loadPart')
def itTup (l : Addr) : Obj := { cls := .type "tuple_iterator", data := .fields #[.ref l, .int 0 0] }
def enumNew (n : Nat) : Obj := { cls := .type "enumerate", data := .fields #[.none, .bool false, .ref n, rawInt 0, .none, .none] }
theorem meets_newT (l : Addr) (items : Array Value) :
    Meets (Builtin.«enumerate.__new__» ⟨[.type "enumerate", .ref l], []⟩) (fun _ R s => s.heap.IsTuple l items ∧ R (.ok (.ret (.ref (s.heap.push (itTup l)).objs.size))) { s with heap := (s.heap.push (itTup l)).push (enumNew s.heap.objs.size) }) :=
  .of_wp fun prog w A R s h => by
    obtain ⟨hp, g, d, tk, os⟩ := s
    obtain ⟨hT, h⟩ := h
    have hsub := sub_enumerate
    have q : ∀ {A : Around} {E : Value → Shared → Prop} {Q : Value → Shared → Prop}, Q (.ref hp.objs.size) ⟨hp.push (itTup l), g, d, tk, os⟩ → wpAny (model prog w) A (pyIter (.ref l)) Q E ⟨hp, g, d, tk, os⟩ := fun q => wpAny_pyIter_tuple hT q
    wp_walk using q
    refine wpAny_stack_any fun st => wpAny_pure ?_
    split
    · rename_i c _ _ _ _ _
      cases (c == Value.type "enumerate") <;> (wp_walk using q; exact ⟨_, rfl, h⟩)
    · wp_walk using q; exact ⟨_, rfl, h⟩
theorem call_enumT {prog : Program} {w : World} {A : Around} {E : Value → Shared → Prop} {s : Shared} {l : Addr} {items : Array Value} {Q : Value → Shared → Prop} (hT : s.heap.IsTuple l items)
    (h : ∀ h', IsEnum h' (s.heap.objs.size + 1) s.heap.objs.size 0 .none → h'.IsTupleIter s.heap.objs.size l 0 → (∀ b o, s.heap.get? b = some o → h'.get? b = some o) → Q (.ref (s.heap.objs.size + 1)) { s with heap := h' }) :
    wpAny (model prog w) A (call (.type "enumerate") [.ref l]) Q E s := by
  have hz : (s.heap.push (itTup l)).objs.size = s.heap.objs.size + 1 := Heap.size_push ..
  have he : IsEnum ((s.heap.push (itTup l)).push (enumNew s.heap.objs.size)) (s.heap.objs.size + 1) s.heap.objs.size 0 .none := by
    have q := Heap.get?_push_size (s.heap.push (itTup l)) (o := enumNew s.heap.objs.size) rfl
    rw [hz] at q
    exact q
  refine callType_new F.called_enumerate (by decide) (F.typeCall_enumerate_1 _) (F.newCall_enumerate_1 _) (fun obj => F.args_object_init_2 obj _) F.entry_enumerate_new (meets_newT l items) ⟨hT, ?_⟩
  show _ ∧ _
  rw [hz]
  exact ⟨⟨_, he, rfl⟩, h _ he ⟨_, Heap.get?_push_of_some _ (Heap.get?_push_size _ rfl), rfl, rfl⟩ fun b o x => Heap.get?_push_of_some _ (Heap.get?_push_of_some _ x)⟩
end EnT
namespace L2
open PySem PySem.Spec PyProof.Rows
/-- the tuple at a, each item in a new pair -/
def IteT (K : PySem.W.Frag) (a : Addr) : It :=
  ⟨fun i H => ∃ (xs : List V) (x : V), SqT K H a xs ∧ xs[i]? = some x, fun i H v H' => ∃ T x, v = .ref T ∧ H T = none ∧ H' = upd H T (.tup [.int (i : Nat), x]) ∧ ∀ xs, SqT K H a xs → xs[i]? = some x, fun i H => ∃ xs : List V, SqT K H a xs ∧ xs.length ≤ i⟩
theorem tup_inj {X : Cx} {pins : List (Addr × Obj)} {σ : St} {H : Hp} {s : Shared} {a : Addr} {xs ys : List V} (I : Inv X pins σ H s) (h1 : SqT X.K H a xs) (h2 : SqT X.K H a ys) : xs = ys := by
  obtain ⟨i1, r1, ⟨o1, p1, c1⟩, _⟩ := I.tuple h1
  obtain ⟨i2, r2, ⟨o2, p2, c2⟩, _⟩ := I.tuple h2
  rw [p1] at p2
  cases p2
  obtain ⟨_, n1, d1⟩ := c1
  obtain ⟨_, n2, d2⟩ := c2
  rw [d1] at d2
  injection d2 with e _
  have e' : i1 = i2 := by simpa using e
  subst e'
  exact r1.inj r2
theorem turn_enumT {P : Program} {w : World} {K : PySem.W.Frag} {elts : List Expr} {kk : Nat} {tpos : Pos} (a e it : Addr) :
    Turn P w K (.Tuple elts kk tpos) (IteT K a) [e, it] e (fun i h => (∃ old, IsEnum h e it ((i : Nat) : Int) old) ∧ h.IsTupleIter it a i ∧ e ≠ it) where
  mem := by simp
  obj := fun i h st b hb => by
    obtain ⟨⟨old, he⟩, ⟨o, ho, hc, hd⟩, _⟩ := st
    rcases (show b = e ∨ b = it by simpa using hb) with rfl | rfl
    · exact ⟨_, he, fun v q => nomatch q⟩
    · exact ⟨o, ho, fun v q => by rw [hd] at q; cases q⟩
  keep := fun i h h' ⟨⟨old, he⟩, hi, hne⟩ k => ⟨⟨old, k e (by simp) _ he⟩, hi.at fun o q => k it (by simp) o q, hne⟩
  item := by
    intro X hP hw hK hc i pins s σ H E I hf st hg
    subst hP hw hK
    obtain ⟨⟨old, he⟩, hit, hne⟩ := st
    obtain ⟨xs, x, hq, hx⟩ := hg
    obtain ⟨its, rv, p, hz⟩ := I.tuple hq
    obtain ⟨u, hu, ru⟩ := rv.get hx
    have hat : a ≠ it := by
      rintro rfl
      obtain ⟨o1, p1, c1, _⟩ := p
      obtain ⟨o2, p2, c2, _⟩ := hit
      rw [p1] at p2
      cases p2
      rw [c1] at c2
      simp at c2
    have hae : a ≠ e := by
      rintro rfl
      obtain ⟨o1, p1, c1, _⟩ := p
      have he' : s.heap.get? a = some _ := he
      rw [p1] at he'
      cases he'
      simp at c1
    have hel : e < s.heap.objs.size := Heap.lt_size he
    have hil : it < s.heap.objs.size := by obtain ⟨_, q, _⟩ := hit; exact Heap.lt_size q
    have D := Draws.tuple (prog := X.prog) (w := X.w) (A := X.A.in1) (I.ok.hd hc) it a hat its.toArray
    have hlt : i < its.length := (List.getElem?_eq_some_iff.mp hu).1
    refine wpAny_pyNext_enum_itemD D he ⟨hit, show s.heap.IsTuple a its.toArray from p⟩ (by simpa using hlt) hne (by simp [hne, Ne.symm hae]) fun z h' tk hP ho hs' hT hsz hk => ?_
    have hzu : z = u := by
      have h1 : its.toArray[i]? = some z := hP
      rw [List.getElem?_toArray, hu] at h1
      exact (Option.some.inj h1).symm
    subst hzu
    refine ⟨_, rfl, wpAny_letOwnedTupleGo_enum (s := { s with heap := h', toks := tk + 1 }) ho fun h'' he' sb => ?_⟩
    have hT2 : h''.get? s.heap.objs.size = some { cls := .type "tuple", data := .seq #[.int i tk, z] } := (sb.2 _ (Nat.ne_of_gt hel)).trans hT
    have new : ObjOk X.prog X.w (upd H s.heap.objs.size (.tup [.int (i : Nat), x])) h'' s.heap.objs.size (.tup [.int (i : Nat), x]) :=
      ⟨by show 2 ≤ sizeLine; decide, [.int i tk, z], .cons ⟨_, rfl⟩ (.cons ru .nil), ⟨_, hT2, rfl, _, rfl⟩⟩
    have I1 : Inv X pins σ (upd H s.heap.objs.size (.tup [.int (i : Nat), x])) { s with heap := h'', toks := tk + 1 } :=
      I.turnedNew (t' := tk + 1) (ch := [e, it]) (fun b ob hb q => (sb.2 b (fun z => hb (by simp [z]))).trans (hk b ob (fun z => hb (by simp [z])) (fun z => hb (by simp [z])) q)) hf (Nat.le_refl _) new
    refine ⟨.ref s.heap.objs.size, _, I1, rfl, ⟨_, x, rfl, I.hok.fresh (Nat.le_refl _), rfl, fun ys hy => by rw [tup_inj I hy hq]; exact hx⟩, ⟨⟨z, ?_⟩, hs'.1.at fun o q => (sb.2 it (Ne.symm hne)).trans q, hne⟩, fun b hb => ?_⟩
    · rw [show ((i + 1 : Nat) : Int) = (i : Int) + 1 by omega]
      exact he'
    · have hb' : b < s.heap.objs.size := by
        rcases (show b = e ∨ b = it by simpa using hb) with rfl | rfl
        · exact hel
        · exact hil
      rw [upd_ne (Nat.ne_of_lt hb')]
      exact (hf b hb).1
  done := by
    intro X hP hw hK hc i pins s σ H E I hf st hg
    subst hP hw hK
    obtain ⟨⟨old, he⟩, hit, hne⟩ := st
    obtain ⟨xs, hq, hx⟩ := hg
    obtain ⟨its, rv, p, hz⟩ := I.tuple hq
    obtain ⟨f0, f1, f2, f3, f4, f5⟩ := hf it (by simp)
    have hat : a ≠ it := by
      rintro rfl
      obtain ⟨o1, p1, c1, _⟩ := p
      obtain ⟨o2, p2, c2, _⟩ := hit
      rw [p1] at p2
      cases p2
      rw [c1] at c2
      simp at c2
    have hl := rv.length
    have hi : its.toArray[i]? = none := by rw [List.getElem?_toArray]; exact List.getElem?_eq_none_iff.mpr (by omega)
    have D : Draws X.prog X.w X.A.in1 it [it, a] i (fun _ _ => True) (fun j h => h.IsTupleIter it a j ∧ h.IsTuple a its.toArray ∧ j = i) := {
      live := fun _ _ st => let ⟨o, ho, _⟩ := st.1; ⟨o, ho⟩
      frame := fun _ _ _ st hk => ⟨st.1.at fun o e => hk it (by simp) o e, st.2.1.at fun o e => hk a (by simp) o e, st.2.2⟩
      item := fun j s Q E hi st hQ => absurd st.2.2 (Nat.ne_of_lt hi)
      done := fun s Q E st hE => wpAny_nextOf_tuple_end (I.ok.hd hc) st.1 st.2.1 hi hE }
    exact wpAny_pyNext_enum_endD D he ⟨hit, show s.heap.IsTuple a its.toArray from p, rfl⟩ fun h' eb => ⟨rfl, I.turned (t' := s.toks) (fun b o hb q => eb b o hb q) f0 f1 f3 f4 f5⟩
  self := fun A i s Q E ⟨⟨_, he⟩, _⟩ h => wpAny_pyIter_enum he h
/-- v a list or a tuple: its items xs in new pairs with their index -/
def iEnu2 (K : PySem.W.Frag) (ta : TA) : TI := fun σ H R => ta σ H fun vs H1 => ∃ (a : Addr) (xs : List V), vs = [.ref a] ∧ (H1 a = some (.lst xs) ∨ H1 a = some (.tup xs)) ∧
  ∀ J, Walk J xs.length (fun H' => H' a = H1 a) (YPair (fun i => some (.int (i : Nat))) (fun i => xs[i]?)) → R J H1
theorem walk_enumT {K : PySem.W.Frag} {a : Addr} {xs : List V} : Walk (IteT K a) xs.length (fun H => SqT K H a xs) (YPair (fun i => some (.int (i : Nat))) (fun i => xs[i]?)) := by
  refine ⟨fun i _ hi q => ⟨xs, xs[i], q, List.getElem?_eq_getElem hi⟩, fun _ q => ⟨xs, q, Nat.le_refl _⟩, fun i H v H' _ q y => ?_⟩
  obtain ⟨T, x, h1, h2, h3, h4⟩ := y
  exact ⟨T, .int (i : Nat), x, h1, h2, h3, rfl, h4 xs q⟩
theorem pi_enu2 {X : Cx} {e : Expr} {ta : TA} {p pos tpos : Pos} {elts : List Expr} {kk : Nat} (hg : Gl X "enumerate") (hm : X.mg "enumerate" = none) (ha : PA X [e] ta) (hs : starEach [e] X.env = [(false, eval e X.env)] := by rfl) :
    PI X (.Tuple elts kk tpos) (.Call (.Name "enumerate" p) [e] [] pos) (iEnu2 X.K ta) := by
  refine ⟨fun pins s σ H R I h => ?_⟩
  refine Call_ (ld_blt I hg hm boot_enumerate (PyProof.Rows.callWith_type1 (thn (ha.run pos pins s σ H _ I h) fun us s1 ⟨vs, H1, I1, r1, q1⟩ => ?_) hs rfl))
  obtain ⟨a, xs, rfl, ho, q⟩ := q1
  obtain ⟨u, rfl, ru⟩ := vals1 r1
  obtain rfl : u = Value.ref a := ru
  have fresh : ∀ b ∈ [s1.heap.objs.size + 1, s1.heap.objs.size], s1.heap.objs.size ≤ b := fun b hb => by
    rcases (show b = s1.heap.objs.size + 1 ∨ b = s1.heap.objs.size by simpa using hb) with rfl | rfl
    · exact Nat.le_add_right _ _
    · exact Nat.le_refl _
  rcases ho with ho | ho
  · obtain ⟨its, rv, p', hz⟩ := I1.list (SqL.of ho)
    refine call_enumerate_list p'.isList fun h' he hit hsz hk => wpAny_pyIter_enum he ?_
    exact ⟨s1.heap.objs.size + 1, [s1.heap.objs.size + 1, s1.heap.objs.size], _, _, H1, rfl, I1.kept (t' := s1.toks) hk, turn_enum a _ _, ⟨⟨.none, he⟩, hit, Nat.succ_ne_self _⟩, fun b hb => I1.fpOk (fresh b hb) (I1.hok.fresh (fresh b hb)),
      q _ (walk_enum.mono (fun H' hh => SqL.of (hh.trans ho)) fun _ _ _ _ _ _ y => y)⟩
  · obtain ⟨its, rv, p', hz⟩ := I1.tuple (SqT.of ho)
    refine EnT.call_enumT (show s1.heap.IsTuple a its.toArray from p') fun h' he hit hk => wpAny_pyIter_enum he ?_
    exact ⟨s1.heap.objs.size + 1, [s1.heap.objs.size + 1, s1.heap.objs.size], _, _, H1, rfl, I1.kept (t' := s1.toks) hk, turn_enumT a _ _, ⟨⟨.none, he⟩, hit, Nat.succ_ne_self _⟩, fun b hb => I1.fpOk (fresh b hb) (I1.hok.fresh (fresh b hb)),
      q _ (walk_enumT.mono (fun H' hh => SqT.of (hh.trans ho)) fun _ _ _ _ _ _ y => y)⟩
/-- one of two ways to take a value apart -/
theorem pg_or {X : Cx} {tg : Expr} {g1 g2 : TG} (h1 : PG X tg g1) (h2 : PG X tg g2) : PG X tg (fun v σ H Q => g1 v σ H Q ∨ g2 v σ H Q) := by
  refine ⟨fun pins s σ H v u Q I r hw => ?_⟩
  rcases hw with hw | hw
  · exact h1.run pins s σ H v u Q I r hw
  · exact h2.run pins s σ H v u Q I r hw
/-- a list or a tuple, walked -/
def iSeq (tl : TE) : TI := fun σ H R => tl σ H fun x H1 => ∃ (a : Addr) (xs : List V), x = .ref a ∧ (H1 a = some (.lst xs) ∨ H1 a = some (.tup xs)) ∧ ∀ J, Walk J xs.length (fun H' => H' a = H1 a) (YAt xs) → R J H1
theorem pi_seq {X : Cx} {tg l : Expr} {tl : TE} (hl : PE X l tl) : PI X tg l (iSeq tl) := by
  refine ⟨fun pins s σ H R I h => thn (hl.run pins s σ H _ I h) fun v s1 ⟨x, H1, I1, r1, q1⟩ => ?_⟩
  obtain ⟨a, xs, rfl, ho, q⟩ := q1
  obtain rfl : v = Value.ref a := r1
  have new : ∀ b ∈ [s1.heap.objs.size], FpOk X pins H1 b := fun b hb => by
    obtain rfl : b = s1.heap.objs.size := by simpa using hb
    exact I1.fpOk (Nat.le_refl _) (I1.hok.fresh (Nat.le_refl _))
  rcases ho with ho | ho
  · obtain ⟨its, rv, p, hz⟩ := I1.list (SqL.of ho)
    refine wpAny_pyIter_list p.isList ⟨s1.heap.objs.size, [s1.heap.objs.size], _, _, H1, rfl, I1.kept (t' := s1.toks) fun b o e => Heap.get?_push_of_some _ e, turn_list a _, ⟨_, Heap.get?_push_size _ rfl, rfl, rfl⟩, new, ?_⟩
    exact q _ (walk_list.mono (fun H' hh => SqL.of (hh.trans ho)) fun _ _ _ _ _ _ y => y)
  · obtain ⟨its, rv, p, hz⟩ := I1.tuple (SqT.of ho)
    refine wpAny_pyIter_tuple (show s1.heap.IsTuple a its.toArray from p) ⟨s1.heap.objs.size, [s1.heap.objs.size], _, _, H1, rfl, I1.kept (t' := s1.toks) fun b o e => Heap.get?_push_of_some _ e, turn_tuple a _, ⟨_, Heap.get?_push_size _ rfl, rfl, rfl⟩, new, ?_⟩
    exact q _ (walk_tup.mono (fun H' hh => SqT.of (hh.trans ho)) fun _ _ _ _ _ _ y => y)
/-- an item of a list or a tuple -/
theorem ix_either {X : Cx} : IxR X (fun x y H Q => rIxL X.K x y H Q ∨ rIxT X.K x y H Q) := ix_list.or ix_tup
theorem ix_eitherK {X : Cx} {K : PySem.W.Frag} (h : X.K = K) : IxR X (fun x y H Q => rIxL K x y H Q ∨ rIxT K x y H Q) := h ▸ ix_either
end L2
set_option Elab.async false
set_option linter.all false
set_option maxRecDepth 100000
set_option maxHeartbeats 1000000
/-! comprehensions whose elements make nothing; lists side by side -/
namespace L2
open PySem PySem.Spec PyProof.Rows
def PvF (H : Hp) (D : Addr) (xs : List V) (f : V → Option V) (i : Nat) (H' : Hp) : Prop := H' = upd H D (.lst ((xs.take i).filterMap f))
section
variable {H : Hp} {D : Addr} {xs : List V} {f : V → Option V} {i : Nat} {x y : V}
theorem take_snoc {α : Type} {xs : List α} {i : Nat} {x : α} (hx : xs[i]? = some x) : xs.take (i + 1) = xs.take i ++ [x] := by rw [List.take_add_one, hx]; rfl
theorem fm_put (hx : xs[i]? = some x) (hf : f x = some y) (hz : xs.length < sizeLine) : ∃ acc, (upd H D (.lst ((xs.take i).filterMap f))) D = some (.lst acc) ∧ acc.length < sizeLine ∧ PvF H D xs f (i + 1) (upd (upd H D (.lst ((xs.take i).filterMap f))) D (.lst (acc ++ [y]))) := by
  refine ⟨_, upd_same, Nat.lt_of_le_of_lt (Nat.le_trans (List.length_filterMap_le _ _) (List.length_take_le' _ _)) hz, ?_⟩
  unfold PvF
  rw [upd_upd, take_snoc hx, List.filterMap_append]
  rw [show List.filterMap f [x] = [y] by rw [List.filterMap_cons, hf]; rfl]
theorem fm_skip (hx : xs[i]? = some x) (hf : f x = none) : PvF H D xs f (i + 1) (upd H D (.lst ((xs.take i).filterMap f))) := by
  unfold PvF
  rw [take_snoc hx, List.filterMap_append, show List.filterMap f [x] = [] by rw [List.filterMap_cons, hf]; rfl, List.append_nil]
theorem fm_end {H' : Hp} (h : PvF H D xs f xs.length H') : H' = upd H D (.lst (xs.filterMap f)) := by
  unfold PvF at h
  rw [List.take_length] at h
  exact h
end
theorem Paired.at {α β : Type} {F : α → β → Prop} : ∀ {xs : List α} {ys : List β} {i : Nat} {x : α}, Paired F xs ys → xs[i]? = some x → ∃ y, ys[i]? = some y ∧ F x y
  | _, _, i, _, .nil, h => by simp at h
  | _, _, 0, _, .cons h _, e => by
    cases (show some _ = some _ from e)
    exact ⟨_, rfl, h⟩
  | _, _, i + 1, _, .cons _ t, e => Paired.at (i := i) t e
theorem Paired.at' {α β : Type} {F : α → β → Prop} : ∀ {xs : List α} {ys : List β} {i : Nat} {y : β}, Paired F xs ys → ys[i]? = some y → ∃ x, xs[i]? = some x ∧ F x y
  | _, _, i, _, .nil, h => by simp at h
  | _, _, 0, _, .cons h _, e => by
    cases (show some _ = some _ from e)
    exact ⟨_, rfl, h⟩
  | _, _, i + 1, _, .cons _ t, e => Paired.at' (i := i) t e
theorem Paired.takeP {α β : Type} {F : α → β → Prop} : ∀ {xs : List α} {ys : List β} (n : Nat), Paired F xs ys → Paired F (xs.take n) (ys.take n)
  | _, _, 0, _ => .nil
  | _, _, _ + 1, .nil => .nil
  | _, _, n + 1, .cons h t => .cons h (Paired.takeP n t)
theorem Paired.appendP {α β : Type} {F : α → β → Prop} : ∀ {xs xs' : List α} {ys ys' : List β}, Paired F xs ys → Paired F xs' ys' → Paired F (xs ++ xs') (ys ++ ys')
  | _, _, _, _, .nil, s => s
  | _, _, _, _, .cons h t, s => .cons h (Paired.appendP t s)
theorem Paired.mapL {α β γ : Type} {F : α → β → Prop} {f : α → γ} {g : β → γ} (h : ∀ a b, F a b → f a = g b) : ∀ {xs : List α} {ys : List β}, Paired F xs ys → xs.map f = ys.map g
  | _, _, .nil => rfl
  | _, _, .cons r t => by rw [List.map_cons, List.map_cons, h _ _ r, Paired.mapL h t]
theorem call_tuple_ofK {X : Cx} {K : PySem.W.Frag} (h : X.K = K) : CallR X (.type "tuple") (fun xs H Q => ∃ p ys, xs = [.ref p] ∧ ((SqL K H p ys ∧ ∀ l, H l = none → Q (.ref l) (upd H l (.tup ys))) ∨ (SqT K H p ys ∧ Q (.ref p) H))) := h ▸ call_tuple_of
theorem call_list_ofK {X : Cx} {K : PySem.W.Frag} (h : X.K = K) : CallR X (.type "list") (fun xs H Q => ∃ p ys, xs = [.ref p] ∧ (SqL K H p ys ∨ SqT K H p ys) ∧ ∀ l, H l = none → Q (.ref l) (upd H l (.lst ys))) := h ▸ call_list_of
/-- what is known of the value, and no more, goes on -/
def tCutE (t : TE) : TE := fun σ H Q => ∃ R : V → Hp → Prop, t σ H R ∧ ∀ v H', R v H' → Q v H'
theorem pe_cut {X : Cx} {e : Expr} {t : TE} (h : PE X e t) : PE X e (tCutE t) := ⟨fun pins s σ H Q I ⟨R, h1, h2⟩ => wpAny_mono (h.run pins s σ H R I h1) (fun u s' ⟨v, H', I', r, q⟩ => ⟨v, H', I', r, h2 _ _ q⟩) fun _ _ z => z⟩
end L2
set_option Elab.async false
set_option linter.all false
set_option maxRecDepth 100000
namespace L2
open PySem PySem.Spec PyProof.Rows
theorem eqvAll_ints : ∀ ns ms : List Int, PyData.eqvAll (ns.map PyData.int) (ms.map PyData.int) = decide (ns = ms)
  | [], [] => by simp [PyData.eqvAll]
  | [], m :: ms => by simp [PyData.eqvAll]
  | n :: ns, [] => by simp [PyData.eqvAll]
  | n :: ns, m :: ms => by
    have ih := eqvAll_ints ns ms
    by_cases e : n = m
    · subst e
      simp [PyData.eqvAll, PyData.eqv, ih]
    · simp [PyData.eqvAll, PyData.eqv, e]
theorem eqv_tupI (ns ms : List Int) : PyData.eqv (.tuple (ns.map PyData.int)) (.tuple (ms.map PyData.int)) = decide (ns = ms) := by rw [← eqvAll_ints]; simp [PyData.eqv]
theorem eqv_lstI (ns ms : List Int) : PyData.eqv (.list (ns.map PyData.int)) (.list (ms.map PyData.int)) = decide (ns = ms) := by rw [← eqvAll_ints]; simp [PyData.eqv]
theorem dpAll_ints {K : PySem.W.Frag} {H : Hp} : ∀ ns : List Int, DpAll K H (ns.map V.int) (ns.map PyData.int)
  | [] => .nil
  | n :: ns => .cons (.int n) (dpAll_ints ns)
theorem depthAll_ints : ∀ ns : List Int, PyData.depthAll (ns.map PyData.int) = 0
  | [] => by simp [PyData.depthAll]
  | n :: ns => by simp [PyData.depthAll, PyData.depth, depthAll_ints ns]
theorem layAll_ints : ∀ ns : List Int, PyData.canLayAll0 (ns.map PyData.int) = true
  | [] => by simp [PyData.canLayAll0]
  | n :: ns => by simp [PyData.canLayAll0, PyData.canLay0, layAll_ints ns]
theorem shaped_tupI (ns : List Int) : SeqAt.shaped (.tuple (ns.map PyData.int)) = true := by simp [SeqAt.shaped, PyData.canLay0, PyData.depth, layAll_ints, depthAll_ints]
theorem shaped_lstI (ns : List Int) : SeqAt.shaped (.list (ns.map PyData.int)) = true := by simp [SeqAt.shaped, PyData.canLay0, PyData.depth, layAll_ints, depthAll_ints]
theorem eqD_tup {K : PySem.W.Frag} {H : Hp} {p q : Addr} {ns ms : List Int} {Q : VK} (hp : SqT K H p (ns.map V.int)) (hq : SqT K H q (ms.map V.int)) (h : Q (.bl (decide (ns = ms))) H) : rEqD K (.ref p) (.ref q) H Q :=
  ⟨_, _, .tup hp (dpAll_ints ns), .tup hq (dpAll_ints ms), shaped_tupI ns, shaped_tupI ms, by rw [eqv_tupI]; exact h⟩
theorem eqD_lst {K : PySem.W.Frag} {H : Hp} {p q : Addr} {ns ms : List Int} {Q : VK} (hp : SqL K H p (ns.map V.int)) (hq : SqL K H q (ms.map V.int)) (h : Q (.bl (decide (ns = ms))) H) : rEqD K (.ref p) (.ref q) H Q :=
  ⟨_, _, .lst hp (dpAll_ints ns), .lst hq (dpAll_ints ms), shaped_lstI ns, shaped_lstI ms, by rw [eqv_lstI]; exact h⟩
theorem neD_lst {K : PySem.W.Frag} {H : Hp} {p q : Addr} {ns ms : List Int} {Q : VK} (hp : SqL K H p (ns.map V.int)) (hq : SqL K H q (ms.map V.int)) (h : Q (.bl (!decide (ns = ms))) H) : rNeD K (.ref p) (.ref q) H Q :=
  ⟨_, _, .lst hp (dpAll_ints ns), .lst hq (dpAll_ints ms), shaped_lstI ns, shaped_lstI ms, by rw [eqv_lstI]; exact h⟩
end L2
set_option Elab.async false
set_option linter.all false
set_option maxRecDepth 100000
set_option maxHeartbeats 1000000
/-! plain values as data: shapes, equality of lists and tuples of them, two deep -/
namespace L2
open PySem PySem.Spec PyProof.Rows
def vD : V → PyData
  | .bl b => .bool b
  | .int i => .int i
  | .str x => .str x
  | _ => .none
/-- a sequence's kind: a list or a tuple of these -/
def sqD (l : Bool) (ds : List PyData) : PyData := if l then .list ds else .tuple ds
/-- a plain value whose text can be laid -/
def okV : V → Bool
  | .non => true
  | .bl _ => true
  | .int _ => true
  | .str x => PyData.strOk x
  | _ => false
theorem okV.flat {v : V} (h : okV v = true) : flatV v = true := by cases v <;> first | rfl | cases h
theorem vD_lay {v : V} (h : okV v = true) : (vD v).canLay0 = true := by cases v <;> first | (simp only [vD, PyData.canLay0]; done) | (simp only [vD, PyData.canLay0]; exact h)
theorem vD_depth (v : V) : (vD v).depth = 0 := by cases v <;> simp [vD, PyData.depth]
theorem vDs_lay : ∀ {xs : List V}, (∀ x ∈ xs, okV x = true) → PyData.canLayAll0 (xs.map vD) = true
  | [], _ => by simp [PyData.canLayAll0]
  | v :: xs, h => by simp [PyData.canLayAll0, vD_lay (h v (List.mem_cons_self)), vDs_lay fun y hy => h y (List.mem_cons_of_mem _ hy)]
theorem vDs_depth : ∀ xs : List V, PyData.depthAll (xs.map vD) = 0
  | [] => by simp [PyData.depthAll]
  | v :: xs => by simp [PyData.depthAll, vD_depth v, vDs_depth xs]
theorem vD_shaped {v : V} (h : okV v = true) : SeqAt.shaped (vD v) = true := by simp [SeqAt.shaped, vD_lay h, vD_depth]
theorem row_lay (l : Bool) {xs : List V} (h : ∀ x ∈ xs, okV x = true) : (sqD l (xs.map vD)).canLay0 = true := by cases l <;> simp [sqD, PyData.canLay0, vDs_lay h]
theorem row_depth (l : Bool) (xs : List V) : (sqD l (xs.map vD)).depth = 1 := by cases l <;> simp [sqD, PyData.depth, vDs_depth]
theorem row_shaped (l : Bool) {xs : List V} (h : ∀ x ∈ xs, okV x = true) : SeqAt.shaped (sqD l (xs.map vD)) = true := by simp [SeqAt.shaped, row_lay l h, row_depth]
/-- data of one level: a plain value, a list or tuple of such -/
def Fl1 (d : PyData) : Prop := d.canLay0 = true ∧ d.depth ≤ 1
theorem fl_v {v : V} (h : okV v = true) : Fl1 (vD v) := ⟨vD_lay h, by rw [vD_depth]; omega⟩
theorem fl_row (l : Bool) {xs : List V} (h : ∀ x ∈ xs, okV x = true) : Fl1 (sqD l (xs.map vD)) := ⟨row_lay l h, by rw [row_depth]; omega⟩
theorem fls_lay : ∀ {ds : List PyData}, (∀ d ∈ ds, Fl1 d) → PyData.canLayAll0 ds = true
  | [], _ => by simp [PyData.canLayAll0]
  | d :: ds, h => by simp [PyData.canLayAll0, (h d (List.mem_cons_self)).1, fls_lay fun e he => h e (List.mem_cons_of_mem _ he)]
theorem fls_depth : ∀ {ds : List PyData}, (∀ d ∈ ds, Fl1 d) → PyData.depthAll ds ≤ 1
  | [], _ => by simp [PyData.depthAll]
  | d :: ds, h => by
    have h1 := (h d (List.mem_cons_self)).2
    have h2 := fls_depth fun e he => h e (List.mem_cons_of_mem d he)
    simp only [PyData.depthAll]
    omega
theorem fls_shaped (l : Bool) {ds : List PyData} (h : ∀ d ∈ ds, Fl1 d) : SeqAt.shaped (sqD l ds) = true := by
  have h1 := fls_lay h
  have h2 := fls_depth h
  cases l with
  | true =>
    show ((PyData.list ds).canLay0 && decide ((PyData.list ds).depth ≤ 64)) = true
    have e : (PyData.list ds).depth ≤ 64 := by
      have : (PyData.list ds).depth = PyData.depthAll ds + 1 := by simp only [PyData.depth]
      omega
    rw [decide_eq_true e, Bool.and_true]
    simp only [PyData.canLay0, h1]
  | false =>
    show ((PyData.tuple ds).canLay0 && decide ((PyData.tuple ds).depth ≤ 64)) = true
    have e : (PyData.tuple ds).depth ≤ 64 := by
      have : (PyData.tuple ds).depth = PyData.depthAll ds + 1 := by simp only [PyData.depth]
      omega
    rw [decide_eq_true e, Bool.and_true]
    simp only [PyData.canLay0, h1]
theorem vD_self (v : V) : PyData.eqv (vD v) (vD v) = true := by cases v <;> simp [vD, PyData.eqv]
theorem eqvAll_self : ∀ {ds : List PyData}, (∀ d ∈ ds, PyData.eqv d d = true) → PyData.eqvAll ds ds = true
  | [], _ => by simp [PyData.eqvAll]
  | d :: ds, h => by simp [PyData.eqvAll, h d (List.mem_cons_self), eqvAll_self fun e he => h e (List.mem_cons_of_mem _ he)]
theorem sqD_self (l : Bool) {ds : List PyData} (h : ∀ d ∈ ds, PyData.eqv d d = true) : PyData.eqv (sqD l ds) (sqD l ds) = true := by
  cases l <;> (simp only [sqD, PyData.eqv]; exact eqvAll_self h)
theorem row_self (l : Bool) (xs : List V) : PyData.eqv (sqD l (xs.map vD)) (sqD l (xs.map vD)) = true := sqD_self l fun d hd => by
  obtain ⟨v, _, rfl⟩ := List.mem_map.mp hd
  exact vD_self v
theorem eqvAll_append : ∀ {as bs cs ds : List PyData}, as.length = cs.length → PyData.eqvAll (as ++ bs) (cs ++ ds) = (PyData.eqvAll as cs && PyData.eqvAll bs ds)
  | [], bs, [], ds, _ => by simp [PyData.eqvAll]
  | [], _, _ :: _, _, h => by simp at h
  | _ :: _, _, [], _, h => by simp at h
  | a :: as, bs, c :: cs, ds, h => by
    have ih := eqvAll_append (as := as) (bs := bs) (cs := cs) (ds := ds) (by simpa using h)
    simp only [List.cons_append, PyData.eqvAll, ih, Bool.and_assoc]
section
variable {K : PySem.W.Frag} {H : Hp}
theorem dpv {v : V} (h : flatV v = true) : Dp K H v (vD v) := by
  cases v with
  | non => exact .non
  | bl b => exact .bl b
  | int i => exact .int i
  | str x => exact .str x
  | _ => cases h
theorem dpvs : ∀ {xs : List V}, (∀ x ∈ xs, flatV x = true) → DpAll K H xs (xs.map vD)
  | [], _ => .nil
  | x :: xs, h => .cons (dpv (h x (List.mem_cons_self))) (dpvs fun y hy => h y (List.mem_cons_of_mem _ hy))
theorem dp_lst {a : Addr} {xs : List V} {ds : List PyData} (h : SqL K H a xs) (d : DpAll K H xs ds) : Dp K H (.ref a) (sqD true ds) := .lst h d
theorem dp_tup {a : Addr} {xs : List V} {ds : List PyData} (h : SqT K H a xs) (d : DpAll K H xs ds) : Dp K H (.ref a) (sqD false ds) := .tup h d
end
end L2
set_option Elab.async false
set_option linter.all false
set_option maxRecDepth 100000
set_option maxHeartbeats 1000000
/-! <= of places (year, kind, text); list.index, tuple.index; a written dict from texts to ints -/
namespace Ob
open PySem
theorem RcOp.le_str {A : Around} {s : Shared} (a b : Str) (t u : Tok) : RcOp .LtE A s (.str a t) (.str b u) (!decide (b.cps.toList < a.cps.toList)) := fun _ _ _ _ h => PySem.P.le_str h
end Ob
namespace L2
open PySem PySem.Spec PyProof.Rows
/-- a place is not behind another one -/
def leP (p q : Int × Int × Str) : Bool := if p.1 = q.1 then if p.2.1 = q.2.1 then (if p.2.2 = q.2.2 then true else !decide (q.2.2.cps.toList < p.2.2.cps.toList)) else decide (p.2.1 ≤ q.2.1) else decide (p.1 ≤ q.1)
def plV (p : Int × Int × Str) : List V := [.int p.1, .int p.2.1, .str p.2.2]
def rLeP (K : PySem.W.Frag) : R2 := fun x y H Q => ∃ (a b : Addr) (p q : Int × Int × Str), x = .ref a ∧ y = .ref b ∧ SqT K H a (plV p) ∧ SqT K H b (plV q) ∧ Q (.bl (leP p q)) H
theorem vals3x {x y z : V} {us : List Value} (h : Vals [x, y, z] us) : ∃ a b c, us = [a, b, c] ∧ RelV x a ∧ RelV y b ∧ RelV z c := by
  cases h with
  | cons ra h =>
    cases h with
    | cons rb h =>
      cases h with
      | cons rc h =>
        cases h
        exact ⟨_, _, _, rfl, ra, rb, rc⟩
theorem op_leP {X : Cx} (hu : X.A.units + 64 < cLine) : OpR X (compareOp .LtE) (rLeP X.K) := by
  intro pins s σ H x y v u Q I rx ry h
  obtain ⟨a, b, p, q, rfl, rfl, ha, hb, k⟩ := h
  obtain ⟨y1, k1, s1⟩ := p
  obtain ⟨y2, k2, s2⟩ := q
  cases rx
  cases ry
  obtain ⟨its, r1, p1, _⟩ := I.tuple ha
  obtain ⟨its2, r2, p2, _⟩ := I.tuple hb
  obtain ⟨_, _, _, rfl, ⟨ta, rfl⟩, ⟨tb, rfl⟩, ⟨tc, rfl⟩⟩ := vals3x (show Vals [V.int y1, .int k1, .str s1] its from r1)
  obtain ⟨_, _, _, rfl, ⟨ua, rfl⟩, ⟨ub, rfl⟩, ⟨uc, rfl⟩⟩ := vals3x (show Vals [V.int y2, .int k2, .str s2] its2 from r2)
  have ii : ∀ i j : Int, (i == j) = decide (i = j) := fun i j => by
    by_cases q : i = j
    · rw [decide_eq_true q]; exact beq_iff_eq.mpr q
    · rw [decide_eq_false q]; exact beq_eq_false_iff_ne.mpr q
  have ss : ∀ i j : Str, (i == j) = decide (i = j) := fun i j => by
    by_cases q : i = j
    · rw [decide_eq_true q]; exact beq_iff_eq.mpr q
    · rw [decide_eq_false q]; exact beq_eq_false_iff_ne.mpr q
  have R := Ob.RcOp.tuples_le (A := X.A) (s := s) (e := fun j => match j with | 0 => decide (y1 = y2) | 1 => decide (k1 = k2) | _ => decide (s1 = s2))
    (r := fun j => match j with | 0 => decide (y1 ≤ y2) | 1 => decide (k1 ≤ k2) | _ => !decide (s2.cps.toList < s1.cps.toList)) p1 p2 (Nat.lt_of_le_of_lt (Nat.le_add_right _ _) hu) (fun j h1 h2 => by
      match j, h1, h2 with
      | 0, _, _ => show SeqAt.EqAt _ _ _ _ (decide (y1 = y2)); rw [← ii]; exact SeqAt.EqAt.int_int _ _ _ _
      | 1, _, _ => show SeqAt.EqAt _ _ _ _ (decide (k1 = k2)); rw [← ii]; exact SeqAt.EqAt.int_int _ _ _ _
      | 2, _, _ => show SeqAt.EqAt _ _ _ _ (decide (s1 = s2)); rw [← ss]; exact SeqAt.EqAt.str_str _ _ _ _
      | j + 3, h1, _ => simp at h1; omega) (fun j h1 h2 _ => by
      match j, h1, h2 with
      | 0, _, _ => exact Ob.RcOp.le_int _ _ _ _
      | 1, _, _ => exact Ob.RcOp.le_int _ _ _ _
      | 2, _, _ => exact Ob.RcOp.le_str _ _ _ _
      | j + 3, h1, _ => simp at h1; omega)
  have z : wpAny (model X.prog X.w) X.A (compareOp .LtE (.ref a) (.ref b)) (EP X pins σ Q) X.xe s := R X.prog X.w X.xe (EP X pins σ Q) ⟨.bl _, H, I, rfl, by
    have e : leP (y1, k1, s1) (y2, k2, s2) = Ob.lexAt (fun j => match j with | 0 => decide (y1 = y2) | 1 => decide (k1 = k2) | _ => decide (s1 = s2)) (fun j => match j with | 0 => decide (y1 ≤ y2) | 1 => decide (k1 ≤ k2) | _ => !decide (s2.cps.toList < s1.cps.toList)) true 0 3 := by
      simp only [leP, Ob.lexAt, decide_eq_true_eq]
    rw [e] at k
    exact k⟩
  exact z
/-- a written tuple is one by its object -/
def tyB (K : PySem.W.Frag) (a : Addr) : Bool := match K.lookup a with
  | some ⟨.type c, none, _, _⟩ => decide (c = "tuple")
  | _ => false
theorem tyB_ok {K : PySem.W.Frag} {a : Addr} (h : tyB K a = true) : ∃ o, K.lookup a = some o ∧ o.cls = .type "tuple" ∧ o.dict = none := by
  unfold tyB at h
  split at h
  · rename_i c _ _ e
    exact ⟨_, e, congrArg Value.type (of_decide_eq_true h), rfl⟩
  · cases h
/-- d: a written dict from texts to ints -/
structure WD (K : PySem.W.Frag) (w : World) (d : Addr) (L : List (Str × Int)) : Prop where
  ex : ∃ es n, KDict K w d es n
  get : ∀ z, ∃ r, PySem.W.nsIn K d z = some r ∧ (match L.lookup z with | some i => ∃ u, r = some u ∧ RelV (.int i) u | none => r = none)
theorem keys_none {P : Params} {z : Str} : ∀ {l : List DictEntry} {ks : List Str}, l.map He.keyOf = He.keysIn P ks → z ∉ ks → l.find? (·.key.isStr z) = none ∧ l.any (·.refKey) = false
  | [], _, _, _ => ⟨rfl, rfl⟩
  | e :: r, [], h, _ => by cases h
  | e :: r, k :: ks, h, hz => by
    have h1 : He.keyOf e :: r.map He.keyOf = some (k, PyData.keyHash P k) :: He.keysIn P ks := h
    injection h1 with h2 h3
    obtain ⟨g1, g2⟩ := keys_none h3 (fun q => hz (List.mem_cons_of_mem _ q))
    unfold He.keyOf at h2
    split at h2
    · rename_i x t q
      have h4 := Option.some.inj h2
      obtain ⟨h5, h6⟩ := Prod.mk.inj h4
      have ne : (x == z) = false := beq_eq_false_iff_ne.mpr fun e => hz (by rw [← e, h5]; exact List.mem_cons_self)
      refine ⟨?_, ?_⟩
      · rw [List.find?_cons_of_neg (by rw [q]; show ¬ (x == z) = true; rw [ne]; decide)]
        exact g1
      · rw [List.any_cons, g2, Bool.or_false]
        show (match e.key with | .ref _ => true | _ => false) = false
        rw [q]
    · cases h2
theorem look_none_mem {α : Type} {z : Str} : ∀ {L : List (Str × α)}, L.lookup z = none → z ∉ L.map (·.1)
  | [], _ => by simp
  | (t, a) :: L, h => by
    rw [List.lookup_cons] at h
    cases e : z == t with
    | true => rw [e] at h; cases h
    | false =>
      rw [e] at h
      intro q
      rcases List.mem_cons.mp q with q | q
      · rw [beq_eq_false_iff_ne] at e; exact e q
      · exact look_none_mem h q
theorem look_some_mem {α : Type} {z : Str} {i : α} : ∀ {L : List (Str × α)}, L.lookup z = some i → (z, i) ∈ L
  | [], h => by cases h
  | (t, a) :: L, h => by
    rw [List.lookup_cons] at h
    cases e : z == t with
    | true => rw [e] at h; cases h; rw [beq_iff_eq] at e; rw [e]; exact List.mem_cons_self
    | false => rw [e] at h; exact List.mem_cons_of_mem _ (look_some_mem h)
theorem wd_of {K : PySem.W.Frag} {w : World} {d : Addr} {L : List (Str × Int)} (h1 : He.dicW K d = some (He.keysIn w.params (L.map (·.1)))) (h2 : He.valsB K d (L.map fun q => (q.1, .int q.2)) = true) : WD K w d L := by
  refine ⟨He.dicW_ok h1, fun z => ?_⟩
  cases e : L.lookup z with
  | some i =>
    obtain ⟨u, g1, g2⟩ := He.valsB_ok h2 (q := (z, .int i)) (List.mem_map.mpr ⟨(z, i), look_some_mem e, rfl⟩)
    exact ⟨some u, g1, u, rfl, g2⟩
  | none =>
    refine ⟨none, ?_, rfl⟩
    have hz := look_none_mem e
    unfold He.dicW at h1
    cases q : K.lookup d with
    | none => rw [q] at h1; cases h1
    | some o =>
      obtain ⟨oc, od, dt, osl⟩ := o
      rw [q] at h1
      cases oc with
      | type c =>
        cases od with
        | none =>
          cases dt with
          | dict es n =>
            have h1 : (match decide (c = "dict") && (osl.isEmpty && !(d == sysModules)) with
              | true => some (es.toList.map He.keyOf)
              | false => none) = some (He.keysIn w.params (L.map (·.1))) := h1
            cases zz : decide (c = "dict") && (osl.isEmpty && !(d == sysModules)) with
            | false => rw [zz] at h1; cases h1
            | true =>
              rw [zz] at h1
              obtain ⟨k1, k2⟩ := keys_none (Option.some.inj h1) hz
              unfold PySem.W.nsIn
              rw [q]
              show (match es.toList.find? (·.key.isStr z) with | some e => some (some e.val) | none => if es.toList.any (·.refKey) then none else some none) = _
              rw [k1, k2]
              rfl
          | _ => cases h1
        | some b => cases dt <;> cases h1
      | _ => cases od <;> cases dt <;> cases h1
theorem cut_drop (xs : List V) (n : Nat) : cutV xs (some (n : Int)) none = xs.drop n := by
  unfold cutV
  rw [HT.sIx_nat, HT.sIx_none]
  by_cases h : n ≤ xs.length
  · rw [Nat.min_eq_left h, List.take_of_length_le (by rw [List.length_drop]; exact Nat.le_refl _)]
  · rw [Nat.min_eq_right (by omega), List.drop_of_length_le (Nat.le_refl _), List.drop_of_length_le (by omega)]
    exact List.take_nil
theorem slOr {K : PySem.W.Frag} {H : Hp} {b : Addr} {xs : List V} {n : Nat} {Q : VK} (hb : H b = some (.lst xs) ∨ H b = some (.tup xs)) (h0 : 0 < n) (hl : n ≤ xs.length)
    (k : ∀ l o, H l = none → (o = .lst (xs.drop n) ∨ o = .tup (xs.drop n)) → Q (.ref l) (upd H l o)) : rSlL K (.ref b) (some (n : Int)) none H Q ∨ rSlA K (.ref b) (some (n : Int)) none H Q := by
  rcases hb with hb | hb
  · exact .inl ⟨b, xs, rfl, SqL.of hb, fun l h => by rw [cut_drop]; exact k l _ h (.inl rfl)⟩
  · refine .inr ⟨b, xs, rfl, SqT.of hb, fun h => ?_, fun _ l h => by rw [cut_drop]; exact k l _ h (.inr rfl)⟩
    rw [HT.sIx_nat, Nat.min_eq_left hl] at h
    omega
/-- a part of a list or a tuple -/
theorem sl_eitherK {X : Cx} {K : PySem.W.Frag} (h : X.K = K) : SlR X (fun x lo hi H Q => rSlL K x lo hi H Q ∨ rSlA K x lo hi H Q) := h ▸ sl_list.or sl_tupA
theorem sl_either {X : Cx} : SlR X (fun x lo hi H Q => rSlL X.K x lo hi H Q ∨ rSlA X.K x lo hi H Q) := sl_list.or sl_tupA
section
variable {X : Cx} {K : PySem.W.Frag} {w : World} {d : Addr} {L : List (Str × Int)}
theorem op_notIn_wd (D : WD X.K X.w d L) : OpR X (compareOp .NotIn) (fun x y H Q => ∃ z : Str, x = .str z ∧ y = .ref d ∧ Q (.bl (!(L.lookup z).isSome)) H) := by
  intro pins s σ H x y v u Q I rx ry h
  obtain ⟨z, rfl, rfl, q⟩ := h
  obtain ⟨es, n, kd⟩ := D.ex
  obtain ⟨r, g1, g2⟩ := D.get z
  refine op_notIn_kd kd pins s σ H _ _ v u Q I rx ry ⟨z, r, rfl, rfl, g1, ?_⟩
  cases e : L.lookup z with
  | none => rw [e] at g2 q; subst g2; exact q
  | some i => rw [e] at g2 q; obtain ⟨u', rfl, _⟩ := g2; exact q
theorem ix_wd (D : WD X.K X.w d L) : IxR X (fun x y H Q => ∃ (z : Str) (i : Int), x = .ref d ∧ y = .str z ∧ L.lookup z = some i ∧ Q (.int i) H) := by
  intro value slice pins s σ H x y v u Q I rx ry h hs
  obtain ⟨z, i, rfl, rfl, e, q⟩ := h
  obtain ⟨es, n, kd⟩ := D.ex
  obtain ⟨r, g1, g2⟩ := D.get z
  rw [e] at g2
  obtain ⟨u', rfl, g2⟩ := g2
  exact ix_kdict value slice pins s σ H _ _ v u Q I rx ry ⟨d, z, .int i, rfl, rfl, ⟨es, n, u', kd.at_, kd.lit, g1, g2⟩, q⟩ hs
end
end L2
set_option Elab.async false
set_option linter.all false
set_option maxRecDepth 100000
set_option maxHeartbeats 1000000
/-! steps of a walk that keep the new heap opaque: what stood stands, and the new thing stands at its place -/
namespace Wp
open PySem L2 Dw
theorem new_ok {H H' : Hp} {p : Addr} {o : HO} (n : H p = none) (e : upd H p o = H') : Same H H' ∧ H' p = some o := e ▸ ⟨sNew n, upd_same⟩
theorem pe_fldK {X : Cx} {K : PySem.W.Frag} {e : Expr} {ta : TE} {f : Str} {pos : Pos} (hk : X.K = K) (he : PE X e ta) (hb : attributeBase e f X.env (eval e X.env) = eval e X.env) : PE X (.Attribute e f pos) (tFld K ta f) := hk ▸ pe_fld he hb
theorem op_eqDK {X : Cx} {K : PySem.W.Frag} (hk : X.K = K) (hu : X.A.units + 64 < cLine) : OpR X (compareOp .Eq) (rEqD K) := hk ▸ op_eqD hu
theorem op_neDK {X : Cx} {K : PySem.W.Frag} (hk : X.K = K) (hu : X.A.units + 64 < cLine) : OpR X (compareOp .NotEq) (rNeD K) := hk ▸ op_neD hu
theorem pe_app1K {X : Cx} {K : PySem.W.Frag} {o e : Expr} {to : TE} {t : TA} {apos cpos : Pos} (hk : X.K = K) (ho : PE X o to) (ha : PA X [e] t) (hbase : attributeBase o "append" X.env (eval o X.env) = eval o X.env := by rfl)
    (hfew : ((backTo cpos (starEach [e] X.env)).all (fun x => !x.1) && (backToKw cpos (keywordEach [] X.env)).all (fun x => x.1.isSome) && decide ([e].length + ([] : List Keyword).length + (if ([] : List Keyword).isEmpty then 0 else 1) < 30)) = true := by rfl)
    (hline : (apos.endLine == cpos.line) = true := by rfl) (hs : starEach [e] X.env = (false, eval e X.env) :: starEach [] X.env := by rfl) (hplain : (backTo cpos (starEach [] X.env)).any (·.1) = false := by rfl) :
    PE X (.Call (.Attribute o "append" apos) [e] [] cpos) (tBM K "list" rAppend to t) := hk ▸ pe_app1 ho ha hbase hfew hline hs hplain
theorem tup_of {xs : List V} {H : Hp} {Q : VK} (hl : xs.length ≤ 1000) (q : ∀ p H', Same H H' → H p = none → H' p = some (.tup xs) → Q (.ref p) H') : xs.length ≤ sizeLine ∧ ∀ p, H p = none → Q (.ref p) (upd H p (.tup xs)) :=
  ⟨Nat.le_of_lt (small1000 hl), fun p h => q p _ (sNew h) h upd_same⟩
theorem lst_of {xs : List V} {H : Hp} {Q : VK} (hl : xs.length ≤ 1000) (q : ∀ p H', Same H H' → H p = none → H' p = some (.lst xs) → Q (.ref p) H') : xs.length ≤ sizeLine ∧ ∀ p, H p = none → Q (.ref p) (upd H p (.lst xs)) :=
  ⟨Nat.le_of_lt (small1000 hl), fun p h => q p _ (sNew h) h upd_same⟩
theorem catT_of {K : PySem.W.Frag} {H : Hp} {a b : Addr} {xs ys : List V} {Q : VK} (ha : H a = some (.tup xs)) (hb : H b = some (.tup ys)) (nx : xs ≠ []) (ny : ys ≠ []) (hl : xs.length + ys.length ≤ 1000)
    (q : ∀ p H', Same H H' → H p = none → H' p = some (.tup (xs ++ ys)) → Q (.ref p) H') : rCatT K (.ref a) (.ref b) H Q :=
  ⟨a, b, xs, ys, rfl, rfl, SqT.of ha, SqT.of hb, nx, Nat.le_of_lt (small1000 hl), fun z => absurd z ny, fun _ p h => q p _ (sNew h) h upd_same⟩
theorem slT_of {K : PySem.W.Frag} {H : Hp} {a : Addr} {xs : List V} {lo hi : Option Int} {Q : VK} (ha : H a = some (.tup xs)) (nw : ¬ (HT.sIx xs.length 0 lo = 0 ∧ HT.sIx xs.length xs.length hi = xs.length))
    (q : ∀ p H', Same H H' → H p = none → H' p = some (.tup (cutV xs lo hi)) → Q (.ref p) H') : rSlT K (.ref a) lo hi H Q :=
  ⟨a, xs, rfl, SqT.of ha, nw, fun p h => q p _ (sNew h) h upd_same⟩
theorem cat_of {H : Hp} {a b : Addr} {xs ys : List V} {Q : VK} (ha : H a = some (.lst xs)) (hb : H b = some (.lst ys)) (hl : xs.length + ys.length ≤ 1000)
    (q : ∀ p H', Same H H' → H p = none → H' p = some (.lst (xs ++ ys)) → Q (.ref p) H') : rCat (.ref a) (.ref b) H Q :=
  ⟨a, b, xs, ys, rfl, rfl, ha, hb, Nat.le_of_lt (small1000 hl), fun p h => q p _ (sNew h) h upd_same⟩
theorem slL_of {K : PySem.W.Frag} {H : Hp} {a : Addr} {xs : List V} {lo hi : Option Int} {Q : VK} (ha : H a = some (.lst xs))
    (q : ∀ p H', Same H H' → H p = none → H' p = some (.lst (cutV xs lo hi)) → Q (.ref p) H') : rSlL K (.ref a) lo hi H Q :=
  ⟨a, xs, rfl, SqL.of ha, fun p h => q p _ (sNew h) h upd_same⟩
theorem ixL_of {K : PySem.W.Frag} {H : Hp} {a : Addr} {xs : List V} {i : Int} {n : Nat} {v : V} {Q : VK} (ha : H a = some (.lst xs)) (e : i = (n : Int)) (hv : xs[n]? = some v) (q : Q v H) : rIxL K (.ref a) (.int i) H Q :=
  ⟨a, xs, i, v, rfl, rfl, SqL.of ha, by rw [e]; exact atI_nat hv, q⟩
theorem ixT_of {K : PySem.W.Frag} {H : Hp} {a : Addr} {xs : List V} {i : Int} {n : Nat} {v : V} {Q : VK} (ha : H a = some (.tup xs)) (e : i = (n : Int)) (hv : xs[n]? = some v) (q : Q v H) : rIxT K (.ref a) (.int i) H Q :=
  ⟨a, xs, i, v, rfl, rfl, SqT.of ha, by rw [e]; exact atI_nat hv, q⟩
theorem next_of {H : Hp} {d c : Addr} {many : Int} {Q : VK} {E : XK} (D : Dr H d c) (h1 : 1 ≤ many) (h2 : many < 1073741824) (q : ∀ (m : Nat) H', (m : Int) < many → Dr H' d c → But d H H' → Q (.int (m : Int)) H') : spNext [.ref d, .int many] H Q E :=
  ⟨d, c, many, rfl, D, h1, h2, fun k H' k0 k1 D' B' => by
    obtain ⟨m, rfl⟩ : ∃ m : Nat, k = (m : Int) := ⟨k.toNat, by omega⟩
    exact q m H' k1 D' B'⟩
theorem lcopy_of {K : PySem.W.Frag} {H : Hp} {p : Addr} {ys : List V} {Q : VK} (hp : H p = some (.lst ys) ∨ H p = some (.tup ys)) (q : ∀ l H', Same H H' → H l = none → H' l = some (.lst ys) → Q (.ref l) H') :
    ∃ p' ys', [V.ref p] = [.ref p'] ∧ (SqL K H p' ys' ∨ SqT K H p' ys') ∧ ∀ l, H l = none → Q (.ref l) (upd H l (.lst ys')) :=
  ⟨p, ys, rfl, hp.imp SqL.of SqT.of, fun l h => q l _ (sNew h) h upd_same⟩
theorem dput_of {α : Type} {f : α → V} {H : Hp} {a : Addr} {L : List (Key × V)} {x : Key} {v : V} {Q : Hp → Prop} (h : H a = some (.dK L)) (hl : L.length ≤ 1000) (q : Q (upd H a (.dK (putK L x v)))) : ∃ a' H', V.ref a = .ref a' ∧ DPut H a' (kV x) v H' ∧ Q H' :=
  ⟨a, _, rfl, DPut.k h (small1000 hl), q⟩
end Wp
set_option Elab.async false
set_option linter.all false
set_option maxRecDepth 100000
set_option maxHeartbeats 4000000
/-! sorted(xs, key=f): f a def of the text whose key is (int, int, str) -/
namespace L2
open PySem PySem.Spec PyProof.Rows
abbrev K3 := Int × Int × Str
def codeK (p : K3) : List (Int ⊕ List Nat) := [.inl p.1, .inl p.2.1, .inr p.2.2.cps.toList]
def ltK (p q : K3) : Bool := lexLt itemOrd (codeK p) (codeK q)
theorem swo_K {α : Type} (k : α → K3) : SrtO.Swo fun x y => ltK (k x) (k y) := by
  refine ⟨fun x y h => ?_, fun x y z h1 h2 => ?_⟩
  · cases e : ltK (k y) (k x) with
    | false => rfl
    | true =>
      have t := lex_trans (O := itemOrd) _ _ _ h e
      rw [lex_irrefl] at t
      cases t
  · cases e : ltK (k z) (k x) with
    | false => rfl
    | true =>
      rcases lex_negTrans (O := itemOrd) (codeK (k z)) (codeK (k y)) (codeK (k x)) e with t | t
      · rw [show lexLt itemOrd (codeK (k z)) (codeK (k y)) = false from h2] at t
        cases t
      · rw [show lexLt itemOrd (codeK (k y)) (codeK (k x)) = false from h1] at t
        cases t
def sh3 (i : Nat) : Bool := i == 2
theorem key_at {P : Program} {w : World} {H : Hp} {h : Heap} {t : Addr} {p : K3} (hok : HOk P w H h) (ht : H t = some (.tup (plV p))) : tupKey h sh3 (.ref t) = some (codeK p) ∧ ∃ f, TupOf h sh3 (.ref t) f := by
  obtain ⟨_, its2, r2, o, ho, hc, n, hd⟩ := hok _ _ ht
  obtain ⟨a, b, c⟩ := p
  cases r2 with
  | cons r1 r =>
    cases r with
    | cons r2 r =>
      cases r with
      | cons r3 r =>
        cases r
        obtain ⟨t1, rfl⟩ := r1
        obtain ⟨t2, rfl⟩ := r2
        obtain ⟨t3, rfl⟩ := r3
        constructor
        · simp only [tupKey, ho, hd]
          simp [tupItems, sh3, codeK]
        · exact ⟨_, t, o, _, n, rfl, ho, hc, hd, rfl, fun _ => ⟨_, _, rfl⟩, fun e => by cases e⟩
section
variable {X : Cx} {k : Nat} {ps : List Str} {sp : Sp}
theorem run_in2 {pins : List (Addr × Obj)} {σ : St} {H : Hp} {s : Shared} {Q : VK} {f : Addr} {fd : FuncData} {us : List Value} {vs : List V} (F : FnOk X.prog X.w X.K X.mg X.base CX0 k f fd ps sp) (hr : Room (k + 2) X.A) (hb : Binds X.K fd ps [])
    (I : Inv X pins σ H s) (r : Vals vs us) (h : sp vs H Q E0) : wpAny (model X.prog X.w) X.A.in1.in1 (call (.ref f) us) (EP X pins σ Q) (fun _ _ => False) s := by
  have hl : (us ++ []).length = ps.length := by
    rw [List.append_nil, ← r.length]
    exact F.len _ _ _ _ h
  have hb' := hb s us I.kIn hl
  rw [List.append_nil] at hb'
  refine wpAny_call (codeAny_mono (F.run X.A.in1.in1 X.stack s H ⟨us, []⟩ us vs Q E0 hr.in1.in1 I.env0.in1.in1 hb' r h) fun z s' hq => ?_)
  match z, hq with
  | .error e, hq => exact hq
  | .ok (.ret u), hq => exact I.after hq
def ltQ (key : V → K3) (p q : Keyed) : Bool := ltK (key (backV p.2)) (key (backV q.2))
def KeysAt (H : Hp) (key : V → K3) (ks its : List Value) : Prop := Paired (fun (k v : Value) => ∃ t, k = Value.ref t ∧ H t = some (.tup (plV (key (backV v))))) ks its
theorem keys_len {H : Hp} {key : V → K3} : ∀ {ks its : List Value}, KeysAt H key ks its → ks.length = its.length
  | _, _, .nil => rfl
  | _, _, .cons _ t => congrArg (· + 1) (keys_len t)
theorem keys_snd {H : Hp} {key : V → K3} : ∀ {ks its : List Value}, KeysAt H key ks its → (ks.zip its).map (fun p : Keyed => backV p.2) = its.map backV
  | _, _, .nil => rfl
  | _, _, .cons _ t => congrArg (List.cons _) (keys_snd t)
theorem keys_mem {H : Hp} {key : V → K3} : ∀ {ks its : List Value}, KeysAt H key ks its → ∀ p ∈ ks.zip its, p.2 ∈ its ∧ ∃ t, p.1 = Value.ref t ∧ H t = some (.tup (plV (key (backV p.2))))
  | _, _, .nil, p, hp => by cases hp
  | k :: ks, v :: its, .cons h t, p, hp => by
    rcases List.mem_cons.mp (show p ∈ (k, v) :: ks.zip its from hp) with rfl | hp
    · exact ⟨List.mem_cons_self, h⟩
    · obtain ⟨h1, h2⟩ := keys_mem t p hp
      exact ⟨List.mem_cons_of_mem _ h1, h2⟩
theorem keys_tups {P : Program} {w : World} {H : Hp} {h : Heap} {key : V → K3} (hok : HOk P w H h) : ∀ {ks its : List Value}, KeysAt H key ks its → ∃ fs, fs.length = ks.length ∧ TupsOf h sh3 ks fs
  | _, _, .nil => ⟨[], rfl, .nil⟩
  | _, _, .cons ⟨t, e, ht⟩ r => by
    subst e
    obtain ⟨fs, h1, h2⟩ := keys_tups hok r
    obtain ⟨f, hf⟩ := (key_at hok ht).2
    exact ⟨f :: fs, congrArg (· + 1) h1, .cons hf h2⟩
theorem keys_cmp {P : Program} {w : World} {A : Around} {H : Hp} {s : Shared} {key : V → K3} {ks its : List Value} (hok : HOk P w H s.heap) (hk : KeysAt H key ks its) : SrtO.Cmp P w A s (tuples' true) (fun p => p ∈ ks.zip its) (ltQ key) := by
  intro p q hp hq
  obtain ⟨_, t, e1, h1⟩ := keys_mem hk p hp
  obtain ⟨_, u, e2, h2⟩ := keys_mem hk q hq
  rw [e1, e2]
  exact tup_ltAt (shape := sh3) true A _ _ _ _ _ (key_at hok h1).1 (key_at hok h2).1 ⟨rfl, rfl⟩
theorem Paired.snoc {α β : Type} {F : α → β → Prop} {a : α} {b : β} : ∀ {xs : List α} {ys : List β}, Paired F xs ys → F a b → Paired F (xs ++ [a]) (ys ++ [b])
  | _, _, .nil, h => .cons h .nil
  | _, _, .cons g t, h => .cons g (t.snoc h)
section
variable {pins : List (Addr × Obj)} {σ : St} {H : Hp} {s : Shared} {A : Around} {E : Value → Shared → Prop} {a kS : Addr} {e e1 : Nat} {ks its : List Value} {key : V → K3} {R : PySem.Fin → Shared → Prop}
theorem tailK {st : SortSt} (I : Inv X pins σ H s) (fa : FpOk X pins H a) (fk : FpOk X pins H kS) (hak : kS ≠ a) (ha : s.heap.get? a = some (seqObj "list" #[] e1)) (hk : s.heap.get? kS = some (seqObj "list" ks.toArray e))
    (hr : ∀ v ∈ its, ∃ a, v = Value.ref a) (hz : its.length ≤ sizeLine) (hp : KeysAt H key ks its) (h1 : SrtO.Srtd (ltQ key) (arrOf st).toList) (h2 : SrtO.Stb (ltQ key) (arrOf st).toList (ks.zip its)) (hf : failedOf st = none)
    (h : ∀ (zs : List V) (s' : Shared), Inv X pins σ (upd H a (.lst zs)) s' → SrtO.Srtd (fun x y => ltK (key x) (key y)) zs → SrtO.Stb (fun x y => ltK (key x) (key y)) zs (its.map backV) → R (.done (.ret .none)) s') :
    wpAny (model X.prog X.w) A (ksk_tail a false e1 (.ref kS) st) R E s := by
  have s1 := Heap.SameBut.update s.heap kS (Obj.mapSeq fun _ => (#[] : Array Value))
  have na1 : (s.heap.update kS (Obj.mapSeq fun _ => (#[] : Array Value))).get? a = some (seqObj "list" #[] e1) := (s1.2 a hak.symm).trans ha
  have hlen : (arrOf st).toList.length = its.length := by
    rw [h2.perm.length_eq, List.length_zip, keys_len hp, Nat.min_self]
  have s2 := Heap.SameBut.update (s.heap.update kS (Obj.mapSeq fun _ => (#[] : Array Value))) a (Obj.mapSeq fun _ => (arrOf st).map (·.2))
  obtain ⟨c2, hc2⟩ : ∃ c2, ((s.heap.update kS (Obj.mapSeq fun _ => (#[] : Array Value))).update a (Obj.mapSeq fun _ => (arrOf st).map (·.2))).get? a = some (seqObj "list" ((arrOf st).map (·.2)) c2) := ⟨_, get?_update_seq na1 fun _ => (arrOf st).map (·.2)⟩
  unfold ksk_tail
  try dsimp only
  refine wpAny_bind (listUpdate_at hk rfl ?_ (by rw [List.size_toArray, keys_len hp]; exact hz) (Nat.zero_le _))
  refine wpAny_bind (wpAny_letGo ?_)
  refine wpAny_bind (seqEpoch_at na1 rfl ?_)
  refine wpAny_bind (listUpdate_at na1 rfl ?_ (Nat.zero_le _) (by simp only [Bool.false_eq_true, if_false, Array.size_map]; rw [← Array.length_toList, hlen]; omega))
  rw [hf]
  simp only [bne_self_eq_false, Bool.false_eq_true, if_false]
  refine wpAny_pure (h ((arrOf st).toList.map fun p : Keyed => backV p.2) _ ?_ (SrtO.srtd_map h1) ?_)
  · have hz2 : ((arrOf st).toList.map fun p : Keyed => backV p.2).length ≤ sizeLine := by rw [List.length_map, hlen]; exact hz
    have I1 := I.turnedL (t' := s.toks) (ch := [kS, a]) (h' := (s.heap.update kS (Obj.mapSeq fun _ => (#[] : Array Value))).update a (Obj.mapSeq fun _ => (arrOf st).map (·.2))) (fun b o hb he => by
      have n1 : b ≠ kS := fun z => hb (by simp [z])
      have n2 : b ≠ a := fun z => hb (by simp [z])
      rw [s2.2 b n2, s1.2 b n1]
      exact he) (fun b hb => by
      rcases List.mem_cons.mp hb with rfl | hb
      · exact fk
      · rw [List.mem_singleton.mp hb]; exact fa)
    refine I1.take (t' := s.toks) (fun b o _ he => he) fa ⟨hz2, (arrOf st).toList.map (·.2), c2, ?_, ?_⟩
    · rw [show ((arrOf st).toList.map fun p : Keyed => backV p.2) = ((arrOf st).toList.map (·.2)).map backV by rw [List.map_map]; rfl]
      refine vals_back fun u hu => ?_
      obtain ⟨p, hpm, rfl⟩ := List.mem_map.mp hu
      exact hr _ (keys_mem hp p (h2.perm.mem_iff.mp hpm)).1
    · rw [hc2]
      congr 2
      apply Array.ext'
      simp
  · rw [← keys_snd hp]
    exact h2.map (swo_K key) (fun p : Keyed => backV p.2)
theorem endK (I : Inv X pins σ H s) (fa : FpOk X pins H a) (fk : FpOk X pins H kS) (hak : kS ≠ a) (ha : s.heap.get? a = some (seqObj "list" #[] e1)) (hk : s.heap.get? kS = some (seqObj "list" ks.toArray e))
    (hr : ∀ v ∈ its, ∃ a, v = Value.ref a) (hz : its.length ≤ sizeLine) (hp : KeysAt H key ks its)
    (h : ∀ (zs : List V) (s' : Shared), Inv X pins σ (upd H a (.lst zs)) s' → SrtO.Srtd (fun x y => ltK (key x) (key y)) zs → SrtO.Stb (fun x y => ltK (key x) (key y)) zs (its.map backV) → R (.done (.ret .none)) s') :
    wpAny (model X.prog X.w) A (ksk_end a false its.toArray e1 (.ref kS) ks.toArray) R E s := by
  have ez : (ks.toArray.zip its.toArray).toList = ks.zip its := by rw [ksk_zip]
  unfold ksk_end
  try dsimp only
  simp only [Bool.false_eq_true, if_false]
  by_cases h2 : its.toArray.size < 2
  · rw [if_pos h2, if_pos h2]
    refine wpAny_bind (wpAny_pure ?_)
    rw [StateT.run_pure]
    refine wpAny_bind (wpAny_pure ?_)
    try dsimp only
    refine tailK (st := SortSt.mk' general' (ks.toArray.zip its.toArray) #[] 7 none) I fa fk hak ha hk hr hz hp ?_ ?_ rfl h
    · show SrtO.Srtd (ltQ key) (ks.toArray.zip its.toArray).toList
      rw [ez]
      rw [List.size_toArray] at h2
      have hl : (ks.zip its).length < 2 := by rw [List.length_zip, keys_len hp, Nat.min_self]; exact h2
      match ks.zip its, hl with
      | [], _ => exact List.Pairwise.nil
      | [v], _ => exact List.pairwise_singleton _ _
      | _ :: _ :: l, h => exact absurd h (by rw [List.length_cons, List.length_cons]; omega)
    · show SrtO.Stb (ltQ key) (ks.toArray.zip its.toArray).toList (ks.zip its)
      rw [ez]
      exact SrtO.Stb.refl _
  · rw [if_neg h2, if_neg h2]
    rw [List.size_toArray] at h2
    obtain ⟨fs, hfl, hft⟩ := keys_tups I.hok hp
    refine wpAny_bind (tup_kind (by rw [hfl, keys_len hp]; omega) hft ?_)
    refine wpAny_bind (wpAny_mono (SrtO.wpS_sortO (st0 := SortSt.mk' (tuples' true) (ks.toArray.zip its.toArray) #[] 7 none)
      (Q := fun _ st' => SrtO.Srtd (ltQ key) (arrOf st').toList ∧ SrtO.Stb (ltQ key) (arrOf st').toList (ks.toArray.zip its.toArray).toList ∧ failedOf st' = none) (swo_K fun p : Keyed => key (backV p.2)) (keys_cmp I.hok hp) rfl (fun p hpm => by
        have hpm : p ∈ (ks.toArray.zip its.toArray).toList := hpm
        rw [ez] at hpm
        exact hpm) rfl rfl fun st' a1 a2 a3 => ⟨a1, a2, a3⟩) ?_ fun _ _ e => e)
    rintro ⟨⟨⟩, st'⟩ s' ⟨rfl, h1, h3, hf⟩
    try dsimp only
    rw [ez] at h3
    exact tailK I fa fk hak ha hk hr hz hp h1 h3 hf h
theorem keys_same {H H' : Hp} {key : V → K3} (S : Same H H') : ∀ {ks its : List Value}, KeysAt H key ks its → KeysAt H' key ks its
  | _, _, .nil => .nil
  | _, _, .cons ⟨t, e, h⟩ r => .cons ⟨t, e, S _ _ h⟩ (keys_same S r)
theorem restK {f : Addr} {fd : FuncData} {ys : List V} (F : FnOk X.prog X.w X.K X.mg X.base CX0 k f fd ps sp) (hrm : Room (k + 2) X.A) (hb : Binds X.K fd ps [])
    (I : Inv X pins σ H s) (fa : ∀ H', H' a = none → FpOk X pins H' a) (fk : ∀ H', H' kS = none → FpOk X pins H' kS) (hak : kS ≠ a) (na : H a = none) (nk : H kS = none) (ha : s.heap.get? a = some (seqObj "list" #[] e1)) (hk : s.heap.get? kS = some (seqObj "list" #[] 0))
    (hv : Vals ys its) (href : ∀ y ∈ ys, ∃ t, y = V.ref t) (hz : its.length ≤ sizeLine)
    (spec : ∀ y ∈ ys, ∀ H1, Same H H1 → sp [y] H1 (fun v H2 => Same H1 H2 ∧ ∃ t, v = .ref t ∧ H2 t = some (.tup (plV (key y)))) E0)
    (h : ∀ (H1 : Hp) (zs : List V) (s' : Shared), Same H H1 → H1 a = none → Inv X pins σ (upd H1 a (.lst zs)) s' → SrtO.Srtd (fun x y => ltK (key x) (key y)) zs → SrtO.Stb (fun x y => ltK (key x) (key y)) zs ys → R (.done (.ret .none)) s') :
    wpAny (model X.prog X.w) X.A.in1.in1 (ksk_rest a (.ref f) false its.toArray e1 (.ref kS)) R E s := by
  obtain ⟨eb, hr⟩ := refs_back hv href
  unfold ksk_rest
  refine wpAny_bind (wpAny_rule ?_)
  first
    | rw [List.forIn_toArray]
    | (rw [← Array.forIn_toList]; simp only [List.toList_toArray])
    | rw [← Array.forIn_toList]
  refine wpAny_bind (ksk_fold (fun i s' => ∃ H' ks e, Inv X pins σ H' s' ∧ Same H H' ∧ H' a = none ∧ H' kS = none ∧ s'.heap.get? kS = some (seqObj "list" (List.toArray ks) e) ∧ s'.heap.get? a = some (seqObj "list" #[] e1) ∧ KeysAt H' key ks (its.take i)) its 0 s
    ⟨H, [], 0, I, Same.refl H, na, nk, hk, ha, by rw [List.take_zero]; exact .nil⟩ ?step ?done)
  case step =>
    rintro j x s' hx ⟨H', ks, e, I', S', na', nk', hk', ha', hp⟩
    simp only [Nat.zero_add] at hp ⊢
    have hxm := List.mem_of_getElem? hx
    have hj : j < its.length := (List.getElem?_eq_some_iff.mp hx).1
    obtain ⟨xa, rfl⟩ := hr x hxm
    have hym : V.ref xa ∈ ys := by rw [eb]; exact List.mem_map.mpr ⟨_, hxm, rfl⟩
    have kl : ks.length = j := by rw [keys_len hp, List.length_take]; omega
    have I2 : Inv X (pins ++ [(kS, seqObj "list" (List.toArray ks) e), (a, seqObj "list" #[] e1)]) σ H' s' := I'.pins_of fun p hp => by
      rcases List.mem_append.mp hp with hp | hp
      · exact I'.pin p (List.mem_append_right _ hp)
      · rcases List.mem_cons.mp hp with rfl | hp
        · obtain ⟨f0, f1, f2, _⟩ := fk H' nk'
          exact ⟨hk', f0, f1, f2, fun v z => by cases z⟩
        · rw [List.mem_singleton.mp hp]
          obtain ⟨f0, f1, f2, _⟩ := fa H' na'
          exact ⟨ha', f0, f1, f2, fun v z => by cases z⟩
    refine wpAny_bind (wpAny_attempt (wpAny_mono (run_in2 (us := [.ref xa]) (vs := [.ref xa]) F hrm hb I2 (.cons rfl .nil) (spec _ hym H' S')) (fun v s'' he => ?_) fun _ _ hF => hF.elim))
    obtain ⟨v', H2, I3, rv, S2, t, rfl, ht⟩ := he
    obtain rfl : v = Value.ref t := rv
    try dsimp only
    have pk := I3.pin (kS, seqObj "list" (List.toArray ks) e) (by simp)
    have pa := I3.pin (a, seqObj "list" #[] e1) (by simp)
    have s1 := Heap.SameBut.update s''.heap kS (Obj.mapSeq (·.push (Value.ref t)))
    obtain ⟨c2, hc2⟩ : ∃ c2, (s''.heap.update kS (Obj.mapSeq (·.push (Value.ref t)))).get? kS = some (seqObj "list" ((List.toArray ks).push (Value.ref t)) c2) := ⟨_, get?_update_seq pk.1 (·.push (Value.ref t))⟩
    refine wpAny_bind (listUpdate_at pk.1 rfl ?_ (by rw [List.size_toArray, kl]; omega) (by rw [Array.size_push, List.size_toArray, kl]; omega))
    refine wpAny_pure ⟨rfl, H2, ks ++ [.ref t], c2, ?_, S'.trans S2, pa.2.1, pk.2.1, ?_, (s1.2 a hak.symm).trans pa.1, ?_⟩
    · exact I3.unpinned.turnedL (t' := s''.toks) (ch := [kS]) (fun b o hb he => (s1.2 b (fun z => hb (by simp [z]))).trans he) (fun b hb => by
        rw [List.mem_singleton.mp hb]
        exact fk H2 pk.2.1)
    · rw [hc2]
      congr 2
      apply Array.ext'
      simp
    · rw [List.take_add_one, hx]
      exact (keys_same S2 hp).snoc ⟨t, rfl, ht⟩
  case done =>
    rintro s' ⟨H', ks, e, I', S', na', nk', hk', ha', hp⟩
    rw [List.take_of_length_le (by omega)] at hp
    try dsimp only
    refine wpAny_bind (listItems_at hk' rfl ?_)
    refine endK I' (fa H' na') (fk H' nk') hak ha' hk' hr hz hp fun zs s3 I3 h1 h2 => ?_
    rw [← eb] at h2
    exact h H' zs s3 S' na' I3 h1 h2
theorem treeK {f : Addr} {fd : FuncData} {ys : List V} {n : Nat} (F : FnOk X.prog X.w X.K X.mg X.base CX0 k f fd ps sp) (hrm : Room (k + 2) X.A) (hb : Binds X.K fd ps [])
    (I : Inv X pins σ H s) (fa : ∀ H', H' a = none → FpOk X pins H' a) (na : H a = none) (ho : s.heap.get? a = some (seqObj "list" its.toArray n))
    (hv : Vals ys its) (href : ∀ y ∈ ys, ∃ t, y = V.ref t) (hz : its.length ≤ sizeLine)
    (spec : ∀ y ∈ ys, ∀ H1, Same H H1 → sp [y] H1 (fun v H2 => Same H1 H2 ∧ ∃ t, v = .ref t ∧ H2 t = some (.tup (plV (key y)))) E0)
    (h : ∀ (H1 : Hp) (zs : List V) (s' : Shared), Same H H1 → H1 a = none → Inv X pins σ (upd H1 a (.lst zs)) s' → SrtO.Srtd (fun x y => ltK (key x) (key y)) zs → SrtO.Stb (fun x y => ltK (key x) (key y)) zs ys → R (.done (.ret .none)) s') :
    wpAny (model X.prog X.w) X.A.in1.in1 (ksk_tree a (.ref f) false) R E s := by
  have hal : a < s.heap.objs.size := Heap.lt_size ho
  have s1 := Heap.SameBut.update s.heap a (Obj.mapSeq fun _ => (#[] : Array Value))
  obtain ⟨e1, ho1⟩ : ∃ e1, (s.heap.update a (Obj.mapSeq fun _ => (#[] : Array Value))).get? a = some (seqObj "list" #[] e1) := ⟨_, get?_update_seq ho fun _ => #[]⟩
  have hkS : ((s.heap.update a (Obj.mapSeq fun _ => (#[] : Array Value))).push (seqObj "tuple" its.toArray 0)).objs.size = s.heap.objs.size + 1 := by rw [size_push', Heap.size_update]
  unfold ksk_tree
  refine wpAny_bind (listItems_at ho rfl ?_)
  refine wpAny_bind (listUpdate_at ho rfl ?_ (by rw [List.size_toArray]; exact hz) (Nat.zero_le _))
  refine wpAny_bind (seqEpoch_at ho1 rfl ?_)
  refine wpAny_bind (wpAny_newTuple ?_ (by show its.length ≤ _; exact hz))
  refine wpAny_bind (wpAny_newList ?_ (Nat.zero_le _))
  refine wpAny_holding ?_
  have I2 := I.turnedL (t' := s.toks) (ch := [a]) (h' := ((s.heap.update a (Obj.mapSeq fun _ => (#[] : Array Value))).push (seqObj "tuple" its.toArray 0)).push (seqObj "list" #[] 0)) (fun b o hb he => Heap.get?_push_of_some _ (Heap.get?_push_of_some _ ((s1.2 b (fun z => hb (by simp [z]))).trans he))) (fun b hb => by
    rw [List.mem_singleton.mp hb]
    exact fa H na)
  refine restK (s := { s with heap := ((s.heap.update a (Obj.mapSeq fun _ => (#[] : Array Value))).push (seqObj "tuple" its.toArray 0)).push (seqObj "list" #[] 0) }) (kS := ((s.heap.update a (Obj.mapSeq fun _ => (#[] : Array Value))).push (seqObj "tuple" its.toArray 0)).objs.size)
    F hrm hb I2 fa (fun H' n => I.fpOk (by rw [hkS]; exact Nat.le_succ _) n) (by rw [hkS]; exact Nat.ne_of_gt (Nat.lt_succ_of_lt hal)) na (I.hok.fresh (by rw [hkS]; exact Nat.le_succ _)) (Heap.get?_push_of_some _ (Heap.get?_push_of_some _ ho1)) (Heap.get?_push_size _ rfl) hv href hz spec h
end
section
variable {pins : List (Addr × Obj)} {σ : St} {H : Hp} {s : Shared} {key : V → K3}
/-- sorted(xs, key=f) -/
theorem sortedK {f l : Addr} {fd : FuncData} {ys : List V} {Q : VK} (F : FnOk X.prog X.w X.K X.mg X.base CX0 k f fd ps sp) (hrm : Room (k + 2) X.A) (hb : Binds X.K fd ps [])
    (I : Inv X pins σ H s) (hs : SqL X.K H l ys) (href : ∀ y ∈ ys, ∃ t, y = V.ref t)
    (spec : ∀ y ∈ ys, ∀ H1, Same H H1 → sp [y] H1 (fun v H2 => Same H1 H2 ∧ ∃ t, v = .ref t ∧ H2 t = some (.tup (plV (key y)))) E0)
    (h : ∀ (H1 : Hp) (zs : List V) (p : Addr), Same H H1 → H1 p = none → SrtO.Srtd (fun x y => ltK (key x) (key y)) zs → SrtO.Stb (fun x y => ltK (key x) (key y)) zs ys → Q (.ref p) (upd H1 p (.lst zs))) :
    wpAny (model X.prog X.w) X.A (call (.builtin "sorted") [.ref l] [(Str.ofString "key", .ref f)]) (EP X pins σ Q) X.xe s := by
  obtain ⟨its, rv, hl, hz0⟩ := I.list hs
  have hz : its.length ≤ sizeLine := by rw [← rv.length]; exact hz0
  refine call_function_entry_kw kind_sorted plain_sorted entry_sorted (ksk_s1 _ _) ?_
  unfold Builtin.«sorted»
  refine wpAny_bind (m := checkCount "sorted" 1 1 _) (wpAny_pure ?_)
  refine wpAny_bind (collect_list hl.isList ?_ hz)
  refine wpAny_bind (wpAny_newList ?_ hz)
  have hsz : ((s.heap.push (seqObj "list" #[] 0)).update s.heap.objs.size (Obj.mapSeq (· ++ its.toArray))).objs.size = s.heap.objs.size + 1 := by
    rw [Heap.size_update, size_push']
  have hoL : (((s.heap.push (seqObj "list" #[] 0)).update s.heap.objs.size (Obj.mapSeq (· ++ its.toArray))).push (seqObj "list" its.toArray 0)).get? (s.heap.objs.size + 1) = some (seqObj "list" its.toArray 0) := by
    rw [← hsz]; exact Heap.get?_push_size _ rfl
  have keep : ∀ b o, s.heap.get? b = some o → (((s.heap.push (seqObj "list" #[] 0)).update s.heap.objs.size (Obj.mapSeq (· ++ its.toArray))).push (seqObj "list" its.toArray 0)).get? b = some o := fun b o q => by
    have hlt : b < s.heap.objs.size := Heap.lt_size q
    refine Heap.get?_push_of_some _ ?_
    rw [Heap.get?_update_ne _ _ _ _ (Nat.ne_of_lt hlt)]
    exact Heap.get?_push_of_some _ q
  have I1 := I.kept (t' := s.toks) keep
  show wpAny _ _ _ _ _ { s with heap := ((s.heap.push (seqObj "list" #[] 0)).update s.heap.objs.size (Obj.mapSeq (· ++ its.toArray))).push (seqObj "list" its.toArray 0) }
  rw [hsz]
  refine wpAny_bind (wpAny_holding (wpAny_call_entry_kw slot_list_sort ⟨_, hoL, rfl⟩ entry_list_sort ?_ (ksk_l1 _ _)))
  rw [ksk_t1]
  have hn := I.hok.fresh (a := s.heap.objs.size + 1) (Nat.le_succ _)
  refine treeK F hrm hb I1 (fun H' n => I.fpOk (Nat.le_succ _) n) hn hoL rv href hz spec fun H1 zs s' S1 n1 I2 h1 h2 => ⟨_, rfl, ?_⟩
  exact wpAny_pure ⟨_, rfl, .ref _, _, I2, rfl, h H1 zs _ S1 n1 h1 h2⟩
end
def rSortK (K : PySem.W.Frag) (sp : Sp) : List V → Hp → VK → Prop := fun vs H Q => ∃ (l : Addr) (ys : List V) (key : V → K3), vs = [.ref l] ∧ SqL K H l ys ∧ (∀ y ∈ ys, ∃ t, y = V.ref t) ∧
  (∀ y ∈ ys, ∀ H1, Same H H1 → sp [y] H1 (fun v H2 => Same H1 H2 ∧ ∃ t, v = .ref t ∧ H2 t = some (.tup (plV (key y)))) E0) ∧
  ∀ (H1 : Hp) (zs : List V) (p : Addr), Same H H1 → H1 p = none → SrtO.Srtd (fun x y => ltK (key x) (key y)) zs → SrtO.Stb (fun x y => ltK (key x) (key y)) zs ys → Q (.ref p) (upd H1 p (.lst zs))
def tSortK (K : PySem.W.Frag) (sp : Sp) (t : TA) : TE := fun σ H Q => t σ H fun vs H1 => rSortK K sp vs H1 Q
/-- sorted(xs, key=f) as an expression -/
theorem pe_sortK {fn x : Str} {p p2 pos kpos : Pos} {e : Expr} {t : TA} {id : String} (c : Cal X.prog X.w X.K X.mg X.base CX0 k fn ps sp) (hr : Room (k + 2) X.A) (ha : PA X [e] t) (hm : X.mg x = none) (hid : id = "sorted" := by rfl) (hv : bootBuiltins x = some (.builtin id) := by decide +kernel) (hg : Gl X x := by rfl) (hgf : Gl X fn := by rfl) (hn : x ≠ "__name__" := by decide) (hdb : (x == ("__debug__" : Str)) = false := by decide) (hdf : (fn == ("__debug__" : Str)) = false := by decide)
    (he : backTo pos (starEach [e] X.env) = (false, eval e X.env) :: backTo pos (starEach [] X.env) := by rfl) (hpl : (backTo pos (starEach [e] X.env)).any (·.1) = false := by rfl)
    (hall : (backToKw pos (keywordEach [⟨some (Str.ofString "key"), .Name fn p2, kpos⟩] X.env)).all (·.1.isSome) = true := by rfl) (hnone : (backToKw pos (keywordEach [⟨some (Str.ofString "key"), .Name fn p2, kpos⟩] X.env)).any (·.1.isNone) = false := by rfl) (hks : (backToKw pos (keywordEach [⟨some (Str.ofString "key"), .Name fn p2, kpos⟩] X.env)).filterMap (·.1) = [Str.ofString "key"] := by rfl) :
    PE X (.Call (.Name x p) [e] [⟨some (Str.ofString "key"), .Name fn p2, kpos⟩] pos) (tSortK X.K sp t) := by
  subst hid
  obtain ⟨f, fd, h1, h2, h3, h4⟩ := c
  have hk : PK X [⟨some (Str.ofString "key"), .Name fn p2, kpos⟩] (tCons (tC (.ref f)) tNil) := pk_cons (pe_glob hgf h2 rfl hdf) pk_nil
  refine ⟨fun pins s σ H Q I h => ?_⟩
  refine wpAny_Call_Name_kw (ld_blt I hg hm hv ?_ hn hdb)
  refine PyProof.Rows.callWith_kw (thn (ha.run pos pins s σ H _ I h) fun us s1 ⟨vs, H1, I1, r1, q1⟩ => thn (hk.run pos pins s1 σ H1 (fun zs H2 => zs = [.ref f] ∧ rSortK X.K sp vs H2 Q) I1 ⟨rfl, q1⟩) fun ws s2 ⟨zs, H2, I2, r2, ez, q2⟩ => ?_) he hpl hall hnone
  rw [hks]
  subst ez
  obtain ⟨l, ys, key, rfl, hs, href, spec, post⟩ := q2
  obtain rfl := Vals.ref1 r1
  obtain ⟨w1, rfl, e1⟩ := vals1 r2
  obtain rfl : w1 = Value.ref f := e1
  exact sortedK h1 hr h4 I2 hs href spec post
end
end L2
set_option Elab.async false
set_option linter.all false
set_option maxRecDepth 100000
set_option maxHeartbeats 400000
/-! xs.pop(i) as an expression, xs.index(y) of rows -/
namespace L2
open PySem PySem.Spec PyProof.Rows
section
variable {X : Cx} {o e : Expr} {to : TE} {t : TA} {apos cpos : Pos}
/-- o.pop(e) -/
theorem pe_pop1 (ho : PE X o to) (ha : PA X [e] t) (hbase : attributeBase o "pop" X.env (eval o X.env) = eval o X.env := by rfl)
    (hfew : ((backTo cpos (starEach [e] X.env)).all (fun x => !x.1) && (backToKw cpos (keywordEach [] X.env)).all (fun x => x.1.isSome) && decide ([e].length + ([] : List Keyword).length + (if ([] : List Keyword).isEmpty then 0 else 1) < 30)) = true := by rfl)
    (hline : (apos.endLine == cpos.line) = true := by rfl) (hs : starEach [e] X.env = (false, eval e X.env) :: starEach [] X.env := by rfl) (hplain : (backTo cpos (starEach [] X.env)).any (·.1) = false := by rfl) :
    PE X (.Call (.Attribute o "pop" apos) [e] [] cpos) (tBM X.K "list" rPopAt to t) := pe_bm PySem.F.plainAttrs_list PySem.F.slot_list_pop PySem.F.type_list_pop mt_popAt ho ha hbase hfew hline hs hplain
theorem Room.units65 {k : Nat} {A : Around} (r : Room k A) : A.units + 65 < cLine := by have := r.un; omega
/-- o.index(e): rows -/
theorem pe_ixD {k : Nat} (hr : Room k X.A) (ho : PE X o to) (ha : PA X [e] t) (hbase : attributeBase o "index" X.env (eval o X.env) = eval o X.env := by rfl)
    (hfew : ((backTo cpos (starEach [e] X.env)).all (fun x => !x.1) && (backToKw cpos (keywordEach [] X.env)).all (fun x => x.1.isSome) && decide ([e].length + ([] : List Keyword).length + (if ([] : List Keyword).isEmpty then 0 else 1) < 30)) = true := by rfl)
    (hline : (apos.endLine == cpos.line) = true := by rfl) (hs : starEach [e] X.env = (false, eval e X.env) :: starEach [] X.env := by rfl) (hplain : (backTo cpos (starEach [] X.env)).any (·.1) = false := by rfl) :
    PE X (.Call (.Attribute o "index" apos) [e] [] cpos) (tBM X.K "list" (rIndexD X.K) to t) := pe_bm PySem.F.plainAttrs_list PySem.F.slot_list_index PySem.F.type_list_index (mt_indexD hr.units65) ho ha hbase hfew hline hs hplain
end
end L2
set_option Elab.async false
set_option linter.all false
set_option maxRecDepth 100000
set_option maxHeartbeats 1000000
namespace My
open PySem L2 Dw Wp
open C8 (pss_cut tCut)
def top (i : Nat) : Stmt := PySem.Challenge.pw_lastlife_k06_whole_facts_have_one_order.main.body.getD i (.Pass ⟨0, 0, 0, 0⟩)
abbrev s__wall : Stmt := top 0
theorem sc__wall : FnScope ["k"] ["k"] (defScope s__wall) := ⟨rfl, rfl, rfl, by decide +kernel, rfl, by decide +kernel, by decide +kernel⟩
abbrev s_BadCustoms_init : Stmt := inClass (top 3) 0
abbrev s_BadLives_init : Stmt := inClass (top 4) 0
abbrev s_BadRecord_init : Stmt := inClass (top 5) 0
abbrev s_NoLife_init : Stmt := inClass (top 6) 0
abbrev s_NoPerson_init : Stmt := inClass (top 7) 0
abbrev s_is_whole : Stmt := top 13
theorem sc_is_whole : FnScope ["thing", "low", "high"] ["thing", "low", "high"] (defScope s_is_whole) := ⟨rfl, rfl, rfl, by decide +kernel, rfl, by decide +kernel, by decide +kernel⟩
abbrev s_is_name : Stmt := top 14
theorem sc_is_name : FnScope ["thing", "sign"] ["thing"] (defScope s_is_name) := ⟨rfl, rfl, rfl, by decide +kernel, rfl, by decide +kernel, by decide +kernel⟩
abbrev s_is_row : Stmt := top 19
theorem sc_is_row : FnScope ["row", "word", "part"] ["row"] (defScope s_is_row) := ⟨rfl, rfl, rfl, by decide +kernel, rfl, by decide +kernel, by decide +kernel⟩
abbrev s_row_place : Stmt := top 20
theorem sc_row_place : FnScope ["row"] ["row"] (defScope s_row_place) := ⟨rfl, rfl, rfl, by decide +kernel, rfl, by decide +kernel, by decide +kernel⟩
abbrev s_Family_init : Stmt := inClass (top 21) 0
theorem sc_Family_init : FnScope ["self", "lives", "name", "age", "parent"] ["self", "lives"] (defScope s_Family_init) := ⟨rfl, rfl, rfl, by decide +kernel, rfl, by decide +kernel, by decide +kernel⟩
abbrev s_Family_fault : Stmt := inClass (top 21) 1
theorem sc_Family_fault : FnScope ["self", "row", "word"] ["self", "row"] (defScope s_Family_fault) := ⟨rfl, rfl, rfl, by decide +kernel, rfl, by decide +kernel, by decide +kernel⟩
abbrev s_Family_born_fault : Stmt := inClass (top 21) 2
theorem sc_Family_born_fault : FnScope ["self", "year", "parent", "name"] ["self", "year", "parent", "name"] (defScope s_Family_born_fault) := ⟨rfl, rfl, rfl, by decide +kernel, rfl, by decide +kernel, by decide +kernel⟩
abbrev s_Family_wed_fault : Stmt := inClass (top 21) 3
theorem sc_Family_wed_fault : FnScope ["self", "year", "life", "name"] ["self", "year", "life", "name"] (defScope s_Family_wed_fault) := ⟨rfl, rfl, rfl, by decide +kernel, rfl, by decide +kernel, by decide +kernel⟩
abbrev s_Family_add : Stmt := inClass (top 21) 4
theorem sc_Family_add : FnScope ["self", "row", "word"] ["self", "row"] (defScope s_Family_add) := ⟨rfl, rfl, rfl, by decide +kernel, rfl, by decide +kernel, by decide +kernel⟩
abbrev s_Customs_init : Stmt := inClass (top 24) 0
theorem sc_Customs_init : FnScope ["self", "parent_age", "years_after", "wed_age", "limit"] ["self", "parent_age", "years_after", "wed_age", "limit"] (defScope s_Customs_init) := ⟨rfl, rfl, rfl, by decide +kernel, rfl, by decide +kernel, by decide +kernel⟩
abbrev s_Customs_as_tuple : Stmt := inClass (top 24) 1
theorem sc_Customs_as_tuple : FnScope ["self"] ["self"] (defScope s_Customs_as_tuple) := ⟨rfl, rfl, rfl, by decide +kernel, rfl, by decide +kernel, by decide +kernel⟩
abbrev s_Customs_eq : Stmt := inClass (top 24) 2
theorem sc_Customs_eq : FnScope ["self", "other"] ["self", "other"] (defScope s_Customs_eq) := ⟨rfl, rfl, rfl, by decide +kernel, rfl, by decide +kernel, by decide +kernel⟩
abbrev s_row_fault : Stmt := top 27
theorem sc_row_fault : FnScope ["row", "customs", "ages", "name", "age", "parent"] ["row", "customs", "ages"] (defScope s_row_fault) := ⟨rfl, rfl, rfl, by decide +kernel, rfl, by decide +kernel, by decide +kernel⟩
abbrev s_Lives_init : Stmt := inClass (top 28) 0
theorem sc_Lives_init : FnScope ["self", "customs", "rows", "ages", "parents", "index", "row", "word"] ["self", "customs", "rows"] (defScope s_Lives_init) := ⟨rfl, rfl, rfl, by decide +kernel, rfl, by decide +kernel, by decide +kernel⟩
abbrev s_Lives_names : Stmt := inClass (top 28) 1
theorem sc_Lives_names : FnScope ["self"] ["self"] (defScope s_Lives_names) := ⟨rfl, rfl, rfl, by decide +kernel, rfl, by decide +kernel, by decide +kernel⟩
abbrev s_Lives_has : Stmt := inClass (top 28) 2
theorem sc_Lives_has : FnScope ["self", "name"] ["self", "name"] (defScope s_Lives_has) := ⟨rfl, rfl, rfl, by decide +kernel, rfl, by decide +kernel, by decide +kernel⟩
abbrev s_Lives_age : Stmt := inClass (top 28) 3
theorem sc_Lives_age : FnScope ["self", "name"] ["self", "name"] (defScope s_Lives_age) := ⟨rfl, rfl, rfl, by decide +kernel, rfl, by decide +kernel, by decide +kernel⟩
abbrev s_Lives_parent : Stmt := inClass (top 28) 4
theorem sc_Lives_parent : FnScope ["self", "name"] ["self", "name"] (defScope s_Lives_parent) := ⟨rfl, rfl, rfl, by decide +kernel, rfl, by decide +kernel, by decide +kernel⟩
abbrev s_Lives_eq : Stmt := inClass (top 28) 5
theorem sc_Lives_eq : FnScope ["self", "other"] ["self", "other"] (defScope s_Lives_eq) := ⟨rfl, rfl, rfl, by decide +kernel, rfl, by decide +kernel, by decide +kernel⟩
abbrev s_Lives_len : Stmt := inClass (top 28) 6
theorem sc_Lives_len : FnScope ["self"] ["self"] (defScope s_Lives_len) := ⟨rfl, rfl, rfl, by decide +kernel, rfl, by decide +kernel, by decide +kernel⟩
abbrev s_Lives_iter : Stmt := inClass (top 28) 7
theorem sc_Lives_iter : FnScope ["self"] ["self"] (defScope s_Lives_iter) := ⟨rfl, rfl, rfl, by decide +kernel, rfl, by decide +kernel, by decide +kernel⟩
abbrev s_record_fault : Stmt := top 30
theorem sc_record_fault : FnScope ["lives", "rows", "family", "index", "row", "word"] ["lives", "rows"] (defScope s_record_fault) := ⟨rfl, rfl, rfl, by decide +kernel, rfl, by decide +kernel, by decide +kernel⟩
abbrev s_Record_init : Stmt := inClass (top 31) 0
theorem sc_Record_init : FnScope ["self", "lives", "rows", "family", "index", "row", "word"] ["self", "lives", "rows"] (defScope s_Record_init) := ⟨rfl, rfl, rfl, by decide +kernel, rfl, by decide +kernel, by decide +kernel⟩
abbrev s_Record_end : Stmt := inClass (top 31) 1
theorem sc_Record_end : FnScope ["self"] ["self"] (defScope s_Record_end) := ⟨rfl, rfl, rfl, by decide +kernel, rfl, by decide +kernel, by decide +kernel⟩
abbrev s_Record_unborn : Stmt := inClass (top 31) 2
theorem sc_Record_unborn : FnScope ["self", "row"] ["self"] (defScope s_Record_unborn) := ⟨rfl, rfl, rfl, by decide +kernel, rfl, by decide +kernel, by decide +kernel⟩
abbrev s_Record_has : Stmt := inClass (top 31) 3
theorem sc_Record_has : FnScope ["self", "person"] ["self", "person"] (defScope s_Record_has) := ⟨rfl, rfl, rfl, by decide +kernel, rfl, by decide +kernel, by decide +kernel⟩
abbrev s_Record_birth : Stmt := inClass (top 31) 4
theorem sc_Record_birth : FnScope ["self", "person"] ["self", "person"] (defScope s_Record_birth) := ⟨rfl, rfl, rfl, by decide +kernel, rfl, by decide +kernel, by decide +kernel⟩
abbrev s_Record_death : Stmt := inClass (top 31) 5
theorem sc_Record_death : FnScope ["self", "person"] ["self", "person"] (defScope s_Record_death) := ⟨rfl, rfl, rfl, by decide +kernel, rfl, by decide +kernel, by decide +kernel⟩
abbrev s_Record_is_alive : Stmt := inClass (top 31) 6
theorem sc_Record_is_alive : FnScope ["self", "person"] ["self", "person"] (defScope s_Record_is_alive) := ⟨rfl, rfl, rfl, by decide +kernel, rfl, by decide +kernel, by decide +kernel⟩
abbrev s_Record_parent : Stmt := inClass (top 31) 7
theorem sc_Record_parent : FnScope ["self", "person"] ["self", "person"] (defScope s_Record_parent) := ⟨rfl, rfl, rfl, by decide +kernel, rfl, by decide +kernel, by decide +kernel⟩
abbrev s_Record_children : Stmt := inClass (top 31) 8
theorem sc_Record_children : FnScope ["self", "person"] ["self", "person"] (defScope s_Record_children) := ⟨rfl, rfl, rfl, by decide +kernel, rfl, by decide +kernel, by decide +kernel⟩
abbrev s_Record_mates : Stmt := inClass (top 31) 9
theorem sc_Record_mates : FnScope ["self", "life"] ["self", "life"] (defScope s_Record_mates) := ⟨rfl, rfl, rfl, by decide +kernel, rfl, by decide +kernel, by decide +kernel⟩
abbrev s_Record_mate : Stmt := inClass (top 31) 10
theorem sc_Record_mate : FnScope ["self", "life", "wedded"] ["self", "life"] (defScope s_Record_mate) := ⟨rfl, rfl, rfl, by decide +kernel, rfl, by decide +kernel, by decide +kernel⟩
abbrev s_Record_happened : Stmt := inClass (top 31) 11
theorem sc_Record_happened : FnScope ["self", "name"] ["self", "name"] (defScope s_Record_happened) := ⟨rfl, rfl, rfl, by decide +kernel, rfl, by decide +kernel, by decide +kernel⟩
abbrev s_Record_until : Stmt := inClass (top 31) 12
theorem sc_Record_until : FnScope ["self", "year"] ["self", "year"] (defScope s_Record_until) := ⟨rfl, rfl, rfl, by decide +kernel, rfl, by decide +kernel, by decide +kernel⟩
abbrev s_Record_after : Stmt := inClass (top 31) 13
theorem sc_Record_after : FnScope ["self", "rows"] ["self", "rows"] (defScope s_Record_after) := ⟨rfl, rfl, rfl, by decide +kernel, rfl, by decide +kernel, by decide +kernel⟩
abbrev s_Record_shorter : Stmt := inClass (top 31) 14
theorem sc_Record_shorter : FnScope ["self"] ["self"] (defScope s_Record_shorter) := ⟨rfl, rfl, rfl, by decide +kernel, rfl, by decide +kernel, by decide +kernel⟩
abbrev s_Record_last_death : Stmt := inClass (top 31) 15
theorem sc_Record_last_death : FnScope ["self", "measuring"] ["self", "measuring"] (defScope s_Record_last_death) := ⟨rfl, rfl, rfl, by decide +kernel, rfl, by decide +kernel, by decide +kernel⟩
abbrev s_Record_eq : Stmt := inClass (top 31) 16
theorem sc_Record_eq : FnScope ["self", "other"] ["self", "other"] (defScope s_Record_eq) := ⟨rfl, rfl, rfl, by decide +kernel, rfl, by decide +kernel, by decide +kernel⟩
abbrev s_Record_len : Stmt := inClass (top 31) 17
theorem sc_Record_len : FnScope ["self"] ["self"] (defScope s_Record_len) := ⟨rfl, rfl, rfl, by decide +kernel, rfl, by decide +kernel, by decide +kernel⟩
abbrev s_Record_iter : Stmt := inClass (top 31) 18
theorem sc_Record_iter : FnScope ["self"] ["self"] (defScope s_Record_iter) := ⟨rfl, rfl, rfl, by decide +kernel, rfl, by decide +kernel, by decide +kernel⟩
abbrev s_facts : Stmt := top 33
theorem sc_facts : FnScope ["_law_customs_here", "_law_lives_here", "_law_rows_here", "_law_births", "_law_deaths", "_law_parents", "_law_mates", "_law_facts_here", "_law_order", "_law_name", "_law_age", "_law_parent", "_law_row"] ["_law_customs_here", "_law_lives_here", "_law_rows_here"] (defScope s_facts) := ⟨rfl, rfl, rfl, by decide +kernel, rfl, by decide +kernel, by decide +kernel⟩
abbrev s_digits : Stmt := top 34
theorem sc_digits : FnScope ["_law_script", "_law_many", "_law_seed", "_law_cell"] ["_law_script", "_law_many"] (defScope s_digits) := ⟨rfl, rfl, rfl, by decide +kernel, rfl, by decide +kernel, by decide +kernel⟩
abbrev s_next : Stmt := top 35
theorem sc_next : FnScope ["_law_draws", "_law_many", "_law_cell", "_law_digit"] ["_law_draws", "_law_many"] (defScope s_next) := ⟨rfl, rfl, rfl, by decide +kernel, rfl, by decide +kernel, by decide +kernel⟩
abbrev s_lives : Stmt := top 36
theorem sc_lives : FnScope ["_law_draws", "_law_customs_here", "_law_rows_here", "_law_many", "_law_name", "_law_parent", "_law_age", "_law_elder", "_law_x"] ["_law_draws", "_law_customs_here"] (defScope s_lives) := ⟨rfl, rfl, rfl, by decide +kernel, rfl, by decide +kernel, by decide +kernel⟩
abbrev s_rows : Stmt := top 37
theorem sc_rows : FnScope ["_law_draws", "_law_customs_here", "_law_lives_here", "_law_most", "_law_step", "_law_births", "_law_deaths", "_law_kinds", "_law_name", "_law_age", "_law_parent", "_law_rows_here", "_law_year", "_law_fresh", "_law_facts_here", "_law_words", "_law_last", "_law_turn", "_law_add", "_law_place_here", "_law_who", "_law_row", "_law_alive", "_law_word"] ["_law_draws", "_law_customs_here", "_law_lives_here", "_law_most", "_law_step"] (defScope s_rows) := ⟨rfl, rfl, rfl, by decide +kernel, rfl, by decide +kernel, by decide +kernel⟩
abbrev s_customs : Stmt := top 38
theorem sc_customs : FnScope ["_law_draws"] ["_law_draws"] (defScope s_customs) := ⟨rfl, rfl, rfl, by decide +kernel, rfl, by decide +kernel, by decide +kernel⟩
abbrev s_made : Stmt := top 39
theorem sc_made : FnScope ["_law_customs_here", "_law_lives_here", "_law_made_here"] ["_law_customs_here", "_law_lives_here"] (defScope s_made) := ⟨rfl, rfl, rfl, by decide +kernel, rfl, by decide +kernel, by decide +kernel⟩
abbrev s_place : Stmt := top 40
theorem sc_place : FnScope ["_law_row"] ["_law_row"] (defScope s_place) := ⟨rfl, rfl, rfl, by decide +kernel, rfl, by decide +kernel, by decide +kernel⟩
abbrev s_parts_ok : Stmt := top 41
theorem sc_parts_ok : FnScope ["_law_row", "_law_lengths", "_law_year", "_law_part", "_law_sign"] ["_law_row"] (defScope s_parts_ok) := ⟨rfl, rfl, rfl, by decide +kernel, rfl, by decide +kernel, by decide +kernel⟩
abbrev s_L_row_fault : Stmt := top 42
theorem sc_L_row_fault : FnScope ["_law_customs_here", "_law_lives_here", "_law_before", "_law_row", "_law_told_here", "_law_births", "_law_deaths", "_law_parents", "_law_year", "_law_x"] ["_law_customs_here", "_law_lives_here", "_law_before", "_law_row"] (defScope s_L_row_fault) := ⟨rfl, rfl, rfl, by decide +kernel, rfl, by decide +kernel, by decide +kernel⟩
abbrev s_fault : Stmt := top 43
theorem sc_fault : FnScope ["_law_customs_here", "_law_lives_here", "_law_rows_here", "_law_index", "_law_word"] ["_law_customs_here", "_law_lives_here", "_law_rows_here"] (defScope s_fault) := ⟨rfl, rfl, rfl, by decide +kernel, rfl, by decide +kernel, by decide +kernel⟩
abbrev s_shuffled : Stmt := top 44
theorem sc_shuffled : FnScope ["_law_draws", "_law_rows_here", "_law_out"] ["_law_draws", "_law_rows_here"] (defScope s_shuffled) := ⟨rfl, rfl, rfl, by decide +kernel, rfl, by decide +kernel, by decide +kernel⟩
abbrev s_told : Stmt := top 45
theorem sc_told : FnScope ["_law_lives_here", "_law_rows_here", "e"] ["_law_lives_here", "_law_rows_here"] (defScope s_told) := ⟨rfl, rfl, rfl, by decide +kernel, rfl, by decide +kernel, by decide +kernel⟩
abbrev s_law : Stmt := top 46
theorem sc_law : FnScope ["_law_script", "_law_draws", "_law_customs_here", "_law_drawn", "_law_lives_here", "_law_rows_here", "_law_mixed", "_law_record", "_law_due", "_law_at", "_law_turned", "_law_found", "_law_year", "_law_people", "_law_who", "_law_row", "_law_longer", "_law_made_here"] ["_law_script"] (defScope s_law) := ⟨rfl, rfl, rfl, by decide +kernel, rfl, by decide +kernel, by decide +kernel⟩
def okI : List Value → Prop := fun us => ∀ v, us[0]? = some v → ∃ i t, v = .int i t ∧ i.natAbs.log2 < 1920
def okVI : List V → Prop := fun vs => ∃ i r, vs = .int i :: r ∧ i.natAbs.log2 < 1920
theorem okVI_ok : ∀ vs us, Vals vs us → okVI vs → okI us := fun vs us r ⟨i, rest, e, h⟩ v hv => by
  subst e
  cases r with
  | cons ra rb =>
    obtain ⟨t, rfl⟩ := ra
    cases hv
    exact ⟨i, t, rfl, h⟩
/-- what the top has written -/
structure Txt (P : Program) (w : World) (K : PySem.W.Frag) (mg : Str → Option Value) (cl : String → Addr) : Prop where
  n_len : mg "len" = none
  n_int : mg "int" = none
  n_str : mg "str" = none
  n_bool : mg "bool" = none
  n_list : mg "list" = none
  n_tuple : mg "tuple" = none
  n_isinstance : mg "isinstance" = none
  n_range : mg "range" = none
  n_all : mg "all" = none
  n_ValueError : mg "ValueError" = none
  n_super : mg "super" = none
  n_max : mg "max" = none
  n_min : mg "min" = none
  n_sorted : mg "sorted" = none
  n_iter : mg "iter" = none
  n_enumerate : mg "enumerate" = none
  n_property : mg "property" = none
  c_LETTERS : ∃ u, mg "LETTERS" = some u ∧ RelV (.str "abcdefghijklmnopqrstuvwxyz") u
  c_MOST : ∃ u, mg "MOST" = some u ∧ RelV (.int 1000000) u
  c_WIDEST : ∃ u, mg "WIDEST" = some u ∧ RelV (.int 1000) u
  c_MOST_LIVES : ∃ u, mg "MOST_LIVES" = some u ∧ RelV (.int 6) u
  c_MOST_YEAR : ∃ u, mg "MOST_YEAR" = some u ∧ RelV (.int 1000000000) u
  c_MOST_ROWS : ∃ u, mg "MOST_ROWS" = some u ∧ RelV (.int 200) u
  c_KINDS : ∃ u, mg "KINDS" = some u ∧ RelV (.ref (cl "KINDS")) u
  tt_KINDS : ∃ o, K.lookup (cl "KINDS") = some o ∧ o.cls = .type "tuple" ∧ o.dict = none
  tu_KINDS : ∀ H, SqT K H (cl "KINDS") [.str "born", .str "wed", .str "happened", .str "died"]
  c_LENGTHS : ∃ u, mg "LENGTHS" = some u ∧ RelV (.ref (cl "LENGTHS")) u
  wd_LENGTHS : WD K w (cl "LENGTHS") [("born", 4), ("wed", 4), ("happened", 3), ("died", 3)]
  m_DeedError : mg "DeedError" = some (.ref (cl "DeedError"))
  m_BadCustoms : mg "BadCustoms" = some (.ref (cl "BadCustoms"))
  m_BadLives : mg "BadLives" = some (.ref (cl "BadLives"))
  m_BadRecord : mg "BadRecord" = some (.ref (cl "BadRecord"))
  m_NoLife : mg "NoLife" = some (.ref (cl "NoLife"))
  m_NoPerson : mg "NoPerson" = some (.ref (cl "NoPerson"))
  m_Customs : mg "Customs" = some (.ref (cl "Customs"))
  m_Lives : mg "Lives" = some (.ref (cl "Lives"))
  m_Family : mg "Family" = some (.ref (cl "Family"))
  m_Record : mg "Record" = some (.ref (cl "Record"))
  e_BadCustoms : PySem.ErrL.Makes P w K mg (cl "BadCustoms") ["what"] (fun _ => True)
  e_BadLives : PySem.ErrL.Makes P w K mg (cl "BadLives") ["index", "what"] okI
  e_BadRecord : PySem.ErrL.Makes P w K mg (cl "BadRecord") ["index", "what"] okI
  e_NoLife : PySem.ErrL.Makes P w K mg (cl "NoLife") ["name"] (fun _ => True)
  e_NoPerson : PySem.ErrL.Makes P w K mg (cl "NoPerson") ["name"] (fun _ => True)
  x_NoLife : ExcC K (cl "NoLife")
  x_NoPerson : ExcC K (cl "NoPerson")
  xf_NoLife_name : PySem.W.findIn K (.ref (cl "NoLife")) "name" = some none
  xf_NoPerson_name : PySem.W.findIn K (.ref (cl "NoPerson")) "name" = some none
  is_NoLife : PySem.W.exmOne K (.ref (cl "NoLife")) (.ref (cl "NoLife")) = some true
  is_NoPerson : PySem.W.exmOne K (.ref (cl "NoPerson")) (.ref (cl "NoPerson")) = some true
  cl_Customs : Cls K (cl "Customs")
  na_Customs : ∀ f : Str, f ∈ (["parent_age", "years_after", "wed_age", "limit"] : List Str) → NoAttr K (cl "Customs") f
  y_Customs : PySem.W.findIn K (.ref (cl "Customs")) "__class__" = some (some (.builtin "object.__class__"))
  z3_Customs : PySem.W.mroIn K (cl "Customs") (.type "object") = some true
  cl_Lives : Cls K (cl "Lives")
  na_Lives : ∀ f : Str, f ∈ (["customs", "rows", "ages", "parents"] : List Str) → NoAttr K (cl "Lives") f
  y_Lives : PySem.W.findIn K (.ref (cl "Lives")) "__class__" = some (some (.builtin "object.__class__"))
  z3_Lives : PySem.W.mroIn K (cl "Lives") (.type "object") = some true
  cl_Family : Cls K (cl "Family")
  na_Family : ∀ f : Str, f ∈ (["lives", "customs", "births", "deaths", "parents", "weddings", "facts", "order", "last", "many"] : List Str) → NoAttr K (cl "Family") f
  y_Family : PySem.W.findIn K (.ref (cl "Family")) "__class__" = some (some (.builtin "object.__class__"))
  z3_Family : PySem.W.mroIn K (cl "Family") (.type "object") = some true
  cl_Record : Cls K (cl "Record")
  na_Record : ∀ f : Str, f ∈ (["lives", "customs", "rows", "births", "deaths", "parents", "weddings", "facts", "persons"] : List Str) → NoAttr K (cl "Record") f
  y_Record : PySem.W.findIn K (.ref (cl "Record")) "__class__" = some (some (.builtin "object.__class__"))
  z3_Record : PySem.W.mroIn K (cl "Record") (.type "object") = some true
  k_in_Cu : ∀ n : String, n ∈ (["NoneType", "bool", "int", "str", "list", "tuple"] : List String) → PySem.W.kitOne K (.type n) (.ref (cl "Customs")) = some false
  nf_Customs : ∀ n : String, n ∈ (["NoneType", "bool", "int", "str", "list", "tuple"] : List String) → PySem.W.notFirst K (cl "Customs") (.type n) = true
  nf2_Customs : PySem.W.notFirst K (cl "Customs") (.ref (cl "Customs")) = true
  k_Cu_Cu : PySem.W.kitOne K (.ref (cl "Customs")) (.ref (cl "Customs")) = some true
  k_in_Li : ∀ n : String, n ∈ (["NoneType", "bool", "int", "str", "list", "tuple"] : List String) → PySem.W.kitOne K (.type n) (.ref (cl "Lives")) = some false
  nf_Lives : ∀ n : String, n ∈ (["NoneType", "bool", "int", "str", "list", "tuple"] : List String) → PySem.W.notFirst K (cl "Lives") (.type n) = true
  nf2_Lives : PySem.W.notFirst K (cl "Lives") (.ref (cl "Lives")) = true
  k_Li_Li : PySem.W.kitOne K (.ref (cl "Lives")) (.ref (cl "Lives")) = some true
  k_in_Re : ∀ n : String, n ∈ (["NoneType", "bool", "int", "str", "list", "tuple"] : List String) → PySem.W.kitOne K (.type n) (.ref (cl "Record")) = some false
  nf_Record : ∀ n : String, n ∈ (["NoneType", "bool", "int", "str", "list", "tuple"] : List String) → PySem.W.notFirst K (cl "Record") (.type n) = true
  nf2_Record : PySem.W.notFirst K (cl "Record") (.ref (cl "Record")) = true
  k_Re_Re : PySem.W.kitOne K (.ref (cl "Record")) (.ref (cl "Record")) = some true
  i_Customs : ∃ (f : Addr) (fd : FuncData), FunD K "__init__" "Customs.__init__" (defArgs s_Customs_init) (defBody s_Customs_init) (defScope s_Customs_init) [.int 1] [("years_after", .int 1), ("wed_age", .int 0), ("limit", .int 21)] f fd ∧ Mk K (cl "Customs") f
  i_Lives : DefC K (cl "Lives") "Lives.__init__" s_Lives_init
  i_Family : DefC K (cl "Family") "Family.__init__" s_Family_init
  i_Record : ∃ (f : Addr) (fd : FuncData), HeM.FunV K "__init__" "Record.__init__" s_Record_init f fd ∧ Mk K (cl "Record") f
  d_as_tuple : DefM K (cl "Customs") "as_tuple" "Customs.as_tuple" s_Customs_as_tuple
  d_eq : DefM K (cl "Customs") "__eq__" "Customs.__eq__" s_Customs_eq
  d_Lives_has : DefM K (cl "Lives") "has" "Lives.has" s_Lives_has
  d_Lives_eq : DefM K (cl "Lives") "__eq__" "Lives.__eq__" s_Lives_eq
  d_Family_fault : DefM K (cl "Family") "fault" "Family.fault" s_Family_fault
  d_Family_born_fault : DefM K (cl "Family") "born_fault" "Family.born_fault" s_Family_born_fault
  d_Family_wed_fault : DefM K (cl "Family") "wed_fault" "Family.wed_fault" s_Family_wed_fault
  d_Family_add : DefM K (cl "Family") "add" "Family.add" s_Family_add
  d_Record_end : ∃ (p g : Addr) (fd : FuncData), PropOf K (cl "Record") "end" p g ∧ Fun K "end" "Record.end" s_Record_end g fd
  d_Record_unborn : ∃ (p g : Addr) (fd : FuncData), PropOf K (cl "Record") "unborn" p g ∧ Fun K "unborn" "Record.unborn" s_Record_unborn g fd
  d_Record_has : DefM K (cl "Record") "has" "Record.has" s_Record_has
  d_Record_birth : DefM K (cl "Record") "birth" "Record.birth" s_Record_birth
  d_Record_death : DefM K (cl "Record") "death" "Record.death" s_Record_death
  d_Record_is_alive : DefM K (cl "Record") "is_alive" "Record.is_alive" s_Record_is_alive
  d_Record_parent : DefM K (cl "Record") "parent" "Record.parent" s_Record_parent
  d_Record_children : DefM K (cl "Record") "children" "Record.children" s_Record_children
  d_Record_mates : DefM K (cl "Record") "mates" "Record.mates" s_Record_mates
  d_Record_mate : DefM K (cl "Record") "mate" "Record.mate" s_Record_mate
  d_Record_happened : DefM K (cl "Record") "happened" "Record.happened" s_Record_happened
  d_Record_last_death : DefM K (cl "Record") "last_death" "Record.last_death" s_Record_last_death
  d_Record_eq : DefM K (cl "Record") "__eq__" "Record.__eq__" s_Record_eq
  d_Record_len : DefM K (cl "Record") "__len__" "Record.__len__" s_Record_len
  d_Record_iter : DefM K (cl "Record") "__iter__" "Record.__iter__" s_Record_iter
  d_is_whole : Def K mg "is_whole" s_is_whole
  d_is_name : Def K mg "is_name" s_is_name
  d_is_row : Def K mg "is_row" s_is_row
  d_row_place : Def K mg "row_place" s_row_place
  d_row_fault : Def K mg "row_fault" s_row_fault
  d_record_fault : Def K mg "record_fault" s_record_fault
  d_facts : Def K mg "_law_facts" s_facts
  d_digits : Def K mg "_law_digits" s_digits
  d_next : Def K mg "_law_next" s_next
  d_lives : Def K mg "_law_lives" s_lives
  d_rows : Def K mg "_law_rows" s_rows
  d_customs : Def K mg "_law_customs" s_customs
  d_made : Def K mg "_law_made" s_made
  d_place : Def K mg "_law_place" s_place
  d_parts_ok : Def K mg "_law_parts_ok" s_parts_ok
  d_L_row_fault : Def K mg "_law_row_fault" s_L_row_fault
  d_fault : Def K mg "_law_fault" s_fault
  d_shuffled : Def K mg "_law_shuffled" s_shuffled
  d_told : Def K mg "_law_told" s_told
  d_law : Def K mg "law" s_law
  x_BadRecord : ExcC K (cl "BadRecord")
  xf_BadRecord_index : PySem.W.findIn K (.ref (cl "BadRecord")) "index" = some none
  xf_BadRecord_what : PySem.W.findIn K (.ref (cl "BadRecord")) "what" = some none
  is_BadRecord : PySem.W.exmOne K (.ref (cl "BadRecord")) (.ref (cl "BadRecord")) = some true
  z1 : PySem.W.specialIn K (.builtin "object.__class__") "__get__" = some (some (.builtin "getset_descriptor.__get__"))
  z2 : PySem.W.takesIn K (.builtin "object.__class__") = some true
/-! plain functions -/
def isW (lo hi : Int) : V → Bool
  | .int i => decide (lo ≤ i) && decide (i ≤ hi)
  | _ => false
def letters : List Nat := ("abcdefghijklmnopqrstuvwxyz" : Str).cps.toList
def isN : V → Bool
  | .str s => decide (1 ≤ s.length) && decide (s.length ≤ 8) && s.cps.toList.all fun c => decide (c ∈ letters)
  | _ => false
/-! promises -/
def spW (K : PySem.W.Frag) : Sp := fun vs H Q _ => ∃ (v : V) (n : String) (lo hi : Int), vs = [v, .int lo, .int hi] ∧ Dm K H v n ∧ Q (.bl (isW lo hi v)) H
def spN (K : PySem.W.Frag) : Sp := fun vs H Q _ => ∃ (v : V) (n : String), vs = [v] ∧ Dm K H v n ∧ ∀ H', Same H H' → Q (.bl (isN v)) H'
section
variable {P : Program} {w : World} {K : PySem.W.Frag} {mg : Str → Option Value} {base : Heap} {cl : String → Addr}
theorem kb {v : V} {H : Hp} {n m : String} {b : Bool} (d : Dm K H v n) (h : kitB n m = some b) : PySem.W.kitOne K (.type n) (.type m) = some b := kit_ty h
theorem ok_is_whole {f : Addr} {fd : FuncData} (F : Fun K "is_whole" "is_whole" s_is_whole f fd) (T : Txt P w K mg cl) : FnOk P w K mg base CX0 1 f fd ["thing", "low", "high"] (spW K) := by
  refine F.ok sc_is_whole (fun vs H Q E h => ?_) (fun cdv A outer s H vs Q E hr h => ?_)
  · obtain ⟨v, n, lo, hi, rfl, _⟩ := h
    rfl
  · obtain ⟨v, n, lo, hi, rfl, d, k⟩ := h
    have hu := hu_of hr
    refine ⟨_, (pss_one (ps_ret (pe_and (pe_callB call_isi (by rfl) T.n_isinstance (by decide +kernel) (pa_cons (pv 0) (pa_cons (pe_ty "int" T.n_int) pa_nil))) (pe_and (pe_not (pe_callB call_isi (by rfl) T.n_isinstance (by decide +kernel) (pa_cons (pv 0) (pa_cons (pe_ty "bool" T.n_bool) pa_nil)))) (pe_one (pe_chain op_le op_le (pv 1) (pv 0) (pv 2))))))), ?_⟩
    cases d with
    | int i =>
      refine ⟨_, rfl, _, _, _, _, _, rfl, .ty "int", .base (.int i), kit_ty (by decide +kernel), true, rfl, iteT ?_⟩
      refine ⟨_, rfl, _, _, _, _, _, rfl, .ty "bool", .base (.int i), kit_ty (by decide +kernel), false, rfl, _, rfl, iteT ?_⟩
      refine ⟨_, rfl, _, rfl, _, _, rfl, rfl, _, rfl, ?_⟩
      refine ite2 (fun h1 => ?_) (fun h1 => ?_)
      · refine ⟨_, rfl, _, _, rfl, rfl, ?_⟩
        have e : isW lo hi (.int i) = decide (i ≤ hi) := by show (decide (lo ≤ i) && decide (i ≤ hi)) = _; rw [h1]; rfl
        rw [e] at k
        exact k
      · have e : isW lo hi (.int i) = false := by show (decide (lo ≤ i) && decide (i ≤ hi)) = _; rw [Bool.eq_false_iff.mpr h1]; rfl
        rw [e] at k
        exact k
    | bl b =>
      refine ⟨_, rfl, _, _, _, _, _, rfl, .ty "int", .base (.bl b), kit_ty (by decide +kernel), true, rfl, iteT ?_⟩
      exact ⟨_, rfl, _, _, _, _, _, rfl, .ty "bool", .base (.bl b), kit_ty (by decide +kernel), true, rfl, _, rfl, iteF k⟩
    | non => exact ⟨_, rfl, _, _, _, _, _, rfl, .ty "int", .base .non, kit_ty (by decide +kernel), false, rfl, iteF k⟩
    | str x hx => exact ⟨_, rfl, _, _, _, _, _, rfl, .ty "int", .base (.str x), kit_ty (by decide +kernel), false, rfl, iteF k⟩
    | lst e => exact ⟨_, rfl, _, _, _, _, _, rfl, .ty "int", .base (.lst e), kit_ty (by decide +kernel), false, rfl, iteF k⟩
    | tup e => exact ⟨_, rfl, _, _, _, _, _, rfl, .ty "int", .base (.tup e), kit_ty (by decide +kernel), false, rfl, iteF k⟩
theorem cal_is_whole (T : Txt P w K mg cl) : Cal P w K mg base CX0 1 "is_whole" ["thing", "low", "high"] (spW K) := by
  obtain ⟨f, fd, F, m⟩ := T.d_is_whole
  exact ⟨f, fd, ok_is_whole F T, m, F.kp, F.binds fun _ _ _ _ _ _ us hl => match us, hl with | [_, _, _], _ => rfl⟩
theorem all_filter {α : Type} (l : List α) (p : α → Bool) : l.all p = (l.filter fun c => !p c).isEmpty := by
  induction l with
  | nil => rfl
  | cons a l ih =>
    cases h : p a with
    | true => rw [List.all_cons, h, Bool.true_and, List.filter_cons_of_neg (by simp [h])]; exact ih
    | false => rw [List.all_cons, h, Bool.false_and, List.filter_cons_of_pos (by simp [h])]; rfl
theorem ok_is_name {f : Addr} {fd : FuncData} (F : Fun K "is_name" "is_name" s_is_name f fd) (T : Txt P w K mg cl) : FnOk P w K mg base CX0 1 f fd ["thing"] (spN K) := by
  refine F.ok sc_is_name (fun vs H Q E h => ?_) (fun cdv A outer s H vs Q E hr h => ?_)
  · obtain ⟨v, n, rfl, _⟩ := h
    rfl
  · obtain ⟨v, n, rfl, d, k⟩ := h
    have hu := hu_of hr
    refine ⟨_, (pss_cons (ps_if (PW.pt (pw_or (pt_not (pt_val (pe_callB call_isi (by rfl) T.n_isinstance (by decide +kernel) (pa_cons (pv 0) (pa_cons (pe_ty "str" T.n_str) pa_nil))))) (pw_or1 (pt_not (pt_chain op_le op_le pe_int (pe_callB call_len_str (by rfl) T.n_len PySem.boot_len (pa_cons (pv 0) pa_nil)) pe_int)))))
          (pss_one (ps_ret pe_bl)) pss_nil)
        (pss_one (ps_ret (pe_notT (pe_lc (own := [("sign", 1)]) (g := gName 1)  rfl sc_is_name.nd (pi_str (pv 0)) (blkOk_by (own := [("sign", 1)]) (N := ["thing", "sign"]) (sc := defScope s_is_name) (by decide +kernel)) (fun _ _ _ _ _ => pg_name (i := 1) sc_is_name.nd rfl (Or.inl rfl)) (fun _ _ _ _ _ => pts_one (pt_cmpR op_notIn_sign (pv 1) (pe_gl T.c_LETTERS) (by rfl))) (fun _ _ _ _ _ => (pv 1))))))), ?_⟩
    cases d with
    | str x hx =>
      refine ⟨_, rfl, _, _, _, _, _, rfl, .ty "str", .base (.str x), kit_ty (by decide +kernel), true, rfl, iteF ?_⟩
      refine ⟨_, rfl, _, rfl, hx, _, _, rfl, rfl, _, rfl, ?_⟩
      have no : ∀ b : Bool, isN (.str x) = b → Q (.bl b) H := fun b e => by rw [← e]; exact k H (Same.refl H)
      refine ite2 (fun h1 => ?_) (fun h1 => ?_)
      · refine ⟨_, _, rfl, rfl, _, rfl, ?_⟩
        have g1 : (1 : Int) ≤ x.length := of_decide_eq_true h1
        have e1 : isN (.str x) = (decide (x.length ≤ 8) && x.cps.toList.all fun c => decide (c ∈ letters)) := by
          show (decide (1 ≤ x.length) && decide (x.length ≤ 8) && _) = _
          rw [decide_eq_true (show 1 ≤ x.length by omega), Bool.true_and]
        refine ite2 (fun h2 => ?_) (fun h2 => ?_)
        · refine no false ?_
          have g2 : ¬ x.length ≤ 8 := by
            have := (Bool.not_eq_true' _).mp h2
            have := of_decide_eq_false this
            omega
          rw [e1, decide_eq_false g2, Bool.false_and]
        · have g2 : x.length ≤ 8 := by
            have := Bool.eq_false_iff.mpr h2
            have := of_decide_eq_true ((Bool.not_eq_false' _).mp this)
            omega
          rw [decide_eq_true g2, Bool.true_and] at e1
          refine ⟨_, rfl, x, rfl, fun D hD => lc_str (x := x) (fun i H' => H' = upd H D (.lst (((x.cps.toList.take i).filter fun c => !decide (c ∈ letters)).map fun c => V.str ⟨#[c]⟩))) rfl ?_ ?_⟩
          · rintro i c H' hc rfl
            have hi : i < x.cps.size := (Array.getElem?_eq_some_iff.mp hc).1
            have hc2 : x.cps.toList[i]? = some c := by rw [← hc]; simp
            have ht : x.cps.toList.take (i + 1) = x.cps.toList.take i ++ [c] := by rw [List.take_add_one, hc2]; rfl
            refine ⟨rfl, _, rfl, c, _, rfl, rfl, _, rfl, ?_⟩
            refine ite2 (fun h3 => ?_) (fun h3 => ?_)
            · refine ⟨_, rfl, _, upd_same, small1000 ?_, ?_⟩
              · rw [List.length_map]
                refine Nat.le_trans (List.length_filter_le _ _) (Nat.le_trans (List.length_take_le _ _) ?_)
                have : x.length = x.cps.size := rfl
                omega
              · rw [upd_upd, ht, List.filter_append, List.map_append, show List.filter (fun c => !decide (c ∈ letters)) [c] = [c] by rw [List.filter_cons_of_pos (by exact h3)]; rfl]
                rfl
            · rw [ht, List.filter_append, List.map_append, show List.filter (fun c => !decide (c ∈ letters)) [c] = [] by rw [List.filter_cons_of_neg (by exact h3)]; rfl]
              rw [List.map_nil, List.append_nil]
          · rintro H' rfl
            refine ⟨_, .inl ⟨_, SqL.of upd_same, rfl⟩, ?_⟩
            have sm : Same H (upd H D (.lst (((x.cps.toList.take x.cps.size).filter fun c => !decide (c ∈ letters)).map fun c => V.str ⟨#[c]⟩))) := fun b o e => by rw [upd_ne (ne_of_none e hD)]; exact e
            have q := k _ sm
            rw [e1] at q
            have ea : (x.cps.toList.all fun c => decide (c ∈ letters)) = !!(((x.cps.toList.take x.cps.size).filter fun c => !decide (c ∈ letters)).map fun c => V.str ⟨#[c]⟩).isEmpty := by
              rw [Bool.not_not, List.isEmpty_map, show x.cps.toList.take x.cps.size = x.cps.toList from List.take_of_length_le (by simp)]
              exact all_filter _ _
            rw [ea] at q
            exact q
      · refine ⟨_, rfl, iteT (no false ?_)⟩
        have g1 : ¬ (1 : Int) ≤ x.length := fun z => h1 (decide_eq_true z)
        show (decide (1 ≤ x.length) && decide (x.length ≤ 8) && _) = false
        rw [decide_eq_false (show ¬ 1 ≤ x.length by omega), Bool.false_and, Bool.false_and]
    | int x => exact ⟨_, rfl, _, _, _, _, _, rfl, .ty "str", .base (.int x), kit_ty (by decide +kernel), false, rfl, iteT (iteT (k H (Same.refl H)))⟩
    | bl b => exact ⟨_, rfl, _, _, _, _, _, rfl, .ty "str", .base (.bl b), kit_ty (by decide +kernel), false, rfl, iteT (iteT (k H (Same.refl H)))⟩
    | non => exact ⟨_, rfl, _, _, _, _, _, rfl, .ty "str", .base .non, kit_ty (by decide +kernel), false, rfl, iteT (iteT (k H (Same.refl H)))⟩
    | lst e => exact ⟨_, rfl, _, _, _, _, _, rfl, .ty "str", .base (.lst e), kit_ty (by decide +kernel), false, rfl, iteT (iteT (k H (Same.refl H)))⟩
    | tup e => exact ⟨_, rfl, _, _, _, _, _, rfl, .ty "str", .base (.tup e), kit_ty (by decide +kernel), false, rfl, iteT (iteT (k H (Same.refl H)))⟩
theorem cal_is_name (T : Txt P w K mg cl) : Cal P w K mg base CX0 1 "is_name" ["thing"] (spN K) := by
  obtain ⟨f, fd, F, m⟩ := T.d_is_name
  exact ⟨f, fd, ok_is_name F T, m, F.kp, F.binds fun _ _ _ _ _ _ us hl => match us, hl with | [_], _ => rfl⟩
end
end My
set_option Elab.async false
set_option linter.all false
set_option maxRecDepth 100000
set_option maxHeartbeats 8000000
namespace My
open PySem L2 Dw He
theorem w_BadCustoms (P : Program) (w : World) : PySem.ErrL.SupW P w (defArgs s_BadCustoms_init) (defScope s_BadCustoms_init) "BadCustoms.__init__" ["what"] (fun _ => True) (.Constant (.str "customs") 0 ⟨10, 25, 10, 34⟩) [.Name "what" ⟨10, 36, 10, 40⟩] ⟨10, 8, 10, 13⟩ ⟨10, 8, 10, 15⟩ ⟨10, 8, 10, 24⟩ ⟨10, 8, 10, 41⟩ ⟨10, 8, 10, 41⟩ where
  hk := rfl
  co := rfl
  gen := rfl
  ks := rfl
  kc := rfl
  kse := rfl
  kf := (List.forall_mem_cons.mpr ⟨rfl, (fun _ h => by cases h)⟩)
  cell := by decide +kernel
  par := ⟨_, rfl, rfl⟩
  hi := fun _ _ _ _ => rfl
  hev := fun _ _ _ _ => ⟨_, rfl⟩
  hsw := fun _ _ _ _ => rfl
  hst := fun _ _ _ _ _ _ _ _ _ => rfl
  he := fun _ _ _ _ => rfl
  hpl := fun _ _ _ _ => rfl
  hargs := fun L fI cd cc A E us s1 mg mb m Q1 hok hm hl hs hn hg hb hbt h => match us, hl, hm with
    | [v], _, hm => PySem.ErrL.args_cn rfl rfl (by decide) L fI cd cc A E v s1 m Q1 (hm 0 _ rfl) hn h
def d_ini_BadCustoms : HeM.IniD := ⟨"BadCustoms", "BadCustoms.__init__", defArgs s_BadCustoms_init, [PySem.ErrL.supS [.Constant (.str "customs") 0 ⟨10, 25, 10, 34⟩, .Name "what" ⟨10, 36, 10, 40⟩] ⟨10, 8, 10, 13⟩ ⟨10, 8, 10, 15⟩ ⟨10, 8, 10, 24⟩ ⟨10, 8, 10, 41⟩ ⟨10, 8, 10, 41⟩, PySem.ErrL.stoS "what" ⟨11, 8, 11, 12⟩ ⟨11, 8, 11, 17⟩ ⟨11, 20, 11, 24⟩ ⟨11, 8, 11, 24⟩], defScope s_BadCustoms_init, none⟩
theorem w_BadLives (P : Program) (w : World) : PySem.ErrL.SupW P w (defArgs s_BadLives_init) (defScope s_BadLives_init) "BadLives.__init__" ["index", "what"] okI (.Constant (.str "lives") 0 ⟨15, 25, 15, 32⟩) [.Call (.Name "str" ⟨15, 34, 15, 37⟩) [.Name "index" ⟨15, 38, 15, 43⟩] [] ⟨15, 34, 15, 44⟩, .Name "what" ⟨15, 46, 15, 50⟩] ⟨15, 8, 15, 13⟩ ⟨15, 8, 15, 15⟩ ⟨15, 8, 15, 24⟩ ⟨15, 8, 15, 51⟩ ⟨15, 8, 15, 51⟩ where
  hk := rfl
  co := rfl
  gen := rfl
  ks := rfl
  kc := rfl
  kse := rfl
  kf := (List.forall_mem_cons.mpr ⟨rfl, (List.forall_mem_cons.mpr ⟨rfl, (fun _ h => by cases h)⟩)⟩)
  cell := by decide +kernel
  par := ⟨_, rfl, rfl⟩
  hi := fun _ _ _ _ => rfl
  hev := fun _ _ _ _ => ⟨_, rfl⟩
  hsw := fun _ _ _ _ => rfl
  hst := fun _ _ _ _ _ _ _ _ _ => rfl
  he := fun _ _ _ _ => rfl
  hpl := fun _ _ _ _ => rfl
  hargs := fun L fI cd cc A E us s1 mg mb m Q1 hok hm hl hs hn hg hb hbt h => match us, hl, hm, hok with
    | [v, u], _, hm, hok => by obtain ⟨i, t, rfl, hi⟩ := hok _ rfl; exact PySem.ErrL.args_csn rfl rfl rfl rfl (by decide) (by decide) L fI cd cc A E i t u s1 m mg mb Q1 hi (hm 0 _ rfl) (hm 1 _ rfl) hs hn hg hb hbt h rfl
def d_ini_BadLives : HeM.IniD := ⟨"BadLives", "BadLives.__init__", defArgs s_BadLives_init, [PySem.ErrL.supS [.Constant (.str "lives") 0 ⟨15, 25, 15, 32⟩, .Call (.Name "str" ⟨15, 34, 15, 37⟩) [.Name "index" ⟨15, 38, 15, 43⟩] [] ⟨15, 34, 15, 44⟩, .Name "what" ⟨15, 46, 15, 50⟩] ⟨15, 8, 15, 13⟩ ⟨15, 8, 15, 15⟩ ⟨15, 8, 15, 24⟩ ⟨15, 8, 15, 51⟩ ⟨15, 8, 15, 51⟩, PySem.ErrL.stoS "index" ⟨16, 8, 16, 12⟩ ⟨16, 8, 16, 18⟩ ⟨16, 21, 16, 26⟩ ⟨16, 8, 16, 26⟩, PySem.ErrL.stoS "what" ⟨17, 8, 17, 12⟩ ⟨17, 8, 17, 17⟩ ⟨17, 20, 17, 24⟩ ⟨17, 8, 17, 24⟩], defScope s_BadLives_init, none⟩
theorem w_BadRecord (P : Program) (w : World) : PySem.ErrL.SupW P w (defArgs s_BadRecord_init) (defScope s_BadRecord_init) "BadRecord.__init__" ["index", "what"] okI (.Constant (.str "record") 0 ⟨21, 25, 21, 33⟩) [.Call (.Name "str" ⟨21, 35, 21, 38⟩) [.Name "index" ⟨21, 39, 21, 44⟩] [] ⟨21, 35, 21, 45⟩, .Name "what" ⟨21, 47, 21, 51⟩] ⟨21, 8, 21, 13⟩ ⟨21, 8, 21, 15⟩ ⟨21, 8, 21, 24⟩ ⟨21, 8, 21, 52⟩ ⟨21, 8, 21, 52⟩ where
  hk := rfl
  co := rfl
  gen := rfl
  ks := rfl
  kc := rfl
  kse := rfl
  kf := (List.forall_mem_cons.mpr ⟨rfl, (List.forall_mem_cons.mpr ⟨rfl, (fun _ h => by cases h)⟩)⟩)
  cell := by decide +kernel
  par := ⟨_, rfl, rfl⟩
  hi := fun _ _ _ _ => rfl
  hev := fun _ _ _ _ => ⟨_, rfl⟩
  hsw := fun _ _ _ _ => rfl
  hst := fun _ _ _ _ _ _ _ _ _ => rfl
  he := fun _ _ _ _ => rfl
  hpl := fun _ _ _ _ => rfl
  hargs := fun L fI cd cc A E us s1 mg mb m Q1 hok hm hl hs hn hg hb hbt h => match us, hl, hm, hok with
    | [v, u], _, hm, hok => by obtain ⟨i, t, rfl, hi⟩ := hok _ rfl; exact PySem.ErrL.args_csn rfl rfl rfl rfl (by decide) (by decide) L fI cd cc A E i t u s1 m mg mb Q1 hi (hm 0 _ rfl) (hm 1 _ rfl) hs hn hg hb hbt h rfl
def d_ini_BadRecord : HeM.IniD := ⟨"BadRecord", "BadRecord.__init__", defArgs s_BadRecord_init, [PySem.ErrL.supS [.Constant (.str "record") 0 ⟨21, 25, 21, 33⟩, .Call (.Name "str" ⟨21, 35, 21, 38⟩) [.Name "index" ⟨21, 39, 21, 44⟩] [] ⟨21, 35, 21, 45⟩, .Name "what" ⟨21, 47, 21, 51⟩] ⟨21, 8, 21, 13⟩ ⟨21, 8, 21, 15⟩ ⟨21, 8, 21, 24⟩ ⟨21, 8, 21, 52⟩ ⟨21, 8, 21, 52⟩, PySem.ErrL.stoS "index" ⟨22, 8, 22, 12⟩ ⟨22, 8, 22, 18⟩ ⟨22, 21, 22, 26⟩ ⟨22, 8, 22, 26⟩, PySem.ErrL.stoS "what" ⟨23, 8, 23, 12⟩ ⟨23, 8, 23, 17⟩ ⟨23, 20, 23, 24⟩ ⟨23, 8, 23, 24⟩], defScope s_BadRecord_init, none⟩
theorem w_NoLife (P : Program) (w : World) : PySem.ErrL.SupW P w (defArgs s_NoLife_init) (defScope s_NoLife_init) "NoLife.__init__" ["name"] (fun _ => True) (.Constant (.str "no such life") 0 ⟨27, 25, 27, 39⟩) [] ⟨27, 8, 27, 13⟩ ⟨27, 8, 27, 15⟩ ⟨27, 8, 27, 24⟩ ⟨27, 8, 27, 40⟩ ⟨27, 8, 27, 40⟩ where
  hk := rfl
  co := rfl
  gen := rfl
  ks := rfl
  kc := rfl
  kse := rfl
  kf := (List.forall_mem_cons.mpr ⟨rfl, (fun _ h => by cases h)⟩)
  cell := by decide +kernel
  par := ⟨_, rfl, rfl⟩
  hi := fun _ _ _ _ => rfl
  hev := fun _ _ _ _ => ⟨_, rfl⟩
  hsw := fun _ _ _ _ => rfl
  hst := fun _ _ _ _ _ _ _ _ _ => rfl
  he := fun _ _ _ _ => rfl
  hpl := fun _ _ _ _ => rfl
  hargs := fun L fI cd cc A E us s1 mg mb m Q1 hok hm hl hs hn hg hb hbt h => PySem.ErrL.args_c rfl L fI cd cc A E s1 Q1 h
def d_ini_NoLife : HeM.IniD := ⟨"NoLife", "NoLife.__init__", defArgs s_NoLife_init, [PySem.ErrL.supS [.Constant (.str "no such life") 0 ⟨27, 25, 27, 39⟩] ⟨27, 8, 27, 13⟩ ⟨27, 8, 27, 15⟩ ⟨27, 8, 27, 24⟩ ⟨27, 8, 27, 40⟩ ⟨27, 8, 27, 40⟩, PySem.ErrL.stoS "name" ⟨28, 8, 28, 12⟩ ⟨28, 8, 28, 17⟩ ⟨28, 20, 28, 24⟩ ⟨28, 8, 28, 24⟩], defScope s_NoLife_init, none⟩
theorem w_NoPerson (P : Program) (w : World) : PySem.ErrL.SupW P w (defArgs s_NoPerson_init) (defScope s_NoPerson_init) "NoPerson.__init__" ["name"] (fun _ => True) (.Constant (.str "no such person") 0 ⟨32, 25, 32, 41⟩) [] ⟨32, 8, 32, 13⟩ ⟨32, 8, 32, 15⟩ ⟨32, 8, 32, 24⟩ ⟨32, 8, 32, 42⟩ ⟨32, 8, 32, 42⟩ where
  hk := rfl
  co := rfl
  gen := rfl
  ks := rfl
  kc := rfl
  kse := rfl
  kf := (List.forall_mem_cons.mpr ⟨rfl, (fun _ h => by cases h)⟩)
  cell := by decide +kernel
  par := ⟨_, rfl, rfl⟩
  hi := fun _ _ _ _ => rfl
  hev := fun _ _ _ _ => ⟨_, rfl⟩
  hsw := fun _ _ _ _ => rfl
  hst := fun _ _ _ _ _ _ _ _ _ => rfl
  he := fun _ _ _ _ => rfl
  hpl := fun _ _ _ _ => rfl
  hargs := fun L fI cd cc A E us s1 mg mb m Q1 hok hm hl hs hn hg hb hbt h => PySem.ErrL.args_c rfl L fI cd cc A E s1 Q1 h
def d_ini_NoPerson : HeM.IniD := ⟨"NoPerson", "NoPerson.__init__", defArgs s_NoPerson_init, [PySem.ErrL.supS [.Constant (.str "no such person") 0 ⟨32, 25, 32, 41⟩] ⟨32, 8, 32, 13⟩ ⟨32, 8, 32, 15⟩ ⟨32, 8, 32, 24⟩ ⟨32, 8, 32, 42⟩ ⟨32, 8, 32, 42⟩, PySem.ErrL.stoS "name" ⟨33, 8, 33, 12⟩ ⟨33, 8, 33, 17⟩ ⟨33, 20, 33, 24⟩ ⟨33, 8, 33, 24⟩], defScope s_NoPerson_init, none⟩
def faL : List He.Fa := [.free "len", .free "int", .free "str", .free "bool", .free "list", .free "tuple", .free "isinstance", .free "range", .free "all", .free "ValueError", .free "super", .free "max", .free "min", .free "sorted", .free "iter", .free "enumerate", .free "property", .str "LETTERS" "abcdefghijklmnopqrstuvwxyz", .int "MOST" (1000000), .int "WIDEST" (1000), .int "MOST_LIVES" (6), .int "MOST_YEAR" (1000000000), .int "MOST_ROWS" (200), .glo "KINDS", .glo "LENGTHS", .glo "DeedError", .glo "BadCustoms", .glo "BadLives", .glo "BadRecord", .glo "NoLife", .glo "NoPerson", .glo "Customs", .glo "Lives", .glo "Family", .glo "Record", .cls "Customs", .cls "Lives", .cls "Family", .cls "Record", .mkr "Customs", .mkr "Lives", .mkr "Family", .mkr "Record", .meth "Customs" "as_tuple", .meth "Customs" "__eq__", .meth "Lives" "has", .meth "Lives" "__eq__", .meth "Family" "fault", .meth "Family" "born_fault", .meth "Family" "wed_fault", .meth "Family" "add", .meth "Record" "has", .meth "Record" "birth", .meth "Record" "death", .meth "Record" "is_alive", .meth "Record" "parent", .meth "Record" "children", .meth "Record" "mates", .meth "Record" "mate", .meth "Record" "happened", .meth "Record" "last_death", .meth "Record" "__eq__", .meth "Record" "__len__", .meth "Record" "__iter__", .glo "is_whole", .glo "is_name", .glo "is_row", .glo "row_place", .glo "row_fault", .glo "record_fault", .glo "_law_facts", .glo "_law_digits", .glo "_law_next", .glo "_law_lives", .glo "_law_rows", .glo "_law_customs", .glo "_law_made", .glo "_law_place", .glo "_law_parts_ok", .glo "_law_row_fault", .glo "_law_fault", .glo "_law_shuffled", .glo "_law_told", .glo "law"]
def fnL : List He.DefD := [⟨("Customs", some "__init__"), "__init__", "Customs.__init__", defArgs s_Customs_init, defBody s_Customs_init, defScope s_Customs_init, [.int 1], [("years_after", .int 1), ("wed_age", .int 0), ("limit", .int 21)]⟩,
  ⟨("Lives", some "__init__"), "__init__", "Lives.__init__", defArgs s_Lives_init, defBody s_Lives_init, defScope s_Lives_init, [], []⟩,
  ⟨("Family", some "__init__"), "__init__", "Family.__init__", defArgs s_Family_init, defBody s_Family_init, defScope s_Family_init, [], []⟩,
  ⟨("Customs", some "as_tuple"), "as_tuple", "Customs.as_tuple", defArgs s_Customs_as_tuple, defBody s_Customs_as_tuple, defScope s_Customs_as_tuple, [], []⟩,
  ⟨("Customs", some "__eq__"), "__eq__", "Customs.__eq__", defArgs s_Customs_eq, defBody s_Customs_eq, defScope s_Customs_eq, [], []⟩,
  ⟨("Lives", some "has"), "has", "Lives.has", defArgs s_Lives_has, defBody s_Lives_has, defScope s_Lives_has, [], []⟩,
  ⟨("Lives", some "__eq__"), "__eq__", "Lives.__eq__", defArgs s_Lives_eq, defBody s_Lives_eq, defScope s_Lives_eq, [], []⟩,
  ⟨("Family", some "fault"), "fault", "Family.fault", defArgs s_Family_fault, defBody s_Family_fault, defScope s_Family_fault, [], []⟩,
  ⟨("Family", some "born_fault"), "born_fault", "Family.born_fault", defArgs s_Family_born_fault, defBody s_Family_born_fault, defScope s_Family_born_fault, [], []⟩,
  ⟨("Family", some "wed_fault"), "wed_fault", "Family.wed_fault", defArgs s_Family_wed_fault, defBody s_Family_wed_fault, defScope s_Family_wed_fault, [], []⟩,
  ⟨("Family", some "add"), "add", "Family.add", defArgs s_Family_add, defBody s_Family_add, defScope s_Family_add, [], []⟩,
  ⟨("Record", some "has"), "has", "Record.has", defArgs s_Record_has, defBody s_Record_has, defScope s_Record_has, [], []⟩,
  ⟨("Record", some "birth"), "birth", "Record.birth", defArgs s_Record_birth, defBody s_Record_birth, defScope s_Record_birth, [], []⟩,
  ⟨("Record", some "death"), "death", "Record.death", defArgs s_Record_death, defBody s_Record_death, defScope s_Record_death, [], []⟩,
  ⟨("Record", some "is_alive"), "is_alive", "Record.is_alive", defArgs s_Record_is_alive, defBody s_Record_is_alive, defScope s_Record_is_alive, [], []⟩,
  ⟨("Record", some "parent"), "parent", "Record.parent", defArgs s_Record_parent, defBody s_Record_parent, defScope s_Record_parent, [], []⟩,
  ⟨("Record", some "children"), "children", "Record.children", defArgs s_Record_children, defBody s_Record_children, defScope s_Record_children, [], []⟩,
  ⟨("Record", some "mates"), "mates", "Record.mates", defArgs s_Record_mates, defBody s_Record_mates, defScope s_Record_mates, [], []⟩,
  ⟨("Record", some "mate"), "mate", "Record.mate", defArgs s_Record_mate, defBody s_Record_mate, defScope s_Record_mate, [], []⟩,
  ⟨("Record", some "happened"), "happened", "Record.happened", defArgs s_Record_happened, defBody s_Record_happened, defScope s_Record_happened, [], []⟩,
  ⟨("Record", some "last_death"), "last_death", "Record.last_death", defArgs s_Record_last_death, defBody s_Record_last_death, defScope s_Record_last_death, [], []⟩,
  ⟨("Record", some "__eq__"), "__eq__", "Record.__eq__", defArgs s_Record_eq, defBody s_Record_eq, defScope s_Record_eq, [], []⟩,
  ⟨("Record", some "__len__"), "__len__", "Record.__len__", defArgs s_Record_len, defBody s_Record_len, defScope s_Record_len, [], []⟩,
  ⟨("Record", some "__iter__"), "__iter__", "Record.__iter__", defArgs s_Record_iter, defBody s_Record_iter, defScope s_Record_iter, [], []⟩,
  ⟨("is_whole", none), "is_whole", "is_whole", defArgs s_is_whole, defBody s_is_whole, defScope s_is_whole, [], []⟩,
  ⟨("is_name", none), "is_name", "is_name", defArgs s_is_name, defBody s_is_name, defScope s_is_name, [], []⟩,
  ⟨("is_row", none), "is_row", "is_row", defArgs s_is_row, defBody s_is_row, defScope s_is_row, [], []⟩,
  ⟨("row_place", none), "row_place", "row_place", defArgs s_row_place, defBody s_row_place, defScope s_row_place, [], []⟩,
  ⟨("row_fault", none), "row_fault", "row_fault", defArgs s_row_fault, defBody s_row_fault, defScope s_row_fault, [], []⟩,
  ⟨("record_fault", none), "record_fault", "record_fault", defArgs s_record_fault, defBody s_record_fault, defScope s_record_fault, [], []⟩,
  ⟨("_law_facts", none), "_law_facts", "_law_facts", defArgs s_facts, defBody s_facts, defScope s_facts, [], []⟩,
  ⟨("_law_digits", none), "_law_digits", "_law_digits", defArgs s_digits, defBody s_digits, defScope s_digits, [], []⟩,
  ⟨("_law_next", none), "_law_next", "_law_next", defArgs s_next, defBody s_next, defScope s_next, [], []⟩,
  ⟨("_law_lives", none), "_law_lives", "_law_lives", defArgs s_lives, defBody s_lives, defScope s_lives, [], []⟩,
  ⟨("_law_rows", none), "_law_rows", "_law_rows", defArgs s_rows, defBody s_rows, defScope s_rows, [], []⟩,
  ⟨("_law_customs", none), "_law_customs", "_law_customs", defArgs s_customs, defBody s_customs, defScope s_customs, [], []⟩,
  ⟨("_law_made", none), "_law_made", "_law_made", defArgs s_made, defBody s_made, defScope s_made, [], []⟩,
  ⟨("_law_place", none), "_law_place", "_law_place", defArgs s_place, defBody s_place, defScope s_place, [], []⟩,
  ⟨("_law_parts_ok", none), "_law_parts_ok", "_law_parts_ok", defArgs s_parts_ok, defBody s_parts_ok, defScope s_parts_ok, [], []⟩,
  ⟨("_law_row_fault", none), "_law_row_fault", "_law_row_fault", defArgs s_L_row_fault, defBody s_L_row_fault, defScope s_L_row_fault, [], []⟩,
  ⟨("_law_fault", none), "_law_fault", "_law_fault", defArgs s_fault, defBody s_fault, defScope s_fault, [], []⟩,
  ⟨("_law_shuffled", none), "_law_shuffled", "_law_shuffled", defArgs s_shuffled, defBody s_shuffled, defScope s_shuffled, [], []⟩,
  ⟨("_law_told", none), "_law_told", "_law_told", defArgs s_told, defBody s_told, defScope s_told, [], []⟩,
  ⟨("law", none), "law", "law", defArgs s_law, defBody s_law, defScope s_law, [], []⟩]
def iniL : List HeM.IniD := [d_ini_BadCustoms, d_ini_BadLives, d_ini_BadRecord, d_ini_NoLife, d_ini_NoPerson]
def prpL : List He.DefD := [⟨("Record", some "end"), "end", "Record.end", defArgs s_Record_end, defBody s_Record_end, defScope s_Record_end, [], []⟩,
  ⟨("Record", some "unborn"), "unborn", "Record.unborn", defArgs s_Record_unborn, defBody s_Record_unborn, defScope s_Record_unborn, [], []⟩]
def tsL : HeM.TabM := ([("LENGTHS", ["born", "wed", "happened", "died"])], [⟨("Record", some "__init__"), "__init__", "Record.__init__", defArgs s_Record_init, defBody s_Record_init, defScope s_Record_init, [], []⟩])
def exL : List (PySem.W.Frag → Bool) := [fun K => HeM.zB K,
  fun K => eqO (PySem.W.nsIn K cStatics "thirdparty.any") (some none),
  fun K => tyB K (ga K "KINDS"),
  fun K => He.tupB K "KINDS" [.str "born", .str "wed", .str "happened", .str "died"],
  fun K => He.valsB K (ga K "LENGTHS") [("born", .int 4), ("wed", .int 4), ("happened", .int 3), ("died", .int 3)],
  fun K => eqO (PySem.W.findIn K (.ref (ga K "BadCustoms")) "what") (some none),
  fun K => eqO (PySem.W.findIn K (.ref (ga K "BadLives")) "index") (some none),
  fun K => eqO (PySem.W.findIn K (.ref (ga K "BadLives")) "what") (some none),
  fun K => eqO (PySem.W.findIn K (.ref (ga K "BadRecord")) "index") (some none),
  fun K => eqO (PySem.W.findIn K (.ref (ga K "BadRecord")) "what") (some none),
  fun K => eqO (PySem.W.findIn K (.ref (ga K "NoLife")) "name") (some none),
  fun K => eqO (PySem.W.findIn K (.ref (ga K "NoPerson")) "name") (some none),
  fun K => HeM.xcB K (ga K "NoLife"),
  fun K => HeM.xcB K (ga K "NoPerson"),
  fun K => decide (PySem.W.exmOne K (.ref (ga K "NoLife")) (.ref (ga K "NoLife")) = some true),
  fun K => decide (PySem.W.exmOne K (.ref (ga K "NoPerson")) (.ref (ga K "NoPerson")) = some true),
  fun K => (["parent_age", "years_after", "wed_age", "limit"] : List Str).all fun f => eqO (PySem.W.findIn K (.ref (ga K "Customs")) f) (some none),
  fun K => eqO (PySem.W.findIn K (.ref (ga K "Customs")) "__class__") (some (some (.builtin "object.__class__"))),
  fun K => decide (PySem.W.mroIn K (ga K "Customs") (.type "object") = some true),
  fun K => (["customs", "rows", "ages", "parents"] : List Str).all fun f => eqO (PySem.W.findIn K (.ref (ga K "Lives")) f) (some none),
  fun K => eqO (PySem.W.findIn K (.ref (ga K "Lives")) "__class__") (some (some (.builtin "object.__class__"))),
  fun K => decide (PySem.W.mroIn K (ga K "Lives") (.type "object") = some true),
  fun K => (["lives", "customs", "births", "deaths", "parents", "weddings", "facts", "order", "last", "many"] : List Str).all fun f => eqO (PySem.W.findIn K (.ref (ga K "Family")) f) (some none),
  fun K => eqO (PySem.W.findIn K (.ref (ga K "Family")) "__class__") (some (some (.builtin "object.__class__"))),
  fun K => decide (PySem.W.mroIn K (ga K "Family") (.type "object") = some true),
  fun K => (["lives", "customs", "rows", "births", "deaths", "parents", "weddings", "facts", "persons"] : List Str).all fun f => eqO (PySem.W.findIn K (.ref (ga K "Record")) f) (some none),
  fun K => eqO (PySem.W.findIn K (.ref (ga K "Record")) "__class__") (some (some (.builtin "object.__class__"))),
  fun K => decide (PySem.W.mroIn K (ga K "Record") (.type "object") = some true),
  fun K => (["NoneType", "bool", "int", "str", "list", "tuple"] : List String).all fun n => decide (PySem.W.kitOne K (.type n) (.ref (ga K "Customs")) = some false),
  fun K => (["NoneType", "bool", "int", "str", "list", "tuple"] : List String).all fun n => PySem.W.notFirst K (ga K "Customs") (.type n),
  fun K => PySem.W.notFirst K (ga K "Customs") (.ref (ga K "Customs")),
  fun K => decide (PySem.W.kitOne K (.ref (ga K "Customs")) (.ref (ga K "Customs")) = some true),
  fun K => (["NoneType", "bool", "int", "str", "list", "tuple"] : List String).all fun n => decide (PySem.W.kitOne K (.type n) (.ref (ga K "Lives")) = some false),
  fun K => (["NoneType", "bool", "int", "str", "list", "tuple"] : List String).all fun n => PySem.W.notFirst K (ga K "Lives") (.type n),
  fun K => PySem.W.notFirst K (ga K "Lives") (.ref (ga K "Lives")),
  fun K => decide (PySem.W.kitOne K (.ref (ga K "Lives")) (.ref (ga K "Lives")) = some true),
  fun K => (["NoneType", "bool", "int", "str", "list", "tuple"] : List String).all fun n => decide (PySem.W.kitOne K (.type n) (.ref (ga K "Record")) = some false),
  fun K => (["NoneType", "bool", "int", "str", "list", "tuple"] : List String).all fun n => PySem.W.notFirst K (ga K "Record") (.type n),
  fun K => PySem.W.notFirst K (ga K "Record") (.ref (ga K "Record")),
  fun K => decide (PySem.W.kitOne K (.ref (ga K "Record")) (.ref (ga K "Record")) = some true),
  fun K => HeM.xcB K (ga K "BadRecord"),
  fun K => decide (PySem.W.exmOne K (.ref (ga K "BadRecord")) (.ref (ga K "BadRecord")) = some true)]
def exB (K : PySem.W.Frag) : Bool := exL.all fun b => b K
abbrev Rw : PySem.W.OpenRow := PySem.W.OpenLaw.row PySem.Challenge.rw_lastlife_k06_whole_facts_have_one_order
def lawFile : Str := Rw.prog.main.file
abbrev hkM : PySem.W.Hook := HeM.hookM lawFile 5 faL fnL iniL prpL tsL exB
def obM (s : PySem.W.SharedT) : HeM.AlM := HeM.obsMG lawFile 5 faL fnL iniL prpL tsL exB (HandSHeadRun.getT s)
theorem obM_eq (s : PySem.W.SharedT) : obM s = hkM.obs s.abs := HeM.obsMG_eq (HandSHeadRun.getT_eq s)
def looseL : List PySem.Str := (["_wall", "DeedError", "BadCustoms", "BadLives", "BadRecord", "NoLife", "NoPerson", "MOST_YEAR", "LATE", "MOST", "LETTERS", "is_whole", "is_name", "KINDS", "LENGTHS", "MOST_ROWS", "is_row", "row_place", "Family", "WIDEST", "Customs", "MOST_LIVES", "row_fault", "Lives", "record_fault", "Record", "_law_facts", "_law_digits", "_law_next", "_law_lives"] : List PySem.Str) ++ (["_law_rows", "_law_customs", "_law_made", "_law_place", "_law_parts_ok", "_law_row_fault", "_law_fault", "_law_shuffled", "_law_told"] : List PySem.Str)
def wF (w : World) (b : Bool) : World := { w with params := { w.params with followText := fun r => bif r == "special-get-raises" then b else w.params.followText r } }
theorem wF_eq (w : World) : wF w (w.params.followText "special-get-raises") = w := by
  have e : (fun r => bif r == "special-get-raises" then w.params.followText "special-get-raises" else w.params.followText r) = w.params.followText := by
    funext r
    cases h : r == "special-get-raises" with
    | true => rw [show r = "special-get-raises" from beq_iff_eq.mp h]; rfl
    | false => rfl
  unfold wF
  rw [e]
theorem runT (w : World) : HandSHeadRun.RunEq Rw (PySem.W.view Rw.prog [46]) hkM obM 12000 looseL (wF w true) := by
  intro os
  kernel_rfl
theorem runF (w : World) : HandSHeadRun.RunEq Rw (PySem.W.view Rw.prog [46]) hkM obM 12000 looseL (wF w false) := by
  intro os
  kernel_rfl
theorem runB (w : World) : ∀ b : Bool, HandSHeadRun.RunEq Rw (PySem.W.view Rw.prog [46]) hkM obM 12000 looseL (wF w b)
  | true => runT w
  | false => runF w
theorem runM (w : World) : HandSHeadRun.RunEq Rw (PySem.W.view Rw.prog [46]) hkM obM 12000 looseL w := wF_eq w ▸ runB w _

end My
set_option Elab.async false
set_option linter.all false
set_option maxRecDepth 100000
set_option maxHeartbeats 1000000
namespace My
open PySem L2 Dw
open C8 (pss_cut tCut)
/-- the first wrong value of customs -/
def cuWord (a b c d : V) : Option Str :=
  if isW 1 1000 a = false then some "parent_age" else if isW 0 1000 b = false then some "years_after" else if isW 0 1000 c = false then some "wed_age" else if isW 0 1000000 d = false then some "limit" else none
def cuF (a b c d : V) : List (Str × V) := [("parent_age", a), ("years_after", b), ("wed_age", c), ("limit", d)]
def spCu (K : PySem.W.Frag) (C CB : Addr) : Sp := fun vs H Q E => ∃ (p dx : Addr) (a b c d : V) (n1 n2 n3 n4 : String), vs = [.ref p, a, b, c, d] ∧ H p = some (.ins C dx []) ∧ Dm K H a n1 ∧ Dm K H b n2 ∧ Dm K H c n3 ∧ Dm K H d n4 ∧
  (∀ s, cuWord a b c d = some s → ∀ e, H e = none → E (.ref CB) (some e) (upd H e (.xd [("what", .str s)]))) ∧ (cuWord a b c d = none → Q .non (upd H p (.ins C dx (cuF a b c d))))
section
variable {P : Program} {w : World} {K : PySem.W.Frag} {mg : Str → Option Value} {base : Heap} {cl : String → Addr}
theorem ok_Customs_init {f : Addr} {fd : FuncData} (F : FunD K "__init__" "Customs.__init__" (defArgs s_Customs_init) (defBody s_Customs_init) (defScope s_Customs_init) [.int 1] [("years_after", .int 1), ("wed_age", .int 0), ("limit", .int 21)] f fd) (T : Txt P w K mg cl) :
    FnOk P w K mg base (L2.CX P w) 4 f fd ["self", "parent_age", "years_after", "wed_age", "limit"] (spCu K (cl "Customs") (cl "BadCustoms")) := by
  refine F.ok sc_Customs_init (fun vs H Q E h => ?_) (fun cdv A outer s H vs Q E hr h => ?_)
  · obtain ⟨p, dx, a, b, c, d, n1, n2, n3, n4, rfl, _⟩ := h
    rfl
  · obtain ⟨p, dx, a, b, c, d, n1, n2, n3, n4, rfl, hp, d1, d2, d3, d4, ke, kn⟩ := h
    have hu := hu_of hr
    have C_is_whole : Cal P w K mg base CX0 1 "is_whole" _ (spW K) := cal_is_whole T
    refine ⟨_, (pss_cons (ps_if (pt_not (pt_val (pe_cal C_is_whole (hr.mono (by decide)) (pa_cons (pv 1) (pa_cons pe_int (pa_cons (pe_gl T.c_WIDEST) pa_nil))))))
          (pss_one (ps_raiseErr (k := 1) (okV := fun _ => True) rfl T.e_BadCustoms (fun _ _ _ _ => trivial) T.m_BadCustoms (hr.mono (by decide)) (takes_of rfl rfl rfl rfl) (by exact (pa_cons pe_str pa_nil)))) pss_nil)
        (pss_cons (ps_if (pt_not (pt_val (pe_cal C_is_whole (hr.mono (by decide)) (pa_cons (pv 2) (pa_cons pe_int (pa_cons (pe_gl T.c_WIDEST) pa_nil))))))
          (pss_one (ps_raiseErr (k := 1) (okV := fun _ => True) rfl T.e_BadCustoms (fun _ _ _ _ => trivial) T.m_BadCustoms (hr.mono (by decide)) (takes_of rfl rfl rfl rfl) (by exact (pa_cons pe_str pa_nil)))) pss_nil)
        (pss_cons (ps_if (pt_not (pt_val (pe_cal C_is_whole (hr.mono (by decide)) (pa_cons (pv 3) (pa_cons pe_int (pa_cons (pe_gl T.c_WIDEST) pa_nil))))))
          (pss_one (ps_raiseErr (k := 1) (okV := fun _ => True) rfl T.e_BadCustoms (fun _ _ _ _ => trivial) T.m_BadCustoms (hr.mono (by decide)) (takes_of rfl rfl rfl rfl) (by exact (pa_cons pe_str pa_nil)))) pss_nil)
        (pss_cons (ps_if (pt_not (pt_val (pe_cal C_is_whole (hr.mono (by decide)) (pa_cons (pv 4) (pa_cons pe_int (pa_cons (pe_gl T.c_MOST) pa_nil))))))
          (pss_one (ps_raiseErr (k := 1) (okV := fun _ => True) rfl T.e_BadCustoms (fun _ _ _ _ => trivial) T.m_BadCustoms (hr.mono (by decide)) (takes_of rfl rfl rfl rfl) (by exact (pa_cons pe_str pa_nil)))) pss_nil)
        (pss_cons (ps_fld (pv 0) (pv 1) rfl)
        (pss_cons (ps_fld (pv 0) (pv 2) rfl)
        (pss_cons (ps_fld (pv 0) (pv 3) rfl)
        (pss_one (ps_fld (pv 0) (pv 4) rfl))))))))), ?_⟩
    have bad : ∀ s (H' : Hp), cuWord a b c d = some s → H' = H → ∀ e, H' e = none → E (.ref (cl "BadCustoms")) (some e) (upd H' e (.xd (List.zip ["what"] [V.str s]))) := fun s H' q1 q2 e he => by subst q2; exact ke s q1 e he
    refine ⟨_, rfl, _, _, _, _, rfl, d1, _, rfl, ?_⟩
    refine ite2 (fun h => ?_) (fun h => ?_)
    · have g1 : isW 1 1000 a = false := by simpa using h
      exact ⟨rfl, trivial, bad _ _ (if_pos g1) rfl⟩
    have g1 : ¬ isW 1 1000 a = false := by simpa using h
    refine ⟨_, rfl, _, _, _, _, rfl, d2, _, rfl, ?_⟩
    refine ite2 (fun h => ?_) (fun h => ?_)
    · have g2 : isW 0 1000 b = false := by simpa using h
      exact ⟨rfl, trivial, bad _ _ (by unfold cuWord; rw [if_neg g1, if_pos g2]) rfl⟩
    have g2 : ¬ isW 0 1000 b = false := by simpa using h
    refine ⟨_, rfl, _, _, _, _, rfl, d3, _, rfl, ?_⟩
    refine ite2 (fun h => ?_) (fun h => ?_)
    · have g3 : isW 0 1000 c = false := by simpa using h
      exact ⟨rfl, trivial, bad _ _ (by unfold cuWord; rw [if_neg g1, if_neg g2, if_pos g3]) rfl⟩
    have g3 : ¬ isW 0 1000 c = false := by simpa using h
    refine ⟨_, rfl, _, _, _, _, rfl, d4, _, rfl, ?_⟩
    refine ite2 (fun h => ?_) (fun h => ?_)
    · have g4 : isW 0 1000000 d = false := by simpa using h
      exact ⟨rfl, trivial, bad _ _ (by unfold cuWord; rw [if_neg g1, if_neg g2, if_neg g3, if_pos g4]) rfl⟩
    have g4 : ¬ isW 0 1000000 d = false := by simpa using h
    refine ⟨_, rfl, _, rfl, p, _, dx, _, rfl, hp, T.cl_Customs, T.na_Customs _ (by decide), (by show 0 < 1000; decide), ?_⟩
    refine ⟨_, rfl, _, rfl, p, _, dx, _, rfl, upd_same, T.cl_Customs, T.na_Customs _ (by decide), (by show 1 < 1000; decide), ?_⟩
    refine ⟨_, rfl, _, rfl, p, _, dx, _, rfl, upd_same, T.cl_Customs, T.na_Customs _ (by decide), (by show 2 < 1000; decide), ?_⟩
    refine ⟨_, rfl, _, rfl, p, _, dx, _, rfl, upd_same, T.cl_Customs, T.na_Customs _ (by decide), (by show 3 < 1000; decide), ?_⟩
    have q := kn (by unfold cuWord; rw [if_neg g1, if_neg g2, if_neg g3, if_neg g4])
    rw [upd_upd, upd_upd, upd_upd]
    exact q
end
/-- customs stand at p -/
def CuAt (C : Addr) (H : Hp) (p : Addr) (a b c d : V) : Prop := ∃ dx, H p = some (.ins C dx (cuF a b c d))
end My
set_option Elab.async false
set_option linter.all false
set_option maxRecDepth 100000
set_option maxHeartbeats 1000000
namespace My
open PySem L2 Dw
open C8 (pss_cut tCut)
/-- a row's data: a list or tuple of plain things, or a text -/
inductive Rwd where
  | sq (xs : List V)
  | tx (x : Str)
/-- plain, its text short -/
def Sc : V → Prop
  | .non => True
  | .bl _ => True
  | .int _ => True
  | .str x => x.length ≤ 20 ∧ PyData.strOk x = true ∧ x ≠ "nobodyis"
  | _ => False
theorem Sc.ok {v : V} (h : Sc v) : okV v = true := by
  cases v with
  | str x => exact h.2.1
  | _ => first | rfl | exact h.elim
theorem Sc.dm {K : PySem.W.Frag} {H : Hp} {v : V} (h : Sc v) : ∃ n, Dm K H v n ∧ n ≠ "list" ∧ n ≠ "tuple" := by
  cases v with
  | non => exact ⟨_, .non, by decide, by decide⟩
  | bl b => exact ⟨_, .bl b, by decide, by decide⟩
  | int i => exact ⟨_, .int i, by decide, by decide⟩
  | str x => exact ⟨_, .str x (Nat.le_of_lt (small1000 (Nat.le_trans h.1 (by decide)))), by decide, by decide⟩
  | _ => exact h.elim
def Rok : Rwd → Prop
  | .sq xs => xs.length ≤ 5 ∧ ∀ x ∈ xs, Sc x
  | .tx x => x.length ≤ 30
abbrev Bf := List (Str × Int)
def ageOf (bf : Bf) : V → Option Int
  | .str s => bf.lookup s
  | _ => none
def iV : V → Int
  | .int i => i
  | _ => 0
/-- the first word that applies to a row behind rows of these names and ages -/
def rowP (c : Int) (a : V) : Option Int → Option Str
  | none => some "parent"
  | some e => if e - iV a < c then some "young" else none
def rowA (c : Int) (bf : Bf) (a p : V) : Option Str :=
  if isW 0 1000000 a = false then some "age" else if p = .non then none else rowP c a (ageOf bf p)
def rowW (c : Int) (bf : Bf) : Rwd → Option Str
  | .sq [n, a, p] => if isN n = false then some "name" else if (ageOf bf n).isSome = true then some "double" else rowA c bf a p
  | _ => some "row"
def optV : Option Str → V
  | some s => .str s
  | none => .non
/-- names and ages as a dict's entries -/
def bfK (bf : Bf) : List (Key × V) := bf.map fun q => (.inr q.1, .int q.2)
theorem valV_bf (s : Str) : ∀ bf : Bf, valV (bfK bf) (.inr s) = (bf.lookup s).map V.int
  | [] => rfl
  | (t, a) :: bf => by
    have ih := valV_bf s bf
    by_cases h : t = s
    · subst h
      rw [show valV (bfK ((t, a) :: bf)) (.inr t) = some (.int a) from valV_pos (p := ((.inr t : Key), V.int a)) rfl, List.lookup_cons_self]
      rfl
    · rw [show valV (bfK ((t, a) :: bf)) (.inr s) = valV (bfK bf) (.inr s) from valV_neg (p := ((.inr t : Key), V.int a)) (fun e => h (Sum.inr.inj e)), ih, List.lookup_cons]
      rw [show (s == t) = false from beq_eq_false_iff_ne.mpr (Ne.symm h)]
theorem isN_str {v : V} (h : isN v = true) : ∃ s, v = .str s := by
  cases v with
  | str s => exact ⟨s, rfl⟩
  | _ => cases h
theorem isW_int {lo hi : Int} {v : V} (h : isW lo hi v = true) : ∃ i, v = .int i ∧ lo ≤ i ∧ i ≤ hi := by
  cases v with
  | int i =>
    obtain ⟨h1, h2⟩ := Bool.and_eq_true_iff.mp (show (decide (lo ≤ i) && decide (i ≤ hi)) = true from h)
    exact ⟨i, rfl, of_decide_eq_true h1, of_decide_eq_true h2⟩
  | _ => cases h
theorem look_mem {s : Str} {i : Int} : ∀ {bf : Bf}, bf.lookup s = some i → ∃ q ∈ bf, q.1 = s
  | [], h => by cases h
  | (t, a) :: bf, h => by
    rw [List.lookup_cons] at h
    split at h
    · rename_i e
      exact ⟨_, List.mem_cons_self, (beq_iff_eq.mp e).symm⟩
    · obtain ⟨q, h1, h2⟩ := look_mem h
      exact ⟨q, List.mem_cons_of_mem _ h1, h2⟩
/-- at v a list or a tuple of these, or the text -/
def RowAt2 (H : Hp) (v : V) : Rwd → Prop
  | .sq xs => ∃ b, v = .ref b ∧ (H b = some (.lst xs) ∨ H b = some (.tup xs))
  | .tx x => v = .str x
theorem RowAt2.same {H H' : Hp} {v : V} {r : Rwd} (h : RowAt2 H v r) (S : Same H H') : RowAt2 H' v r := by
  cases r with
  | sq xs =>
    obtain ⟨b, e, hb⟩ := h
    exact ⟨b, e, hb.imp (S _ _) (S _ _)⟩
  | tx x => exact h
def isSq : Rwd → Bool
  | .sq _ => true
  | .tx _ => false
theorem isLT {K : PySem.W.Frag} {H : Hp} {v : V} {n : String} (dm : Dm K H v n) : PySem.W.kitAny K (.type n) [.type "list", .type "tuple"] = some (decide (n = "list") || decide (n = "tuple")) := by
  cases dm <;> first | (exact kitAny_cons (b := false) (kit_ty (by decide +kernel)) (fun _ => kitAny_cons (b := false) (kit_ty (by decide +kernel)) (fun _ => kitAny_nil) (fun h => nomatch h)) (fun h => nomatch h)) | (exact kitAny_cons (b := true) (kit_ty (by decide +kernel)) (fun h => nomatch h) (fun _ => rfl)) | (exact kitAny_cons (b := false) (kit_ty (by decide +kernel)) (fun _ => kitAny_cons (b := true) (kit_ty (by decide +kernel)) (fun h => nomatch h) (fun _ => rfl)) (fun h => nomatch h))
theorem isLT_row {K : PySem.W.Frag} {H : Hp} {v : V} {r : Rwd} (h : RowAt2 H v r) (ok : Rok r) : ∃ n, Dm K H v n ∧ PySem.W.kitAny K (.type n) [.type "list", .type "tuple"] = some (isSq r) := by
  cases r with
  | sq xs =>
    obtain ⟨b, rfl, hb | hb⟩ := h
    · exact ⟨_, .lst hb, isLT (K := K) (H := H) (.lst hb)⟩
    · exact ⟨_, .tup hb, isLT (K := K) (H := H) (.tup hb)⟩
  | tx x =>
    obtain rfl : v = .str x := h
    have hx := Nat.le_of_lt (small1000 (Nat.le_trans (show x.length ≤ 30 from ok) (by decide)))
    exact ⟨_, .str x hx, isLT (K := K) (H := H) (.str x hx)⟩
theorem gOr {K : PySem.W.Frag} {n : Nat} {t : TGs} {b : Addr} {xs : List V} {σ : St} {H : Hp} {Q : St → Hp → Prop} (hb : H b = some (.lst xs) ∨ H b = some (.tup xs)) (hl : xs.length = n) (k : t xs σ H Q) : gTup K n t (.ref b) σ H Q ∨ gLst K n t (.ref b) σ H Q :=
  hb.elim (fun h => .inr ⟨b, xs, rfl, SqL.of h, hl, k⟩) fun h => .inl ⟨b, xs, rfl, SqT.of h, hl, k⟩
/-- row_fault -/
def spRF (C : Addr) : Sp := fun vs H Q _ => ∃ (v : V) (cu ad : Addr) (r : Rwd) (c0 : Int) (c1 c2 c3 : V) (bf : Bf), vs = [v, .ref cu, .ref ad] ∧ RowAt2 H v r ∧ Rok r ∧ CuAt C H cu (.int c0) c1 c2 c3 ∧ H ad = some (.dK (bfK bf)) ∧ (∀ q ∈ bf, isN (.str q.1) = true) ∧
  ∀ H', Same H H' → Q (optV (rowW c0 bf r)) H'
section
variable {P : Program} {w : World} {K : PySem.W.Frag} {mg : Str → Option Value} {base : Heap} {cl : String → Addr}
theorem ok_row_fault {f : Addr} {fd : FuncData} (F : Fun K "row_fault" "row_fault" s_row_fault f fd) (T : Txt P w K mg cl) : FnOk P w K mg base CX0 2 f fd ["row", "customs", "ages"] (spRF (cl "Customs")) := by
  refine F.ok sc_row_fault (fun vs H Q E h => ?_) (fun cdv A outer s H vs Q E hr h => ?_)
  · obtain ⟨v, cu, ad, r, c0, c1, c2, c3, bf, rfl, _⟩ := h
    rfl
  · obtain ⟨v, cu, ad, r, c0, c1, c2, c3, bf, rfl, hv, ok, hc, had, hbf, k⟩ := h
    have hu := hu_of hr
    have C_is_whole : Cal P w K mg base CX0 1 "is_whole" _ (spW K) := cal_is_whole T
    have C_is_name : Cal P w K mg base CX0 1 "is_name" _ (spN K) := cal_is_name T
    refine ⟨_, (pss_cons (ps_if (PW.pt (pw_or (pt_not (pt_val (pe_callB call_isiT (by rfl) T.n_isinstance (by decide +kernel) (pa_cons (pv 0) (pa_cons (pe_tup (pa_cons (pe_ty "list" T.n_list) (pa_cons (pe_ty "tuple" T.n_tuple) pa_nil))) pa_nil))))) (pw_or1 (pt_cmpR op_ne (pe_callB call_len_seq (by rfl) T.n_len PySem.boot_len (pa_cons (pv 0) pa_nil)) pe_int (nomark _)))))
          (pss_one (ps_ret pe_str)) pss_nil)
        (pss_cons (ps_asg (pv 0) (pg_or (pg_tup rfl (pgs_cons (pg_name (i := 3) sc_row_fault.nd rfl (Or.inl rfl)) (pgs_cons (pg_name (i := 4) sc_row_fault.nd rfl (Or.inl rfl)) (pgs_cons (pg_name (i := 5) sc_row_fault.nd rfl (Or.inl rfl)) pgs_nil)))) (pg_lst rfl (pgs_cons (pg_name (i := 3) sc_row_fault.nd rfl (Or.inl rfl)) (pgs_cons (pg_name (i := 4) sc_row_fault.nd rfl (Or.inl rfl)) (pgs_cons (pg_name (i := 5) sc_row_fault.nd rfl (Or.inl rfl)) pgs_nil))))))
        (pss_cons (ps_if (pt_not (pt_val (pe_cal C_is_name (hr.mono (by decide)) (pa_cons (pv 3) pa_nil))))
          (pss_one (ps_ret pe_str)) pss_nil)
        (pss_cons (ps_if (pt_cmp (pc_din hu (pv 3) (pv 2)))
          (pss_one (ps_ret pe_str)) pss_nil)
        (pss_cons (ps_if (pt_not (pt_val (pe_cal C_is_whole (hr.mono (by decide)) (pa_cons (pv 4) (pa_cons pe_int (pa_cons (pe_gl T.c_MOST) pa_nil))))))
          (pss_one (ps_ret pe_str)) pss_nil)
        (pss_cons (ps_if (pt_cmpR op_isN (pv 5) pe_non (nomark _))
          (pss_one (ps_ret pe_non)) pss_nil)
        (pss_cons (ps_if (PW.pt (pw_or (pt_not (pt_val (pe_cal C_is_name (hr.mono (by decide)) (pa_cons (pv 5) pa_nil)))) (pw_or1 (pt_cmp (pc_dnotin hu (pv 5) (pv 2))))))
          (pss_one (ps_ret pe_str)) pss_nil)
        (pss_cons (ps_if (pt_cmpR op_lt (pe_op op_sub (pe_dget hu (pv 2) (pv 5) (fun _ _ => rfl)) (pv 4)) (pe_fld (pv 1) rfl) (nomark _))
          (pss_one (ps_ret pe_str)) pss_nil)
        (pss_one (ps_ret pe_non)))))))))), ?_⟩
    refine ⟨_, rfl, by show 2 ≤ sizeLine; decide, fun tp htp => ?_⟩
    have S0 := sNew (o := .tup [.ty "list", .ty "tuple"]) htp
    obtain ⟨nv, dv, ka⟩ := isLT_row (K := K) (hv.same S0) ok
    refine ⟨v, tp, _, .type nv, _, _, rfl, upd_same, .cons (.ty "list") (.cons (.ty "tuple") .nil), dv.ty, ka, _, rfl, ?_⟩
    cases r with
    | tx x => exact iteT (iteT (k _ S0))
    | sq xs =>
      refine iteF ?_
      obtain ⟨b, rfl, hb⟩ := hv.same S0
      refine ⟨_, rfl, b, xs, rfl, hb.imp SqL.of SqT.of, rfl, _, rfl, ?_⟩
      match xs, ok with
      | [n, a, p], ok =>
        refine iteF ?_
        obtain ⟨tn, dn, _⟩ := (ok.2 n (by simp)).dm (K := K) (H := upd H tp (.tup [.ty "list", .ty "tuple"]))
        refine ⟨_, rfl, gOr hb rfl ⟨_, _, rfl, _, _, rfl, _, _, rfl, rfl, ?_⟩⟩
        refine ⟨_, rfl, n, tn, rfl, dn, fun H1 S1 => ⟨_, rfl, ?_⟩⟩
        have S1 := S0.trans S1
        have fin : ∀ H', Same H H' → ∀ o, rowW c0 bf (.sq [n, a, p]) = o → Q (optV o) H' := fun H' S' o e => by rw [← e]; exact k H' S'
        refine ite2 (fun g => ?_) (fun g => ?_)
        · exact fin _ S1 (some "name") (if_pos (by simpa using g))
        have g1 : isN n = true := by simpa using g
        have q1 : ¬ isN n = false := by rw [g1]; decide
        obtain ⟨sn, rfl⟩ := isN_str g1
        refine ⟨_, rfl, _, rfl, ad, _, rfl, DGet.k (k := .inr sn) (S1 _ _ had), _, rfl, ?_⟩
        rw [valV_bf]
        refine ite2 (fun g => ?_) (fun g => ?_)
        · refine fin _ S1 (some "double") ?_
          show (if isN (.str sn) = false then _ else if (ageOf bf (.str sn)).isSome = true then _ else _) = _
          rw [if_neg q1, if_pos (by simpa [ageOf] using g)]
        have q2 : ¬ (ageOf bf (.str sn)).isSome = true := by simpa [ageOf] using g
        obtain ⟨ta, da, _⟩ := (ok.2 a (by simp)).dm (K := K) (H := H1)
        refine ⟨_, rfl, _, _, _, _, rfl, da, _, rfl, ?_⟩
        have w1 : rowW c0 bf (.sq [.str sn, a, p]) = rowA c0 bf a p := by
          show (if isN (.str sn) = false then _ else if (ageOf bf (.str sn)).isSome = true then _ else _) = _
          rw [if_neg q1, if_neg q2]
        refine ite2 (fun g => ?_) (fun g => ?_)
        · exact fin _ S1 (some "age") (by rw [w1]; exact if_pos (by simpa using g))
        have g3 : isW 0 1000000 a = true := by simpa using g
        obtain ⟨ia, rfl, _⟩ := isW_int g3
        rw [show rowA c0 bf (.int ia) p = if p = .non then none else rowP c0 (.int ia) (ageOf bf p) from if_neg (by rw [g3]; decide)] at w1
        refine ⟨_, rfl, rfl, _, rfl, ?_⟩
        refine ite2 (fun g => ?_) (fun g => ?_)
        · exact fin _ S1 none (by rw [w1, if_pos (of_decide_eq_true g)])
        rw [if_neg (fun e => g (decide_eq_true e))] at w1
        obtain ⟨tp', dp, _⟩ := (ok.2 p (by simp)).dm (K := K) (H := H1)
        refine ⟨_, rfl, p, tp', rfl, dp, fun H2 S2 => ⟨_, rfl, ?_⟩⟩
        have S2 := S1.trans S2
        refine ite2 (fun g => ?_) (fun g => ?_)
        · refine iteT (fin _ S2 (some "parent") ?_)
          have g4 : isN p = false := by simpa using g
          rw [w1]
          have e0 : ageOf bf p = none := by
            cases p with
            | str s =>
              cases e : bf.lookup s with
              | none => exact e
              | some i =>
                obtain ⟨q, hq, rfl⟩ := look_mem e
                rw [hbf q hq] at g4
                cases g4
            | _ => rfl
          rw [e0]
          rfl
        have g4 : isN p = true := by simpa using g
        obtain ⟨s, rfl⟩ := isN_str g4
        refine ⟨_, rfl, _, rfl, ad, _, rfl, DGet.k (k := .inr s) (S2 _ _ had), _, rfl, ?_⟩
        rw [valV_bf]
        cases e : bf.lookup s with
        | none =>
          refine iteT (fin _ S2 (some "parent") ?_)
          rw [w1, show ageOf bf (.str s) = none from e]
          rfl
        | some i =>
          refine iteF ?_
          rw [show ageOf bf (.str s) = some i from e] at w1
          obtain ⟨dx, hc⟩ := hc
          have dg : DGet H2 ad (.str s) (some (.int i)) := by
            have q := DGet.k (k := .inr s) (S2 _ _ had)
            rw [valV_bf, e] at q
            exact q
          refine ⟨_, rfl, _, rfl, ad, _, rfl, dg, _, rfl, _, _, rfl, rfl, _, rfl, cu, _, dx, _, _, rfl, S2 _ _ hc, T.cl_Customs, T.na_Customs _ (by decide), rfl, _, _, rfl, rfl, _, rfl, ?_⟩
          refine ite2 (fun g => ?_) (fun g => ?_)
          · exact fin _ S2 (some "young") (by rw [w1]; exact if_pos (of_decide_eq_true g))
          · exact fin _ S2 none (by rw [w1]; exact if_neg (fun z => g (decide_eq_true z)))
      | [], ok => exact iteT (k _ S0)
      | [_], ok => exact iteT (k _ S0)
      | [_, _], ok => exact iteT (k _ S0)
      | _ :: _ :: _ :: _ :: ys, ok =>
        refine ite2 (fun _ => k _ S0) (fun g => ?_)
        exfalso
        simp at g
        omega
theorem cal_row_fault (T : Txt P w K mg cl) : Cal P w K mg base CX0 2 "row_fault" ["row", "customs", "ages"] (spRF (cl "Customs")) := by
  obtain ⟨f, fd, F, m⟩ := T.d_row_fault
  exact ⟨f, fd, ok_row_fault F T, m, F.kp, F.binds fun _ _ _ _ _ _ us hl => match us, hl with | [_, _, _], _ => rfl⟩
end
end My
set_option Elab.async false
set_option linter.all false
set_option maxRecDepth 100000
set_option maxHeartbeats 1000000
namespace My
open PySem L2 Dw
open C8 (pss_cut tCut)
/-- at v a list of these, or the text -/
def RowAt (H : Hp) (v : V) : Rwd → Prop
  | .sq xs => ∃ b, v = .ref b ∧ H b = some (.lst xs)
  | .tx x => v = .str x
theorem RowAt.two {H : Hp} {v : V} {r : Rwd} (h : RowAt H v r) : RowAt2 H v r := by
  cases r with
  | sq xs => obtain ⟨b, e, hb⟩ := h; exact ⟨b, e, .inl hb⟩
  | tx x => exact h
theorem RowAt.same {H H' : Hp} {v : V} {r : Rwd} (h : RowAt H v r) (S : Same H H') : RowAt H' v r := by
  cases r with
  | sq xs => obtain ⟨b, e, hb⟩ := h; exact ⟨b, e, S _ _ hb⟩
  | tx x => exact h
theorem rowW_none {c : Int} {bf : Bf} {r : Rwd} (h : rowW c bf r = none) : ∃ (n : Str) (a : Int) (p : V), r = .sq [.str n, .int a, p] ∧ isN (.str n) = true ∧ bf.lookup n = none ∧ 0 ≤ a ∧ a ≤ 1000000 ∧ (p = .non ∨ ∃ s e, p = .str s ∧ bf.lookup s = some e ∧ ¬ e - a < c) := by
  match r, h with
  | .sq [n, a, p], h =>
    have hh : (if isN n = false then some ("name" : Str) else if (ageOf bf n).isSome = true then some ("double" : Str) else rowA c bf a p) = none := h
    clear h
    by_cases h1 : isN n = false
    · rw [if_pos h1] at hh
      cases hh
    rw [if_neg h1] at hh
    by_cases h2 : (ageOf bf n).isSome = true
    · rw [if_pos h2] at hh
      cases hh
    rw [if_neg h2] at hh
    unfold rowA at hh
    by_cases h3 : isW 0 1000000 a = false
    · rw [if_pos h3] at hh
      cases hh
    rw [if_neg h3] at hh
    obtain ⟨x, rfl⟩ := isN_str (by simpa using h1)
    obtain ⟨i, rfl, i0, i1⟩ := isW_int (show isW 0 1000000 a = true by simpa using h3)
    have h2' : bf.lookup x = none := by
      cases e : bf.lookup x with
      | none => rfl
      | some z => exact absurd (show (bf.lookup x).isSome = true by rw [e]; rfl) h2
    refine ⟨x, i, p, rfl, by simpa using h1, h2', i0, i1, ?_⟩
    by_cases h4 : p = .non
    · exact .inl h4
    rw [if_neg h4] at hh
    cases p with
    | str s =>
      cases e : bf.lookup s with
      | none => rw [show ageOf bf (.str s) = none from e] at hh; cases hh
      | some z =>
        rw [show ageOf bf (.str s) = some z from e] at hh
        refine .inr ⟨s, z, rfl, e, fun g => ?_⟩
        have hh : (if z - iV (.int i) < c then some ("young" : Str) else none) = none := hh
        rw [if_pos (show z - iV (.int i) < c from g)] at hh
        cases hh
    | _ => cases hh
def keyOf : Rwd → Str × Int
  | .sq (.str n :: .int a :: _) => (n, a)
  | _ => ("", 0)
def dueGo (c : Int) : Bf → Nat → List Rwd → Option (Nat × Str)
  | _, _, [] => none
  | bf, i, r :: rs => match rowW c bf r with
    | some s => some (i, s)
    | none => dueGo c (bf ++ [keyOf r]) (i + 1) rs
def dueW (c : Int) (rs : List Rwd) : Option (Nat × Str) := if rs.length = 0 ∨ 6 < rs.length then some (0, "rows") else dueGo c [] 0 rs
def DueV (H : Hp) (v : V) : Option (Nat × Str) → Prop
  | none => v = .non
  | some (i, s) => ∃ t, v = .ref t ∧ H t = some (.tup [.int i, .str s])
theorem dueGo_cons {c : Int} {bf : Bf} {i : Nat} {r : Rwd} {rs : List Rwd} : dueGo c bf i (r :: rs) = match rowW c bf r with
    | some s => some (i, s)
    | none => dueGo c (bf ++ [keyOf r]) (i + 1) rs := rfl
theorem cut_take (xs : List V) (i : Nat) : cutV xs none (some (i : Int)) = xs.take i := by
  unfold cutV
  rw [HT.sIx_nat, HT.sIx_none, List.drop_zero, Nat.sub_zero]
  by_cases h : i ≤ xs.length
  · rw [Nat.min_eq_left h]
  · rw [Nat.min_eq_right (by omega), List.take_of_length_le (Nat.le_refl _), List.take_of_length_le (by omega)]
theorem take_drop_at {α : Type} {xs : List α} {i : Nat} {x : α} (h : xs[i]? = some x) : xs.drop i = x :: xs.drop (i + 1) := by
  obtain ⟨h1, h2⟩ := List.getElem?_eq_some_iff.mp h
  rw [List.drop_eq_getElem_cons h1, h2]
/-! rows that are right -/
abbrev Gd := Str × Int × V
def mkR (g : Gd) : Rwd := .sq [.str g.1, .int g.2.1, g.2.2]
def vvK (L : List (Str × V)) : List (Key × V) := L.map fun q => (.inr q.1, q.2)
theorem valV_vv (s : Str) : ∀ L : List (Str × V), valV (vvK L) (.inr s) = L.lookup s
  | [] => rfl
  | (t, a) :: L => by
    have ih := valV_vv s L
    by_cases h : t = s
    · subst h
      rw [show valV (vvK ((t, a) :: L)) (.inr t) = some a from valV_pos (p := ((.inr t : Key), a)) rfl, List.lookup_cons_self]
    · rw [show valV (vvK ((t, a) :: L)) (.inr s) = valV (vvK L) (.inr s) from valV_neg (p := ((.inr t : Key), a)) (fun e => h (Sum.inr.inj e)), ih, List.lookup_cons]
      rw [show (s == t) = false from beq_eq_false_iff_ne.mpr (Ne.symm h)]
theorem put_new {kvs : List (Key × V)} {k : Key} {v : V} (h : valV kvs k = none) : putK kvs k v = kvs ++ [(k, v)] := by
  unfold putK
  rw [valV_any k kvs, h]
  rfl
def ageL (r : Rwd) : Str × V := ((keyOf r).1, .int (keyOf r).2)
def parL : Rwd → Str × V
  | .sq (.str n :: _ :: p :: _) => (n, p)
  | _ => ("", .non)
theorem bfK_vv (bf : Bf) : bfK bf = vvK (bf.map fun q => (q.1, .int q.2)) := by
  unfold bfK vvK
  rw [List.map_map]
  rfl
theorem look_map {α : Type} (f : Int → V) (s : Str) : ∀ bf : Bf, (bf.map fun q => (q.1, f q.2)).lookup s = (bf.lookup s).map f
  | [] => rfl
  | (t, a) :: bf => by
    rw [List.map_cons, List.lookup_cons, List.lookup_cons]
    cases s == t with
    | true => rfl
    | false => exact look_map (α := α) f s bf
theorem look_none {α β : Type} {s : Str} : ∀ {L : List (Str × α)} {M : List (Str × β)}, L.map (·.1) = M.map (·.1) → L.lookup s = none → M.lookup s = none
  | [], [], _, _ => rfl
  | [], _ :: _, h, _ => by cases h
  | _ :: _, [], h, _ => by cases h
  | (t, a) :: L, (u, b) :: M, h, e => by
    injection h with h1 h2
    have h1 : t = u := h1
    subst h1
    rw [List.lookup_cons] at e ⊢
    cases hs : s == t with
    | true => rw [hs] at e; cases e
    | false => rw [hs] at e; exact look_none h2 e
/-- what is known of rows that are right behind bf -/
def GoodL (bf : Bf) (gs : List Gd) : Prop := (∀ g ∈ gs, isN (.str g.1) = true ∧ bf.lookup g.1 = none ∧ (g.2.2 = .non ∨ ∃ s, g.2.2 = .str s)) ∧ (gs.map (·.1)).Nodup
theorem look_snoc {s : Str} {k : Str × Int} : ∀ {bf : Bf}, (bf ++ [k]).lookup s = none → bf.lookup s = none ∧ s ≠ k.1
  | [], h => by
    rw [List.nil_append, List.lookup_cons] at h
    refine ⟨rfl, fun e => ?_⟩
    rw [e, beq_self_eq_true] at h
    cases h
  | (t, a) :: bf, h => by
    rw [List.cons_append, List.lookup_cons] at h
    rw [List.lookup_cons]
    cases hs : s == t with
    | true => rw [hs] at h; cases h
    | false => rw [hs] at h; exact look_snoc h
theorem dueGo_good {c : Int} : ∀ {rs : List Rwd} {bf : Bf} {i : Nat}, dueGo c bf i rs = none → ∃ gs : List Gd, rs = gs.map mkR ∧ GoodL bf gs
  | [], _, _, _ => ⟨[], rfl, by simp, by simp⟩
  | r :: rs, bf, i, h => by
    rw [dueGo_cons] at h
    cases e : rowW c bf r with
    | some s => rw [e] at h; cases h
    | none =>
      rw [e] at h
      obtain ⟨gs, rfl, g1, g2⟩ := dueGo_good h
      obtain ⟨n, a, p, rfl, h1, h2, h3, h4, h5⟩ := rowW_none e
      refine ⟨(n, a, p) :: gs, rfl, fun g hg => ?_, ?_⟩
      · rcases List.mem_cons.mp hg with rfl | hg
        · exact ⟨h1, h2, h5.imp id fun ⟨s, _, e, _⟩ => ⟨s, e⟩⟩
        · obtain ⟨q1, q2, q3⟩ := g1 g hg
          exact ⟨q1, (look_snoc q2).1, q3⟩
      · rw [List.map_cons, List.nodup_cons]
        refine ⟨fun hn => ?_, g2⟩
        obtain ⟨g, hg, e⟩ := List.mem_map.mp hn
        exact (look_snoc (g1 g hg).2.1).2 e
theorem dueW_good {c : Int} {rs : List Rwd} (h : dueW c rs = none) : ∃ gs : List Gd, rs = gs.map mkR ∧ GoodL [] gs ∧ 1 ≤ gs.length ∧ gs.length ≤ 6 := by
  unfold dueW at h
  by_cases g : rs.length = 0 ∨ 6 < rs.length
  · rw [if_pos g] at h
    cases h
  · rw [if_neg g] at h
    obtain ⟨gs, rfl, q⟩ := dueGo_good h
    rw [List.length_map] at g
    exact ⟨gs, rfl, q, by omega, by omega⟩
/-! lives -/
def TupAt (H : Hp) (v : V) (r : Rwd) : Prop := ∃ b xs, r = .sq xs ∧ v = .ref b ∧ H b = some (.tup xs)
def agK (gs : List Gd) : List (Key × V) := vvK (gs.map fun g => (g.1, .int g.2.1))
def prK (gs : List Gd) : List (Key × V) := vvK (gs.map fun g => (g.1, g.2.2))
def liF (cu t ad pd : Addr) : List (Str × V) := [("customs", .ref cu), ("rows", .ref t), ("ages", .ref ad), ("parents", .ref pd)]
structure LiAt (C : Addr) (H : Hp) (p cu t : Addr) (us : List V) (gs : List Gd) : Prop where
  ex : ∃ dx ad pd, H p = some (.ins C dx (liF cu t ad pd)) ∧ H ad = some (.dK (agK gs)) ∧ H pd = some (.dK (prK gs))
  rows : H t = some (.tup us)
  each : Paired (TupAt H) us (gs.map mkR)
theorem TupAt.keep {H H' : Hp} {v : V} {r : Rwd} (h : TupAt H v r) (k : ∀ b xs, H b = some (.tup xs) → H' b = some (.tup xs)) : TupAt H' v r := by
  obtain ⟨b, xs, h1, h2, h3⟩ := h
  exact ⟨b, xs, h1, h2, k _ _ h3⟩
theorem LiAt.keep {C : Addr} {H H' : Hp} {p cu t : Addr} {us : List V} {gs : List Gd} (h : LiAt C H p cu t us gs) (k : ∀ b o, H b = some o → (∀ xs, o ≠ .lst xs) → H' b = some o) : LiAt C H' p cu t us gs := by
  obtain ⟨⟨dx, ad, pd, h1, h2, h3⟩, h4, h5⟩ := h
  exact ⟨⟨dx, ad, pd, k _ _ h1 (fun _ z => nomatch z), k _ _ h2 (fun _ z => nomatch z), k _ _ h3 (fun _ z => nomatch z)⟩, k _ _ h4 (fun _ z => nomatch z), L2.Paired.mapP h5 fun _ _ z => z.keep fun b xs e => k _ _ e fun _ z => nomatch z⟩
theorem LiAt.same {C : Addr} {H H' : Hp} {p cu t : Addr} {us : List V} {gs : List Gd} (h : LiAt C H p cu t us gs) (S : Same H H') : LiAt C H' p cu t us gs := h.keep fun b o e _ => S b o e
theorem ixOr {K : PySem.W.Frag} {H : Hp} {b : Addr} {xs : List V} {j : Nat} {v : V} {Q : VK} (hb : H b = some (.lst xs) ∨ H b = some (.tup xs)) (ha : xs[j]? = some v) (q : Q v H) : rIxL K (.ref b) (.int (j : Int)) H Q ∨ rIxT K (.ref b) (.int (j : Int)) H Q :=
  hb.imp (fun h => ⟨b, xs, j, v, rfl, rfl, SqL.of h, atI_nat ha, q⟩) fun h => ⟨b, xs, j, v, rfl, rfl, SqT.of h, atI_nat ha, q⟩
/-- the rows that are handed in: a list or a tuple of rows; or another thing -/
def RwsAt (H : Hp) (v : V) : Option (List Rwd) → Prop
  | some rs => ∃ r ws, v = .ref r ∧ (H r = some (.lst ws) ∨ H r = some (.tup ws)) ∧ Paired (RowAt2 H) ws rs ∧ (∀ x ∈ rs, Rok x) ∧ rs.length ≤ 9
  | none => ∃ x : Str, v = .str x ∧ x.length ≤ 1000
def dueO (c : Int) : Option (List Rwd) → Option (Nat × Str)
  | some rs => dueW c rs
  | none => some (0, "rows")
theorem log_small {n : Nat} (h : n < 1000) : n.log2 < 1920 := Nat.lt_of_le_of_lt (Nat.log2_le_self n) (by omega)
def spLi (K : PySem.W.Frag) (C CC CB : Addr) : Sp := fun vs H Q E => ∃ (p dx : Addr) (cv rv : V), vs = [.ref p, cv, rv] ∧ H p = some (.ins C dx []) ∧
  ((∃ n, Dm K H cv n ∧ ∀ H' e, Same H H' → H' e = none → E (.ref CB) (some e) (upd H' e (.xd [("index", .int 0), ("what", .str "customs")]))) ∨
   ∃ (cu : Addr) (c0 : Int) (c1 c2 c3 : V) (ro : Option (List Rwd)), cv = .ref cu ∧ CuAt CC H cu (.int c0) c1 c2 c3 ∧ RwsAt H rv ro ∧
     (∀ i s H' e, dueO c0 ro = some (i, s) → Same H H' → H' e = none → E (.ref CB) (some e) (upd H' e (.xd [("index", .int (i : Nat)), ("what", .str s)]))) ∧
     (∀ gs t us H', ro = some (gs.map mkR) → dueO c0 ro = none → But p H H' → LiAt C H' p cu t us gs → Q .non H'))
end My
set_option Elab.async false
set_option linter.all false
set_option maxRecDepth 100000
set_option maxHeartbeats 1000000
namespace My
open PySem L2 Dw
open C8 (pss_cut tCut)
theorem cuSame {C : Addr} {H H' : Hp} {x : Addr} {a b c d : V} (S : Same H H') (h : CuAt C H x a b c d) : CuAt C H' x a b c d := by
  obtain ⟨dx, h⟩ := h
  exact ⟨dx, S _ _ h⟩
theorem same_upd {H H' : Hp} {a : Addr} {o : HO} (S : Same H H') (h : H a = none) : Same H (upd H' a o) := fun b u e => by rw [upd_ne (ne_of_none e h)]; exact S _ _ e
section
variable {P : Program} {w : World} {K : PySem.W.Frag} {mg : Str → Option Value} {base : Heap} {cl : String → Addr}
theorem ok_Lives_init {f : Addr} {fd : FuncData} (F : Fun K "__init__" "Lives.__init__" s_Lives_init f fd) (T : Txt P w K mg cl) :
    FnOk P w K mg base (L2.CX P w) 3 f fd ["self", "customs", "rows"] (spLi K (cl "Lives") (cl "Customs") (cl "BadLives")) := by
  refine F.okX sc_Lives_init (fun vs H Q E h => ?_) (fun cdv A outer s H vs Q E hr h => ?_)
  · obtain ⟨p, dx, cv, rv, rfl, _⟩ := h
    rfl
  · obtain ⟨p, dx, cv, rv, rfl, hp, h⟩ := h
    have hu := hu_of hr
    have C_row_fault : Cal P w K mg base CX0 2 "row_fault" _ (spRF (cl "Customs")) := cal_row_fault T
    refine ⟨_, (pss_cons (ps_if (pt_not (pt_val (pe_callB call_isi (by rfl) T.n_isinstance (by decide +kernel) (pa_cons (pv 1) (pa_cons (pe_cls T.m_Customs) pa_nil)))))
          (pss_one (ps_raiseErr (k := 1) (okV := okVI) rfl T.e_BadLives okVI_ok T.m_BadLives (hr.mono (by decide)) (takes_of rfl rfl rfl rfl) (by exact (pa_cons pe_int (pa_cons pe_str pa_nil))))) pss_nil)
        (pss_cons (ps_if (PW.pt (pw_or (pt_not (pt_val (pe_callB call_isiT (by rfl) T.n_isinstance (by decide +kernel) (pa_cons (pv 2) (pa_cons (pe_tup (pa_cons (pe_ty "list" T.n_list) (pa_cons (pe_ty "tuple" T.n_tuple) pa_nil))) pa_nil))))) (pw_or1 (pt_not (pt_chain op_le op_le pe_int (pe_callB call_len_seq (by rfl) T.n_len PySem.boot_len (pa_cons (pv 2) pa_nil)) (pe_gl T.c_MOST_LIVES))))))
          (pss_one (ps_raiseErr (k := 1) (okV := okVI) rfl T.e_BadLives okVI_ok T.m_BadLives (hr.mono (by decide)) (takes_of rfl rfl rfl rfl) (by exact (pa_cons pe_int (pa_cons pe_str pa_nil))))) pss_nil)
        (pss_cons (ps_set (i := 3) sc_Lives_init.nd rfl (Or.inl rfl) pe_dnewK)
        (pss_cons (ps_set (i := 4) sc_Lives_init.nd rfl (Or.inl rfl) pe_dnewK)
        (pss_cons (ps_for (passes_of rfl) rfl (pi_enu2 (by rfl) T.n_enumerate (pa_cons (pv 2) pa_nil)) (pg_tup rfl (pgs_cons (pg_name (i := 5) sc_Lives_init.nd rfl (Or.inl rfl)) (pgs_cons (pg_name (i := 6) sc_Lives_init.nd rfl (Or.inl rfl)) pgs_nil)))
          (pss_cons (ps_set (i := 7) sc_Lives_init.nd rfl (Or.inl rfl) (pe_cal C_row_fault (hr.mono (by decide)) (pa_cons (pv 6) (pa_cons (pv 1) (pa_cons (pv 3) pa_nil)))))
            (pss_cons (ps_if (pt_cmpR op_notN (pv 7) pe_non (nomark _))
              (pss_one (ps_raiseErr (k := 1) (okV := okVI) rfl T.e_BadLives okVI_ok T.m_BadLives (hr.mono (by decide)) (takes_of rfl rfl rfl rfl) (by exact (pa_cons (pv 5) (pa_cons (pv 7) pa_nil))))) pss_nil)
            (pss_cons (ps_dput hu (pv 3) (pe_ix ix_either (pv 6) pe_int (fun _ _ => rfl)) (pe_ix ix_either (pv 6) pe_int (fun _ _ => rfl)) rfl)
            (pss_one (ps_dput hu (pv 4) (pe_ix ix_either (pv 6) pe_int (fun _ _ => rfl)) (pe_ix ix_either (pv 6) pe_int (fun _ _ => rfl)) rfl))))))
        (pss_cons (ps_fld (pv 0) (pv 1) rfl)
        (pss_cons (ps_fld (pv 0) (pe_callTy call_tuple_of (by rfl) T.n_tuple (by decide +kernel) (pa_cons (pe_lc (own := [("row", 6)]) (g := gName 6) (tt := tYes) rfl sc_Lives_init.nd (pi_seq (pv 2)) (blkOk_by (own := [("row", 6)]) (N := ["self", "customs", "rows", "ages", "parents", "index", "row", "word"]) (sc := defScope s_Lives_init) (by decide +kernel)) (fun _ _ _ _ _ => pg_name (i := 6) sc_Lives_init.nd rfl (Or.inl rfl)) (fun _ _ _ _ _ => pts_nil) (fun _ _ _ _ _ => (pe_callTy (call_tuple_ofK (K := K) rfl) (by rfl) T.n_tuple (by decide +kernel) (pa_cons (pv 6) pa_nil)))) pa_nil)) rfl)
        (pss_cons (ps_fld (pv 0) (pv 3) rfl)
        (pss_one (ps_fld (pv 0) (pv 4) rfl)))))))))), ?_⟩
    rcases h with ⟨n, dn, kb⟩ | ⟨cu, c0, c1, c2, c3, ro, rfl, hc, hrw, kb, kg⟩
    · have hm : n ∈ (["NoneType", "bool", "int", "str", "list", "tuple"] : List String) := by cases dn <;> decide
      exact ⟨_, rfl, _, _, _, _, _, rfl, .own (cl "Customs"), dn.ty, T.k_in_Cu n hm, _, rfl, iteT ⟨rfl, ⟨0, _, rfl, by decide⟩, fun e he => kb H e (Same.refl H) he⟩⟩
    · obtain ⟨dc, hc0⟩ := id hc
      refine ⟨_, rfl, _, _, _, _, _, rfl, .own (cl "Customs"), .base (.ins hc0 T.cl_Customs T.y_Customs T.z1 T.z2 T.z3_Customs), T.k_Cu_Cu, _, rfl, iteF ?_⟩
      refine ⟨_, rfl, by show 2 ≤ sizeLine; decide, fun tp htp => ?_⟩
      have S0 := sNew (o := .tup [.ty "list", .ty "tuple"]) htp
      cases ro with
      | none =>
        obtain ⟨x, rfl, hx⟩ := hrw
        have dx' : Dm K (upd H tp (.tup [.ty "list", .ty "tuple"])) (.str x) "str" := .str x (Nat.le_of_lt (small1000 hx))
        exact ⟨_, tp, _, _, _, _, rfl, upd_same, .cons (.ty "list") (.cons (.ty "tuple") .nil), dx'.ty, isLT dx', _, rfl, iteT (iteT ⟨rfl, ⟨0, _, rfl, by decide⟩, fun e he => kb 0 "rows" _ e rfl S0 he⟩)⟩
      | some rs =>
        obtain ⟨r, ws, rfl, hw, hpw, ok, hz⟩ := hrw
        have hw1 := hw.imp (S0 _ _) (S0 _ _)
        have dmr : ∃ n, Dm K (upd H tp (.tup [.ty "list", .ty "tuple"])) (.ref r) n ∧ PySem.W.kitAny K (.type n) [.type "list", .type "tuple"] = some true := by
          rcases hw1 with h | h
          · exact ⟨_, .lst h, isLT (.lst h)⟩
          · exact ⟨_, .tup h, isLT (.tup h)⟩
        obtain ⟨nr, dr, ka⟩ := dmr
        refine ⟨_, tp, _, _, _, _, rfl, upd_same, .cons (.ty "list") (.cons (.ty "tuple") .nil), dr.ty, ka, _, rfl, iteF ?_⟩
        have hl := hpw.length
        refine ⟨_, rfl, r, ws, rfl, hw1.imp SqL.of SqT.of, _, _, rfl, rfl, _, rfl, ?_⟩
        have short : (rs.length = 0 ∨ 6 < rs.length) → dueO c0 (some rs) = some (0, ("rows" : Str)) := fun g => (show dueW c0 rs = some (0, ("rows" : Str)) from if_pos g)
        refine ite2 (fun h1 => ?_) (fun h1 => ?_)
        rotate_left
        · have h1 : ¬ (1 : Int) ≤ ws.length := fun z => h1 (decide_eq_true z)
          exact ⟨_, rfl, iteT ⟨rfl, ⟨0, _, rfl, by decide⟩, fun e he => kb 0 "rows" _ e (short (.inl (by omega))) S0 he⟩⟩
        have h1 : (1 : Int) ≤ ws.length := of_decide_eq_true h1
        refine ⟨_, _, rfl, rfl, _, rfl, ?_⟩
        refine ite2 (fun h2 => ?_) (fun h2 => ?_)
        · have h2 : ¬ (ws.length : Int) ≤ 6 := of_decide_eq_false (by simpa using h2)
          exact ⟨rfl, ⟨0, _, rfl, by decide⟩, fun e he => kb 0 "rows" _ e (short (.inr (by omega))) S0 he⟩
        have h2 : (ws.length : Int) ≤ 6 := of_decide_eq_true (by simpa using h2)
        have hd : dueW c0 rs = dueGo c0 [] 0 rs := if_neg (by omega)
        refine fun ad had => ?_
        refine fun pd hpd => ?_
        have hadH : H ad = none := by
          cases e : H ad with
          | none => rfl
          | some o => rw [S0 _ _ e] at had; cases had
        have nap : ad ≠ pd := ne_of_none upd_same hpd
        have hpdH : H pd = none := by
          cases e : H pd with
          | none => rfl
          | some o => rw [sNew had _ _ (S0 _ _ e)] at hpd; cases hpd
        have S1 : Same H (upd (upd (upd H tp (.tup [.ty "list", .ty "tuple"])) ad (.dK [])) pd (.dK [])) := same_upd (same_upd S0 hadH) hpdH
        have hA : (upd (upd (upd H tp (.tup [.ty "list", .ty "tuple"])) ad (.dK [])) pd (.dK [])) ad = some (.dK []) := by rw [upd_ne nap]; exact upd_same
        have hB : (upd (upd (upd H tp (.tup [.ty "list", .ty "tuple"])) ad (.dK [])) pd (.dK [])) pd = some (.dK []) := upd_same
        generalize hH1 : upd (upd (upd H tp (.tup [.ty "list", .ty "tuple"])) ad (.dK [])) pd (.dK []) = H1 at S1 hA hB
        clear dr ka hw1 S0 had hpd hH1
        refine ⟨_, rfl, r, ws, rfl, hw.imp (S1 _ _) (S1 _ _), fun J wk => for_it wk (fun i σ H' => Same H H' ∧ H' ad = some (.dK (vvK ((rs.take i).map ageL))) ∧ H' pd = some (.dK (vvK ((rs.take i).map parL))) ∧ dueGo c0 [] 0 rs = dueGo c0 ((rs.take i).map keyOf) i (rs.drop i) ∧
          (∀ q ∈ (rs.take i).map keyOf, isN (.str q.1) = true) ∧ ((rs.take i).map keyOf).map (·.1) = ((rs.take i).map parL).map (·.1) ∧ ∃ (v5 v6 v7 : Option V), σ = [some (.ref p), some (.ref cu), some (.ref r), some (.ref ad), some (.ref pd), v5, v6, v7])
          ⟨S1, hA, hB, rfl, by simp, rfl, _, _, _, rfl⟩ (fun i σ H' _ q => ?_) ?_ ?_⟩
        · rcases hw with h | h
          · rw [S1 _ _ h, q.1 _ _ h]
          · rw [S1 _ _ h, q.1 _ _ h]
        · rintro i xv σ H3 H4 hi ⟨S3, ha3, hp3, hg, hN, hK, v5, v6, v7, rfl⟩ ⟨Tt, x1, y1, rfl, hT, rfl, e1, e2⟩
          cases e1
          obtain ⟨x, hx, hvx⟩ := Paired.at hpw e2
          have S4 := S3.trans (sNew (o := .tup [.int (i : Nat), y1]) hT)
          have ha4 := sNew (o := .tup [.int (i : Nat), y1]) hT _ _ ha3
          have hp4 := sNew (o := .tup [.int (i : Nat), y1]) hT _ _ hp3
          refine ⟨Tt, _, rfl, SqT.of upd_same, rfl, _, _, rfl, _, _, rfl, rfl, ?_⟩
          have hbf : vvK ((rs.take i).map ageL) = bfK ((rs.take i).map keyOf) := by rw [bfK_vv, List.map_map]; rfl
          refine ⟨_, rfl, _, rfl, _, rfl, y1, cu, ad, x, c0, c1, c2, c3, _, rfl, hvx.same S4, ok x (List.mem_of_getElem? hx), cuSame S4 hc, by rw [ha4, hbf], hN, fun H5 S5 => ?_⟩
          have ha5 := S5 _ _ ha4
          have hp5 := S5 _ _ hp4
          have S6 := S4.trans S5
          rw [take_drop_at hx, dueGo_cons] at hg
          cases e : rowW c0 ((rs.take i).map keyOf) x with
          | some s =>
            rw [e] at hg
            exact ⟨_, rfl, rfl, _, rfl, iteT ⟨_, rfl, _, rfl, rfl, ⟨i, _, rfl, log_small (by omega)⟩, fun e he => kb i s H5 e (hd.trans hg) S6 he⟩⟩
          | none =>
            rw [e] at hg
            obtain ⟨n, a, q, rfl, g1, g2, g3, g4, g5⟩ := rowW_none e
            obtain ⟨b, rfl, hb⟩ := hvx.same S6
            have nb1 : b ≠ ad := by rcases hb with h | h <;> exact ne_of h ha5 (fun z => nomatch z)
            have nb2 : b ≠ pd := by rcases hb with h | h <;> exact ne_of h hp5 (fun z => nomatch z)
            have l1 : ((rs.take i).map keyOf).length < sizeLine := small1000 (by rw [List.length_map]; exact Nat.le_trans (List.length_take_le _ _) (by omega))
            have pn : putK (vvK ((rs.take i).map ageL)) (.inr n) (.int a) = vvK ((rs.take (i + 1)).map ageL) := by
              rw [putK_new _ (by rw [hbf, valV_bf, g2]; rfl), take_snoc hx, List.map_append]
              unfold vvK
              rw [List.map_append]
              rfl
            have pp : putK (vvK ((rs.take i).map parL)) (.inr n) q = vvK ((rs.take (i + 1)).map parL) := by
              rw [putK_new _ (by rw [valV_vv]; exact look_none hK g2), take_snoc hx, List.map_append]
              unfold vvK
              rw [List.map_append]
              rfl
            refine ⟨_, rfl, rfl, _, rfl, iteF ⟨_, rfl, ixOr hb (j := 1) rfl ⟨_, rfl, _, rfl, ixOr hb (j := 0) rfl ⟨ad, _, rfl, dps ha5 pn (by unfold vvK; rw [List.length_map, List.length_map]; rw [List.length_map] at l1; exact l1), ?_⟩⟩⟩⟩
            have hb6 := hb.imp (fun h => (upd_ne (o := .dK (vvK ((rs.take (i + 1)).map ageL))) nb1).trans h) (fun h => (upd_ne (o := .dK (vvK ((rs.take (i + 1)).map ageL))) nb1).trans h)
            have hp6 := (upd_ne (o := .dK (vvK ((rs.take (i + 1)).map ageL))) (Ne.symm nap)).trans hp5
            refine ⟨_, rfl, ixOr hb6 (j := 2) rfl ⟨_, rfl, _, rfl, ixOr hb6 (j := 0) rfl ⟨pd, _, rfl, dps hp6 pp (by unfold vvK; rw [List.length_map, List.length_map]; rw [List.length_map] at l1; exact l1), ?_⟩⟩⟩
            refine ⟨same_upd (same_upd S6 hadH) hpdH, by rw [upd_ne nap]; exact upd_same, upd_same, ?_, ?_, ?_, _, _, _, rfl⟩
            · rw [hg, take_snoc hx, List.map_append]
              rfl
            · rw [take_snoc hx, List.map_append]
              intro z hz
              rcases List.mem_append.mp hz with hz | hz
              · exact hN z hz
              · obtain rfl : z = (n, a) := by simpa [keyOf] using hz
                exact g1
            · rw [take_snoc hx, List.map_append, List.map_append, List.map_append, List.map_append, hK]
              rfl
        · rintro σ H3 ⟨S3, ha3, hp3, hg, hN, hK, v5, v6, v7, rfl⟩
          rw [List.drop_of_length_le (Nat.le_of_eq hl.symm)] at hg
          have hn : dueW c0 rs = none := hd.trans hg
          obtain ⟨gs, rfl, good, _, _⟩ := dueW_good hn
          rw [List.take_of_length_le (Nat.le_of_eq hl.symm)] at ha3 hp3
          have ha3 : H3 ad = some (.dK (agK gs)) := by rw [ha3, List.map_map]; rfl
          have hp3 : H3 pd = some (.dK (prK gs)) := by rw [hp3, List.map_map]; rfl
          have hself := S3 _ _ hp
          refine ⟨_, rfl, _, rfl, p, _, dx, _, rfl, hself, T.cl_Lives, T.na_Lives _ (by decide), (by show 0 < 1000; decide), ?_⟩
          have npr : r ≠ p := by rcases hw with h | h <;> exact ne_of h hp (fun z => nomatch z)
          have ws3 := hw.imp (S3 _ _) (S3 _ _)
          have hw4 : ∀ o, (upd H3 p o) r = some (.lst ws) ∨ (upd H3 p o) r = some (.tup ws) := fun o => ws3.imp (fun h => (upd_ne npr).trans h) fun h => (upd_ne npr).trans h
          have B4 : ∀ o, But p H (upd H3 p o) := fun o b u e n => (upd_ne n).trans (S3 _ _ e)
          have self4 : ∀ o, (upd H3 p o) p = some o := fun o => upd_same
          have ha4 : ∀ o, (upd H3 p o) ad = some (.dK (agK gs)) := fun o => (upd_ne (ne_of ha3 hself (fun z => nomatch z))).trans ha3
          have hp4 : ∀ o, (upd H3 p o) pd = some (.dK (prK gs)) := fun o => (upd_ne (ne_of hp3 hself (fun z => nomatch z))).trans hp3
          have hpw4 : ∀ o, Paired (RowAt2 (upd H3 p o)) ws (gs.map mkR) := fun o => L2.Paired.mapP hpw fun v x h => by
            cases x with
            | sq xs =>
              obtain ⟨b, e, hb⟩ := h
              have nb : b ≠ p := by rcases hb with h | h <;> exact ne_of h hp (fun z => nomatch z)
              exact ⟨b, e, hb.imp (fun h => (upd_ne nb).trans (S3 _ _ h)) fun h => (upd_ne nb).trans (S3 _ _ h)⟩
            | tx x => exact h
          refine ⟨_, rfl, r, ws, rfl, hw4 _, fun J wk D hD => lc_it wk (fun i H' => ∃ us, H' D = some (.lst us) ∧ us.length = i ∧ Paired (TupAt H') us ((gs.map mkR).take i) ∧ Same (upd H3 p (.ins (cl "Lives") dx [("customs", .ref cu)])) H') ⟨[], upd_same, rfl, .nil, sNew hD⟩ (fun i H' _ ⟨us, _, _, _, S⟩ => ?_) ?_ ?_⟩
          · rcases hw4 (.ins (cl "Lives") dx [("customs", .ref cu)]) with h | h
            · exact (S _ _ h).trans h.symm
            · exact (S _ _ h).trans h.symm
          · rintro i v H5 H6 hi ⟨us, hD5, hlen, hp5, S5⟩ ⟨rfl, hv⟩
            obtain ⟨x, hx, hvx⟩ := Paired.at (hpw4 (.ins (cl "Lives") dx [("customs", .ref cu)])) hv
            obtain ⟨g, _, rfl⟩ := List.mem_map.mp (List.mem_of_getElem? hx)
            obtain ⟨b, rfl, hb⟩ := hvx.same S5
            have hlz : us.length < sizeLine := small1000 (by have := List.length_map (f := mkR) (as := gs); omega)
            refine ⟨rfl, _, rfl, b, [.str g.1, .int g.2.1, g.2.2], rfl, ?_⟩
            rcases hb with hb | hb
            · refine .inl ⟨SqL.of hb, fun l hl => ⟨us, by rw [upd_ne (ne_of_none hD5 hl)]; exact hD5, hlz, us ++ [.ref l], upd_same, by simp [hlen], ?_, fun b' o e => ?_⟩⟩
              · rw [take_snoc hx]
                have nlD : l ≠ D := Ne.symm (ne_of_none hD5 hl)
                refine Paired.appendP (L2.Paired.mapP hp5 fun _ _ h => h.keep fun b' xs e => ?_) (.cons ⟨l, _, rfl, rfl, by rw [upd_ne nlD]; exact upd_same⟩ .nil)
                rw [upd_ne (ne_of e hD5 (fun z => nomatch z)), upd_ne (ne_of_none e hl)]
                exact e
              · rw [upd_ne (ne_of_none e hD), upd_ne (ne_of_none (S5 _ _ e) hl)]
                exact S5 _ _ e
            · refine .inr ⟨SqT.of hb, us, hD5, hlz, us ++ [.ref b], upd_same, by simp [hlen], ?_, fun b' o e => ?_⟩
              · rw [take_snoc hx]
                have nbD : b ≠ D := ne_of hb hD5 (fun z => nomatch z)
                refine Paired.appendP (L2.Paired.mapP hp5 fun _ _ h => h.keep fun b' xs e => ?_) (.cons ⟨b, _, rfl, rfl, by rw [upd_ne nbD]; exact hb⟩ .nil)
                rw [upd_ne (ne_of e hD5 (fun z => nomatch z))]
                exact e
              · rw [upd_ne (ne_of_none e hD)]
                exact S5 _ _ e
          · rintro H5 ⟨us, hD5, hlen, hp5, S5⟩
            rw [List.take_of_length_le (by have := hpw.length; omega)] at hp5
            refine ⟨D, us, rfl, .inl ⟨SqL.of hD5, fun t ht => ?_⟩⟩
            have hs5 := S5 _ _ (self4 (.ins (cl "Lives") dx [("customs", .ref cu)]))
            have npt : p ≠ t := ne_of_none hs5 ht
            refine ⟨_, rfl, p, _, dx, _, rfl, (upd_ne npt).trans hs5, T.cl_Lives, T.na_Lives _ (by decide), (by show 1 < 1000; decide), ?_⟩
            refine ⟨_, rfl, _, rfl, p, _, dx, _, rfl, upd_same, T.cl_Lives, T.na_Lives _ (by decide), (by show 2 < 1000; decide), ?_⟩
            refine ⟨_, rfl, _, rfl, p, _, dx, _, rfl, upd_same, T.cl_Lives, T.na_Lives _ (by decide), (by show 3 < 1000; decide), ?_⟩
            rw [upd_upd, upd_upd]
            have stay : ∀ b u, H5 b = some u → b ≠ p → ∀ o, (upd (upd H5 t (.tup us)) p o) b = some u := fun b u e n o => (upd_ne n).trans ((upd_ne (ne_of_none e ht)).trans e)
            refine kg gs t us _ rfl hn (fun b u e n => stay _ _ (S5 _ _ (B4 _ _ _ e n)) n _) ⟨⟨dx, ad, pd, upd_same, ?_, ?_⟩, (upd_ne (Ne.symm npt)).trans upd_same, L2.Paired.mapP hp5 fun _ _ h => h.keep fun b xs e => stay _ _ e (ne_of e hs5 (fun z => nomatch z)) _⟩
            · exact stay _ _ (S5 _ _ (ha4 _)) (ne_of ha3 hself (fun z => nomatch z)) _
            · exact stay _ _ (S5 _ _ (hp4 _)) (ne_of hp3 hself (fun z => nomatch z)) _
theorem cal_Lives_init (T : Txt P w K mg cl) : CalC P w K mg base (L2.CX P w) 3 (cl "Lives") ["self", "customs", "rows"] (spLi K (cl "Lives") (cl "Customs") (cl "BadLives")) := by
  obtain ⟨f, fd, F, m⟩ := T.i_Lives
  exact ⟨f, fd, ok_Lives_init F T, m, F.binds fun _ _ _ _ _ _ us hl => match us, hl with | [_, _, _], _ => rfl⟩
end
end My
set_option Elab.async false
set_option linter.all false
set_option maxRecDepth 100000
set_option maxHeartbeats 1000000
namespace My
open PySem L2 Dw
open C8 (pss_cut tCut)
theorem tup0 {H : Hp} {v : V} {g : Gd} (h : TupAt H v (mkR g)) : ∃ b, v = .ref b ∧ H b = some (.tup [.str g.1, .int g.2.1, g.2.2]) := by
  obtain ⟨b, xs, h1, h2, h3⟩ := h
  cases h1
  exact ⟨b, h2, h3⟩
def lkA (gs : List Gd) (s : Str) : Option V := (gs.map fun g => (g.1, V.int g.2.1)).lookup s
def lkP (gs : List Gd) (s : Str) : Option V := (gs.map fun g => (g.1, g.2.2)).lookup s
def hasN (gs : List Gd) : V → Bool
  | .str s => (lkA gs s).isSome
  | _ => false
def spHas (K : PySem.W.Frag) (C : Addr) : Sp := fun vs H Q _ => ∃ (p cu t : Addr) (us : List V) (gs : List Gd) (v : V) (n : String), vs = [.ref p, v] ∧ LiAt C H p cu t us gs ∧ Dm K H v n ∧ Q (.bl (hasN gs v)) H
section
variable {P : Program} {w : World} {K : PySem.W.Frag} {mg : Str → Option Value} {base : Heap} {cl : String → Addr}
theorem ok_has {f : Addr} {fd : FuncData} (F : Fun K "has" "Lives.has" s_Lives_has f fd) (T : Txt P w K mg cl) : FnOk P w K mg base CX0 1 f fd ["self", "name"] (spHas K (cl "Lives")) := by
  refine F.ok sc_Lives_has (fun vs H Q E h => ?_) (fun cdv A outer s H vs Q E hr h => ?_)
  · obtain ⟨p, cu, t, us, gs, v, n, rfl, _⟩ := h
    rfl
  · obtain ⟨p, cu, t, us, gs, v, n, rfl, L, dv, k⟩ := h
    have hu := hu_of hr
    refine ⟨_, (pss_one (ps_ret (pe_and (pe_callB call_isi (by rfl) T.n_isinstance (by decide +kernel) (pa_cons (pv 1) (pa_cons (pe_ty "str" T.n_str) pa_nil))) (pe_one (pe_cmp (pc_din hu (pv 1) (pe_fld (pv 0) rfl)) rfl))))), ?_⟩
    obtain ⟨⟨dx, ad, pd, h1, h2, h3⟩, h4, h5⟩ := id L
    by_cases hs : ∃ s, v = .str s
    · obtain ⟨s, rfl⟩ := hs
      refine ⟨_, rfl, _, _, _, _, _, rfl, .ty "str", .base (.str s), kit_ty (by decide +kernel), true, rfl, iteT ?_⟩
      refine ⟨_, rfl, _, rfl, p, _, dx, _, _, rfl, h1, T.cl_Lives, T.na_Lives _ (by decide), rfl, ad, _, rfl, DGet.k (k := .inr s) h2, ?_⟩
      rw [show (valV (agK gs) (.inr s)).isSome = hasN gs (.str s) by unfold agK; rw [valV_vv]; rfl]
      exact k
    · have kk : PySem.W.kitOne K (.type n) (.type "str") = some false := by
        cases dv <;> first | exact kit_ty (by decide +kernel) | exact absurd ⟨_, rfl⟩ hs
      refine ⟨_, rfl, _, _, _, _, _, rfl, .ty "str", dv.ty, kk, false, rfl, iteF ?_⟩
      have e : hasN gs v = false := by
        cases v with
        | str s => exact absurd ⟨_, rfl⟩ hs
        | _ => rfl
      rw [e] at k
      exact k
theorem cal_has (T : Txt P w K mg cl) : CalM P w K mg base CX0 1 (cl "Lives") "has" ["self", "name"] (spHas K (cl "Lives")) := by
  obtain ⟨f, fd, F, m⟩ := T.d_Lives_has
  exact ⟨f, fd, ok_has F T, m, F.binds fun _ _ _ _ _ _ us hl => match us, hl with | [_, _], _ => rfl⟩
end
end My
set_option Elab.async false
set_option linter.all false
set_option maxRecDepth 100000
set_option maxHeartbeats 1000000
namespace My
open PySem L2 Dw
open C8 (pss_cut tCut)
/-! rows of a record, and what they make of a family -/
/-- a row handed in: a list or tuple of plain things, or a plain thing -/
inductive Rd where
  | sq (xs : List V)
  | pl (v : V)
/-- plain -/
def Sr : V → Prop
  | .non => True
  | .bl _ => True
  | .int _ => True
  | .str x => x.length ≤ 1000 ∧ PyData.strOk x = true
  | _ => False
theorem Sr.ok {v : V} (h : Sr v) : okV v = true := by
  cases v with
  | str x => exact h.2
  | _ => first | rfl | exact h.elim
theorem Sr.dm {K : PySem.W.Frag} {H : Hp} {v : V} (h : Sr v) : ∃ n, Dm K H v n ∧ n ≠ "list" ∧ n ≠ "tuple" := by
  cases v with
  | non => exact ⟨_, .non, by decide, by decide⟩
  | bl b => exact ⟨_, .bl b, by decide, by decide⟩
  | int i => exact ⟨_, .int i, by decide, by decide⟩
  | str x => exact ⟨_, .str x (Nat.le_of_lt (small1000 h.1)), by decide, by decide⟩
  | _ => exact h.elim
def RdOk : Rd → Prop
  | .sq xs => xs.length ≤ 6 ∧ ∀ x ∈ xs, Sr x
  | .pl v => Sr v
def RdAt (H : Hp) (v : V) : Rd → Prop
  | .sq xs => ∃ b, v = .ref b ∧ (H b = some (.lst xs) ∨ H b = some (.tup xs))
  | .pl x => v = x
theorem RdAt.same {H H' : Hp} {v : V} {r : Rd} (h : RdAt H v r) (S : Same H H') : RdAt H' v r := by
  cases r with
  | sq xs =>
    obtain ⟨b, e, hb⟩ := h
    exact ⟨b, e, hb.imp (S _ _) (S _ _)⟩
  | pl x => exact h
def isSqR : Rd → Bool
  | .sq _ => true
  | .pl _ => false
theorem isLT_rd {K : PySem.W.Frag} {H : Hp} {v : V} {r : Rd} (h : RdAt H v r) (ok : RdOk r) : ∃ n, Dm K H v n ∧ PySem.W.kitAny K (.type n) [.type "list", .type "tuple"] = some (isSqR r) := by
  cases r with
  | sq xs =>
    obtain ⟨b, rfl, hb | hb⟩ := h
    · exact ⟨_, .lst hb, isLT (K := K) (H := H) (.lst hb)⟩
    · exact ⟨_, .tup hb, isLT (K := K) (H := H) (.tup hb)⟩
  | pl x =>
    obtain rfl : v = x := h
    obtain ⟨n, d, h1, h2⟩ := Sr.dm (K := K) (H := H) (show Sr v from ok)
    refine ⟨n, d, ?_⟩
    rw [isLT d, decide_eq_false h1, decide_eq_false h2]
    rfl
def lens : List (Str × Int) := [("born", 4), ("wed", 4), ("happened", 3), ("died", 3)]
def isRowB : Rd → Bool
  | .sq (.str w :: y :: rest) => (match lens.lookup w with
    | some n => decide ((rest.length + 2 : Nat) = n) && (isW 1 1000000000 y && rest.all isN)
    | none => false)
  | _ => false
/-- a row that is one -/
inductive Ev where
  | born (y : Int) (p n : Str)
  | wed (y : Int) (l n : Str)
  | happ (y : Int) (n : Str)
  | died (y : Int) (p : Str)
deriving DecidableEq
def Ev.y : Ev → Int
  | .born y _ _ => y
  | .wed y _ _ => y
  | .happ y _ => y
  | .died y _ => y
def Ev.k : Ev → Nat
  | .born .. => 0
  | .wed .. => 1
  | .happ .. => 2
  | .died .. => 3
def Ev.w : Ev → Str
  | .born .. => "born"
  | .wed .. => "wed"
  | .happ .. => "happened"
  | .died .. => "died"
def Ev.z : Ev → Str
  | .born _ _ n => n
  | .wed _ _ n => n
  | .happ _ n => n
  | .died _ p => p
/-- the entries behind the word and the year -/
def Ev.tl : Ev → List Str
  | .born _ p n => [p, n]
  | .wed _ l n => [l, n]
  | .happ _ n => [n]
  | .died _ p => [p]
def Ev.row (e : Ev) : List V := .str e.w :: .int e.y :: e.tl.map V.str
def Ev.pl (e : Ev) : Int × Int × Str := (e.y, ((e.k : Nat) : Int), e.z)
def Ev.Ok (e : Ev) : Prop := 1 ≤ e.y ∧ e.y ≤ 1000000000 ∧ ∀ s ∈ e.tl, isN (.str s) = true
def evOf : Rd → Ev
  | .sq [.str w, .int y, .str p, .str n] => if w = "born" then .born y p n else .wed y p n
  | .sq [.str w, .int y, .str p] => if w = "happened" then .happ y p else .died y p
  | _ => .happ 0 ""
theorem evOf_row (e : Ev) : evOf (.sq e.row) = e := by
  cases e with
  | born y p n => exact (show (if ("born" : Str) = "born" then Ev.born y p n else .wed y p n) = _ from if_pos rfl)
  | wed y p n => exact (show (if ("wed" : Str) = "born" then Ev.born y p n else .wed y p n) = _ from if_neg (by decide +kernel))
  | happ y n => exact (show (if ("happened" : Str) = "happened" then Ev.happ y n else .died y n) = _ from if_pos rfl)
  | died y p => exact (show (if ("died" : Str) = "happened" then Ev.happ y p else .died y p) = _ from if_neg (by decide +kernel))
theorem lens_cases {w : Str} {n : Int} (h : lens.lookup w = some n) : (w = "born" ∧ n = 4) ∨ (w = "wed" ∧ n = 4) ∨ (w = "happened" ∧ n = 3) ∨ (w = "died" ∧ n = 3) := by
  have := look_some_mem h
  simpa [lens] using this
theorem lens_ev (e : Ev) : lens.lookup e.w = some ((e.tl.length + 2 : Nat) : Int) := by cases e <;> rfl
theorem isRow_ev {e : Ev} (h : e.Ok) : isRowB (.sq e.row) = true := by
  obtain ⟨h1, h2, h3⟩ := h
  show (match lens.lookup e.w with
    | some n => decide (((e.tl.map V.str).length + 2 : Nat) = n) && (isW 1 1000000000 (.int e.y) && (e.tl.map V.str).all isN)
    | none => false) = true
  rw [lens_ev e, List.length_map]
  show (decide (((e.tl.length + 2 : Nat) : Int) = ((e.tl.length + 2 : Nat) : Int)) && ((decide (1 ≤ e.y) && decide (e.y ≤ 1000000000)) && (e.tl.map V.str).all isN)) = true
  rw [decide_eq_true rfl, decide_eq_true h1, decide_eq_true h2, Bool.true_and, Bool.true_and, Bool.true_and, List.all_map]
  exact List.all_eq_true.mpr fun s hs => h3 s hs
theorem row_ev {r : Rd} (h : isRowB r = true) : ∃ e : Ev, r = .sq e.row ∧ e.Ok := by
  have q : ∀ (w : Str) (y : V) (rest : List V), isRowB (.sq (.str w :: y :: rest)) = true → ∃ e : Ev, Rd.sq (.str w :: y :: rest) = .sq e.row ∧ e.Ok := fun w y rest h => by
    have h : (match lens.lookup w with
      | some n => decide ((rest.length + 2 : Nat) = n) && (isW 1 1000000000 y && rest.all isN)
      | none => false) = true := h
    cases e : lens.lookup w with
    | none => rw [e] at h; cases h
    | some n =>
      rw [e] at h
      obtain ⟨h1, h⟩ := Bool.and_eq_true_iff.mp h
      obtain ⟨h2, h3⟩ := Bool.and_eq_true_iff.mp h
      have h1 := of_decide_eq_true h1
      obtain ⟨i, rfl, i1, i2⟩ := isW_int h2
      have h3 := List.all_eq_true.mp h3
      rcases lens_cases e with ⟨rfl, rfl⟩ | ⟨rfl, rfl⟩ | ⟨rfl, rfl⟩ | ⟨rfl, rfl⟩
      · match rest, h1, h3 with
        | [a, b], _, h3 =>
          obtain ⟨s, rfl⟩ := isN_str (h3 a (by simp))
          obtain ⟨t, rfl⟩ := isN_str (h3 b (by simp))
          exact ⟨.born i s t, rfl, i1, i2, fun x hx => h3 _ (by rcases (show x = s ∨ x = t by simpa [Ev.tl] using hx) with rfl | rfl <;> simp)⟩
        | [], h1, _ => simp at h1
        | [_], h1, _ => simp at h1
        | _ :: _ :: _ :: _, h1, _ => simp at h1; omega
      · match rest, h1, h3 with
        | [a, b], _, h3 =>
          obtain ⟨s, rfl⟩ := isN_str (h3 a (by simp))
          obtain ⟨t, rfl⟩ := isN_str (h3 b (by simp))
          exact ⟨.wed i s t, rfl, i1, i2, fun x hx => h3 _ (by rcases (show x = s ∨ x = t by simpa [Ev.tl] using hx) with rfl | rfl <;> simp)⟩
        | [], h1, _ => simp at h1
        | [_], h1, _ => simp at h1
        | _ :: _ :: _ :: _, h1, _ => simp at h1; omega
      · match rest, h1, h3 with
        | [a], _, h3 =>
          obtain ⟨s, rfl⟩ := isN_str (h3 a (by simp))
          exact ⟨.happ i s, rfl, i1, i2, fun x hx => h3 _ (by rw [show x = s by simpa [Ev.tl] using hx]; simp)⟩
        | [], h1, _ => simp at h1
        | _ :: _ :: _, h1, _ => simp at h1; omega
      · match rest, h1, h3 with
        | [a], _, h3 =>
          obtain ⟨s, rfl⟩ := isN_str (h3 a (by simp))
          exact ⟨.died i s, rfl, i1, i2, fun x hx => h3 _ (by rw [show x = s by simpa [Ev.tl] using hx]; simp)⟩
        | [], h1, _ => simp at h1
        | _ :: _ :: _, h1, _ => simp at h1; omega
  match r, h with
  | .sq (.str w :: y :: rest), h => exact q w y rest h
/-- an entry put in its place, or at the end -/
def put {α : Type} (L : List (Str × α)) (k : Str) (v : α) : List (Str × α) := if (L.lookup k).isSome = true then L.map (fun q => if q.1 = k then (q.1, v) else q) else L ++ [(k, v)]
theorem look_put {α : Type} {L : List (Str × α)} {k j : Str} {v : α} : (put L k v).lookup j = if j = k then some v else L.lookup j := by
  unfold put
  have m : ∀ L : List (Str × α), (L.map fun q => if q.1 = k then (q.1, v) else q).lookup j = (L.lookup j).map fun x => if j = k then v else x := fun L => by
    induction L with
    | nil => rfl
    | cons q L ih =>
      obtain ⟨t, a⟩ := q
      rw [List.map_cons, List.lookup_cons]
      by_cases e : t = k
      · rw [if_pos e, List.lookup_cons]
        by_cases f : j = t
        · rw [show (j == t) = true from beq_iff_eq.mpr f]
          exact congrArg some (if_pos (f.trans e)).symm
        · rw [show (j == t) = false from beq_eq_false_iff_ne.mpr f]
          exact ih
      · rw [if_neg e, List.lookup_cons]
        by_cases f : j = t
        · rw [show (j == t) = true from beq_iff_eq.mpr f]
          exact congrArg some (if_neg (by rw [f]; exact e)).symm
        · rw [show (j == t) = false from beq_eq_false_iff_ne.mpr f]
          exact ih
  have n : ∀ L : List (Str × α), L.lookup k = none → (L ++ [(k, v)]).lookup j = if j = k then some v else L.lookup j := fun L => by
    induction L with
    | nil =>
      intro _
      rw [List.nil_append, List.lookup_cons]
      by_cases f : j = k
      · rw [show (j == k) = true from beq_iff_eq.mpr f, if_pos f]
      · rw [show (j == k) = false from beq_eq_false_iff_ne.mpr f, if_neg f]
    | cons q L ih =>
      obtain ⟨t, a⟩ := q
      intro h
      rw [List.lookup_cons] at h
      rw [List.cons_append, List.lookup_cons, List.lookup_cons]
      cases g : k == t with
      | true => rw [g] at h; cases h
      | false =>
        rw [g] at h
        by_cases f : j = t
        · rw [show (j == t) = true from beq_iff_eq.mpr f, if_neg (by rw [f]; exact (beq_eq_false_iff_ne.mp g).symm)]
        · rw [show (j == t) = false from beq_eq_false_iff_ne.mpr f]
          exact ih h
  cases h : L.lookup k with
  | none =>
    rw [if_neg (by simp)]
    exact n L h
  | some x =>
    rw [if_pos (show (some x).isSome = true from rfl), m]
    by_cases f : j = k
    · rw [if_pos f, f, h]
      exact congrArg some (if_pos rfl)
    · rw [if_neg f]
      cases L.lookup j with
      | none => rfl
      | some z => exact congrArg some (if_neg f)
theorem put_len {α : Type} {L : List (Str × α)} {k : Str} {v : α} : (put L k v).length ≤ L.length + 1 := by
  unfold put
  split
  · rw [List.length_map]; omega
  · rw [List.length_append]; exact Nat.le_refl _
theorem put_none {α : Type} {L : List (Str × α)} {k : Str} {v : α} (h : L.lookup k = none) : put L k v = L ++ [(k, v)] := if_neg (by rw [h]; intro z; cases z)
theorem put_map {α β : Type} (f : α → β) (L : List (Str × α)) (k : Str) (v : α) : (put L k v).map (fun q => (q.1, f q.2)) = put (L.map fun q => (q.1, f q.2)) k (f v) := by
  have lk : ∀ L : List (Str × α), ((L.map fun q => (q.1, f q.2)).lookup k).isSome = (L.lookup k).isSome := fun L => by
    induction L with
    | nil => rfl
    | cons q L ih =>
      obtain ⟨t, a⟩ := q
      rw [List.map_cons, List.lookup_cons, List.lookup_cons]
      cases k == t with
      | true => rfl
      | false => exact ih
  unfold put
  rw [lk]
  split
  · rw [List.map_map, List.map_map]
    refine List.map_congr_left fun q _ => ?_
    show (fun q : Str × α => (q.1, f q.2)) (if q.1 = k then (q.1, v) else q) = if q.1 = k then (q.1, f v) else (q.1, f q.2)
    split <;> rfl
  · rw [List.map_append]
    rfl
/-- a dict of the memory with text keys -/
def dk {α : Type} (f : α → V) (L : List (Str × α)) : List (Key × V) := L.map fun q => (.inr q.1, f q.2)
theorem valV_dk {α : Type} (f : α → V) (s : Str) : ∀ L : List (Str × α), valV (dk f L) (.inr s) = (L.lookup s).map f
  | [] => rfl
  | (t, a) :: L => by
    have ih := valV_dk f s L
    by_cases h : t = s
    · subst h
      rw [show valV (dk f ((t, a) :: L)) (.inr t) = some (f a) from valV_pos (p := ((.inr t : Key), f a)) rfl, List.lookup_cons_self]
      rfl
    · rw [show valV (dk f ((t, a) :: L)) (.inr s) = valV (dk f L) (.inr s) from valV_neg (p := ((.inr t : Key), f a)) (fun e => h (Sum.inr.inj e)), ih, List.lookup_cons]
      rw [show (s == t) = false from beq_eq_false_iff_ne.mpr (Ne.symm h)]
theorem put_dk {α : Type} (f : α → V) (L : List (Str × α)) (k : Str) (v : α) : putK (dk f L) (.inr k) (f v) = dk f (put L k v) := by
  unfold putK put
  rw [valV_any, valV_dk, Option.isSome_map]
  by_cases h : (L.lookup k).isSome = true
  · rw [if_pos h, if_pos h]
    unfold dk
    rw [List.map_map, List.map_map]
    refine List.map_congr_left fun q _ => ?_
    show (if (Sum.inr q.1 : Key) = .inr k then ((.inr q.1 : Key), f v) else (.inr q.1, f q.2)) = (fun q : Str × α => ((.inr q.1 : Key), f q.2)) (if q.1 = k then (q.1, v) else q)
    by_cases e : q.1 = k
    · rw [if_pos (congrArg Sum.inr e), if_pos e]
    · rw [if_neg (fun z => e (Sum.inr.inj z)), if_neg e]
  · rw [if_neg h, if_neg h]
    unfold dk
    rw [List.map_append]
    rfl
theorem dk_len {α : Type} {f : α → V} {L : List (Str × α)} : (dk f L).length = L.length := List.length_map _
/-- the persons and facts of rows -/
structure Fam where
  births : List (Str × Int) := []
  deaths : List (Str × Int) := []
  parents : List (Str × V) := []
  weds : List (Str × List Str) := []
  facts : List (Str × Int) := []
  order : List Str := []
  last : Option (Int × Int × Str) := none
  many : Nat := 0
def fam0 (gs : List Gd) : Fam := gs.foldl (fun f g => { f with births := put f.births g.1 (-g.2.1), parents := put f.parents g.1 g.2.2, order := f.order ++ [g.1] }) {}
/-- a row's facts put in -/
def Fam.put1 (f : Fam) : Ev → Fam
  | .born y p n => { f with births := put f.births n y, parents := put f.parents n (.str p), order := f.order ++ [n] }
  | .wed _ l n => { f with parents := put f.parents n .non, weds := put f.weds l (((f.weds.lookup l).getD []) ++ [n]), order := f.order ++ [n] }
  | .happ y n => { f with facts := put f.facts n y }
  | .died y p => { f with deaths := put f.deaths p y }
def Fam.add (f : Fam) (e : Ev) : Fam := { f.put1 e with last := some e.pl, many := f.many + 1 }
def famOf (f : Fam) (rs : List Rd) : Fam := rs.foldl (fun f r => f.add (evOf r)) f
theorem famOf_snoc {f : Fam} {rs : List Rd} {r : Rd} : famOf f (rs ++ [r]) = (famOf f rs).add (evOf r) := by
  unfold famOf
  rw [List.foldl_append]
  rfl
def deadW (n1 : Int) (o : Option Int) (y : Int) : Bool := match o with
  | none => false
  | some d => decide (d + n1 < y)
def nameW (f : Fam) (n : Str) : Option Str := if (f.parents.lookup n).isSome = true then some "name" else none
def bornW (n0 n1 : Int) (f : Fam) (y : Int) (p n : Str) : Option Str := match f.births.lookup p with
  | none => some "parent"
  | some b => if y < b + n0 then some "young" else if deadW n1 (f.deaths.lookup p) y = true then some "dead" else nameW f n
def wedW (n2 : Int) (gs : List Gd) (f : Fam) (y : Int) (l n : Str) : Option Str := if hasN gs (.str l) = false then some "life" else if (f.deaths.lookup l).isSome = true then some "dead" else match f.births.lookup l with
  | none => none
  | some b => if y < b + n2 then some "young" else nameW f n
def evW (n0 n1 n2 : Int) (gs : List Gd) (f : Fam) : Ev → Option Str
  | .born y p n => bornW n0 n1 f y p n
  | .wed y l n => wedW n2 gs f y l n
  | .happ _ n => if (f.facts.lookup n).isSome = true then some "again" else none
  | .died _ p => if (f.parents.lookup p).isSome = false then some "person" else if (f.deaths.lookup p).isSome = true then some "dead" else none
def lastGe (o : Option (Int × Int × Str)) (p : Int × Int × Str) : Bool := match o with
  | none => false
  | some q => leP p q
/-- the first word that applies to a row behind these rows -/
def faultW (n0 n1 n2 : Int) (gs : List Gd) (f : Fam) (r : Rd) : Option Str :=
  if 200 ≤ f.many then some "many" else if isRowB r = false then some "row" else if lastGe f.last (evOf r).pl = true then some "order" else evW n0 n1 n2 gs f (evOf r)
def runW (n0 n1 n2 : Int) (gs : List Gd) : Fam → Nat → List Rd → Option (Nat × Str)
  | _, _, [] => none
  | f, i, r :: rs => match faultW n0 n1 n2 gs f r with
    | some s => some (i, s)
    | none => runW n0 n1 n2 gs (f.add (evOf r)) (i + 1) rs
/-- sizes, and that each life was born -/
structure FamOk (gs : List Gd) (f : Fam) : Prop where
  lb : f.births.length ≤ 9 + f.many
  ld : f.deaths.length ≤ f.many
  lp : f.parents.length ≤ 9 + f.many
  lw : f.weds.length ≤ f.many
  lf : f.facts.length ≤ f.many
  lo : f.order.length ≤ 9 + f.many
  lm : ∀ q ∈ f.weds, q.2.length ≤ f.many
  lv : f.many ≤ 200
  born : ∀ s, hasN gs (.str s) = true → (f.births.lookup s).isSome = true
theorem mem_put {α : Type} {L : List (Str × α)} {k : Str} {v : α} {q : Str × α} (h : q ∈ put L k v) : q ∈ L ∨ q.2 = v := by
  unfold put at h
  split at h
  · obtain ⟨r, hr, e⟩ := List.mem_map.mp h
    split at e
    · exact .inr (by rw [← e])
    · exact .inl (by rw [← e]; exact hr)
  · rcases List.mem_append.mp h with h | h
    · exact .inl h
    · exact .inr (by rw [show q = (k, v) by simpa using h])
theorem FamOk.add {gs : List Gd} {f : Fam} (h : FamOk gs f) (hm : f.many < 200) (e : Ev) : FamOk gs (f.add e) := by
  obtain ⟨lb, ld, lp, lw, lf, lo, lm, lv, bo⟩ := h
  cases e with
  | born y p n =>
    refine ⟨?_, Nat.le_succ_of_le ld, ?_, Nat.le_succ_of_le lw, Nat.le_succ_of_le lf, ?_, fun q hq => Nat.le_succ_of_le (lm q hq), hm, fun s hs => ?_⟩
    · have := put_len (L := f.births) (k := n) (v := y); show (put f.births n y).length ≤ 9 + (f.many + 1); omega
    · have := put_len (L := f.parents) (k := n) (v := V.str p); show (put f.parents n (.str p)).length ≤ 9 + (f.many + 1); omega
    · show (f.order ++ [n]).length ≤ 9 + (f.many + 1); rw [List.length_append]; show f.order.length + 1 ≤ _; omega
    · show ((put f.births n y).lookup s).isSome = true
      rw [look_put]
      split
      · rfl
      · exact bo s hs
  | wed y l n =>
    refine ⟨Nat.le_succ_of_le lb, Nat.le_succ_of_le ld, ?_, ?_, Nat.le_succ_of_le lf, ?_, fun q hq => ?_, hm, bo⟩
    · have := put_len (L := f.parents) (k := n) (v := V.non); show (put f.parents n .non).length ≤ 9 + (f.many + 1); omega
    · have := put_len (L := f.weds) (k := l) (v := ((f.weds.lookup l).getD []) ++ [n]); show (put f.weds l _).length ≤ f.many + 1; omega
    · show (f.order ++ [n]).length ≤ 9 + (f.many + 1); rw [List.length_append]; show f.order.length + 1 ≤ _; omega
    · rcases mem_put hq with hq | hq
      · exact Nat.le_succ_of_le (lm q hq)
      · rw [hq, List.length_append]
        show _ ≤ f.many + 1
        refine Nat.succ_le_succ ?_
        cases e : f.weds.lookup l with
        | none => exact Nat.zero_le _
        | some ms => exact lm _ (look_some_mem e)
  | happ y n =>
    refine ⟨Nat.le_succ_of_le lb, Nat.le_succ_of_le ld, Nat.le_succ_of_le lp, Nat.le_succ_of_le lw, ?_, Nat.le_succ_of_le lo, fun q hq => Nat.le_succ_of_le (lm q hq), hm, bo⟩
    have := put_len (L := f.facts) (k := n) (v := y); show (put f.facts n y).length ≤ f.many + 1; omega
  | died y p =>
    refine ⟨Nat.le_succ_of_le lb, ?_, Nat.le_succ_of_le lp, Nat.le_succ_of_le lw, Nat.le_succ_of_le lf, Nat.le_succ_of_le lo, fun q hq => Nat.le_succ_of_le (lm q hq), hm, bo⟩
    have := put_len (L := f.deaths) (k := p) (v := y); show (put f.deaths p y).length ≤ f.many + 1; omega
theorem many_of {n0 n1 n2 : Int} {gs : List Gd} {f : Fam} {r : Rd} (h : faultW n0 n1 n2 gs f r = none) : f.many < 200 ∧ isRowB r = true := by
  unfold faultW at h
  split at h
  · cases h
  split at h
  · cases h
  rename_i g1 g2
  exact ⟨by omega, by simpa using g2⟩
theorem fam0_step (gs : List Gd) (g : Gd) : fam0 (gs ++ [g]) = { fam0 gs with births := put (fam0 gs).births g.1 (-g.2.1), parents := put (fam0 gs).parents g.1 g.2.2, order := (fam0 gs).order ++ [g.1] } := by
  unfold fam0
  rw [List.foldl_append]
  rfl
theorem look_app_some {α : Type} {s : Str} {v : α} : ∀ {L M : List (Str × α)}, ((L ++ M).lookup s).isSome = ((L.lookup s).isSome || (M.lookup s).isSome)
  | [], M => rfl
  | (t, a) :: L, M => by
    rw [List.cons_append, List.lookup_cons, List.lookup_cons]
    cases s == t with
    | true => rfl
    | false => exact look_app_some (v := v)
theorem fam0_many (gs : List Gd) : (fam0 gs).many = 0 ∧ (fam0 gs).deaths = [] ∧ (fam0 gs).weds = [] ∧ (fam0 gs).facts = [] ∧ (fam0 gs).last = none := by
  have q : ∀ (gs : List Gd) (f : Fam), (gs.foldl (fun f g => { f with births := put f.births g.1 (-g.2.1), parents := put f.parents g.1 g.2.2, order := f.order ++ [g.1] }) f).many = f.many ∧ (gs.foldl (fun f g => { f with births := put f.births g.1 (-g.2.1), parents := put f.parents g.1 g.2.2, order := f.order ++ [g.1] }) f).deaths = f.deaths ∧ (gs.foldl (fun f g => { f with births := put f.births g.1 (-g.2.1), parents := put f.parents g.1 g.2.2, order := f.order ++ [g.1] }) f).weds = f.weds ∧ (gs.foldl (fun f g => { f with births := put f.births g.1 (-g.2.1), parents := put f.parents g.1 g.2.2, order := f.order ++ [g.1] }) f).facts = f.facts ∧ (gs.foldl (fun f g => { f with births := put f.births g.1 (-g.2.1), parents := put f.parents g.1 g.2.2, order := f.order ++ [g.1] }) f).last = f.last := fun gs => by
    induction gs with
    | nil => intro f; exact ⟨rfl, rfl, rfl, rfl, rfl⟩
    | cons g gs ih => intro f; exact ih _
  exact q gs {}
theorem fam0_ok {gs : List Gd} (hz : gs.length ≤ 9) : FamOk gs (fam0 gs) := by
  have q : ∀ n, n ≤ gs.length → (fam0 (gs.take n)).births.length ≤ n ∧ (fam0 (gs.take n)).parents.length ≤ n ∧ (fam0 (gs.take n)).order.length ≤ n ∧ ∀ s, hasN (gs.take n) (.str s) = true → ((fam0 (gs.take n)).births.lookup s).isSome = true := fun n => by
    induction n with
    | zero => intro _; exact ⟨Nat.le_refl _, Nat.le_refl _, Nat.le_refl _, fun s hs => by rw [List.take_zero] at hs; cases hs⟩
    | succ n ih =>
      intro hn
      obtain ⟨g, hg⟩ : ∃ g, gs[n]? = some g := ⟨_, List.getElem?_eq_getElem (by omega)⟩
      obtain ⟨h1, h2, h3, h4⟩ := ih (by omega)
      rw [take_snoc hg, fam0_step]
      refine ⟨Nat.le_trans put_len (Nat.succ_le_succ h1), Nat.le_trans put_len (Nat.succ_le_succ h2), ?_, fun s hs => ?_⟩
      · show ((fam0 (gs.take n)).order ++ [g.1]).length ≤ _
        rw [List.length_append]
        exact Nat.succ_le_succ h3
      · show ((put (fam0 (gs.take n)).births g.1 (-g.2.1)).lookup s).isSome = true
        rw [look_put]
        split
        · rfl
        · rename_i ne
          refine h4 s ?_
          have hs : (lkA (gs.take n ++ [g]) s).isSome = true := hs
          unfold lkA at hs
          rw [List.map_append, look_app_some (v := V.non)] at hs
          rcases Bool.or_eq_true_iff.mp hs with hs | hs
          · exact hs
          · rw [List.map_cons, List.map_nil, List.lookup_cons, show (s == g.1) = false from beq_eq_false_iff_ne.mpr ne] at hs
            cases hs
  obtain ⟨h1, h2, h3, h4⟩ := q gs.length (Nat.le_refl _)
  rw [List.take_length] at h1 h2 h3 h4
  obtain ⟨m0, m1, m2, m3, m4⟩ := fam0_many gs
  refine ⟨by omega, by rw [m1]; exact Nat.zero_le _, by omega, by rw [m2]; exact Nat.zero_le _, by rw [m3]; exact Nat.zero_le _, by omega, (fun q hq => by rw [m2] at hq; cases hq), by omega, h4⟩
end My
set_option Elab.async false
set_option linter.all false
set_option maxRecDepth 100000
set_option maxHeartbeats 1000000
namespace My
open PySem L2 Dw
open C8 (pss_cut tCut)
/-- is_row -/
def spIsRow : Sp := fun vs H Q _ => ∃ (v : V) (r : Rd), vs = [v] ∧ RdAt H v r ∧ RdOk r ∧ ∀ H', Same H H' → Q (.bl (isRowB r)) H'
/-- row_place: a new tuple -/
def spPlace : Sp := fun vs H Q _ => ∃ (b : Addr) (e : Ev), vs = [.ref b] ∧ (H b = some (.lst e.row) ∨ H b = some (.tup e.row)) ∧ ∀ t, H t = none → Q (.ref t) (upd H t (.tup (plV e.pl)))
theorem row_last (e : Ev) : atI e.row (-1) = some (.str e.z) := by
  cases e with
  | born y p n => exact atI_last [.str "born", .int y, .str p] _
  | wed y p n => exact atI_last [.str "wed", .int y, .str p] _
  | happ y n => exact atI_last [.str "happened", .int y] _
  | died y p => exact atI_last [.str "died", .int y] _
theorem ixOrI {K : PySem.W.Frag} {H : Hp} {b : Addr} {xs : List V} {i : Int} {v : V} {Q : VK} (hb : H b = some (.lst xs) ∨ H b = some (.tup xs)) (ha : atI xs i = some v) (q : Q v H) : rIxL K (.ref b) (.int i) H Q ∨ rIxT K (.ref b) (.int i) H Q :=
  hb.imp (fun h => ⟨b, xs, i, v, rfl, rfl, SqL.of h, ha, q⟩) fun h => ⟨b, xs, i, v, rfl, rfl, SqT.of h, ha, q⟩
def wordsL : List Str := ["born", "wed", "happened", "died"]
theorem words_at (e : Ev) : wordsL[e.k]? = some e.w := by cases e <;> rfl
theorem words_no (e : Ev) : ∀ m, m < e.k → wordsL[m]? ≠ some e.w := by
  cases e with
  | born y p n => intro m hm; exact absurd hm (Nat.not_lt_zero _)
  | wed y p n => intro m hm; match m, hm with | 0, _ => show (some "born" : Option Str) ≠ some "wed"; decide +kernel
  | happ y n => intro m hm; match m, hm with
    | 0, _ => show (some "born" : Option Str) ≠ some "happened"; decide +kernel
    | 1, _ => show (some "wed" : Option Str) ≠ some "happened"; decide +kernel
  | died y n => intro m hm; match m, hm with
    | 0, _ => show (some "born" : Option Str) ≠ some "died"; decide +kernel
    | 1, _ => show (some "wed" : Option Str) ≠ some "died"; decide +kernel
    | 2, _ => show (some "happened" : Option Str) ≠ some "died"; decide +kernel
section
variable {P : Program} {w : World} {K : PySem.W.Frag} {mg : Str → Option Value} {base : Heap} {cl : String → Addr}
theorem ok_is_row {f : Addr} {fd : FuncData} (F : Fun K "is_row" "is_row" s_is_row f fd) (T : Txt P w K mg cl) : FnOk P w K mg base CX0 2 f fd ["row"] spIsRow := by
  refine F.ok sc_is_row (fun vs H Q E h => ?_) (fun cdv A outer s H vs Q E hr h => ?_)
  · obtain ⟨v, r, rfl, _⟩ := h
    rfl
  · obtain ⟨v, r, rfl, hv, ok, k⟩ := h
    have hu := hu_of hr
    have C_is_whole : Cal P w K mg base CX0 1 "is_whole" _ (spW K) := cal_is_whole T
    have C_is_name : Cal P w K mg base CX0 1 "is_name" _ (spN K) := cal_is_name T
    refine ⟨_, (pss_cons (ps_if (PW.pt (pw_or (pt_not (pt_val (pe_callB call_isiT (by rfl) T.n_isinstance (by decide +kernel) (pa_cons (pv 0) (pa_cons (pe_tup (pa_cons (pe_ty "list" T.n_list) (pa_cons (pe_ty "tuple" T.n_tuple) pa_nil))) pa_nil))))) (pw_or1 (pt_cmpR op_lt (pe_callB call_len_seq (by rfl) T.n_len PySem.boot_len (pa_cons (pv 0) pa_nil)) pe_int (nomark _)))))
          (pss_one (ps_ret pe_bl)) pss_nil)
        (pss_cons (ps_set (i := 1) sc_is_row.nd rfl (Or.inl rfl) (pe_ix ix_either (pv 0) pe_int (fun _ _ => rfl)))
        (pss_cons (ps_if (PW.pt (pw_or (pt_not (pt_val (pe_callB call_isi (by rfl) T.n_isinstance (by decide +kernel) (pa_cons (pv 1) (pa_cons (pe_ty "str" T.n_str) pa_nil))))) (pw_or (pt_cmpR (op_notIn_wd T.wd_LENGTHS) (pv 1) (pe_gl T.c_LENGTHS) (by rfl)) (pw_or1 (pt_cmpR op_ne (pe_callB call_len_seq (by rfl) T.n_len PySem.boot_len (pa_cons (pv 0) pa_nil)) (pe_ix (ix_wd T.wd_LENGTHS) (pe_gl T.c_LENGTHS) (pv 1) (fun _ _ => rfl)) (nomark _))))))
          (pss_one (ps_ret pe_bl)) pss_nil)
        (pss_cons (ps_if (pt_not (pt_val (pe_cal C_is_whole (hr.mono (by decide)) (pa_cons (pe_ix ix_either (pv 0) pe_int (fun _ _ => rfl)) (pa_cons pe_int (pa_cons (pe_gl T.c_MOST_YEAR) pa_nil))))))
          (pss_one (ps_ret pe_bl)) pss_nil)
        (pss_one (ps_ret (pe_notT (pe_lc (own := [("part", 2)]) (g := gName 2)  rfl sc_is_row.nd (pi_seq (pe_slice sl_either (pv 0) (po_some pe_int) po_none)) (blkOk_by (own := [("part", 2)]) (N := ["row", "word", "part"]) (sc := defScope s_is_row) (by decide +kernel)) (fun _ _ _ _ _ => pg_name (i := 2) sc_is_row.nd rfl (Or.inl rfl)) (fun _ _ _ _ _ => pts_one (pt_not (pt_val (pe_cal C_is_name (hr.mono (by decide)) (pa_cons (pv 2) pa_nil))))) (fun _ _ _ _ _ => (pv 2)))))))))), ?_⟩
    refine ⟨_, rfl, by show 2 ≤ sizeLine; decide, fun tp htp => ?_⟩
    have S0 := sNew (o := .tup [.ty "list", .ty "tuple"]) htp
    obtain ⟨nv, dv, ka⟩ := isLT_rd (K := K) (hv.same S0) ok
    refine ⟨v, tp, _, .type nv, _, _, rfl, upd_same, .cons (.ty "list") (.cons (.ty "tuple") .nil), dv.ty, ka, _, rfl, ?_⟩
    cases r with
    | pl x => exact iteT (iteT (k _ S0))
    | sq xs =>
      refine iteF ?_
      obtain ⟨b, rfl, hb⟩ := hv.same S0
      refine ⟨_, rfl, b, xs, rfl, hb.imp SqL.of SqT.of, _, _, rfl, rfl, _, rfl, ?_⟩
      have sm : ∀ {xs : List V}, xs.length < 3 → isRowB (.sq xs) = false := fun {xs} h => by
        cases e : isRowB (.sq xs) with
        | false => rfl
        | true =>
          obtain ⟨ev, q, _⟩ := row_ev e
          cases q
          cases ev <;> simp [Ev.row, Ev.tl] at h
      match xs, ok with
      | [], ok => exact iteT (k _ S0)
      | [x], ok => exact iteT (by have := k _ S0; rw [sm (show [x].length < 3 by simp)] at this; exact this)
      | [x, y], ok => exact iteT (by have := k _ S0; rw [sm (show [x, y].length < 3 by simp)] at this; exact this)
      | x :: y :: z :: rest, ok =>
        refine ite2 (fun h => ?_) (fun h => ?_)
        · exfalso
          have := of_decide_eq_true h
          simp at this
          omega
        refine ⟨_, rfl, ixOr hb (j := 0) rfl ?_⟩
        obtain ⟨tn, dn, _⟩ := (ok.2 x (by simp)).dm (K := K) (H := upd H tp (.tup [.ty "list", .ty "tuple"]))
        by_cases hs : ∃ s, x = .str s
        rotate_left
        · have e0 : isRowB (.sq (x :: y :: z :: rest)) = false := by
            cases e : isRowB (.sq (x :: y :: z :: rest)) with
            | false => rfl
            | true =>
              obtain ⟨ev, q, _⟩ := row_ev e
              injection q with q
              injection q with q
              exact absurd ⟨_, q⟩ hs
          have kk : PySem.W.kitOne K (.type tn) (.type "str") = some false := by
            cases dn <;> first | exact kit_ty (by decide +kernel) | exact absurd ⟨_, rfl⟩ hs
          have := k _ S0
          rw [e0] at this
          exact ⟨_, rfl, _, _, _, _, _, rfl, .ty "str", dn.ty, kk, false, rfl, iteT (iteT this)⟩
        obtain ⟨s, rfl⟩ := hs
        refine ⟨_, rfl, _, _, _, _, _, rfl, .ty "str", dn.ty, by cases dn; exact kit_ty (by decide +kernel), true, rfl, iteF ?_⟩
        refine ⟨_, rfl, s, rfl, rfl, _, rfl, ?_⟩
        have un : isRowB (.sq (.str s :: y :: z :: rest)) = (match lens.lookup s with
          | some n => decide (((z :: rest).length + 2 : Nat) = n) && (isW 1 1000000000 y && (z :: rest).all isN)
          | none => false) := rfl
        cases el : lens.lookup s with
        | none =>
          rw [el] at un
          have := k _ S0
          rw [un] at this
          rw [show (List.lookup s [("born", 4), ("wed", 4), ("happened", 3), ("died", 3)] : Option Int) = none from el]
          exact iteT (iteT this)
        | some n =>
          rw [el] at un
          rw [show (List.lookup s [("born", 4), ("wed", 4), ("happened", 3), ("died", 3)] : Option Int) = some n from el]
          refine iteF ⟨_, rfl, b, _, rfl, hb.imp SqL.of SqT.of, _, rfl, s, n, rfl, rfl, el, rfl, _, rfl, ?_⟩
          have un : isRowB (.sq (.str s :: y :: z :: rest)) = (decide (((z :: rest).length + 2 : Nat) = n) && (isW 1 1000000000 y && (z :: rest).all isN)) := un
          refine ite2 (fun h => ?_) (fun h => ?_)
          · have := k _ S0
            have hn : ¬ (((z :: rest).length + 2 : Nat) : Int) = n := by
              intro e
              have h : (!decide (V.int ((V.str s :: y :: z :: rest).length : Int) = V.int n)) = true := h
              simp at h e
              omega
            rw [un, decide_eq_false hn, Bool.false_and] at this
            exact this
          have hn : (((z :: rest).length + 2 : Nat) : Int) = n := by
            have h : (!decide (V.int ((V.str s :: y :: z :: rest).length : Int) = V.int n)) = false := Bool.eq_false_iff.mpr h
            simp at h ⊢
            omega
          rw [decide_eq_true hn, Bool.true_and] at un
          obtain ⟨ty, dy, _⟩ := (ok.2 y (by simp)).dm (K := K) (H := upd H tp (.tup [.ty "list", .ty "tuple"]))
          refine ⟨_, rfl, ixOr hb (j := 1) rfl ⟨_, _, _, _, rfl, dy, _, rfl, ?_⟩⟩
          refine ite2 (fun h1 => ?_) (fun h1 => ?_)
          · have := k _ S0
            rw [un, show isW 1 1000000000 y = false by simpa using h1, Bool.false_and] at this
            exact this
          rw [show isW 1 1000000000 y = true by simpa using h1, Bool.true_and] at un
          refine ⟨_, rfl, _, rfl, slOr (n := 2) hb (by decide) (by simp) fun l o hl ho => ?_⟩
          have S1 := S0.trans (sNew (o := o) hl)
          refine ⟨l, z :: rest, rfl, by rcases ho with rfl | rfl; exact .inl upd_same; exact .inr upd_same, fun J wk D hD => lc_it wk (fun i H' => Same (upd (upd H tp (.tup [.ty "list", .ty "tuple"])) l o) H' ∧ H' D = some (.lst (((z :: rest).take i).filter fun v => !isN v))) ⟨sNew hD, upd_same⟩ (fun i H' _ q => ?_) ?_ ?_⟩
          · have e := q.1 l _ upd_same
            rw [e, upd_same]
          · rintro i v H2 H3 hi ⟨S2, hD2⟩ ⟨rfl, hv⟩
            obtain ⟨tv, dvv, _⟩ := (ok.2 v (List.mem_cons_of_mem _ (List.mem_cons_of_mem _ (List.mem_of_getElem? hv)))).dm (K := K) (H := H3)
            refine ⟨rfl, _, rfl, v, tv, rfl, dvv, fun H4 S4 => ⟨_, rfl, ?_⟩⟩
            have ln : (z :: rest).length ≤ 6 := by have := ok.1; simp at this ⊢; omega
            refine ite2 (fun g => ?_) (fun g => ?_)
            · refine ⟨_, rfl, _, S4 _ _ hD2, small1000 (Nat.le_trans (List.length_filter_le _ _) (Nat.le_trans (List.length_take_le' _ _) (by omega))), fun b o e => (upd_ne (ne_of_none e hD)).trans (S4 _ _ (S2 _ _ e)), ?_⟩
              rw [upd_same, take_snoc hv, List.filter_append, show List.filter (fun v => !isN v) [v] = [v] from List.filter_cons_of_pos g]
            · refine ⟨fun b o e => S4 _ _ (S2 _ _ e), ?_⟩
              rw [S4 _ _ hD2, take_snoc hv, List.filter_append, show List.filter (fun v => !isN v) [v] = [] from List.filter_cons_of_neg g, List.append_nil]
          · rintro H2 ⟨S2, hD2⟩
            rw [List.take_length] at hD2
            refine ⟨_, .inl ⟨_, SqL.of hD2, rfl⟩, ?_⟩
            have := k _ (S1.trans S2)
            rw [un, all_filter] at this
            rw [Bool.not_not]
            exact this
theorem cal_is_row (T : Txt P w K mg cl) : Cal P w K mg base CX0 2 "is_row" ["row"] spIsRow := by
  obtain ⟨f, fd, F, m⟩ := T.d_is_row
  exact ⟨f, fd, ok_is_row F T, m, F.kp, F.binds fun _ _ _ _ _ _ us hl => match us, hl with | [_], _ => rfl⟩
theorem ok_row_place {f : Addr} {fd : FuncData} (F : Fun K "row_place" "row_place" s_row_place f fd) (T : Txt P w K mg cl) : FnOk P w K mg base CX0 1 f fd ["row"] spPlace := by
  refine F.ok sc_row_place (fun vs H Q E h => ?_) (fun cdv A outer s H vs Q E hr h => ?_)
  · obtain ⟨b, e, rfl, _⟩ := h
    rfl
  · obtain ⟨b, e, rfl, hb, k⟩ := h
    refine ⟨_, (pss_one (ps_ret (pe_tup (pa_cons (pe_ix ix_either (pv 0) pe_int (fun _ _ => rfl)) (pa_cons (pe_bm PySem.F.plainAttrs_tuple PySem.F.slot_tuple_index PySem.F.type_tuple_index mt_tup_index (pe_gl T.c_KINDS) (pa_cons (pe_ix ix_either (pv 0) pe_int (fun _ _ => rfl)) pa_nil)) (pa_cons (pe_ix ix_either (pv 0) (pe_un un_neg pe_int) (fun _ _ => rfl)) pa_nil)))))), ?_⟩
    refine ⟨_, rfl, ixOr hb (j := 1) rfl ⟨.inr (.inl ⟨rfl, T.tt_KINDS⟩), _, rfl, ixOr hb (j := 0) rfl ⟨_, wordsL, e.w, e.k, rfl, rfl, T.tu_KINDS _, words_at e, words_no e, _, rfl, _, rfl, ixOrI hb (row_last e) ⟨by show 3 ≤ sizeLine; decide, k⟩⟩⟩⟩
theorem cal_row_place (T : Txt P w K mg cl) : Cal P w K mg base CX0 1 "row_place" ["row"] spPlace := by
  obtain ⟨f, fd, F, m⟩ := T.d_row_place
  exact ⟨f, fd, ok_row_place F T, m, F.kp, F.binds fun _ _ _ _ _ _ us hl => match us, hl with | [_], _ => rfl⟩
end
end My
set_option Elab.async false
set_option linter.all false
set_option maxRecDepth 100000
set_option maxHeartbeats 1000000
namespace My
open PySem L2 Dw
open C8 (pss_cut tCut)
/-! a family in the memory -/
structure FamA where
  dx : Addr
  b : Addr
  d : Addr
  pr : Addr
  wd : Addr
  fc : Addr
  od : Addr
  wl : List (Str × Addr)
  lv : V
def faF (li cu : Addr) (A : FamA) (m : Nat) : List (Str × V) := [("lives", .ref li), ("customs", .ref cu), ("births", .ref A.b), ("deaths", .ref A.d), ("parents", .ref A.pr), ("weddings", .ref A.wd), ("facts", .ref A.fc), ("order", .ref A.od), ("last", A.lv), ("many", .int (m : Nat))]
def LastAt (H : Hp) (v : V) : Option (Int × Int × Str) → Prop
  | none => v = .non
  | some q => ∃ t, v = .ref t ∧ H t = some (.tup (plV q))
def WedR (H : Hp) (q : Str × Addr) (r : Str × List Str) : Prop := q.1 = r.1 ∧ H q.2 = some (.lst (r.2.map V.str))
structure FamX (C : Addr) (H0 H : Hp) (p li cu : Addr) (A : FamA) (f : Fam) : Prop where
  self : H p = some (.ins C A.dx (faF li cu A f.many))
  hb : H A.b = some (.dK (dk V.int f.births))
  hd : H A.d = some (.dK (dk V.int f.deaths))
  hp : H A.pr = some (.dK (dk id f.parents))
  hw : H A.wd = some (.dK (dk V.ref A.wl))
  hf : H A.fc = some (.dK (dk V.int f.facts))
  ho : H A.od = some (.lst (f.order.map V.str))
  hl : LastAt H A.lv f.last
  we : Paired (WedR H) A.wl f.weds
  nd : [A.b, A.d, A.pr, A.wd, A.fc].Nodup
  nw : (A.od :: A.wl.map (·.2)).Nodup
  nk : (A.wl.map (·.1)).Nodup
  fr : ∀ a ∈ p :: A.b :: A.d :: A.pr :: A.wd :: A.fc :: A.od :: A.wl.map (·.2), H0 a = none
  sa : Same H0 H
theorem LastAt.keep {H H' : Hp} {v : V} {o : Option (Int × Int × Str)} (h : LastAt H v o) (k : ∀ t xs, H t = some (.tup xs) → H' t = some (.tup xs)) : LastAt H' v o := by
  cases o with
  | none => exact h
  | some q => obtain ⟨t, e, ht⟩ := h; exact ⟨t, e, k _ _ ht⟩
theorem WedR.keep {H H' : Hp} {q : Str × Addr} {r : Str × List Str} (h : WedR H q r) (k : ∀ t xs, H t = some (.lst xs) → H' t = some (.lst xs)) : WedR H' q r := ⟨h.1, k _ _ h.2⟩
section
variable {C : Addr} {H0 H H' : Hp} {p li cu : Addr} {A : FamA} {f : Fam}
theorem FamX.same (X : FamX C H0 H p li cu A f) (S : Same H H') : FamX C H0 H' p li cu A f :=
  ⟨S _ _ X.self, S _ _ X.hb, S _ _ X.hd, S _ _ X.hp, S _ _ X.hw, S _ _ X.hf, S _ _ X.ho, X.hl.keep fun _ _ => S _ _, L2.Paired.mapP X.we fun _ _ h => h.keep fun _ _ => S _ _, X.nd, X.nw, X.nk, X.fr, X.sa.trans S⟩
theorem FamX.nds (X : FamX C H0 H p li cu A f) : (A.b ≠ A.d ∧ A.b ≠ A.pr ∧ A.b ≠ A.wd ∧ A.b ≠ A.fc) ∧ (A.d ≠ A.pr ∧ A.d ≠ A.wd ∧ A.d ≠ A.fc) ∧ (A.pr ≠ A.wd ∧ A.pr ≠ A.fc) ∧ A.wd ≠ A.fc := by
  have := X.nd
  simp at this
  simpa using this
/-- what stays when one of its dicts is written -/
theorem FamX.dict (X : FamX C H0 H p li cu A f) {a : Addr} {kvs kvs' : List (Key × V)} (ha : H a = some (.dK kvs)) (h0 : H0 a = none) :
    (upd H a (.dK kvs')) p = some (.ins C A.dx (faF li cu A f.many)) ∧ (upd H a (.dK kvs')) A.od = some (.lst (f.order.map V.str)) ∧ LastAt (upd H a (.dK kvs')) A.lv f.last ∧ Paired (WedR (upd H a (.dK kvs'))) A.wl f.weds ∧ Same H0 (upd H a (.dK kvs')) :=
  ⟨(upd_ne (ne_of X.self ha (fun z => nomatch z))).trans X.self, (upd_ne (ne_of X.ho ha (fun z => nomatch z))).trans X.ho, X.hl.keep fun t xs e => (upd_ne (ne_of e ha (fun z => nomatch z))).trans e,
    L2.Paired.mapP X.we fun _ _ h => h.keep fun t xs e => (upd_ne (ne_of e ha (fun z => nomatch z))).trans e, same_upd X.sa h0⟩
theorem FamX.stepB (X : FamX C H0 H p li cu A f) (n : Str) (y : Int) : FamX C H0 (upd H A.b (.dK (dk V.int (put f.births n y)))) p li cu A { f with births := put f.births n y } := by
  obtain ⟨h1, h2, h3, h4, h5⟩ := X.dict (kvs' := dk V.int (put f.births n y)) X.hb (X.fr _ (by simp))
  obtain ⟨⟨n1, n2, n3, n4⟩, ⟨n5, n6, n7⟩, ⟨n8, n9⟩, n10⟩ := X.nds
  exact ⟨h1, upd_same, (upd_ne (Ne.symm n1)).trans X.hd, (upd_ne (Ne.symm n2)).trans X.hp, (upd_ne (Ne.symm n3)).trans X.hw, (upd_ne (Ne.symm n4)).trans X.hf, h2, h3, h4, X.nd, X.nw, X.nk, X.fr, h5⟩
theorem FamX.stepD (X : FamX C H0 H p li cu A f) (n : Str) (y : Int) : FamX C H0 (upd H A.d (.dK (dk V.int (put f.deaths n y)))) p li cu A { f with deaths := put f.deaths n y } := by
  obtain ⟨h1, h2, h3, h4, h5⟩ := X.dict (kvs' := dk V.int (put f.deaths n y)) X.hd (X.fr _ (by simp))
  obtain ⟨⟨n1, n2, n3, n4⟩, ⟨n5, n6, n7⟩, ⟨n8, n9⟩, n10⟩ := X.nds
  exact ⟨h1, (upd_ne n1).trans X.hb, upd_same, (upd_ne (Ne.symm n5)).trans X.hp, (upd_ne (Ne.symm n6)).trans X.hw, (upd_ne (Ne.symm n7)).trans X.hf, h2, h3, h4, X.nd, X.nw, X.nk, X.fr, h5⟩
theorem FamX.stepP (X : FamX C H0 H p li cu A f) (n : Str) (v : V) : FamX C H0 (upd H A.pr (.dK (dk id (put f.parents n v)))) p li cu A { f with parents := put f.parents n v } := by
  obtain ⟨h1, h2, h3, h4, h5⟩ := X.dict (kvs' := dk id (put f.parents n v)) X.hp (X.fr _ (by simp))
  obtain ⟨⟨n1, n2, n3, n4⟩, ⟨n5, n6, n7⟩, ⟨n8, n9⟩, n10⟩ := X.nds
  exact ⟨h1, (upd_ne n2).trans X.hb, (upd_ne n5).trans X.hd, upd_same, (upd_ne (Ne.symm n8)).trans X.hw, (upd_ne (Ne.symm n9)).trans X.hf, h2, h3, h4, X.nd, X.nw, X.nk, X.fr, h5⟩
theorem FamX.stepF (X : FamX C H0 H p li cu A f) (n : Str) (y : Int) : FamX C H0 (upd H A.fc (.dK (dk V.int (put f.facts n y)))) p li cu A { f with facts := put f.facts n y } := by
  obtain ⟨h1, h2, h3, h4, h5⟩ := X.dict (kvs' := dk V.int (put f.facts n y)) X.hf (X.fr _ (by simp))
  obtain ⟨⟨n1, n2, n3, n4⟩, ⟨n5, n6, n7⟩, ⟨n8, n9⟩, n10⟩ := X.nds
  exact ⟨h1, (upd_ne n4).trans X.hb, (upd_ne n7).trans X.hd, (upd_ne n9).trans X.hp, (upd_ne n10).trans X.hw, upd_same, h2, h3, h4, X.nd, X.nw, X.nk, X.fr, h5⟩
theorem Paired.wedAll {H H' : Hp} {B : Addr → Prop} : ∀ {wl : List (Str × Addr)} {ws : List (Str × List Str)}, Paired (WedR H) wl ws → (∀ a ∈ wl.map (·.2), ∀ xs, H a = some (.lst xs) → H' a = some (.lst xs)) → Paired (WedR H') wl ws
  | _, _, .nil, _ => .nil
  | q :: wl, r :: ws, .cons h t, k => .cons ⟨h.1, k q.2 (by simp) _ h.2⟩ (Paired.wedAll (B := B) t fun a ha => k a (by simp only [List.map_cons]; exact List.mem_cons_of_mem _ ha))
theorem FamX.stepO (X : FamX C H0 H p li cu A f) (n : Str) : FamX C H0 (upd H A.od (.lst (f.order.map V.str ++ [.str n]))) p li cu A { f with order := f.order ++ [n] } := by
  have nd : ∀ {a kvs}, H a = some (.dK kvs) → (upd H A.od (.lst (f.order.map V.str ++ [.str n]))) a = some (.dK kvs) := fun {a kvs} e => (upd_ne (ne_of e X.ho (fun z => nomatch z))).trans e
  refine ⟨(upd_ne (ne_of X.self X.ho (fun z => nomatch z))).trans X.self, nd X.hb, nd X.hd, nd X.hp, nd X.hw, nd X.hf, ?_, X.hl.keep fun t xs e => (upd_ne (ne_of e X.ho (fun z => nomatch z))).trans e, ?_, X.nd, X.nw, X.nk, X.fr, same_upd X.sa (X.fr _ (by simp))⟩
  · rw [upd_same, List.map_append]
    rfl
  · refine Paired.wedAll (B := fun _ => True) X.we fun a ha xs e => (upd_ne fun z => ?_).trans e
    have := (List.nodup_cons.mp X.nw).1
    rw [z] at ha
    exact this ha
theorem wed_look {H : Hp} {l : Str} : ∀ {wl : List (Str × Addr)} {ws : List (Str × List Str)}, Paired (WedR H) wl ws → (∀ a, wl.lookup l = some a → ∃ ms, ws.lookup l = some ms ∧ H a = some (.lst (ms.map V.str))) ∧ (wl.lookup l = none → ws.lookup l = none)
  | _, _, .nil => ⟨fun a h => (by cases h), fun _ => rfl⟩
  | (t, b) :: wl, (t', ms) :: ws, .cons h q => by
    obtain ⟨e, hb⟩ := h
    obtain rfl : t = t' := e
    obtain ⟨g1, g2⟩ := wed_look (l := l) q
    rw [List.lookup_cons, List.lookup_cons]
    cases l == t with
    | true => exact ⟨fun a h => (by cases h; exact ⟨ms, rfl, hb⟩), fun h => (by cases h)⟩
    | false => exact ⟨g1, g2⟩
theorem wed_put {H : Hp} {l : Str} {a : Addr} {v : List Str} : ∀ {wl : List (Str × Addr)} {ws : List (Str × List Str)}, Paired (WedR H) wl ws → (wl.map (·.1)).Nodup → (wl.map (·.2)).Nodup → wl.lookup l = some a →
    Paired (WedR (upd H a (.lst (v.map V.str)))) wl (ws.map fun q => if q.1 = l then (q.1, v) else q)
  | _, _, .nil, _, _, h => by cases h
  | (t, b) :: wl, (t', ms) :: ws, .cons h q, k1, k2, hl => by
    obtain ⟨e, hb⟩ := h
    obtain rfl : t = t' := e
    obtain ⟨m1, k1⟩ := List.nodup_cons.mp k1
    obtain ⟨m2, k2⟩ := List.nodup_cons.mp k2
    rw [List.lookup_cons] at hl
    by_cases e : l = t
    · subst e
      rw [beq_self_eq_true] at hl
      cases hl
      rw [List.map_cons, if_pos rfl]
      have rest : ∀ {wl : List (Str × Addr)} {ws : List (Str × List Str)}, Paired (WedR H) wl ws → l ∉ wl.map (·.1) → a ∉ wl.map (·.2) → Paired (WedR (upd H a (.lst (v.map V.str)))) wl (ws.map fun q => if q.1 = l then (q.1, v) else q) := fun {wl ws} q => by
        induction q with
        | nil => intro _ _; exact .nil
        | @cons x y xs ys h t ih =>
          intro g1 g2
          simp only [List.map_cons, List.mem_cons, not_or] at g1 g2
          rw [List.map_cons, if_neg (by rw [← h.1]; exact Ne.symm g1.1)]
          exact .cons ⟨h.1, (upd_ne (Ne.symm g2.1)).trans h.2⟩ (ih g1.2 g2.2)
      exact .cons ⟨rfl, upd_same⟩ (rest q m1 m2)
    · rw [show (l == t) = false from beq_eq_false_iff_ne.mpr e] at hl
      rw [List.map_cons, if_neg (Ne.symm e)]
      have ne : b ≠ a := fun z => m2 (by rw [show b = a from z]; exact List.mem_map.mpr ⟨_, look_some_mem hl, rfl⟩)
      exact .cons ⟨rfl, (upd_ne ne).trans hb⟩ (wed_put q k1 k2 hl)
/-- a further mate of a life that has one -/
theorem FamX.stepW (X : FamX C H0 H p li cu A f) {l n : Str} {a : Addr} {ms : List Str} (h1 : A.wl.lookup l = some a) (h2 : f.weds.lookup l = some ms) (ha : H a = some (.lst (ms.map V.str))) : FamX C H0 (upd H a (.lst (ms.map V.str ++ [.str n]))) p li cu A { f with weds := put f.weds l (ms ++ [n]) } := by
  have nd : ∀ {b kvs}, H b = some (.dK kvs) → (upd H a (.lst (ms.map V.str ++ [.str n]))) b = some (.dK kvs) := fun {b kvs} e => (upd_ne (ne_of e ha (fun z => nomatch z))).trans e
  have mem : a ∈ A.wl.map (·.2) := List.mem_map.mpr ⟨_, look_some_mem h1, rfl⟩
  obtain ⟨w1, w2⟩ := List.nodup_cons.mp X.nw
  refine ⟨(upd_ne (ne_of X.self ha (fun z => nomatch z))).trans X.self, nd X.hb, nd X.hd, nd X.hp, nd X.hw, nd X.hf, (upd_ne fun z => w1 (by rw [z]; exact mem)).trans X.ho, X.hl.keep fun t xs e => (upd_ne (ne_of e ha (fun z => nomatch z))).trans e, ?_, X.nd, X.nw, X.nk, X.fr, same_upd X.sa (X.fr _ (by simp only [List.mem_cons]; exact .inr (.inr (.inr (.inr (.inr (.inr (.inr mem)))))))) ⟩
  have q := wed_put (v := ms ++ [n]) X.we X.nk w2 h1
  rw [List.map_append] at q
  unfold put
  rw [if_pos (by rw [h2]; rfl)]
  exact q
/-- the first mate of a life: a new list -/
theorem FamX.stepV (X : FamX C H0 H p li cu A f) {l n : Str} {e : Addr} (h1 : A.wl.lookup l = none) (he : H e = none) :
    FamX C H0 (upd (upd H A.wd (.dK (dk V.ref (put A.wl l e)))) e (.lst [.str n])) p li cu { A with wl := put A.wl l e } { f with weds := put f.weds l [n] } := by
  have h2 := (wed_look (l := l) X.we).2 h1
  rw [put_none h1, put_none h2]
  obtain ⟨g1, g2, g3, g4, g5⟩ := X.dict (kvs' := dk V.ref (A.wl ++ [(l, e)])) X.hw (X.fr _ (by simp))
  obtain ⟨⟨n1, n2, n3, n4⟩, ⟨n5, n6, n7⟩, ⟨n8, n9⟩, n10⟩ := X.nds
  have he2 : (upd H A.wd (.dK (dk V.ref (A.wl ++ [(l, e)])))) e = none := (upd_ne (Ne.symm (ne_of_none X.hw he))).trans he
  have S := sNew (o := .lst [.str n]) he2
  have e0 : H0 e = none := by
    cases q : H0 e with
    | none => rfl
    | some o => rw [X.sa _ _ q] at he; cases he
  have ne : ∀ a ∈ A.wl.map (·.2), a ≠ e := fun a ha => by
    obtain ⟨q, hq, rfl⟩ := List.mem_map.mp ha
    have : ∀ {wl : List (Str × Addr)} {ws : List (Str × List Str)}, Paired (WedR H) wl ws → q ∈ wl → ∃ xs, H q.2 = some (.lst xs) := fun {wl ws} x => by
      induction x with
      | nil => intro h; cases h
      | @cons a b as bs h t ih =>
        intro g
        rcases List.mem_cons.mp g with rfl | g
        · exact ⟨_, h.2⟩
        · exact ih g
    obtain ⟨xs, hx⟩ := this X.we hq
    exact ne_of_none hx he
  refine ⟨S _ _ g1, S _ _ ((upd_ne n3).trans X.hb), S _ _ ((upd_ne n6).trans X.hd), S _ _ ((upd_ne n8).trans X.hp), S _ _ upd_same, S _ _ ((upd_ne (Ne.symm n10)).trans X.hf), S _ _ g2, g3.keep fun _ _ => S _ _, ?_, X.nd, ?_, ?_, ?_, g5.trans S⟩
  · exact Paired.appendP (L2.Paired.mapP g4 fun _ _ h => h.keep fun _ _ => S _ _) (.cons ⟨rfl, upd_same⟩ .nil)
  · show (A.od :: (A.wl ++ [(l, e)]).map (·.2)).Nodup
    obtain ⟨w1, w2⟩ := List.nodup_cons.mp X.nw
    rw [List.map_append, List.nodup_cons]
    refine ⟨fun h => ?_, List.nodup_append.mpr ⟨w2, by simp, fun a ha b hb => ?_⟩⟩
    · rcases List.mem_append.mp h with h | h
      · exact w1 h
      · exact ne_of_none X.ho he (by simpa using h)
    · rw [show b = e by simpa using hb]
      exact ne a ha
  · show ((A.wl ++ [(l, e)]).map (·.1)).Nodup
    rw [List.map_append]
    refine List.nodup_append.mpr ⟨X.nk, by simp, fun a ha b hb => ?_⟩
    rw [show b = l by simpa using hb]
    exact fun z => look_none_mem h1 (by rw [← z]; exact ha)
  · intro a ha
    have ha : a ∈ p :: A.b :: A.d :: A.pr :: A.wd :: A.fc :: A.od :: (A.wl ++ [(l, e)]).map (·.2) := ha
    rw [List.map_append, ← List.cons_append, ← List.cons_append, ← List.cons_append, ← List.cons_append, ← List.cons_append, ← List.cons_append, ← List.cons_append] at ha
    rcases List.mem_append.mp ha with ha | ha
    · exact X.fr a ha
    · rw [show a = e by simpa using ha]
      exact e0
/-- the last place, and one row more -/
theorem FamX.stepL (X : FamX C H0 H p li cu A f) {q : Int × Int × Str} {t : Addr} (ht : H t = some (.tup (plV q))) :
    FamX C H0 (upd H p (.ins C A.dx (faF li cu { A with lv := .ref t } (f.many + 1)))) p li cu { A with lv := .ref t } { f with last := some q, many := f.many + 1 } := by
  have nd : ∀ {b kvs}, H b = some (.dK kvs) → (upd H p (.ins C A.dx (faF li cu { A with lv := .ref t } (f.many + 1)))) b = some (.dK kvs) := fun {b kvs} e => (upd_ne (ne_of e X.self (fun z => nomatch z))).trans e
  refine ⟨upd_same, nd X.hb, nd X.hd, nd X.hp, nd X.hw, nd X.hf, (upd_ne (ne_of X.ho X.self (fun z => nomatch z))).trans X.ho, ⟨t, rfl, (upd_ne (ne_of ht X.self (fun z => nomatch z))).trans ht⟩, L2.Paired.mapP X.we fun _ _ h => h.keep fun t xs e => (upd_ne (ne_of e X.self (fun z => nomatch z))).trans e, X.nd, X.nw, X.nk, X.fr, same_upd X.sa (X.fr _ (by simp))⟩
end
/-- an instance being filled, its new things L -/
structure Bld (H H1 : Hp) (p : Addr) (o : HO) (L : List (Addr × HO)) : Prop where
  self : H1 p = some o
  at_ : ∀ q ∈ L, H1 q.1 = some q.2
  nod : (p :: L.map (·.1)).Nodup
  fr : ∀ q ∈ L, H q.1 = none
  but : But p H H1
theorem Bld.set {H H1 : Hp} {p : Addr} {o o' : HO} {L : List (Addr × HO)} (B : Bld H H1 p o L) : Bld H (upd H1 p o') p o' L := by
  obtain ⟨n1, n2⟩ := List.nodup_cons.mp B.nod
  exact ⟨upd_same, fun q hq => (upd_ne fun e => n1 (by rw [← e]; exact List.mem_map.mpr ⟨q, hq, rfl⟩)).trans (B.at_ q hq), B.nod, B.fr, fun b u e n => (upd_ne n).trans (B.but _ _ e n)⟩
theorem Bld.new {H H1 : Hp} {p a : Addr} {o oa : HO} {L : List (Addr × HO)} (B : Bld H H1 p o L) (ha : H1 a = none) : Bld H (upd H1 a oa) p o (L ++ [(a, oa)]) := by
  obtain ⟨n1, n2⟩ := List.nodup_cons.mp B.nod
  have S := sNew (o := oa) ha
  have nap : p ≠ a := ne_of_none B.self ha
  have h0 : H a = none := by
    cases q : H a with
    | none => rfl
    | some u => rw [B.but _ _ q (Ne.symm nap)] at ha; cases ha
  refine ⟨S _ _ B.self, fun q hq => ?_, ?_, fun q hq => ?_, fun b u e n => S _ _ (B.but _ _ e n)⟩
  · rcases List.mem_append.mp hq with hq | hq
    · exact S _ _ (B.at_ q hq)
    · obtain rfl : q = (a, oa) := by simpa using hq
      exact upd_same
  · rw [List.map_append, List.nodup_cons]
    refine ⟨fun h => ?_, List.nodup_append.mpr ⟨n2, by simp, fun x hx y hy => ?_⟩⟩
    · rcases List.mem_append.mp h with h | h
      · exact n1 h
      · exact nap (by simpa using h)
    · obtain ⟨q, hq, rfl⟩ := List.mem_map.mp hx
      rw [show y = a by simpa using hy]
      exact ne_of_none (B.at_ q hq) ha
  · rcases List.mem_append.mp hq with hq | hq
    · exact B.fr q hq
    · obtain rfl : q = (a, oa) := by simpa using hq
      exact h0
end My
set_option Elab.async false
set_option linter.all false
set_option maxRecDepth 100000
set_option maxHeartbeats 1000000
namespace My
open PySem L2 Dw
open C8 (pss_cut tCut)
theorem dgF {α : Type} {H : Hp} {a : Addr} {fn : α → V} {L : List (Str × α)} (s : Str) (h : H a = some (.dK (dk fn L))) : DGet H a (.str s) ((L.lookup s).map fn) := by
  have q := DGet.k (k := .inr s) h
  rw [valV_dk] at q
  exact q
def spBorn (K : PySem.W.Frag) (C CC : Addr) : Sp := fun vs H Q _ => ∃ (H0 : Hp) (p li cu : Addr) (A : FamA) (f : Fam) (n0 n1 n2 : Int) (c3 : V) (y : Int) (s n : Str), vs = [.ref p, .int y, .str s, .str n] ∧ FamX C H0 H p li cu A f ∧ CuAt CC H cu (.int n0) (.int n1) (.int n2) c3 ∧ Q (optV (bornW n0 n1 f y s n)) H
def spWed (K : PySem.W.Frag) (C CC CL : Addr) : Sp := fun vs H Q _ => ∃ (H0 : Hp) (p li cu t : Addr) (us : List V) (gs : List Gd) (A : FamA) (f : Fam) (n0 n1 n2 : Int) (c3 : V) (y : Int) (s n : Str), vs = [.ref p, .int y, .str s, .str n] ∧ FamX C H0 H p li cu A f ∧ FamOk gs f ∧ LiAt CL H li cu t us gs ∧ CuAt CC H cu (.int n0) (.int n1) (.int n2) c3 ∧ s.length ≤ 1000 ∧ Q (optV (wedW n2 gs f y s n)) H
def spFault (K : PySem.W.Frag) (C CC CL : Addr) : Sp := fun vs H Q _ => ∃ (H0 : Hp) (p li cu t : Addr) (us : List V) (gs : List Gd) (A : FamA) (f : Fam) (n0 n1 n2 : Int) (c3 v : V) (r : Rd), vs = [.ref p, v] ∧ FamX C H0 H p li cu A f ∧ FamOk gs f ∧ LiAt CL H li cu t us gs ∧ CuAt CC H cu (.int n0) (.int n1) (.int n2) c3 ∧ RdAt H v r ∧ RdOk r ∧ ∀ H', Same H H' → Q (optV (faultW n0 n1 n2 gs f r)) H'
theorem isN_len {s : Str} (h : isN (.str s) = true) : s.length ≤ 8 := by
  obtain ⟨h1, _⟩ := Bool.and_eq_true_iff.mp (show ((decide (1 ≤ s.length) && decide (s.length ≤ 8)) && _) = true from h)
  exact of_decide_eq_true (Bool.and_eq_true_iff.mp h1).2
section
variable {P : Program} {w : World} {K : PySem.W.Frag} {mg : Str → Option Value} {base : Heap} {cl : String → Addr}
theorem ok_born {f : Addr} {fd : FuncData} (F : Fun K "born_fault" "Family.born_fault" s_Family_born_fault f fd) (T : Txt P w K mg cl) : FnOk P w K mg base CX0 1 f fd ["self", "year", "parent", "name"] (spBorn K (cl "Family") (cl "Customs")) := by
  refine F.ok sc_Family_born_fault (fun vs H Q E h => ?_) (fun cdv A outer s H vs Q E hr h => ?_)
  · obtain ⟨H0, p, li, cu, A, f, n0, n1, n2, c3, y, s, n, rfl, _⟩ := h
    rfl
  · obtain ⟨H0, p, li, cu, A, f, n0, n1, n2, c3, y, s, n, rfl, X, ⟨dc, hc⟩, k⟩ := h
    have hu := hu_of hr
    refine ⟨_, (pss_cons (ps_if (pt_cmp (pc_dnotin hu (pv 2) (pe_fld (pv 0) rfl)))
          (pss_one (ps_ret pe_str)) pss_nil)
        (pss_cons (ps_if (pt_cmpR op_lt (pv 1) (pe_op op_add (pe_dget hu (pe_fld (pv 0) rfl) (pv 2) (fun _ _ => rfl)) (pe_fld (pe_fld (pv 0) rfl) rfl)) (nomark _))
          (pss_one (ps_ret pe_str)) pss_nil)
        (pss_cons (ps_if (PW.pt (pw_and (pt_cmp (pc_din hu (pv 2) (pe_fld (pv 0) rfl))) (pw_and1 (pt_cmpR op_gt (pv 1) (pe_op op_add (pe_dget hu (pe_fld (pv 0) rfl) (pv 2) (fun _ _ => rfl)) (pe_fld (pe_fld (pv 0) rfl) rfl)) (nomark _)))))
          (pss_one (ps_ret pe_str)) pss_nil)
        (pss_one (ps_ret (pe_ifExp (pt_cmp (pc_din hu (pv 3) (pe_fld (pv 0) rfl))) pe_str pe_non)))))), ?_⟩
    refine ⟨_, rfl, _, rfl, p, _, _, _, _, rfl, X.self, T.cl_Family, T.na_Family _ (by decide), rfl, A.b, _, rfl, dgF s X.hb, _, rfl, ?_⟩
    rw [Option.isSome_map]
    cases eb : f.births.lookup s with
    | none =>
      have e : bornW n0 n1 f y s n = some ("parent" : Str) := by unfold bornW; rw [eb]
      rw [e] at k
      exact iteT k
    | some b =>
      have w1 : bornW n0 n1 f y s n = if y < b + n0 then some ("young" : Str) else if deadW n1 (f.deaths.lookup s) y = true then some ("dead" : Str) else nameW f n := by unfold bornW; rw [eb]
      have dg := dgF s X.hb
      rw [eb] at dg
      refine iteF ⟨_, rfl, _, rfl, p, _, _, _, _, rfl, X.self, T.cl_Family, T.na_Family _ (by decide), rfl, _, rfl, A.b, _, rfl, dg, _, rfl, p, _, _, _, _, rfl, X.self, T.cl_Family, T.na_Family _ (by decide), rfl, cu, _, dc, _, _, rfl, hc, T.cl_Customs, T.na_Customs _ (by decide), rfl, _, _, rfl, rfl, _, _, rfl, rfl, _, rfl, ?_⟩
      refine ite2 (fun g => ?_) (fun g => ?_)
      · rw [w1, if_pos (of_decide_eq_true g)] at k
        exact k
      rw [if_neg (fun z => g (decide_eq_true z))] at w1
      have nm1 : (f.parents.lookup n).isSome = true → nameW f n = some ("name" : Str) := fun g => if_pos g
      have nm0 : ¬ (f.parents.lookup n).isSome = true → nameW f n = none := fun g => if_neg g
      have dd := dgF s X.hd
      cases ed : f.deaths.lookup s with
      | none =>
        rw [ed] at dd w1
        rw [if_neg (by intro z; cases z)] at w1
        rw [w1] at k
        refine ⟨_, rfl, _, rfl, p, _, _, _, _, rfl, X.self, T.cl_Family, T.na_Family _ (by decide), rfl, A.d, _, rfl, dd, _, rfl, iteF (iteF ?_)⟩
        refine ⟨_, rfl, _, rfl, p, _, _, _, _, rfl, X.self, T.cl_Family, T.na_Family _ (by decide), rfl, A.pr, _, rfl, dgF n X.hp, _, rfl, ?_⟩
        rw [Option.isSome_map]
        exact ite2 (fun g => by rw [nm1 g] at k; exact k) (fun g => by rw [nm0 g] at k; exact k)
      | some d =>
        rw [ed] at dd w1
        refine ⟨_, rfl, _, rfl, p, _, _, _, _, rfl, X.self, T.cl_Family, T.na_Family _ (by decide), rfl, A.d, _, rfl, dd, _, rfl, iteT ?_⟩
        refine ⟨_, rfl, _, rfl, p, _, _, _, _, rfl, X.self, T.cl_Family, T.na_Family _ (by decide), rfl, _, rfl, A.d, _, rfl, dd, _, rfl, p, _, _, _, _, rfl, X.self, T.cl_Family, T.na_Family _ (by decide), rfl, cu, _, dc, _, _, rfl, hc, T.cl_Customs, T.na_Customs _ (by decide), rfl, _, _, rfl, rfl, _, _, rfl, rfl, _, rfl, ?_⟩
        refine ite2 (fun g => ?_) (fun g => ?_)
        · rw [w1, if_pos (show deadW n1 (some d) y = true from g)] at k
          exact k
        · rw [w1, if_neg (show ¬ deadW n1 (some d) y = true from g)] at k
          refine ⟨_, rfl, _, rfl, p, _, _, _, _, rfl, X.self, T.cl_Family, T.na_Family _ (by decide), rfl, A.pr, _, rfl, dgF n X.hp, _, rfl, ?_⟩
          rw [Option.isSome_map]
          exact ite2 (fun g => by rw [nm1 g] at k; exact k) (fun g => by rw [nm0 g] at k; exact k)
theorem cal_born (T : Txt P w K mg cl) : CalM P w K mg base CX0 1 (cl "Family") "born_fault" ["self", "year", "parent", "name"] (spBorn K (cl "Family") (cl "Customs")) := by
  obtain ⟨f, fd, F, m⟩ := T.d_Family_born_fault
  exact ⟨f, fd, ok_born F T, m, F.binds fun _ _ _ _ _ _ us hl => match us, hl with | [_, _, _, _], _ => rfl⟩
theorem ok_wed {f : Addr} {fd : FuncData} (F : Fun K "wed_fault" "Family.wed_fault" s_Family_wed_fault f fd) (T : Txt P w K mg cl) : FnOk P w K mg base CX0 2 f fd ["self", "year", "life", "name"] (spWed K (cl "Family") (cl "Customs") (cl "Lives")) := by
  refine F.ok sc_Family_wed_fault (fun vs H Q E h => ?_) (fun cdv A outer s H vs Q E hr h => ?_)
  · obtain ⟨H0, p, li, cu, t, us, gs, A, f, n0, n1, n2, c3, y, s, n, rfl, _⟩ := h
    rfl
  · obtain ⟨H0, p, li, cu, t, us, gs, A, f, n0, n1, n2, c3, y, s, n, rfl, X, ok, L, ⟨dc, hc⟩, hs, k⟩ := h
    have hu := hu_of hr
    have C_Lives_has : CalM P w K mg base CX0 1 (cl "Lives") "has" _ (spHas K (cl "Lives")) := cal_has T
    refine ⟨_, (pss_cons (ps_if (pt_not (pt_val (pe_mth T.cl_Lives C_Lives_has (hr.mono (by decide)) (pe_fld (pv 0) rfl) (pa_cons (pv 2) pa_nil))))
          (pss_one (ps_ret pe_str)) pss_nil)
        (pss_cons (ps_if (pt_cmp (pc_din hu (pv 2) (pe_fld (pv 0) rfl)))
          (pss_one (ps_ret pe_str)) pss_nil)
        (pss_cons (ps_if (pt_cmpR op_lt (pv 1) (pe_op op_add (pe_dget hu (pe_fld (pv 0) rfl) (pv 2) (fun _ _ => rfl)) (pe_fld (pe_fld (pv 0) rfl) rfl)) (nomark _))
          (pss_one (ps_ret pe_str)) pss_nil)
        (pss_one (ps_ret (pe_ifExp (pt_cmp (pc_din hu (pv 3) (pe_fld (pv 0) rfl))) pe_str pe_non)))))), ?_⟩
    obtain ⟨dl, la, lp, hli, _⟩ := L.ex
    refine ⟨_, rfl, p, _, _, _, _, rfl, X.self, T.cl_Family, T.na_Family _ (by decide), rfl, li, dl, _, rfl, hli, rfl, _, rfl, li, cu, t, us, gs, .str s, _, rfl, L, .str s (Nat.le_of_lt (small1000 hs)), _, rfl, ?_⟩
    refine ite2 (fun g => ?_) (fun g => ?_)
    · have e : wedW n2 gs f y s n = some ("life" : Str) := if_pos (by simpa using g)
      rw [e] at k
      exact k
    have g1 : hasN gs (.str s) = true := by simpa using g
    have w1 : wedW n2 gs f y s n = _ := if_neg (by rw [g1]; decide)
    obtain ⟨b, eb⟩ := Option.isSome_iff_exists.mp (ok.born s g1)
    refine ⟨_, rfl, _, rfl, p, _, _, _, _, rfl, X.self, T.cl_Family, T.na_Family _ (by decide), rfl, A.d, _, rfl, dgF s X.hd, _, rfl, ?_⟩
    rw [Option.isSome_map]
    refine ite2 (fun g => ?_) (fun g => ?_)
    · rw [w1, if_pos g] at k
      exact k
    rw [if_neg g, eb] at w1
    have w1 : wedW n2 gs f y s n = if y < b + n2 then some ("young" : Str) else nameW f n := w1
    have dg := dgF s X.hb
    rw [eb] at dg
    refine ⟨_, rfl, _, rfl, p, _, _, _, _, rfl, X.self, T.cl_Family, T.na_Family _ (by decide), rfl, _, rfl, A.b, _, rfl, dg, _, rfl, p, _, _, _, _, rfl, X.self, T.cl_Family, T.na_Family _ (by decide), rfl, cu, _, dc, _, _, rfl, hc, T.cl_Customs, T.na_Customs _ (by decide), rfl, _, _, rfl, rfl, _, _, rfl, rfl, _, rfl, ?_⟩
    refine ite2 (fun g => ?_) (fun g => ?_)
    · rw [w1, if_pos (of_decide_eq_true g)] at k
      exact k
    rw [w1, if_neg (fun z => g (decide_eq_true z))] at k
    refine ⟨_, rfl, _, rfl, p, _, _, _, _, rfl, X.self, T.cl_Family, T.na_Family _ (by decide), rfl, A.pr, _, rfl, dgF n X.hp, _, rfl, ?_⟩
    rw [Option.isSome_map]
    exact ite2 (fun g => by rw [show nameW f n = some ("name" : Str) from if_pos g] at k; exact k) (fun g => by rw [show nameW f n = none from if_neg g] at k; exact k)
theorem cal_wed (T : Txt P w K mg cl) : CalM P w K mg base CX0 2 (cl "Family") "wed_fault" ["self", "year", "life", "name"] (spWed K (cl "Family") (cl "Customs") (cl "Lives")) := by
  obtain ⟨f, fd, F, m⟩ := T.d_Family_wed_fault
  exact ⟨f, fd, ok_wed F T, m, F.binds fun _ _ _ _ _ _ us hl => match us, hl with | [_, _, _, _], _ => rfl⟩
theorem ok_fault {f : Addr} {fd : FuncData} (F : Fun K "fault" "Family.fault" s_Family_fault f fd) (T : Txt P w K mg cl) : FnOk P w K mg base CX0 3 f fd ["self", "row"] (spFault K (cl "Family") (cl "Customs") (cl "Lives")) := by
  refine F.ok sc_Family_fault (fun vs H Q E h => ?_) (fun cdv A outer s H vs Q E hr h => ?_)
  · obtain ⟨H0, p, li, cu, t, us, gs, A, f, n0, n1, n2, c3, v, r, rfl, _⟩ := h
    rfl
  · obtain ⟨H0, p, li, cu, t, us, gs, A, f, n0, n1, n2, c3, v, r, rfl, X, ok, L, hc, hv, rok, k⟩ := h
    have hu := hu_of hr
    have C_is_row : Cal P w K mg base CX0 2 "is_row" _ spIsRow := cal_is_row T
    have C_row_place : Cal P w K mg base CX0 1 "row_place" _ spPlace := cal_row_place T
    have C_Family_born_fault : CalM P w K mg base CX0 1 (cl "Family") "born_fault" _ (spBorn K (cl "Family") (cl "Customs")) := cal_born T
    have C_Family_wed_fault : CalM P w K mg base CX0 2 (cl "Family") "wed_fault" _ (spWed K (cl "Family") (cl "Customs") (cl "Lives")) := cal_wed T
    refine ⟨_, (pss_cons (ps_if (pt_cmpR op_ge (pe_fld (pv 0) rfl) (pe_gl T.c_MOST_ROWS) (nomark _))
          (pss_one (ps_ret pe_str)) pss_nil)
        (pss_cons (ps_if (pt_not (pt_val (pe_cal C_is_row (hr.mono (by decide)) (pa_cons (pv 1) pa_nil))))
          (pss_one (ps_ret pe_str)) pss_nil)
        (pss_cut (ps_if (PW.pt (pw_and (pt_cmpR op_notN (pe_fld (pv 0) rfl) pe_non (nomark _)) (pw_and1 (pt_cmpR (op_leP hr.units) (pe_cal C_row_place (hr.mono (by decide)) (pa_cons (pv 1) pa_nil)) (pe_fld (pv 0) rfl) (nomark _)))))
          (pss_one (ps_ret pe_str)) pss_nil)
        (pss_cons (ps_set (i := 2) sc_Family_fault.nd rfl (Or.inl rfl) (pe_ix ix_either (pv 1) pe_int (fun _ _ => rfl)))
        (pss_cons (ps_if (pt_cmpR op_eq (pv 2) pe_str (nomark _))
          (pss_one (ps_ret (pe_mth T.cl_Family C_Family_born_fault (hr.mono (by decide)) (pv 0) (pa_cons (pe_ix ix_either (pv 1) pe_int (fun _ _ => rfl)) (pa_cons (pe_ix ix_either (pv 1) pe_int (fun _ _ => rfl)) (pa_cons (pe_ix ix_either (pv 1) pe_int (fun _ _ => rfl)) pa_nil)))))) pss_nil)
        (pss_cons (ps_if (pt_cmpR op_eq (pv 2) pe_str (nomark _))
          (pss_one (ps_ret (pe_mth T.cl_Family C_Family_wed_fault (hr.mono (by decide)) (pv 0) (pa_cons (pe_ix ix_either (pv 1) pe_int (fun _ _ => rfl)) (pa_cons (pe_ix ix_either (pv 1) pe_int (fun _ _ => rfl)) (pa_cons (pe_ix ix_either (pv 1) pe_int (fun _ _ => rfl)) pa_nil)))))) pss_nil)
        (pss_cons (ps_if (pt_cmpR op_eq (pv 2) pe_str (nomark _))
          (pss_one (ps_ret (pe_ifExp (pt_cmp (pc_din hu (pe_ix ix_either (pv 1) pe_int (fun _ _ => rfl)) (pe_fld (pv 0) rfl))) pe_str pe_non))) pss_nil)
        (pss_cons (ps_if (pt_cmp (pc_dnotin hu (pe_ix ix_either (pv 1) pe_int (fun _ _ => rfl)) (pe_fld (pv 0) rfl)))
          (pss_one (ps_ret pe_str)) pss_nil)
        (pss_one (ps_ret (pe_ifExp (pt_cmp (pc_din hu (pe_ix ix_either (pv 1) pe_int (fun _ _ => rfl)) (pe_fld (pv 0) rfl))) pe_str pe_non))))))))))), ?_⟩
    have fin : ∀ H', Same H H' → ∀ o, faultW n0 n1 n2 gs f r = o → Q (optV o) H' := fun H' S' o e => by rw [← e]; exact k H' S'
    refine ⟨_, rfl, p, _, _, _, _, rfl, X.self, T.cl_Family, T.na_Family _ (by decide), rfl, _, _, rfl, rfl, _, rfl, ?_⟩
    refine ite2 (fun g => ?_) (fun g => ?_)
    · exact fin _ (Same.refl H) (some ("many" : Str)) (if_pos (by have := of_decide_eq_true g; omega))
    have g1 : ¬ 200 ≤ f.many := fun z => g (decide_eq_true (by omega))
    refine ⟨_, rfl, v, r, rfl, hv, rok, fun H1 S1 => ⟨_, rfl, ?_⟩⟩
    refine ite2 (fun g => ?_) (fun g => ?_)
    · exact fin _ S1 (some ("row" : Str)) (by unfold faultW; rw [if_neg g1, if_pos (by simpa using g)])
    have g2 : isRowB r = true := by simpa using g
    obtain ⟨e, rfl, eok⟩ := row_ev g2
    obtain ⟨b, rfl, hb⟩ := hv.same S1
    have w1 : faultW n0 n1 n2 gs f (.sq e.row) = if lastGe f.last e.pl = true then some ("order" : Str) else evW n0 n1 n2 gs f e := by
      unfold faultW
      rw [if_neg g1, if_neg (by rw [g2]; decide), evOf_row]
    have X1 := X.same S1
    refine ⟨fun σ' H' => σ' = [some (.ref p), some (.ref b), none] ∧ Same H H' ∧ ¬ lastGe f.last e.pl = true, ?_, ?_⟩
    · have hl := X1.hl
      cases el : f.last with
      | none =>
        rw [el] at hl
        have hl : A.lv = .non := hl
        refine ⟨_, rfl, p, _, _, _, _, rfl, X1.self, T.cl_Family, T.na_Family _ (by decide), rfl, rfl, _, rfl, ?_⟩
        rw [hl]
        exact iteF (iteF ⟨rfl, S1, fun z => by cases z⟩)
      | some q =>
        rw [el] at hl w1
        obtain ⟨t0, hl, ht0⟩ := hl
        refine ⟨_, rfl, p, _, _, _, _, rfl, X1.self, T.cl_Family, T.na_Family _ (by decide), rfl, rfl, _, rfl, ?_⟩
        rw [hl]
        refine iteT ⟨_, rfl, b, e, rfl, hb, fun t1 ht1 => ?_⟩
        have S2 := sNew (o := .tup (plV e.pl)) ht1
        refine ⟨_, rfl, p, _, _, _, _, rfl, S2 _ _ X1.self, T.cl_Family, T.na_Family _ (by decide), rfl, t1, t0, e.pl, q, rfl, hl, SqT.of upd_same, SqT.of (S2 _ _ ht0), _, rfl, ?_⟩
        refine ite2 (fun g => ?_) (fun g => ?_)
        · exact fin _ (S1.trans S2) (some ("order" : Str)) (by rw [w1, if_pos (show lastGe (some q) e.pl = true from g)])
        · exact ⟨rfl, S1.trans S2, g⟩
    · rintro σ' H2 ⟨rfl, S2, nl⟩
      rw [if_neg nl] at w1
      obtain ⟨b2, eb2, hb⟩ := hv.same S2
      obtain rfl : b = b2 := V.ref.inj eb2
      have X2 := X.same S2
      have ne : ∀ {x y : Str}, x ≠ y → ¬ V.str x = V.str y := fun h z => h (V.str.inj z)
      refine ⟨_, rfl, ixOr hb (j := 0) rfl ?_⟩
      cases e with
      | born y s n =>
        refine ⟨_, rfl, rfl, _, rfl, ?_⟩
        rw [show decide (V.str (Ev.born y s n).w = V.str "born") = true from decide_eq_true rfl]
        refine iteT ⟨_, rfl, p, _, _, rfl, X2.self, rfl, _, rfl, ixOr hb (j := 1) rfl ⟨_, rfl, ixOr hb (j := 2) rfl ⟨_, rfl, ixOr hb (j := 3) rfl ?_⟩⟩⟩
        exact ⟨H0, p, li, cu, A, f, n0, n1, n2, c3, y, s, n, rfl, X2, cuSame S2 hc, fin _ S2 _ w1⟩
      | wed y s n =>
        refine ⟨_, rfl, rfl, _, rfl, ?_⟩
        rw [show decide (V.str (Ev.wed y s n).w = V.str "born") = false from decide_eq_false (ne (by show ("wed" : Str) ≠ "born"; decide +kernel))]
        refine iteF ⟨_, rfl, rfl, _, rfl, ?_⟩
        rw [show decide (V.str (Ev.wed y s n).w = V.str "wed") = true from decide_eq_true rfl]
        refine iteT ⟨_, rfl, p, _, _, rfl, X2.self, rfl, _, rfl, ixOr hb (j := 1) rfl ⟨_, rfl, ixOr hb (j := 2) rfl ⟨_, rfl, ixOr hb (j := 3) rfl ?_⟩⟩⟩
        exact ⟨H0, p, li, cu, t, us, gs, A, f, n0, n1, n2, c3, y, s, n, rfl, X2, ok, L.same S2, cuSame S2 hc, Nat.le_trans (isN_len (eok.2.2 s (by simp [Ev.tl]))) (by decide), fin _ S2 _ w1⟩
      | happ y n =>
        refine ⟨_, rfl, rfl, _, rfl, ?_⟩
        rw [show decide (V.str (Ev.happ y n).w = V.str "born") = false from decide_eq_false (ne (by show ("happened" : Str) ≠ "born"; decide +kernel))]
        refine iteF ⟨_, rfl, rfl, _, rfl, ?_⟩
        rw [show decide (V.str (Ev.happ y n).w = V.str "wed") = false from decide_eq_false (ne (by show ("happened" : Str) ≠ "wed"; decide +kernel))]
        refine iteF ⟨_, rfl, rfl, _, rfl, ?_⟩
        rw [show decide (V.str (Ev.happ y n).w = V.str "happened") = true from decide_eq_true rfl]
        refine iteT ⟨_, rfl, ixOr hb (j := 2) rfl ⟨_, rfl, p, _, _, _, _, rfl, X2.self, T.cl_Family, T.na_Family _ (by decide), rfl, A.fc, _, rfl, dgF n X2.hf, _, rfl, ?_⟩⟩
        rw [Option.isSome_map]
        exact ite2 (fun g => fin _ S2 (some ("again" : Str)) (by rw [w1]; exact if_pos g)) (fun g => fin _ S2 none (by rw [w1]; exact if_neg g))
      | died y s =>
        refine ⟨_, rfl, rfl, _, rfl, ?_⟩
        rw [show decide (V.str (Ev.died y s).w = V.str "born") = false from decide_eq_false (ne (by show ("died" : Str) ≠ "born"; decide +kernel))]
        refine iteF ⟨_, rfl, rfl, _, rfl, ?_⟩
        rw [show decide (V.str (Ev.died y s).w = V.str "wed") = false from decide_eq_false (ne (by show ("died" : Str) ≠ "wed"; decide +kernel))]
        refine iteF ⟨_, rfl, rfl, _, rfl, ?_⟩
        rw [show decide (V.str (Ev.died y s).w = V.str "happened") = false from decide_eq_false (ne (by show ("died" : Str) ≠ "happened"; decide +kernel))]
        refine iteF ⟨_, rfl, ixOr hb (j := 2) rfl ⟨_, rfl, p, _, _, _, _, rfl, X2.self, T.cl_Family, T.na_Family _ (by decide), rfl, A.pr, _, rfl, dgF s X2.hp, _, rfl, ?_⟩⟩
        rw [Option.isSome_map]
        refine ite2 (fun g => ?_) (fun g => ?_)
        · exact fin _ S2 (some ("person" : Str)) (by rw [w1]; exact if_pos (by simpa using g))
        have g3 : ¬ (f.parents.lookup s).isSome = false := by simpa using g
        have w2 := w1.trans (if_neg g3)
        refine ⟨_, rfl, ixOr hb (j := 2) rfl ⟨_, rfl, p, _, _, _, _, rfl, X2.self, T.cl_Family, T.na_Family _ (by decide), rfl, A.d, _, rfl, dgF s X2.hd, _, rfl, ?_⟩⟩
        rw [Option.isSome_map]
        exact ite2 (fun g => fin _ S2 (some ("dead" : Str)) (by rw [w2]; exact if_pos g)) (fun g => fin _ S2 none (by rw [w2]; exact if_neg g))
theorem cal_fault (T : Txt P w K mg cl) : CalM P w K mg base CX0 3 (cl "Family") "fault" ["self", "row"] (spFault K (cl "Family") (cl "Customs") (cl "Lives")) := by
  obtain ⟨f, fd, F, m⟩ := T.d_Family_fault
  exact ⟨f, fd, ok_fault F T, m, F.binds fun _ _ _ _ _ _ us hl => match us, hl with | [_, _], _ => rfl⟩
end
end My
set_option Elab.async false
set_option linter.all false
set_option maxRecDepth 100000
set_option maxHeartbeats 1000000
namespace My
open PySem L2 Dw
open C8 (pss_cut tCut)
theorem fldB {K : PySem.W.Frag} {H H1 : Hp} {p C dx : Addr} {fs fs' : List (Str × V)} {L : List (Addr × HO)} {fl : Str} {y : V} {R : Hp → Prop} (B : Bld H H1 p (.ins C dx fs) L) (c : Cls K C) (n : NoAttr K C fl) (l : fs.length < 1000) (e : putF fl y fs = fs')
    (k : ∀ H2, Bld H H2 p (.ins C dx fs') L → R H2) : ∃ a C dx fs, V.ref p = .ref a ∧ H1 a = some (.ins C dx fs) ∧ Cls K C ∧ NoAttr K C fl ∧ fs.length < 1000 ∧ R (upd H1 a (.ins C dx (putF fl y fs))) :=
  ⟨p, C, dx, fs, rfl, B.self, c, n, l, by rw [e]; exact k _ B.set⟩
theorem newB {H H1 : Hp} {p : Addr} {o oa : HO} {L : List (Addr × HO)} {Q : VK} (B : Bld H H1 p o L) (k : ∀ b H2, Bld H H2 p o (L ++ [(b, oa)]) → Q (.ref b) H2) : ∀ b, H1 b = none → Q (.ref b) (upd H1 b oa) := fun b hb => k b _ (B.new hb)
theorem upd_over {H : Hp} {a l : Addr} {o o' D : HO} : upd (upd (upd H l o) a D) l o' = upd (upd H a D) l o' := by
  funext x
  unfold upd
  by_cases h : x = l
  · rw [if_pos h, if_pos h]
  · rw [if_neg h, if_neg h, if_neg h]
def spFamI (C CL : Addr) : Sp := fun vs H Q _ => ∃ (H0 : Hp) (p dx li cu t : Addr) (us : List V) (gs : List Gd), vs = [.ref p, .ref li] ∧ H p = some (.ins C dx []) ∧ H0 p = none ∧ Same H0 H ∧ LiAt CL H0 li cu t us gs ∧ gs.length ≤ 9 ∧ ∀ H' A, FamX C H0 H' p li cu A (fam0 gs) → Q .non H'
def spAdd (C : Addr) : Sp := fun vs H Q _ => ∃ (H0 : Hp) (p li cu b : Addr) (gs : List Gd) (A : FamA) (f : Fam) (e : Ev), vs = [.ref p, .ref b] ∧ FamX C H0 H p li cu A f ∧ FamOk gs f ∧ f.many < 200 ∧ (H0 b = some (.lst e.row) ∨ H0 b = some (.tup e.row)) ∧ ∀ A' H', FamX C H0 H' p li cu A' (f.add e) → Q .non H'
theorem tupG {H : Hp} {v : V} {g : Gd} (h : TupAt H v (mkR g)) : ∃ b, v = .ref b ∧ H b = some (.tup [.str g.1, .int g.2.1, g.2.2]) := tup0 h
section
variable {P : Program} {w : World} {K : PySem.W.Frag} {mg : Str → Option Value} {base : Heap} {cl : String → Addr}
theorem ok_Family_init {f : Addr} {fd : FuncData} (F : Fun K "__init__" "Family.__init__" s_Family_init f fd) (T : Txt P w K mg cl) : FnOk P w K mg base CX0 1 f fd ["self", "lives"] (spFamI (cl "Family") (cl "Lives")) := by
  refine F.ok sc_Family_init (fun vs H Q E h => ?_) (fun cdv A outer s H vs Q E hr h => ?_)
  · obtain ⟨H0, p, dx, li, cu, t, us, gs, rfl, _⟩ := h
    rfl
  · obtain ⟨H0, p, dx, li, cu, t, us, gs, rfl, hp, hp0, S0, L, hz, k⟩ := h
    have hu := hu_of hr
    refine ⟨_, (pss_cons (ps_fld (pv 0) (pv 1) rfl)
        (pss_cons (ps_fld (pv 0) (pe_fld (pv 1) rfl) rfl)
        (pss_cons (ps_fld (pv 0) pe_dnewK rfl)
        (pss_cons (ps_fld (pv 0) pe_dnewK rfl)
        (pss_cons (ps_fld (pv 0) pe_dnewK rfl)
        (pss_cons (ps_fld (pv 0) pe_dnewK rfl)
        (pss_cons (ps_fld (pv 0) pe_dnewK rfl)
        (pss_cons (ps_fld (pv 0) (pe_lst pa_nil) rfl)
        (pss_cons (ps_fld (pv 0) pe_non rfl)
        (pss_cons (ps_fld (pv 0) pe_int rfl)
        (pss_one (ps_for PassesOwn.never rfl (pi_tup (pe_fld (pv 1) rfl)) (pg_tup rfl (pgs_cons (pg_name (i := 2) sc_Family_init.nd rfl (Or.inl rfl)) (pgs_cons (pg_name (i := 3) sc_Family_init.nd rfl (Or.inl rfl)) (pgs_cons (pg_name (i := 4) sc_Family_init.nd rfl (Or.inl rfl)) pgs_nil))))
          (pss_cons (ps_dput hu (pe_fld (pv 0) rfl) (pv 2) (pe_un un_neg (pv 3)) rfl)
            (pss_cons (ps_dput hu (pe_fld (pv 0) rfl) (pv 2) (pv 4) rfl)
            (pss_one (ps_expr (pe_app1 (by exact (pe_fld (pv 0) rfl)) (by exact (pa_cons (pv 2) pa_nil))))))))))))))))))), ?_⟩
    have B0 : Bld H H p (.ins (cl "Family") dx []) [] := ⟨hp, by simp, by simp, by simp, fun b u e _ => e⟩
    have na : ∀ f : Str, f ∈ (["lives", "customs", "births", "deaths", "parents", "weddings", "facts", "order", "last", "many"] : List Str) → NoAttr K (cl "Family") f := fun f h => T.na_Family f h
    have bp : ∀ {b o}, H0 b = some o → b ≠ p := fun {b o} e => ne_of_none e hp0
    obtain ⟨dl, la, lp, hli, hla, hlp⟩ := L.ex
    refine ⟨_, rfl, _, rfl, fldB B0 T.cl_Family (na _ (by decide)) (by show 0 < 1000; decide) rfl fun H1 B1 => ?_⟩
    refine ⟨_, rfl, li, _, dl, _, _, rfl, B1.but _ _ (S0 _ _ hli) (bp hli), T.cl_Lives, T.na_Lives _ (by decide), rfl, _, rfl, fldB B1 T.cl_Family (na _ (by decide)) (by show 1 < 1000; decide) rfl fun H2 B2 => ?_⟩
    refine fun a1 ha => ?_
    have B3 := B2.new (oa := .dK []) ha
    refine ⟨_, rfl, fldB B3 T.cl_Family (na _ (by decide)) (by show 2 < 1000; decide) rfl fun H4 B4 => ?_⟩
    clear ha
    refine fun a2 ha => ?_
    have B5 := B4.new (oa := .dK []) ha
    refine ⟨_, rfl, fldB B5 T.cl_Family (na _ (by decide)) (by show 3 < 1000; decide) rfl fun H6 B6 => ?_⟩
    clear ha
    refine fun a3 ha => ?_
    have B7 := B6.new (oa := .dK []) ha
    refine ⟨_, rfl, fldB B7 T.cl_Family (na _ (by decide)) (by show 4 < 1000; decide) rfl fun H8 B8 => ?_⟩
    clear ha
    refine fun a4 ha => ?_
    have B9 := B8.new (oa := .dK []) ha
    refine ⟨_, rfl, fldB B9 T.cl_Family (na _ (by decide)) (by show 5 < 1000; decide) rfl fun H10 B10 => ?_⟩
    clear ha
    refine fun a5 ha => ?_
    have B11 := B10.new (oa := .dK []) ha
    refine ⟨_, rfl, fldB B11 T.cl_Family (na _ (by decide)) (by show 6 < 1000; decide) rfl fun H12 B12 => ?_⟩
    clear ha
    refine ⟨by show 0 ≤ sizeLine; exact Nat.zero_le _, fun a6 ha => ?_⟩
    have B13 := B12.new (oa := .lst []) ha
    refine ⟨_, rfl, fldB B13 T.cl_Family (na _ (by decide)) (by show 7 < 1000; decide) rfl fun H14 B14 => ?_⟩
    clear ha
    refine ⟨_, rfl, fldB B14 T.cl_Family (na _ (by decide)) (by show 8 < 1000; decide) rfl fun H15 B15 => ?_⟩
    refine ⟨_, rfl, fldB B15 T.cl_Family (na _ (by decide)) (by show 9 < 1000; decide) rfl fun H16 B16 => ?_⟩
    have at_ : ∀ q ∈ ([(a1, HO.dK []), (a2, .dK []), (a3, .dK []), (a4, .dK []), (a5, .dK []), (a6, .lst [])] : List (Addr × HO)), H16 q.1 = some q.2 := B16.at_
    have fr : ∀ q ∈ ([(a1, HO.dK []), (a2, .dK []), (a3, .dK []), (a4, .dK []), (a5, .dK []), (a6, .lst [])] : List (Addr × HO)), H0 q.1 = none := fun q hq => by
      cases e : H0 q.1 with
      | none => rfl
      | some o => have := B16.fr q hq; rw [S0 _ _ e] at this; cases this
    have nod : [p, a1, a2, a3, a4, a5, a6].Nodup := B16.nod
    have X0 : FamX (cl "Family") H0 H16 p li cu ⟨dx, a1, a2, a3, a4, a5, a6, [], .non⟩ (fam0 (gs.take 0)) := by
      refine ⟨B16.self, at_ (a1, .dK []) (by simp), at_ (a2, .dK []) (by simp), at_ (a3, .dK []) (by simp), at_ (a4, .dK []) (by simp), at_ (a5, .dK []) (by simp), at_ (a6, .lst []) (by simp), rfl, .nil, ?_, by simp, by simp, ?_, fun b o e => B16.but _ _ (S0 _ _ e) (bp e)⟩
      · show [a1, a2, a3, a4, a5].Nodup
        exact (show [p, a1, a2, a3, a4, a5, a6] = p :: ([a1, a2, a3, a4, a5] ++ [a6]) from rfl) ▸ nod |> fun h => (List.nodup_append.mp (List.nodup_cons.mp h).2).1
      · intro a ha
        have ha : a = p ∨ a = a1 ∨ a = a2 ∨ a = a3 ∨ a = a4 ∨ a = a5 ∨ a = a6 := by simpa using ha
        rcases ha with rfl | rfl | rfl | rfl | rfl | rfl | rfl
        · exact hp0
        · exact fr (a, .dK []) (by simp)
        · exact fr (a, .dK []) (by simp)
        · exact fr (a, .dK []) (by simp)
        · exact fr (a, .dK []) (by simp)
        · exact fr (a, .dK []) (by simp)
        · exact fr (a, .lst []) (by simp)
    clear B0 B1 B2 B3 B4 B5 B6 B7 B8 B9 B10 B11 B12 B13 B14 B15 B16 at_ fr nod
    have hl := L.each.length
    rw [List.length_map] at hl
    refine ⟨_, rfl, li, _, dl, _, _, rfl, X0.sa _ _ hli, T.cl_Lives, T.na_Lives _ (by decide), rfl, t, rfl, ⟨_, SqT.of (X0.sa _ _ L.rows)⟩, for_tup (xs := us) (fun i σ H' => ∃ (A' : FamA) (v2 v3 v4 : Option V), FamX (cl "Family") H0 H' p li cu A' (fam0 (gs.take i)) ∧ σ = [some (.ref p), some (.ref li), v2, v3, v4]) ⟨_, _, _, _, X0, rfl⟩ (fun i σ H' _ q => ?_) ?_ ?_⟩
    · obtain ⟨A', _, _, _, X, _⟩ := q
      exact SqT.of (X.sa _ _ L.rows)
    · rintro i v σ H' hv ⟨A', v2, v3, v4, X, rfl⟩
      obtain ⟨x, hx, hvx⟩ := Paired.at L.each hv
      obtain ⟨g, hg, rfl⟩ : ∃ g, gs[i]? = some g ∧ mkR g = x := by
        rw [List.getElem?_map] at hx
        cases e : gs[i]? with
        | none => rw [e] at hx; cases hx
        | some g => rw [e] at hx; exact ⟨g, rfl, Option.some.inj hx⟩
      obtain ⟨b, rfl, hb⟩ := tup0 hvx
      have ok := fam0_ok (gs := gs.take i) (by rw [List.length_take]; omega)
      have m0 := (fam0_many (gs.take i)).1
      have small : ∀ {n : Nat}, n ≤ 9 + (fam0 (gs.take i)).many → n < sizeLine := fun {n} h => small1000 (by omega)
      refine ⟨b, _, rfl, SqT.of (X.sa _ _ hb), rfl, _, _, rfl, _, _, rfl, _, _, rfl, rfl, ?_⟩
      refine ⟨_, rfl, _, rfl, _, rfl, p, _, _, _, _, rfl, X.self, T.cl_Family, T.na_Family _ (by decide), rfl, _, rfl, A'.b, _, rfl, dps X.hb (put_dk V.int _ _ _) (by rw [dk_len]; exact small ok.lb), ?_⟩
      have X1 := X.stepB g.1 (-g.2.1)
      refine ⟨_, rfl, _, rfl, p, _, _, _, _, rfl, X1.self, T.cl_Family, T.na_Family _ (by decide), rfl, _, rfl, A'.pr, _, rfl, dps X1.hp (put_dk id _ _ _) (by rw [dk_len]; exact small ok.lp), ?_⟩
      have X2 := X1.stepP g.1 g.2.2
      refine ⟨_, rfl, p, _, _, _, _, rfl, X2.self, T.cl_Family, T.na_Family _ (by decide), rfl, .inl ⟨rfl, _, SqL.of X2.ho⟩, _, rfl, A'.od, _, _, rfl, rfl, X2.ho, (by rw [List.length_map]; exact small ok.lo), ?_⟩
      have X3 := X2.stepO g.1
      refine ⟨A', _, _, _, ?_, rfl⟩
      rw [take_snoc hg, fam0_step]
      exact X3
    · rintro σ H' ⟨A', v2, v3, v4, X, rfl⟩
      rw [List.take_of_length_le (Nat.le_of_eq hl.symm)] at X
      exact k _ _ X
theorem cal_Family_init (T : Txt P w K mg cl) : CalC P w K mg base CX0 1 (cl "Family") ["self", "lives"] (spFamI (cl "Family") (cl "Lives")) := by
  obtain ⟨f, fd, F, m⟩ := T.i_Family
  exact ⟨f, fd, ok_Family_init F T, m, F.binds fun _ _ _ _ _ _ us hl => match us, hl with | [_, _], _ => rfl⟩
theorem ok_add {f : Addr} {fd : FuncData} (F : Fun K "add" "Family.add" s_Family_add f fd) (T : Txt P w K mg cl) : FnOk P w K mg base CX0 2 f fd ["self", "row"] (spAdd (cl "Family")) := by
  refine F.ok sc_Family_add (fun vs H Q E h => ?_) (fun cdv A outer s H vs Q E hr h => ?_)
  · obtain ⟨H0, p, li, cu, b, gs, A, f, e, rfl, _⟩ := h
    rfl
  · obtain ⟨H0, p, li, cu, b, gs, A, f, e, rfl, X, ok, hm, hb0, k⟩ := h
    have hu := hu_of hr
    have C_row_place : Cal P w K mg base CX0 1 "row_place" _ spPlace := cal_row_place T
    refine ⟨_, (pss_cons (ps_set (i := 2) sc_Family_add.nd rfl (Or.inl rfl) (pe_ix ix_either (pv 1) pe_int (fun _ _ => rfl)))
        (pss_cut (ps_if (pt_cmpR op_eq (pv 2) pe_str (nomark _))
          (pss_cons (ps_dput hu (pe_fld (pv 0) rfl) (pe_ix ix_either (pv 1) pe_int (fun _ _ => rfl)) (pe_ix ix_either (pv 1) pe_int (fun _ _ => rfl)) rfl)
            (pss_cons (ps_dput hu (pe_fld (pv 0) rfl) (pe_ix ix_either (pv 1) pe_int (fun _ _ => rfl)) (pe_ix ix_either (pv 1) pe_int (fun _ _ => rfl)) rfl)
            (pss_one (ps_expr (pe_app1 (by exact (pe_fld (pv 0) rfl)) (by exact (pa_cons (pe_ix ix_either (pv 1) pe_int (fun _ _ => rfl)) pa_nil))))))) (pss_one (ps_if (pt_cmpR op_eq (pv 2) pe_str (nomark _))
              (pss_cons (ps_dput hu (pe_fld (pv 0) rfl) (pe_ix ix_either (pv 1) pe_int (fun _ _ => rfl)) pe_non rfl)
                (pss_cons (ps_expr (pe_app1 (by exact (pe_dsetd (pe_fld (pv 0) rfl) (pe_ix ix_either (pv 1) pe_int (fun _ _ => rfl)) (pe_lst pa_nil) ⟨rfl, rfl, rfl, rfl⟩)) (by exact (pa_cons (pe_ix ix_either (pv 1) pe_int (fun _ _ => rfl)) pa_nil))))
                (pss_one (ps_expr (pe_app1 (by exact (pe_fld (pv 0) rfl)) (by exact (pa_cons (pe_ix ix_either (pv 1) pe_int (fun _ _ => rfl)) pa_nil))))))) (pss_one (ps_if (pt_cmpR op_eq (pv 2) pe_str (nomark _))
                  (pss_one (ps_dput hu (pe_fld (pv 0) rfl) (pe_ix ix_either (pv 1) pe_int (fun _ _ => rfl)) (pe_ix ix_either (pv 1) pe_int (fun _ _ => rfl)) rfl)) (pss_one (ps_dput hu (pe_fld (pv 0) rfl) (pe_ix ix_either (pv 1) pe_int (fun _ _ => rfl)) (pe_ix ix_either (pv 1) pe_int (fun _ _ => rfl)) rfl)))))))
        (pss_cons (ps_fld (pv 0) (pe_cal C_row_place (hr.mono (by decide)) (pa_cons (pv 1) pa_nil)) rfl)
        (pss_one (ps_fldaug (pv 0) pe_int in_add))))), ?_⟩
    have hbX : ∀ {A H f}, FamX (cl "Family") H0 H p li cu A f → (H b = some (.lst e.row) ∨ H b = some (.tup e.row)) := fun X => hb0.imp (X.sa _ _) (X.sa _ _)
    have ne : ∀ {x y : Str}, x ≠ y → ¬ V.str x = V.str y := fun h z => h (V.str.inj z)
    have small : ∀ {n : Nat}, n ≤ 9 + f.many → n < sizeLine := fun {n} h => small1000 (by omega)
    have small' : ∀ {n : Nat}, n ≤ f.many → n < sizeLine := fun {n} h => small1000 (by omega)
    have hb := hbX X
    refine ⟨_, rfl, ixOr hb (j := 0) rfl ?_⟩
    refine ⟨fun σ' H' => σ' = [some (.ref p), some (.ref b), some (.str e.w)] ∧ ∃ A', FamX (cl "Family") H0 H' p li cu A' (f.put1 e), ?_, ?_⟩
    · cases e with
      | born y s n =>
        refine ⟨_, rfl, rfl, _, rfl, ?_⟩
        rw [show decide (V.str (Ev.born y s n).w = V.str "born") = true from decide_eq_true rfl]
        refine iteT ⟨_, rfl, ixOr hb (j := 1) rfl ⟨_, rfl, p, _, _, _, _, rfl, X.self, T.cl_Family, T.na_Family _ (by decide), rfl, _, rfl, ixOr hb (j := 3) rfl ⟨A.b, _, rfl, dps X.hb (put_dk V.int _ _ _) (by rw [dk_len]; exact small ok.lb), ?_⟩⟩⟩
        have X1 := X.stepB n y
        have hb1 := hbX X1
        refine ⟨_, rfl, ixOr hb1 (j := 2) rfl ⟨_, rfl, p, _, _, _, _, rfl, X1.self, T.cl_Family, T.na_Family _ (by decide), rfl, _, rfl, ixOr hb1 (j := 3) rfl ⟨A.pr, _, rfl, dps X1.hp (put_dk id _ _ _) (by rw [dk_len]; exact small ok.lp), ?_⟩⟩⟩
        have X2 := X1.stepP n (.str s)
        refine ⟨_, rfl, p, _, _, _, _, rfl, X2.self, T.cl_Family, T.na_Family _ (by decide), rfl, .inl ⟨rfl, _, SqL.of X2.ho⟩, _, rfl, ixOr (hbX X2) (j := 3) rfl ⟨A.od, _, _, rfl, rfl, X2.ho, (by rw [List.length_map]; exact small ok.lo), ?_⟩⟩
        exact ⟨rfl, A, X2.stepO n⟩
      | wed y s n =>
        refine ⟨_, rfl, rfl, _, rfl, ?_⟩
        rw [show decide (V.str (Ev.wed y s n).w = V.str "born") = false from decide_eq_false (ne (by show ("wed" : Str) ≠ "born"; decide +kernel))]
        refine iteF ⟨_, rfl, rfl, _, rfl, ?_⟩
        rw [show decide (V.str (Ev.wed y s n).w = V.str "wed") = true from decide_eq_true rfl]
        refine iteT ⟨_, rfl, p, _, _, _, _, rfl, X.self, T.cl_Family, T.na_Family _ (by decide), rfl, _, rfl, ixOr hb (j := 3) rfl ⟨A.pr, _, rfl, dps X.hp (put_dk id _ _ _) (by rw [dk_len]; exact small ok.lp), ?_⟩⟩
        have X1 := X.stepP n .non
        refine ⟨_, rfl, p, _, _, _, _, rfl, X1.self, T.cl_Family, T.na_Family _ (by decide), rfl, A.wd, rfl, .inl ⟨_, .inl X1.hw⟩, _, rfl, ixOr (hbX X1) (j := 2) rfl ⟨by show 0 ≤ sizeLine; exact Nat.zero_le _, fun l hl => ?_⟩⟩
        have X2 := X1.same (sNew (o := .lst []) hl)
        have lw : (dk V.ref A.wl).length < sizeLine := by rw [dk_len, X.we.length]; exact small' ok.lw
        refine ⟨_, .inr s, X2.hw, rfl, lw, fun v hv => ?_, fun hn => ?_⟩
        · rw [valV_dk] at hv
          obtain ⟨a, ha, rfl⟩ := Option.map_eq_some_iff.mp hv
          obtain ⟨ms, g1, g2⟩ := (wed_look (l := s) X2.we).1 a ha
          have g1 : f.weds.lookup s = some ms := g1
          have lms : ms.length ≤ f.many := ok.lm _ (look_some_mem g1)
          refine ⟨.inl ⟨rfl, _, SqL.of g2⟩, _, rfl, ixOr (hbX X2) (j := 3) rfl ⟨a, _, _, rfl, rfl, g2, (by rw [List.length_map]; exact small' lms), ?_⟩⟩
          have X3 := X2.stepW (n := n) ha g1 g2
          refine ⟨_, rfl, p, _, _, _, _, rfl, X3.self, T.cl_Family, T.na_Family _ (by decide), rfl, .inl ⟨rfl, _, SqL.of X3.ho⟩, _, rfl, ixOr (hbX X3) (j := 3) rfl ⟨A.od, _, _, rfl, rfl, X3.ho, (by rw [List.length_map]; exact small ok.lo), ?_⟩⟩
          refine ⟨rfl, A, ?_⟩
          have X4 := X3.stepO n
          show FamX _ _ _ _ _ _ _ { f with parents := put f.parents n .non, weds := put f.weds s (((f.weds.lookup s).getD []) ++ [n]), order := f.order ++ [n] }
          rw [g1]
          exact X4
        · rw [valV_dk] at hn
          have hn : A.wl.lookup s = none := by
            cases e : A.wl.lookup s with
            | none => rfl
            | some a => rw [e] at hn; cases hn
          have g1 : f.weds.lookup s = none := (wed_look (l := s) X.we).2 hn
          have pd := put_dk V.ref A.wl s l
          have nl : l ≠ A.wd := Ne.symm (ne_of_none X1.hw hl)
          have hl2 : (upd (upd (upd H A.pr (.dK (dk id (put f.parents n .non)))) l (.lst [])) A.wd (.dK (putK (dk V.ref A.wl) (.inr s) (.ref l)))) l = some (.lst []) := (upd_ne nl).trans upd_same
          have nbw : b ≠ A.wd := by rcases hb0 with h | h <;> exact ne_of_none h (X.fr _ (by simp))
          have hbW : ∀ o, ((upd (upd (upd H A.pr (.dK (dk id (put f.parents n .non)))) l (.lst [])) A.wd o) b = some (.lst (Ev.wed y s n).row) ∨ (upd (upd (upd H A.pr (.dK (dk id (put f.parents n .non)))) l (.lst [])) A.wd o) b = some (.tup (Ev.wed y s n).row)) := fun o => hb0.imp (fun h => (upd_ne nbw).trans (X2.sa _ _ h)) fun h => (upd_ne nbw).trans (X2.sa _ _ h)
          refine ⟨.inl ⟨rfl, _, SqL.of hl2⟩, _, rfl, ixOr (hbW _) (j := 3) rfl ⟨l, _, _, rfl, rfl, hl2, (by show 0 < sizeLine; exact small1000 (Nat.zero_le _)), ?_⟩⟩
          have X3 := X1.stepV (n := n) hn hl
          have hh : upd (upd (upd (upd H A.pr (.dK (dk id (put f.parents n .non)))) l (.lst [])) A.wd (.dK (putK (dk V.ref A.wl) (.inr s) (.ref l)))) l (.lst ([] ++ [.str n])) = upd (upd (upd H A.pr (.dK (dk id (put f.parents n .non)))) A.wd (.dK (dk V.ref (put A.wl s l)))) l (.lst [.str n]) := by
            rw [pd]
            exact upd_over
          rw [← hh] at X3
          refine ⟨_, rfl, p, _, _, _, _, rfl, X3.self, T.cl_Family, T.na_Family _ (by decide), rfl, .inl ⟨rfl, _, SqL.of X3.ho⟩, _, rfl, ixOr (hbX X3) (j := 3) rfl ⟨A.od, _, _, rfl, rfl, X3.ho, (by rw [List.length_map]; exact small ok.lo), ?_⟩⟩
          refine ⟨rfl, { A with wl := put A.wl s l }, ?_⟩
          have X4 := X3.stepO n
          show FamX _ _ _ _ _ _ _ { f with parents := put f.parents n .non, weds := put f.weds s (((f.weds.lookup s).getD []) ++ [n]), order := f.order ++ [n] }
          rw [g1]
          exact X4
      | happ y n =>
        refine ⟨_, rfl, rfl, _, rfl, ?_⟩
        rw [show decide (V.str (Ev.happ y n).w = V.str "born") = false from decide_eq_false (ne (by show ("happened" : Str) ≠ "born"; decide +kernel))]
        refine iteF ⟨_, rfl, rfl, _, rfl, ?_⟩
        rw [show decide (V.str (Ev.happ y n).w = V.str "wed") = false from decide_eq_false (ne (by show ("happened" : Str) ≠ "wed"; decide +kernel))]
        refine iteF ⟨_, rfl, rfl, _, rfl, ?_⟩
        rw [show decide (V.str (Ev.happ y n).w = V.str "happened") = true from decide_eq_true rfl]
        refine iteT ⟨_, rfl, ixOr hb (j := 1) rfl ⟨_, rfl, p, _, _, _, _, rfl, X.self, T.cl_Family, T.na_Family _ (by decide), rfl, _, rfl, ixOr hb (j := 2) rfl ⟨A.fc, _, rfl, dps X.hf (put_dk V.int _ _ _) (by rw [dk_len]; exact small' ok.lf), ?_⟩⟩⟩
        exact ⟨rfl, A, X.stepF n y⟩
      | died y s =>
        refine ⟨_, rfl, rfl, _, rfl, ?_⟩
        rw [show decide (V.str (Ev.died y s).w = V.str "born") = false from decide_eq_false (ne (by show ("died" : Str) ≠ "born"; decide +kernel))]
        refine iteF ⟨_, rfl, rfl, _, rfl, ?_⟩
        rw [show decide (V.str (Ev.died y s).w = V.str "wed") = false from decide_eq_false (ne (by show ("died" : Str) ≠ "wed"; decide +kernel))]
        refine iteF ⟨_, rfl, rfl, _, rfl, ?_⟩
        rw [show decide (V.str (Ev.died y s).w = V.str "happened") = false from decide_eq_false (ne (by show ("died" : Str) ≠ "happened"; decide +kernel))]
        refine iteF ⟨_, rfl, ixOr hb (j := 1) rfl ⟨_, rfl, p, _, _, _, _, rfl, X.self, T.cl_Family, T.na_Family _ (by decide), rfl, _, rfl, ixOr hb (j := 2) rfl ⟨A.d, _, rfl, dps X.hd (put_dk V.int _ _ _) (by rw [dk_len]; exact small' ok.ld), ?_⟩⟩⟩
        exact ⟨rfl, A, X.stepD s y⟩
    · rintro σ' H' ⟨rfl, A', X'⟩
      refine ⟨_, rfl, b, e, rfl, hbX X', fun t ht => ?_⟩
      have X1 := X'.same (sNew (o := .tup (plV e.pl)) ht)
      refine ⟨_, rfl, p, _, A'.dx, _, rfl, X1.self, T.cl_Family, T.na_Family _ (by decide), (by show 10 < 1000; decide), ?_⟩
      refine ⟨_, rfl, p, _, A'.dx, _, _, rfl, upd_same, T.cl_Family, T.na_Family _ (by decide), rfl, _, _, rfl, rfl, A'.dx, _, upd_same, (by show 10 < 1000; decide), ?_⟩
      rw [upd_upd]
      have X2 := X1.stepL (q := e.pl) upd_same
      have pm : (f.put1 e).many = f.many := by cases e <;> rfl
      have fe : f.add e = { f.put1 e with last := some e.pl, many := (f.put1 e).many + 1 } := by rw [pm]; rfl
      refine k { A' with lv := .ref t } _ ?_
      rw [fe]
      exact X2
theorem cal_add (T : Txt P w K mg cl) : CalM P w K mg base CX0 2 (cl "Family") "add" ["self", "row"] (spAdd (cl "Family")) := by
  obtain ⟨f, fd, F, m⟩ := T.d_Family_add
  exact ⟨f, fd, ok_add F T, m, F.binds fun _ _ _ _ _ _ us hl => match us, hl with | [_, _], _ => rfl⟩
end
end My
set_option Elab.async false
set_option linter.all false
set_option maxRecDepth 100000
set_option maxHeartbeats 1000000
namespace My
open PySem L2 Dw
open C8 (pss_cut tCut)
/-! records -/
def rowR (e : Ev) : Rd := .sq e.row
def famE (gs : List Gd) (evs : List Ev) : Fam := evs.foldl (fun f e => f.add e) (fam0 gs)
theorem famOf_map (f : Fam) (evs : List Ev) : famOf f (evs.map rowR) = evs.foldl (fun f e => f.add e) f := by
  unfold famOf
  rw [List.foldl_map]
  congr
  funext f e
  rw [show evOf (rowR e) = e from evOf_row e]
theorem runW_cons {n0 n1 n2 : Int} {gs : List Gd} {f : Fam} {i : Nat} {r : Rd} {rs : List Rd} : runW n0 n1 n2 gs f i (r :: rs) = match faultW n0 n1 n2 gs f r with
    | some s => some (i, s)
    | none => runW n0 n1 n2 gs (f.add (evOf r)) (i + 1) rs := rfl
theorem runW_good {n0 n1 n2 : Int} {gs : List Gd} : ∀ {rs : List Rd} {f : Fam} {i : Nat}, runW n0 n1 n2 gs f i rs = none → ∃ evs : List Ev, rs = evs.map rowR ∧ ∀ e ∈ evs, e.Ok
  | [], _, _, _ => ⟨[], rfl, by simp⟩
  | r :: rs, f, i, h => by
    rw [runW_cons] at h
    cases e : faultW n0 n1 n2 gs f r with
    | some s => rw [e] at h; cases h
    | none =>
      rw [e] at h
      obtain ⟨evs, rfl, h2⟩ := runW_good h
      obtain ⟨ev, rfl, ok⟩ := row_ev (many_of e).2
      exact ⟨ev :: evs, rfl, fun x hx => by rcases List.mem_cons.mp hx with rfl | hx; exact ok; exact h2 x hx⟩
structure RecA where
  dx : Addr
  b : Addr
  d : Addr
  pr : Addr
  wd : Addr
  fc : Addr
  ps : Addr
  wl : List (Str × Addr)
def recF (li cu t : Addr) (A : RecA) : List (Str × V) := [("lives", .ref li), ("customs", .ref cu), ("rows", .ref t), ("births", .ref A.b), ("deaths", .ref A.d), ("parents", .ref A.pr), ("weddings", .ref A.wd), ("facts", .ref A.fc), ("persons", .ref A.ps)]
def EvAt (H : Hp) (v : V) (e : Ev) : Prop := ∃ b, v = .ref b ∧ H b = some (.tup e.row)
structure RecX (C : Addr) (H : Hp) (p li cu t : Addr) (us : List V) (A : RecA) (f : Fam) (evs : List Ev) : Prop where
  self : H p = some (.ins C A.dx (recF li cu t A))
  rows : H t = some (.tup us)
  each : Paired (EvAt H) us evs
  hb : H A.b = some (.dK (dk V.int f.births))
  hd : H A.d = some (.dK (dk V.int f.deaths))
  hp : H A.pr = some (.dK (dk id f.parents))
  hw : H A.wd = some (.dK (dk V.ref A.wl))
  hf : H A.fc = some (.dK (dk V.int f.facts))
  ho : H A.ps = some (.tup (f.order.map V.str))
  we : Paired (WedR H) A.wl f.weds
theorem EvAt.keep {H H' : Hp} {v : V} {e : Ev} (h : EvAt H v e) (k : ∀ b xs, H b = some (.tup xs) → H' b = some (.tup xs)) : EvAt H' v e := by
  obtain ⟨b, h1, h2⟩ := h
  exact ⟨b, h1, k _ _ h2⟩
theorem RecX.same {C : Addr} {H H' : Hp} {p li cu t : Addr} {us : List V} {A : RecA} {f : Fam} {evs : List Ev} (X : RecX C H p li cu t us A f evs) (S : Same H H') : RecX C H' p li cu t us A f evs :=
  ⟨S _ _ X.self, S _ _ X.rows, L2.Paired.mapP X.each fun _ _ h => h.keep fun _ _ => S _ _, S _ _ X.hb, S _ _ X.hd, S _ _ X.hp, S _ _ X.hw, S _ _ X.hf, S _ _ X.ho, L2.Paired.mapP X.we fun _ _ h => h.keep fun _ _ => S _ _⟩
/-- the rows that are handed in: a list or a tuple of rows; or a plain thing -/
def RdsAt (H : Hp) (v : V) : Option (List Rd) → Prop
  | some rs => ∃ r ws, v = .ref r ∧ (H r = some (.lst ws) ∨ H r = some (.tup ws)) ∧ Paired (RdAt H) ws rs ∧ (∀ x ∈ rs, RdOk x) ∧ rs.length ≤ 300
  | none => Sr v
theorem RdsAt.same {H H' : Hp} {v : V} {ro : Option (List Rd)} (h : RdsAt H v ro) (S : Same H H') : RdsAt H' v ro := by
  cases ro with
  | none => exact h
  | some rs =>
    obtain ⟨r, ws, h1, h2, h3, h4⟩ := h
    exact ⟨r, ws, h1, h2.imp (S _ _) (S _ _), L2.Paired.mapP h3 fun _ _ z => z.same S, h4⟩
def dueR (n0 n1 n2 : Int) (gs : List Gd) : Option (List Rd) → Option (Nat × Str)
  | some rs => runW n0 n1 n2 gs (fam0 gs) 0 rs
  | none => some (0, "rows")
def spRecF (CC CL : Addr) : Sp := fun vs H Q _ => ∃ (li cu t : Addr) (us : List V) (gs : List Gd) (n0 n1 n2 : Int) (c3 rv : V) (rs : List Rd), vs = [.ref li, rv] ∧ LiAt CL H li cu t us gs ∧ gs.length ≤ 9 ∧ CuAt CC H cu (.int n0) (.int n1) (.int n2) c3 ∧ RdsAt H rv (some rs) ∧
  ∀ v H', Same H H' → DueV H' v (dueR n0 n1 n2 gs (some rs)) → Q v H'
def spRec (K : PySem.W.Frag) (C CC CL CB : Addr) : Sp := fun vs H Q E => ∃ (p dx : Addr) (lv rv : V), vs = [.ref p, lv, rv] ∧ H p = some (.ins C dx []) ∧
  ((∃ n, Dm K H lv n ∧ ∀ H' e, Same H H' → H' e = none → E (.ref CB) (some e) (upd H' e (.xd [("index", .int 0), ("what", .str "lives")]))) ∨
   ∃ (li cu t : Addr) (us : List V) (gs : List Gd) (n0 n1 n2 : Int) (c3 : V) (ro : Option (List Rd)), lv = .ref li ∧ LiAt CL H li cu t us gs ∧ gs.length ≤ 9 ∧ CuAt CC H cu (.int n0) (.int n1) (.int n2) c3 ∧ RdsAt H rv ro ∧
     (∀ i s H' e, dueR n0 n1 n2 gs ro = some (i, s) → Same H H' → H' e = none → E (.ref CB) (some e) (upd H' e (.xd [("index", .int (i : Nat)), ("what", .str s)]))) ∧
     (∀ evs tt ts A H', ro = some (evs.map rowR) → (∀ e ∈ evs, e.Ok) → dueR n0 n1 n2 gs ro = none → But p H H' → RecX C H' p li cu tt ts A (famE gs evs) evs → Q .non H'))
section
variable {P : Program} {w : World} {K : PySem.W.Frag} {mg : Str → Option Value} {base : Heap} {cl : String → Addr}
theorem ok_record_fault {f : Addr} {fd : FuncData} (F : Fun K "record_fault" "record_fault" s_record_fault f fd) (T : Txt P w K mg cl) : FnOk P w K mg base CX0 4 f fd ["lives", "rows"] (spRecF (cl "Customs") (cl "Lives")) := by
  refine F.ok sc_record_fault (fun vs H Q E h => ?_) (fun cdv A outer s H vs Q E hr h => ?_)
  · obtain ⟨li, cu, t, us, gs, n0, n1, n2, c3, rv, rs, rfl, _⟩ := h
    rfl
  · obtain ⟨li, cu, t, us, gs, n0, n1, n2, c3, rv, rs, rfl, L, hz, hc, ⟨r, ws, rfl, hw, hpw, rok, hlr⟩, k⟩ := h
    have hu := hu_of hr
    have I_Family : CalC P w K mg base CX0 1 (cl "Family") _ (spFamI (cl "Family") (cl "Lives")) := cal_Family_init T
    have C_Family_fault : CalM P w K mg base CX0 3 (cl "Family") "fault" _ (spFault K (cl "Family") (cl "Customs") (cl "Lives")) := cal_fault T
    have C_Family_add : CalM P w K mg base CX0 2 (cl "Family") "add" _ (spAdd (cl "Family")) := cal_add T
    refine ⟨_, (pss_cons (ps_set (i := 2) sc_record_fault.nd rfl (Or.inl rfl) (pe_mk I_Family T.m_Family (hr.mono (by decide))  (pa_cons (pv 0) pa_nil)))
        (pss_cons (ps_for PassesOwn.never rfl (pi_enu2 (by rfl) T.n_enumerate (pa_cons (pv 1) pa_nil)) (pg_tup rfl (pgs_cons (pg_name (i := 3) sc_record_fault.nd rfl (Or.inl rfl)) (pgs_cons (pg_name (i := 4) sc_record_fault.nd rfl (Or.inl rfl)) pgs_nil)))
          (pss_cons (ps_set (i := 5) sc_record_fault.nd rfl (Or.inl rfl) (pe_mth T.cl_Family C_Family_fault (hr.mono (by decide)) (pv 2) (pa_cons (pv 4) pa_nil)))
            (pss_cons (ps_if (pt_cmpR op_notN (pv 5) pe_non (nomark _))
              (pss_one (ps_ret (pe_tup (pa_cons (pv 3) (pa_cons (pv 5) pa_nil))))) pss_nil)
            (pss_one (ps_expr (pe_mth T.cl_Family C_Family_add (hr.mono (by decide)) (pv 2) (pa_cons (pv 4) pa_nil)))))))
        (pss_one (ps_ret pe_non)))), ?_⟩
    refine ⟨_, rfl, fun x dx nx ndx nex => ?_⟩
    have S2 : Same H (upd (upd H dx (.own x)) x (.ins (cl "Family") dx [])) := (sNew ndx).trans (sNew (by rw [upd_ne (Ne.symm nex)]; exact nx))
    refine ⟨H, x, dx, li, cu, t, us, gs, rfl, upd_same, nx, S2, L, hz, fun H1 A X => ⟨rfl, ?_⟩⟩
    clear S2
    have hl := hpw.length
    have f0 : FamOk gs (fam0 gs) := fam0_ok hz
    refine ⟨_, rfl, r, ws, rfl, hw.imp (X.sa _ _) (X.sa _ _), fun J wk => for_it wk (fun i σ H' => ∃ (A' : FamA) (v3 v4 v5 : Option V), FamX (cl "Family") H H' x li cu A' (famOf (fam0 gs) (rs.take i)) ∧ FamOk gs (famOf (fam0 gs) (rs.take i)) ∧
      runW n0 n1 n2 gs (fam0 gs) 0 rs = runW n0 n1 n2 gs (famOf (fam0 gs) (rs.take i)) i (rs.drop i) ∧ σ = [some (.ref li), some (.ref r), some (.ref x), v3, v4, v5]) ⟨A, _, _, _, X, f0, rfl, rfl⟩ (fun i σ H' _ q => ?_) ?_ ?_⟩
    · obtain ⟨A', _, _, _, X', _⟩ := q
      rcases hw with h | h
      · rw [X.sa _ _ h, X'.sa _ _ h]
      · rw [X.sa _ _ h, X'.sa _ _ h]
    · rintro i xv σ H3 H4 hi ⟨A', v3, v4, v5, X3, fok, hg, rfl⟩ ⟨Tt, x1, y1, rfl, hT, rfl, e1, e2⟩
      cases e1
      obtain ⟨rd, hrd, hv⟩ := Paired.at hpw e2
      have X4 := X3.same (sNew (o := .tup [.int (i : Nat), y1]) hT)
      refine ⟨Tt, _, rfl, SqT.of upd_same, rfl, _, _, rfl, _, _, rfl, rfl, ?_⟩
      refine ⟨_, rfl, x, _, _, rfl, X4.self, rfl, _, rfl, H, x, li, cu, t, us, gs, A', _, n0, n1, n2, c3, y1, rd, rfl, X4, fok, L.same X4.sa, cuSame X4.sa hc, hv.same X4.sa, rok rd (List.mem_of_getElem? hrd), fun H5 S5 => ?_⟩
      have X5 := X4.same S5
      rw [take_drop_at hrd, runW_cons] at hg
      cases e : faultW n0 n1 n2 gs (famOf (fam0 gs) (rs.take i)) rd with
      | some s =>
        rw [e] at hg
        refine ⟨_, rfl, rfl, _, rfl, iteT ⟨_, rfl, _, rfl, by show 2 ≤ sizeLine; decide, fun t2 ht2 => ?_⟩⟩
        refine k _ _ (X5.sa.trans (sNew ht2)) ?_
        show DueV _ _ (runW n0 n1 n2 gs (fam0 gs) 0 rs)
        rw [hg]
        exact ⟨t2, rfl, upd_same⟩
      | none =>
        rw [e] at hg
        obtain ⟨ev, rfl, evok⟩ := row_ev (many_of e).2
        obtain ⟨b, rfl, hb⟩ := hv
        refine ⟨_, rfl, rfl, _, rfl, iteF ⟨_, rfl, x, _, _, rfl, X5.self, rfl, _, rfl, H, x, li, cu, b, gs, A', _, ev, rfl, X5, fok, (many_of e).1, hb, fun A6 H6 X6 => ?_⟩⟩
        have fe : famOf (fam0 gs) (rs.take (i + 1)) = (famOf (fam0 gs) (rs.take i)).add ev := by rw [take_snoc hrd, famOf_snoc, evOf_row]
        refine ⟨A6, _, _, _, by rw [fe]; exact X6, by rw [fe]; exact fok.add (many_of e).1 ev, ?_, rfl⟩
        rw [hg, fe, evOf_row]
    · rintro σ H3 ⟨A', v3, v4, v5, X3, fok, hg, rfl⟩
      rw [List.drop_of_length_le (Nat.le_of_eq hl.symm)] at hg
      exact k _ _ X3.sa (by show DueV _ _ (runW n0 n1 n2 gs (fam0 gs) 0 rs); rw [hg]; rfl)
theorem cal_record_fault (T : Txt P w K mg cl) : Cal P w K mg base CX0 4 "record_fault" ["lives", "rows"] (spRecF (cl "Customs") (cl "Lives")) := by
  obtain ⟨f, fd, F, m⟩ := T.d_record_fault
  exact ⟨f, fd, ok_record_fault F T, m, F.kp, F.binds fun _ _ _ _ _ _ us hl => match us, hl with | [_, _], _ => rfl⟩
end
end My
set_option Elab.async false
set_option linter.all false
set_option maxRecDepth 100000
set_option maxHeartbeats 1000000
namespace My
open PySem L2 Dw
open C8 (pss_cut tCut)
/-! the law's own reading of a row -/
theorem eqw {x y : Str} (h : x ≠ y) : eqV (.str x) (.str y) = false := by
  show (x == y) = false
  exact beq_eq_false_iff_ne.mpr h
def wordsV : List V := [.str "born", .str "wed", .str "happened", .str "died"]
theorem wordsV_at (e : Ev) : wordsV[e.k]? = some (.str e.w) := by cases e <;> rfl
theorem wordsV_no (e : Ev) : ∀ (m : Nat) (z : V), m < e.k → wordsV[m]? = some z → eqV z (.str e.w) = false := by
  have q : ∀ (m : Nat) (z : V), wordsV[m]? = some z → ∃ s, wordsL[m]? = some s ∧ z = .str s := fun m z h => by
    match m, h with
    | 0, h => exact ⟨"born", rfl, (Option.some.inj h).symm⟩
    | 1, h => exact ⟨"wed", rfl, (Option.some.inj h).symm⟩
    | 2, h => exact ⟨"happened", rfl, (Option.some.inj h).symm⟩
    | 3, h => exact ⟨"died", rfl, (Option.some.inj h).symm⟩
    | m + 4, h => simp [wordsV] at h
  intro m z hm hz
  obtain ⟨s, hs, rfl⟩ := q m z hz
  exact eqw fun e1 => words_no e m hm (by rw [hs, e1])
def spPlaceL : Sp := fun vs H Q _ => ∃ (b : Addr) (e : Ev), vs = [.ref b] ∧ (H b = some (.lst e.row) ∨ H b = some (.tup e.row)) ∧ ∀ t H', Same H H' → H' t = some (.tup (plV e.pl)) → Q (.ref t) H'
def spParts : Sp := fun vs H Q _ => ∃ (v : V) (r : Rd), vs = [v] ∧ RdAt H v r ∧ RdOk r ∧ ∀ H', Same H H' → Q (.bl (isRowB r)) H'
def lensK : List (Key × V) := dk V.int lens
theorem isRowB_cons (s : Str) (y : V) (rest : List V) : isRowB (.sq (.str s :: y :: rest)) = (match lens.lookup s with
  | some n => decide ((rest.length + 2 : Nat) = n) && (isW 1 1000000000 y && rest.all isN)
  | none => false) := rfl
theorem take_all {xs : List V} {i : Nat} {x : V} (h : (xs.take i).all isN = true) (hx : xs[i]? = some x) (hn : isN x = true) : (xs.take (i + 1)).all isN = true := by
  rw [take_snoc hx, List.all_append, h, List.all_cons, hn]
  rfl
theorem not_all {xs : List V} {i : Nat} {x : V} (hx : xs[i]? = some x) (hn : isN x = false) : xs.all isN = false := by
  cases e : xs.all isN with
  | false => rfl
  | true => rw [List.all_eq_true.mp e x (List.mem_of_getElem? hx)] at hn; cases hn
section
variable {P : Program} {w : World} {K : PySem.W.Frag} {mg : Str → Option Value} {base : Heap} {cl : String → Addr}
theorem ok_place {f : Addr} {fd : FuncData} (F : Fun K "_law_place" "_law_place" s_place f fd) (T : Txt P w K mg cl) : FnOk P w K mg base CX0 1 f fd ["_law_row"] spPlaceL := by
  refine F.ok sc_place (fun vs H Q E h => ?_) (fun cdv A outer s H vs Q E hr h => ?_)
  · obtain ⟨b, e, rfl, _⟩ := h
    rfl
  · obtain ⟨b, e, rfl, hb, k⟩ := h
    refine ⟨_, (pss_one (ps_ret (pe_tup (pa_cons (pe_ix ix_either (pv 0) pe_int (fun _ _ => rfl)) (pa_cons (pe_bm PySem.F.plainAttrs_list PySem.F.slot_list_index PySem.F.type_list_index mt_index (pe_lst (pa_cons pe_str (pa_cons pe_str (pa_cons pe_str (pa_cons pe_str pa_nil))))) (pa_cons (pe_ix ix_either (pv 0) pe_int (fun _ _ => rfl)) pa_nil)) (pa_cons (pe_ix ix_either (pv 0) (pe_un un_neg pe_int) (fun _ _ => rfl)) pa_nil)))))), ?_⟩
    refine ⟨_, rfl, ixOr hb (j := 1) rfl ⟨by show 4 ≤ sizeLine; decide, fun l hl => ?_⟩⟩
    have S1 := sNew (o := .lst wordsV) hl
    have hb1 := hb.imp (S1 _ _) (S1 _ _)
    refine ⟨.inl ⟨rfl, _, SqL.of upd_same⟩, _, rfl, ixOr hb1 (j := 0) (v := .str e.w) rfl ⟨l, wordsV, .str e.w, e.k, .str e.w, rfl, rfl, SqL.of upd_same, rfl, rfl, wordsV_at e, (by show (e.w == e.w) = true; exact beq_self_eq_true _), wordsV_no e, _, rfl, _, rfl, ixOrI hb1 (row_last e) ⟨by show 3 ≤ sizeLine; decide, fun t ht => ?_⟩⟩⟩
    exact k t _ (S1.trans (sNew ht)) upd_same
theorem cal_place (T : Txt P w K mg cl) : Cal P w K mg base CX0 1 "_law_place" ["_law_row"] spPlaceL := by
  obtain ⟨f, fd, F, m⟩ := T.d_place
  exact ⟨f, fd, ok_place F T, m, F.kp, F.binds fun _ _ _ _ _ _ us hl => match us, hl with | [_], _ => rfl⟩
theorem ok_parts {f : Addr} {fd : FuncData} (F : Fun K "_law_parts_ok" "_law_parts_ok" s_parts_ok f fd) (T : Txt P w K mg cl) : FnOk P w K mg base CX0 1 f fd ["_law_row"] spParts := by
  refine F.ok sc_parts_ok (fun vs H Q E h => ?_) (fun cdv A outer s H vs Q E hr h => ?_)
  · obtain ⟨v, r, rfl, _⟩ := h
    rfl
  · obtain ⟨v, r, rfl, hv, ok, k⟩ := h
    have hu := hu_of hr
    refine ⟨_, (pss_cons (ps_set (i := 1) sc_parts_ok.nd rfl (Or.inl rfl) (pe_disp (pps_cons pe_str pe_int (pps_cons pe_str pe_int (pps_cons pe_str pe_int (pps_cons pe_str pe_int pps_nil)))) (by rfl) (by rfl) (fun z => by cases z) (by decide)))
        (pss_cons (ps_if (PW.pt (pw_or (pt_not (pt_val (pe_callB call_isiT (by rfl) T.n_isinstance (by decide +kernel) (pa_cons (pv 0) (pa_cons (pe_tup (pa_cons (pe_ty "list" T.n_list) (pa_cons (pe_ty "tuple" T.n_tuple) pa_nil))) pa_nil))))) (pw_or (pt_cmpR op_lt (pe_callB call_len_seq (by rfl) T.n_len PySem.boot_len (pa_cons (pv 0) pa_nil)) pe_int (nomark _)) (pw_or1 (pt_not (pt_val (pe_callB call_isi (by rfl) T.n_isinstance (by decide +kernel) (pa_cons (pe_ix ix_either (pv 0) pe_int (fun _ _ => rfl)) (pa_cons (pe_ty "str" T.n_str) pa_nil)))))))))
          (pss_one (ps_ret pe_bl)) pss_nil)
        (pss_cons (ps_if (pt_cmpR op_ne (pe_dget2 hu (pv 1) (pe_ix ix_either (pv 0) pe_int (fun _ _ => rfl)) pe_int ⟨rfl, rfl, rfl, rfl⟩) (pe_callB call_len_seq (by rfl) T.n_len PySem.boot_len (pa_cons (pv 0) pa_nil)) (nomark _))
          (pss_one (ps_ret pe_bl)) pss_nil)
        (pss_cons (ps_set (i := 2) sc_parts_ok.nd rfl (Or.inl rfl) (pe_ix ix_either (pv 0) pe_int (fun _ _ => rfl)))
        (pss_cons (ps_if (PW.pt (pw_or (pt_not (pt_val (pe_callB call_isi (by rfl) T.n_isinstance (by decide +kernel) (pa_cons (pv 2) (pa_cons (pe_ty "int" T.n_int) pa_nil))))) (pw_or (pt_val (pe_callB call_isi (by rfl) T.n_isinstance (by decide +kernel) (pa_cons (pv 2) (pa_cons (pe_ty "bool" T.n_bool) pa_nil)))) (pw_or1 (pt_not (pt_chain op_le op_le pe_int (pv 2) (pe_op op_pow pe_int pe_int)))))))
          (pss_one (ps_ret pe_bl)) pss_nil)
        (pss_cons (ps_for PassesOwn.never rfl (pi_seq (pe_slice sl_either (pv 0) (po_some pe_int) po_none)) (pg_name (i := 3) sc_parts_ok.nd rfl (Or.inl rfl))
          (pss_cons (ps_if (PW.pt (pw_or (pt_not (pt_val (pe_callB call_isi (by rfl) T.n_isinstance (by decide +kernel) (pa_cons (pv 3) (pa_cons (pe_ty "str" T.n_str) pa_nil))))) (pw_or1 (pt_not (pt_chain op_le op_le pe_int (pe_callB call_len_str (by rfl) T.n_len PySem.boot_len (pa_cons (pv 3) pa_nil)) pe_int)))))
              (pss_one (ps_ret pe_bl)) pss_nil)
            (pss_one (ps_if (pt_not (pt_val (pe_callB (cr_all rfl) (by rfl) T.n_all (by decide +kernel) (pa_cons (pe_lc (own := [("_law_sign", 4)]) (g := gName 4) (tt := tYes) rfl sc_parts_ok.nd (pi_str (pv 3)) (blkOk_by (own := [("_law_sign", 4)]) (N := ["_law_row", "_law_lengths", "_law_year", "_law_part", "_law_sign"]) (sc := defScope s_parts_ok) (by decide +kernel)) (fun _ _ _ _ _ => pg_name (i := 4) sc_parts_ok.nd rfl (Or.inl rfl)) (fun _ _ _ _ _ => pts_nil) (fun _ _ _ _ _ => (pe_cmpR op_in_sign (pv 4) pe_str (by rfl)))) pa_nil))))
              (pss_one (ps_ret pe_bl)) pss_nil))))
        (pss_one (ps_ret pe_bl)))))))), ?_⟩
    refine fun ld hld => ⟨upd_same, lensK, rfl, by decide, ?_⟩
    rw [show mergeK [] lensK = lensK from rfl]
    have S00 : Same H (upd (upd H ld (.dK [])) ld (.dK lensK)) := same_upd (sNew hld) hld
    have hL0 : (upd (upd H ld (.dK [])) ld (.dK lensK)) ld = some (.dK lensK) := upd_same
    generalize upd (upd H ld (.dK [])) ld (.dK lensK) = HL at S00 hL0
    refine ⟨_, rfl, by show 2 ≤ sizeLine; decide, fun tp htp => ?_⟩
    have S0 := S00.trans (sNew (o := .tup [.ty "list", .ty "tuple"]) htp)
    obtain ⟨nv, dv, ka⟩ := isLT_rd (K := K) (hv.same S0) ok
    have hL1 := sNew (o := .tup [.ty "list", .ty "tuple"]) htp _ _ hL0
    refine ⟨v, tp, _, .type nv, _, _, rfl, upd_same, .cons (.ty "list") (.cons (.ty "tuple") .nil), dv.ty, ka, _, rfl, ?_⟩
    generalize upd HL tp (.tup [.ty "list", .ty "tuple"]) = H1 at S0 dv hL1
    cases r with
    | pl x => exact iteT (iteT (k _ S0))
    | sq xs =>
      refine iteF ?_
      obtain ⟨b, rfl, hb⟩ := hv.same S0
      refine ⟨_, rfl, b, xs, rfl, hb.imp SqL.of SqT.of, _, _, rfl, rfl, _, rfl, ?_⟩
      have sm : ∀ {xs : List V}, xs.length < 3 → isRowB (.sq xs) = false := fun {xs} h => by
        cases e : isRowB (.sq xs) with
        | false => rfl
        | true =>
          obtain ⟨ev, q, _⟩ := row_ev e
          cases q
          cases ev <;> simp [Ev.row, Ev.tl] at h
      match xs, ok with
      | [], ok => exact iteT (iteT (k _ S0))
      | [x], ok => exact iteT (iteT (by have := k _ S0; rw [sm (show [x].length < 3 by simp)] at this; exact this))
      | [x, y], ok => exact iteT (iteT (by have := k _ S0; rw [sm (show [x, y].length < 3 by simp)] at this; exact this))
      | x :: y :: z :: rest, ok =>
        have nsm : ¬ (((x :: y :: z :: rest).length : Nat) : Int) < 3 := by simp; omega
        rw [decide_eq_false nsm]
        refine iteF ?_
        obtain ⟨tn, dn, _⟩ := (ok.2 x (by simp)).dm (K := K) (H := H1)
        by_cases hs : ∃ s, x = .str s
        rotate_left
        · have e0 : isRowB (.sq (x :: y :: z :: rest)) = false := by
            cases e : isRowB (.sq (x :: y :: z :: rest)) with
            | false => rfl
            | true =>
              obtain ⟨ev, q, _⟩ := row_ev e
              injection q with q
              injection q with q
              exact absurd ⟨_, q⟩ hs
          have kk : PySem.W.kitOne K (.type tn) (.type "str") = some false := by
            cases dn <;> first | exact kit_ty (by decide +kernel) | exact absurd ⟨_, rfl⟩ hs
          have := k _ S0
          rw [e0] at this
          exact ⟨_, rfl, ixOr hb (j := 0) rfl ⟨_, _, _, _, _, rfl, .ty "str", dn.ty, kk, false, rfl, iteT this⟩⟩
        obtain ⟨s, rfl⟩ := hs
        refine ⟨_, rfl, ixOr hb (j := 0) rfl ⟨_, _, _, _, _, rfl, .ty "str", dn.ty, (by cases dn; exact kit_ty (by decide +kernel)), true, rfl, iteF ?_⟩⟩
        have un := isRowB_cons s y (z :: rest)
        have dg := dgF s (fn := V.int) (L := lens) hL1
        have no : isRowB (.sq (.str s :: y :: z :: rest)) = false → Q (.bl false) H1 := fun e => by have := k _ S0; rw [e] at this; exact this
        cases el : lens.lookup s with
        | none =>
          rw [el] at un dg
          refine ⟨_, rfl, ld, rfl, .inl ⟨_, .inl hL1⟩, _, rfl, ixOr hb (j := 0) rfl ⟨_, dg, _, rfl, b, _, rfl, hb.imp SqL.of SqT.of, rfl, _, rfl, ?_⟩⟩
          refine ite2 (fun _ => no un) (fun h => ?_)
          exfalso
          have h : ¬ (!decide (V.int 0 = V.int (((V.str s :: y :: z :: rest).length : Nat) : Int))) = true := h
          simp at h
          omega
        | some n =>
          rw [el] at un dg
          have un : isRowB (.sq (.str s :: y :: z :: rest)) = (decide (((z :: rest).length + 2 : Nat) = n) && (isW 1 1000000000 y && (z :: rest).all isN)) := un
          refine ⟨_, rfl, ld, rfl, .inl ⟨_, .inl hL1⟩, _, rfl, ixOr hb (j := 0) rfl ⟨_, dg, _, rfl, b, _, rfl, hb.imp SqL.of SqT.of, rfl, _, rfl, ?_⟩⟩
          refine ite2 (fun h => ?_) (fun h => ?_)
          · have hn : ¬ (((z :: rest).length + 2 : Nat) : Int) = n := by
              intro e
              have h : (!decide (V.int n = V.int (((V.str s :: y :: z :: rest).length : Nat) : Int))) = true := h
              simp at h e
              omega
            exact no (by rw [un, decide_eq_false hn, Bool.false_and])
          have hn : (((z :: rest).length + 2 : Nat) : Int) = n := by
            have h : (!decide (V.int n = V.int (((V.str s :: y :: z :: rest).length : Nat) : Int))) = false := Bool.eq_false_iff.mpr h
            simp at h ⊢
            omega
          rw [decide_eq_true hn, Bool.true_and] at un
          refine ⟨_, rfl, ixOr hb (j := 1) rfl ?_⟩
          have noY : isW 1 1000000000 y = false → Q (.bl false) H1 := fun e => no (by rw [un, e, Bool.false_and])
          obtain ⟨ty, dy, _⟩ := (ok.2 y (by simp)).dm (K := K) (H := H1)
          have syo := ok.2 y (by simp)
          clear dv ka hv
          cases dy with
          | bl b0 => exact ⟨_, rfl, _, _, _, _, _, rfl, .ty "int", .base (.bl b0), kit_ty (by decide +kernel), true, rfl, iteF ⟨_, rfl, _, _, _, _, _, rfl, .ty "bool", .base (.bl b0), kit_ty (by decide +kernel), true, rfl, iteT (iteT (noY rfl))⟩⟩
          | non => exact ⟨_, rfl, _, _, _, _, _, rfl, .ty "int", .base .non, kit_ty (by decide +kernel), false, rfl, iteT (iteT (noY rfl))⟩
          | str x hx => exact ⟨_, rfl, _, _, _, _, _, rfl, .ty "int", .base (.str x), kit_ty (by decide +kernel), false, rfl, iteT (iteT (noY rfl))⟩
          | @lst a _ e => exact (show Sr (.ref a) from syo).elim
          | @tup a _ e => exact (show Sr (.ref a) from syo).elim
          | int yy =>
            refine ⟨_, rfl, _, _, _, _, _, rfl, .ty "int", .base (.int yy), kit_ty (by decide +kernel), true, rfl, iteF ?_⟩
            refine ⟨_, rfl, _, _, _, _, _, rfl, .ty "bool", .base (.int yy), kit_ty (by decide +kernel), false, rfl, iteF ?_⟩
            refine ⟨_, rfl, _, _, rfl, rfl, _, rfl, ?_⟩
            have wi : isW 1 1000000000 (.int yy) = (decide (1 ≤ yy) && decide (yy ≤ 1000000000)) := rfl
            refine ite2 (fun h1 => ?_) (fun h1 => ?_)
            rotate_left
            · exact ⟨_, rfl, iteT (noY (by rw [wi, Bool.eq_false_iff.mpr h1, Bool.false_and]))⟩
            refine ⟨_, _, rfl, rfl, ⟨by decide, by decide, by decide⟩, _, _, rfl, rfl, _, rfl, ?_⟩
            refine ite2 (fun h2 => ?_) (fun h2 => ?_)
            · exact noY (by rw [wi, h1, Bool.true_and]; simpa using h2)
            have h2 : decide (yy ≤ 1000000000) = true := by simpa using h2
            rw [wi, h1, h2, Bool.true_and, Bool.true_and] at un
            clear noY wi
            refine ⟨_, rfl, _, rfl, slOr (n := 2) hb (by decide) (by simp) fun l o hl ho => ?_⟩
            have S1 := S0.trans (sNew (o := o) hl)
            refine ⟨l, z :: rest, rfl, by rcases ho with rfl | rfl; exact .inl upd_same; exact .inr upd_same, fun J wk => for_it wk (fun i σ H' => Same (upd H1 l o) H' ∧ ((z :: rest).take i).all isN = true ∧ ∃ (v3 : Option V), σ = [some (.ref b), some (.ref ld), some (.int yy), v3, none]) ?_ ?_ ?_ ?_⟩
            · exact ⟨Same.refl _, rfl, _, rfl⟩
            · intro i σ H' _ q
              rw [q.1 l _ upd_same, upd_same]
            · rintro i v σ H2 H3 hi ⟨S2, ha, v3, rfl⟩ ⟨rfl, hv⟩
              have no2 : isN v = false → ∀ H', Same H H' → Q (.bl false) H' := fun e H' S' => by
                have := k _ S'
                rw [un, not_all hv e] at this
                exact this
              have svo := ok.2 v (List.mem_cons_of_mem _ (List.mem_cons_of_mem _ (List.mem_of_getElem? hv)))
              obtain ⟨tv, dvv, _⟩ := Sr.dm (K := K) (H := H3) svo
              by_cases hsv : ∃ s, v = .str s
              rotate_left
              · have e0 : isN v = false := by
                  cases e : isN v with
                  | false => rfl
                  | true => exact absurd (isN_str e) hsv
                have kk : PySem.W.kitOne K (.type tv) (.type "str") = some false := by
                  cases dvv <;> first | exact kit_ty (by decide +kernel) | exact absurd ⟨_, rfl⟩ hsv
                exact ⟨_, rfl, _, _, _, _, _, rfl, .ty "str", dvv.ty, kk, false, rfl, iteT (iteT (no2 e0 _ (S1.trans S2)))⟩
              obtain ⟨x, rfl⟩ := hsv
              have hxs : x.length ≤ sizeLine := Nat.le_of_lt (small1000 svo.1)
              have hN : isN (.str x) = (decide (1 ≤ x.length) && decide (x.length ≤ 8) && (x.cps.toList.map fun c => decide (c ∈ letters)).all id) := by
                show (_ && _ && _) = _
                rw [List.all_map]
                rfl
              refine ⟨_, rfl, _, _, _, _, _, rfl, .ty "str", .base (.str x), kit_ty (by decide +kernel), true, rfl, iteF ?_⟩
              refine ⟨_, rfl, _, rfl, hxs, _, _, rfl, rfl, _, rfl, ?_⟩
              refine ite2 (fun g1 => ?_) (fun g1 => ?_)
              rotate_left
              · have g1 : ¬ (1 : Int) ≤ x.length := fun z => g1 (decide_eq_true z)
                exact ⟨_, rfl, iteT (no2 (by rw [hN, decide_eq_false (show ¬ 1 ≤ x.length by omega), Bool.false_and, Bool.false_and]) _ (S1.trans S2))⟩
              have g1 : (1 : Int) ≤ x.length := of_decide_eq_true g1
              refine ⟨_, _, rfl, rfl, _, rfl, ?_⟩
              refine ite2 (fun g2 => ?_) (fun g2 => ?_)
              · have g2 : ¬ (x.length : Int) ≤ 8 := of_decide_eq_false (by simpa using g2)
                exact no2 (by rw [hN, decide_eq_false (show ¬ x.length ≤ 8 by omega), Bool.and_false, Bool.false_and]) _ (S1.trans S2)
              have g2 : (x.length : Int) ≤ 8 := of_decide_eq_true (by simpa using g2)
              rw [decide_eq_true (show 1 ≤ x.length by omega), decide_eq_true (show x.length ≤ 8 by omega), Bool.true_and, Bool.true_and] at hN
              refine ⟨_, rfl, x, rfl, fun L hL => lc_str (x := x) (fun i H' => H' = upd H3 L (.lst ((x.cps.toList.take i).map fun c => V.bl (decide (c ∈ letters))))) rfl ?_ ?_⟩
              · rintro i z H' hz rfl
                have hi : i < x.cps.size := (Array.getElem?_eq_some_iff.mp hz).1
                have hz2 : x.cps.toList[i]? = some z := by rw [← hz]; simp
                have ht : x.cps.toList.take (i + 1) = x.cps.toList.take i ++ [z] := by rw [List.take_add_one, hz2]; rfl
                refine ⟨rfl, ?_⟩
                refine ⟨_, rfl, z, _, rfl, rfl, _, upd_same, small1000 ?_, ?_⟩
                · rw [List.length_map]
                  have : x.length = x.cps.size := rfl
                  exact Nat.le_trans (List.length_take_le _ _) (by omega)
                · rw [upd_upd, ht, List.map_append]
                  rfl
              · rintro H' rfl
                have S3 : Same (upd H1 l o) (upd H3 L (.lst ((x.cps.toList.take x.cps.size).map fun c => V.bl (decide (c ∈ letters))))) := S2.trans (sNew hL)
                refine ⟨L, x.cps.toList.map fun c => decide (c ∈ letters), rfl, SqL.of (by rw [upd_same, List.map_map]; rw [show x.cps.toList.take x.cps.size = x.cps.toList from List.take_of_length_le (by simp)]; rfl), ?_⟩
                refine ⟨_, rfl, ?_⟩
                refine ite2 (fun g => ?_) (fun g => ?_)
                · exact no2 (by rw [hN]; simpa using g) _ (S1.trans S3)
                · exact ⟨S3, take_all ha hv (by rw [hN]; simpa using g), _, rfl⟩
            · rintro σ H2 ⟨S2, ha, v3, rfl⟩
              rw [List.take_length] at ha
              have := k _ (S1.trans S2)
              rw [un, ha] at this
              exact this
theorem cal_parts (T : Txt P w K mg cl) : Cal P w K mg base CX0 1 "_law_parts_ok" ["_law_row"] spParts := by
  obtain ⟨f, fd, F, m⟩ := T.d_parts_ok
  exact ⟨f, fd, ok_parts F T, m, F.kp, F.binds fun _ _ _ _ _ _ us hl => match us, hl with | [_], _ => rfl⟩
end
end My
set_option Elab.async false
set_option linter.all false
set_option maxRecDepth 100000
set_option maxHeartbeats 1000000
namespace My
open PySem L2 Dw
open C8 (pss_cut tCut)
/-! the law's own facts of rows -/
def famP (gs : List Gd) (evs : List Ev) : Fam := evs.foldl (fun f e => f.put1 e) (fam0 gs)
theorem put1_lm (f : Fam) (l : Option (Int × Int × Str)) (m : Nat) (e : Ev) : ({ f with last := l, many := m } : Fam).put1 e = { f.put1 e with last := l, many := m } := by cases e <;> rfl
theorem famE_P (gs : List Gd) : ∀ n, ∀ evs : List Ev, evs.length = n → famE gs evs = { famP gs evs with last := (evs.getLast?).map Ev.pl, many := evs.length } := fun n => by
  induction n with
  | zero =>
    intro evs h
    cases evs with
    | cons _ _ => cases h
    | nil =>
      obtain ⟨m0, m1, m2, m3, m4⟩ := fam0_many gs
      show fam0 gs = { fam0 gs with last := none, many := 0 }
      rw [← m4, ← m0]
  | succ n ih =>
    intro evs h
    rcases List.eq_nil_or_concat evs with rfl | ⟨es, e, rfl⟩
    · cases h
    · rw [List.concat_eq_append] at h ⊢
      rw [List.length_append] at h
      have q := ih es (by simpa using h)
      have e1 : famE gs (es ++ [e]) = (famE gs es).add e := by unfold famE; rw [List.foldl_append]; rfl
      have e2 : famP gs (es ++ [e]) = (famP gs es).put1 e := by unfold famP; rw [List.foldl_append]; rfl
      rw [e1, e2, q]
      unfold Fam.add
      rw [put1_lm]
      simp
structure FcA where
  b : Addr
  d : Addr
  pr : Addr
  m : Addr
  fc : Addr
  od : Addr
structure FacX (H0 H : Hp) (A : FcA) (f : Fam) (n : Nat) : Prop where
  hb : H A.b = some (.dK (dk V.int f.births))
  hd : H A.d = some (.dK (dk V.int f.deaths))
  hp : H A.pr = some (.dK (dk id f.parents))
  hm : ∃ L : List (Str × V), H A.m = some (.dK (dk id L)) ∧ L.length ≤ n
  hf : H A.fc = some (.dK (dk V.int f.facts))
  ho : H A.od = some (.lst (f.order.map V.str))
  nd : [A.b, A.d, A.pr, A.m, A.fc].Nodup
  fr : ∀ a ∈ [A.b, A.d, A.pr, A.m, A.fc, A.od], H0 a = none
  sa : Same H0 H
section
variable {H0 H H' : Hp} {A : FcA} {f : Fam} {n : Nat}
theorem FacX.nds (X : FacX H0 H A f n) : (A.b ≠ A.d ∧ A.b ≠ A.pr ∧ A.b ≠ A.m ∧ A.b ≠ A.fc) ∧ (A.d ≠ A.pr ∧ A.d ≠ A.m ∧ A.d ≠ A.fc) ∧ (A.pr ≠ A.m ∧ A.pr ≠ A.fc) ∧ A.m ≠ A.fc := by
  have := X.nd
  simp at this
  simpa using this
theorem FacX.od (X : FacX H0 H A f n) {a : Addr} {k k' : List (Key × V)} (h : H a = some (.dK k)) : (upd H a (.dK k')) A.od = some (.lst (f.order.map V.str)) := (upd_ne (ne_of X.ho h (fun z => nomatch z))).trans X.ho
theorem FacX.mono (X : FacX H0 H A f n) {m : Nat} (h : n ≤ m) : FacX H0 H A f m := { X with hm := let ⟨L, h1, h2⟩ := X.hm; ⟨L, h1, Nat.le_trans h2 h⟩ }
theorem FacX.stepB (X : FacX H0 H A f n) (s : Str) (y : Int) : FacX H0 (upd H A.b (.dK (dk V.int (put f.births s y)))) A { f with births := put f.births s y } n := by
  obtain ⟨⟨n1, n2, n3, n4⟩, ⟨n5, n6, n7⟩, ⟨n8, n9⟩, n10⟩ := X.nds
  obtain ⟨L, g1, g2⟩ := X.hm
  exact ⟨upd_same, (upd_ne (Ne.symm n1)).trans X.hd, (upd_ne (Ne.symm n2)).trans X.hp, ⟨L, (upd_ne (Ne.symm n3)).trans g1, g2⟩, (upd_ne (Ne.symm n4)).trans X.hf, X.od X.hb, X.nd, X.fr, same_upd X.sa (X.fr _ (by simp))⟩
theorem FacX.stepD (X : FacX H0 H A f n) (s : Str) (y : Int) : FacX H0 (upd H A.d (.dK (dk V.int (put f.deaths s y)))) A { f with deaths := put f.deaths s y } n := by
  obtain ⟨⟨n1, n2, n3, n4⟩, ⟨n5, n6, n7⟩, ⟨n8, n9⟩, n10⟩ := X.nds
  obtain ⟨L, g1, g2⟩ := X.hm
  exact ⟨(upd_ne n1).trans X.hb, upd_same, (upd_ne (Ne.symm n5)).trans X.hp, ⟨L, (upd_ne (Ne.symm n6)).trans g1, g2⟩, (upd_ne (Ne.symm n7)).trans X.hf, X.od X.hd, X.nd, X.fr, same_upd X.sa (X.fr _ (by simp))⟩
theorem FacX.stepP (X : FacX H0 H A f n) (s : Str) (v : V) : FacX H0 (upd H A.pr (.dK (dk id (put f.parents s v)))) A { f with parents := put f.parents s v } n := by
  obtain ⟨⟨n1, n2, n3, n4⟩, ⟨n5, n6, n7⟩, ⟨n8, n9⟩, n10⟩ := X.nds
  obtain ⟨L, g1, g2⟩ := X.hm
  exact ⟨(upd_ne n2).trans X.hb, (upd_ne n5).trans X.hd, upd_same, ⟨L, (upd_ne (Ne.symm n8)).trans g1, g2⟩, (upd_ne (Ne.symm n9)).trans X.hf, X.od X.hp, X.nd, X.fr, same_upd X.sa (X.fr _ (by simp))⟩
theorem FacX.stepF (X : FacX H0 H A f n) (s : Str) (y : Int) : FacX H0 (upd H A.fc (.dK (dk V.int (put f.facts s y)))) A { f with facts := put f.facts s y } n := by
  obtain ⟨⟨n1, n2, n3, n4⟩, ⟨n5, n6, n7⟩, ⟨n8, n9⟩, n10⟩ := X.nds
  obtain ⟨L, g1, g2⟩ := X.hm
  exact ⟨(upd_ne n4).trans X.hb, (upd_ne n7).trans X.hd, (upd_ne n9).trans X.hp, ⟨L, (upd_ne n10).trans g1, g2⟩, upd_same, X.od X.hf, X.nd, X.fr, same_upd X.sa (X.fr _ (by simp))⟩
theorem FacX.stepM (X : FacX H0 H A f n) {L : List (Str × V)} (g1 : H A.m = some (.dK (dk id L))) (g2 : L.length ≤ n) (s : Str) (v : V) (w : List (Str × List Str)) : FacX H0 (upd H A.m (.dK (dk id (put L s v)))) A { f with weds := w } (n + 1) := by
  obtain ⟨⟨n1, n2, n3, n4⟩, ⟨n5, n6, n7⟩, ⟨n8, n9⟩, n10⟩ := X.nds
  exact ⟨(upd_ne n3).trans X.hb, (upd_ne n6).trans X.hd, (upd_ne n8).trans X.hp, ⟨_, upd_same, Nat.le_trans put_len (Nat.succ_le_succ g2)⟩, (upd_ne (Ne.symm n10)).trans X.hf, X.od g1, X.nd, X.fr, same_upd X.sa (X.fr _ (by simp))⟩
theorem FacX.stepO (X : FacX H0 H A f n) (s : Str) : FacX H0 (upd H A.od (.lst (f.order.map V.str ++ [.str s]))) A { f with order := f.order ++ [s] } n := by
  have nd : ∀ {a kvs}, H a = some (.dK kvs) → (upd H A.od (.lst (f.order.map V.str ++ [.str s]))) a = some (.dK kvs) := fun {a kvs} e => (upd_ne (ne_of e X.ho (fun z => nomatch z))).trans e
  obtain ⟨L, g1, g2⟩ := X.hm
  refine ⟨nd X.hb, nd X.hd, nd X.hp, ⟨L, nd g1, g2⟩, nd X.hf, ?_, X.nd, X.fr, same_upd X.sa (X.fr _ (by simp))⟩
  rw [upd_same, List.map_append]
  rfl
theorem FacX.same (X : FacX H0 H A f n) (S : Same H H') : FacX H0 H' A f n :=
  ⟨S _ _ X.hb, S _ _ X.hd, S _ _ X.hp, let ⟨L, g1, g2⟩ := X.hm; ⟨L, S _ _ g1, g2⟩, S _ _ X.hf, S _ _ X.ho, X.nd, X.fr, X.sa.trans S⟩
end
/-- new things -/
structure Nw (H H1 : Hp) (L : List (Addr × HO)) : Prop where
  at_ : ∀ q ∈ L, H1 q.1 = some q.2
  nod : (L.map (·.1)).Nodup
  fr : ∀ q ∈ L, H q.1 = none
  sa : Same H H1
theorem Nw.new {H H1 : Hp} {a : Addr} {oa : HO} {L : List (Addr × HO)} (B : Nw H H1 L) (ha : H1 a = none) : Nw H (upd H1 a oa) (L ++ [(a, oa)]) := by
  have S := sNew (o := oa) ha
  refine ⟨fun q hq => ?_, ?_, fun q hq => ?_, B.sa.trans S⟩
  · rcases List.mem_append.mp hq with hq | hq
    · exact S _ _ (B.at_ q hq)
    · obtain rfl : q = (a, oa) := by simpa using hq
      exact upd_same
  · rw [List.map_append]
    refine List.nodup_append.mpr ⟨B.nod, by simp, fun x hx y hy => ?_⟩
    obtain ⟨q, hq, rfl⟩ := List.mem_map.mp hx
    rw [show y = a by simpa using hy]
    exact ne_of_none (B.at_ q hq) ha
  · rcases List.mem_append.mp hq with hq | hq
    · exact B.fr q hq
    · obtain rfl : q = (a, oa) := by simpa using hq
      cases e : H a with
      | none => rfl
      | some u => rw [B.sa _ _ e] at ha; cases ha
def spFacts : Sp := fun vs H Q _ => ∃ (cv : V) (l r : Addr) (us ws : List V) (gs : List Gd) (evs : List Ev), vs = [cv, .ref l, .ref r] ∧ H l = some (.lst us) ∧ Paired (TupAt H) us (gs.map mkR) ∧ gs.length ≤ 9 ∧ H r = some (.lst ws) ∧ Paired (EvAt H) ws evs ∧ evs.length ≤ 200 ∧
  ∀ t A H', FacX H H' A (famP gs evs) evs.length → H' t = some (.tup [cv, .ref A.b, .ref A.d, .ref A.pr, .ref A.m, .ref A.fc, .ref A.od]) → Q (.ref t) H'
theorem famP_snoc {gs : List Gd} {es : List Ev} {e : Ev} : famP gs (es ++ [e]) = (famP gs es).put1 e := by unfold famP; rw [List.foldl_append]; rfl
theorem famP_len {gs : List Gd} (hz : gs.length ≤ 9) : ∀ n (evs : List Ev), evs.length = n → (famP gs evs).births.length ≤ 9 + n ∧ (famP gs evs).deaths.length ≤ n ∧ (famP gs evs).parents.length ≤ 9 + n ∧ (famP gs evs).facts.length ≤ n ∧ (famP gs evs).order.length ≤ 9 + n := fun n => by
  induction n with
  | zero =>
    intro evs h
    cases evs with
    | cons _ _ => cases h
    | nil =>
      have ok := fam0_ok hz
      have m0 := (fam0_many gs).1
      have h1 := ok.lb; have h2 := ok.ld; have h3 := ok.lp; have h4 := ok.lf; have h5 := ok.lo
      rw [m0] at h1 h2 h3 h4 h5
      exact ⟨h1, h2, h3, h4, h5⟩
  | succ n ih =>
    intro evs h
    rcases List.eq_nil_or_concat evs with rfl | ⟨es, e, rfl⟩
    · cases h
    · rw [List.concat_eq_append] at h ⊢
      rw [List.length_append] at h
      obtain ⟨h1, h2, h3, h4, h5⟩ := ih es (by simpa using h)
      rw [famP_snoc]
      cases e with
      | born y p m => exact ⟨Nat.le_trans put_len (by omega), Nat.le_succ_of_le h2, Nat.le_trans put_len (by omega), Nat.le_succ_of_le h4, by show ((famP gs es).order ++ [m]).length ≤ _; rw [List.length_append]; show _ + 1 ≤ _; omega⟩
      | wed y p m => exact ⟨Nat.le_succ_of_le h1, Nat.le_succ_of_le h2, Nat.le_trans put_len (by omega), Nat.le_succ_of_le h4, by show ((famP gs es).order ++ [m]).length ≤ _; rw [List.length_append]; show _ + 1 ≤ _; omega⟩
      | happ y m => exact ⟨Nat.le_succ_of_le h1, Nat.le_succ_of_le h2, Nat.le_succ_of_le h3, Nat.le_trans put_len (by omega), Nat.le_succ_of_le h5⟩
      | died y p => exact ⟨Nat.le_succ_of_le h1, Nat.le_trans put_len (by omega), Nat.le_succ_of_le h3, Nat.le_succ_of_le h4, Nat.le_succ_of_le h5⟩
section
variable {P : Program} {w : World} {K : PySem.W.Frag} {mg : Str → Option Value} {base : Heap} {cl : String → Addr}
theorem ok_facts {f : Addr} {fd : FuncData} (F : Fun K "_law_facts" "_law_facts" s_facts f fd) (T : Txt P w K mg cl) : FnOk P w K mg base CX0 1 f fd ["_law_customs_here", "_law_lives_here", "_law_rows_here"] spFacts := by
  refine F.ok sc_facts (fun vs H Q E h => ?_) (fun cdv A outer s H vs Q E hr h => ?_)
  · obtain ⟨cv, l, r, us, ws, gs, evs, rfl, _⟩ := h
    rfl
  · obtain ⟨cv, l, r, us, ws, gs, evs, rfl, hl, hpu, hz, hrr, hpw, hze, k⟩ := h
    have hu := hu_of hr
    refine ⟨_, (pss_cons (ps_asg (pe_tup (pa_cons pe_dnewK (pa_cons pe_dnewK (pa_cons pe_dnewK (pa_cons pe_dnewK (pa_cons pe_dnewK (pa_cons (pe_lst pa_nil) pa_nil))))))) (pg_tup rfl (pgs_cons (pg_name (i := 3) sc_facts.nd rfl (Or.inl rfl)) (pgs_cons (pg_name (i := 4) sc_facts.nd rfl (Or.inl rfl)) (pgs_cons (pg_name (i := 5) sc_facts.nd rfl (Or.inl rfl)) (pgs_cons (pg_name (i := 6) sc_facts.nd rfl (Or.inl rfl)) (pgs_cons (pg_name (i := 7) sc_facts.nd rfl (Or.inl rfl)) (pgs_cons (pg_name (i := 8) sc_facts.nd rfl (Or.inl rfl)) pgs_nil))))))))
        (pss_cons (ps_for PassesOwn.never rfl (pi_list (pv 1)) (pg_tup rfl (pgs_cons (pg_name (i := 9) sc_facts.nd rfl (Or.inl rfl)) (pgs_cons (pg_name (i := 10) sc_facts.nd rfl (Or.inl rfl)) (pgs_cons (pg_name (i := 11) sc_facts.nd rfl (Or.inl rfl)) pgs_nil))))
          (pss_cons (ps_dput hu (pv 3) (pv 9) (pe_un un_neg (pv 10)) rfl)
            (pss_cons (ps_dput hu (pv 5) (pv 9) (pv 11) rfl)
            (pss_one (ps_expr (pe_app1 (by exact (pv 8)) (by exact (pa_cons (pv 9) pa_nil))))))))
        (pss_cons (ps_for PassesOwn.never rfl (pi_list (pv 2)) (pg_name (i := 12) sc_facts.nd rfl (Or.inl rfl))
          (pss_one (ps_if (pt_cmpR op_eq (pe_ix ix_tup (pv 12) pe_int (fun _ _ => rfl)) pe_str (nomark _))
              (pss_cons (ps_dput hu (pv 3) (pe_ix ix_tup (pv 12) pe_int (fun _ _ => rfl)) (pe_ix ix_tup (pv 12) pe_int (fun _ _ => rfl)) rfl)
                (pss_cons (ps_dput hu (pv 5) (pe_ix ix_tup (pv 12) pe_int (fun _ _ => rfl)) (pe_ix ix_tup (pv 12) pe_int (fun _ _ => rfl)) rfl)
                (pss_one (ps_expr (pe_app1 (by exact (pv 8)) (by exact (pa_cons (pe_ix ix_tup (pv 12) pe_int (fun _ _ => rfl)) pa_nil))))))) (pss_one (ps_if (pt_cmpR op_eq (pe_ix ix_tup (pv 12) pe_int (fun _ _ => rfl)) pe_str (nomark _))
                  (pss_cons (ps_dput hu (pv 5) (pe_ix ix_tup (pv 12) pe_int (fun _ _ => rfl)) pe_non rfl)
                    (pss_cons (ps_dput hu (pv 6) (pe_ix ix_tup (pv 12) pe_int (fun _ _ => rfl)) (pe_ix ix_tup (pv 12) pe_int (fun _ _ => rfl)) rfl)
                    (pss_one (ps_expr (pe_app1 (by exact (pv 8)) (by exact (pa_cons (pe_ix ix_tup (pv 12) pe_int (fun _ _ => rfl)) pa_nil))))))) (pss_one (ps_if (pt_cmpR op_eq (pe_ix ix_tup (pv 12) pe_int (fun _ _ => rfl)) pe_str (nomark _))
                      (pss_one (ps_dput hu (pv 7) (pe_ix ix_tup (pv 12) pe_int (fun _ _ => rfl)) (pe_ix ix_tup (pv 12) pe_int (fun _ _ => rfl)) rfl)) (pss_one (ps_dput hu (pv 4) (pe_ix ix_tup (pv 12) pe_int (fun _ _ => rfl)) (pe_ix ix_tup (pv 12) pe_int (fun _ _ => rfl)) rfl)))))))))
        (pss_one (ps_ret (pe_tup (pa_cons (pv 0) (pa_cons (pv 3) (pa_cons (pv 4) (pa_cons (pv 5) (pa_cons (pv 6) (pa_cons (pv 7) (pa_cons (pv 8) pa_nil))))))))))))), ?_⟩
    have N0 : Nw H H [] := ⟨by simp, by simp, by simp, Same.refl H⟩
    refine fun a1 h1 => ?_
    have N1 := N0.new (oa := .dK []) h1
    refine fun a2 h2 => ?_
    have N2 := N1.new (oa := .dK []) h2
    refine fun a3 h3 => ?_
    have N3 := N2.new (oa := .dK []) h3
    refine fun a4 h4 => ?_
    have N4 := N3.new (oa := .dK []) h4
    refine fun a5 h5 => ?_
    have N5 := N4.new (oa := .dK []) h5
    refine ⟨by show 0 ≤ sizeLine; exact Nat.zero_le _, fun a6 h6 => ?_⟩
    have N6 := N5.new (oa := .lst []) h6
    refine ⟨by show 6 ≤ sizeLine; decide, fun t ht => ⟨t, _, rfl, SqT.of upd_same, rfl, _, _, rfl, _, _, rfl, _, _, rfl, _, _, rfl, _, _, rfl, _, _, rfl, rfl, ?_⟩⟩
    have N7 := N6.new (oa := .tup [.ref a1, .ref a2, .ref a3, .ref a4, .ref a5, .ref a6]) ht
    generalize upd (upd (upd (upd (upd (upd (upd H a1 (.dK [])) a2 (.dK [])) a3 (.dK [])) a4 (.dK [])) a5 (.dK [])) a6 (.lst [])) t (.tup [.ref a1, .ref a2, .ref a3, .ref a4, .ref a5, .ref a6]) = H1 at N7
    have X0 : FacX H H1 ⟨a1, a2, a3, a4, a5, a6⟩ (fam0 (gs.take 0)) 0 := by
      refine ⟨N7.at_ (a1, .dK []) (by simp), N7.at_ (a2, .dK []) (by simp), N7.at_ (a3, .dK []) (by simp), ⟨[], N7.at_ (a4, .dK []) (by simp), Nat.le_refl _⟩, N7.at_ (a5, .dK []) (by simp), N7.at_ (a6, .lst []) (by simp), ?_, fun a ha => ?_, N7.sa⟩
      · have q : [a1, a2, a3, a4, a5, a6, t].Nodup := N7.nod
        exact (List.nodup_append.mp (show ([a1, a2, a3, a4, a5] ++ [a6, t]).Nodup from q)).1
      · rcases (show a = a1 ∨ a = a2 ∨ a = a3 ∨ a = a4 ∨ a = a5 ∨ a = a6 by simpa using ha) with rfl | rfl | rfl | rfl | rfl | rfl
        · exact N7.fr (a, .dK []) (by simp)
        · exact N7.fr (a, .dK []) (by simp)
        · exact N7.fr (a, .dK []) (by simp)
        · exact N7.fr (a, .dK []) (by simp)
        · exact N7.fr (a, .dK []) (by simp)
        · exact N7.fr (a, .lst []) (by simp)
    clear N0 N1 N2 N3 N4 N5 N6 N7 h1 h2 h3 h4 h5 h6 ht
    have lu := hpu.length
    rw [List.length_map] at lu
    have lw := hpw.length
    refine ⟨_, rfl, l, rfl, ⟨_, SqL.of (X0.sa _ _ hl)⟩, for_list (K := K) (a := l) (xs := us) (fun i σ H' => ∃ (v9 v10 v11 : Option V), FacX H H' ⟨a1, a2, a3, a4, a5, a6⟩ (fam0 (gs.take i)) 0 ∧ σ = [some cv, some (.ref l), some (.ref r), some (.ref a1), some (.ref a2), some (.ref a3), some (.ref a4), some (.ref a5), some (.ref a6), v9, v10, v11, none]) ⟨_, _, _, X0, rfl⟩ (fun i σ H' _ q => ?_) ?_ ?_⟩
    · obtain ⟨_, _, _, X, _⟩ := q
      exact SqL.of (X.sa _ _ hl)
    · rintro i v σ H' hv ⟨v9, v10, v11, X, rfl⟩
      obtain ⟨x, hx, hvx⟩ := Paired.at hpu hv
      obtain ⟨g, hg, rfl⟩ : ∃ g, gs[i]? = some g ∧ mkR g = x := by
        rw [List.getElem?_map] at hx
        cases e : gs[i]? with
        | none => rw [e] at hx; cases hx
        | some g => rw [e] at hx; exact ⟨g, rfl, Option.some.inj hx⟩
      obtain ⟨b, rfl, hb⟩ := tup0 hvx
      have ok := fam0_ok (gs := gs.take i) (by rw [List.length_take]; omega)
      have m0 := (fam0_many (gs.take i)).1
      have small : ∀ {n : Nat}, n ≤ 9 + (fam0 (gs.take i)).many → n < sizeLine := fun {n} h => small1000 (by omega)
      refine ⟨b, _, rfl, SqT.of (X.sa _ _ hb), rfl, _, _, rfl, _, _, rfl, _, _, rfl, rfl, ?_⟩
      refine ⟨_, rfl, _, rfl, _, rfl, _, rfl, a1, _, rfl, dps X.hb (put_dk V.int _ _ _) (by rw [dk_len]; exact small ok.lb), ?_⟩
      have X1 := X.stepB g.1 (-g.2.1)
      refine ⟨_, rfl, _, rfl, _, rfl, a3, _, rfl, dps X1.hp (put_dk id _ _ _) (by rw [dk_len]; exact small ok.lp), ?_⟩
      have X2 := X1.stepP g.1 g.2.2
      refine ⟨_, rfl, .inl ⟨rfl, _, SqL.of X2.ho⟩, _, rfl, a6, _, _, rfl, rfl, X2.ho, (by rw [List.length_map]; exact small ok.lo), ?_⟩
      have X3 := X2.stepO g.1
      refine ⟨_, _, _, ?_, rfl⟩
      rw [take_snoc hg, fam0_step]
      exact X3
    · rintro σ H1 ⟨v9, v10, v11, X, rfl⟩
      rw [List.take_of_length_le (Nat.le_of_eq lu.symm)] at X
      clear X0
      refine ⟨_, rfl, r, rfl, ⟨_, SqL.of (X.sa _ _ hrr)⟩, for_list (K := K) (a := r) (xs := ws) (fun i σ H' => ∃ (v12 : Option V), FacX H H' ⟨a1, a2, a3, a4, a5, a6⟩ (famP gs (evs.take i)) i ∧ σ = [some cv, some (.ref l), some (.ref r), some (.ref a1), some (.ref a2), some (.ref a3), some (.ref a4), some (.ref a5), some (.ref a6), v9, v10, v11, v12]) ⟨_, X, rfl⟩ (fun i σ H' _ q => ?_) ?_ ?_⟩
      · obtain ⟨_, X, _⟩ := q
        exact SqL.of (X.sa _ _ hrr)
      · rintro i v σ H' hv ⟨v12, X, rfl⟩
        obtain ⟨e, he, b, rfl, hb0⟩ := Paired.at hpw hv
        have hi : i < evs.length := (List.getElem?_eq_some_iff.mp he).1
        have hti : (evs.take i).length = i := by rw [List.length_take]; omega
        obtain ⟨l1, l2, l3, l4, l5⟩ := famP_len hz i (evs.take i) hti
        have small : ∀ {n : Nat}, n ≤ 9 + i → n < sizeLine := fun {n} h => small1000 (by omega)
        have ne : ∀ {x y : Str}, x ≠ y → ¬ V.str x = V.str y := fun h z => h (V.str.inj z)
        have hbX : ∀ {H f n}, FacX _ H ⟨a1, a2, a3, a4, a5, a6⟩ f n → SqT K H b e.row := fun X => SqT.of (X.sa _ _ hb0)
        have fs : famP gs (evs.take (i + 1)) = (famP gs (evs.take i)).put1 e := by rw [take_snoc he, famP_snoc]
        generalize famP gs (evs.take i) = fp at X l1 l2 l3 l4 l5 fs
        cases e with
        | born y p n =>
          refine ⟨_, rfl, _, _, _, _, rfl, rfl, hbX X, atI_nat (j := 0) rfl, rfl, _, rfl, ?_⟩
          rw [show decide (V.str (Ev.born y p n).w = V.str "born") = true from decide_eq_true rfl]
          refine iteT ⟨_, rfl, _, _, _, _, rfl, rfl, hbX X, atI_nat (j := 1) rfl, _, rfl, _, rfl, _, _, _, _, rfl, rfl, hbX X, atI_nat (j := 3) rfl, a1, _, rfl, dps X.hb (put_dk V.int _ n y) (by rw [dk_len]; exact small l1), ?_⟩
          have X1 := X.stepB n y
          refine ⟨_, rfl, _, _, _, _, rfl, rfl, hbX X1, atI_nat (j := 2) rfl, _, rfl, _, rfl, _, _, _, _, rfl, rfl, hbX X1, atI_nat (j := 3) rfl, a3, _, rfl, dps X1.hp (put_dk id _ n (.str p)) (by rw [dk_len]; exact small l3), ?_⟩
          have X2 := X1.stepP n (.str p)
          refine ⟨_, rfl, .inl ⟨rfl, _, SqL.of X2.ho⟩, _, rfl, _, _, _, _, rfl, rfl, hbX X2, atI_nat (j := 3) rfl, a6, _, _, rfl, rfl, X2.ho, (by rw [List.length_map]; exact small l5), ?_⟩
          exact ⟨_, by rw [fs]; exact (X2.stepO n).mono (Nat.le_succ _), rfl⟩
        | wed y p n =>
          refine ⟨_, rfl, _, _, _, _, rfl, rfl, hbX X, atI_nat (j := 0) rfl, rfl, _, rfl, ?_⟩
          rw [show decide (V.str (Ev.wed y p n).w = V.str "born") = false from decide_eq_false (ne (by show ("wed" : Str) ≠ "born"; decide +kernel))]
          refine iteF ⟨_, rfl, _, _, _, _, rfl, rfl, hbX X, atI_nat (j := 0) rfl, rfl, _, rfl, ?_⟩
          rw [show decide (V.str (Ev.wed y p n).w = V.str "wed") = true from decide_eq_true rfl]
          refine iteT ⟨_, rfl, _, rfl, _, _, _, _, rfl, rfl, hbX X, atI_nat (j := 3) rfl, a3, _, rfl, dps X.hp (put_dk id _ n .non) (by rw [dk_len]; exact small l3), ?_⟩
          have X1 := X.stepP n .non
          obtain ⟨L, g1, g2⟩ := X1.hm
          refine ⟨_, rfl, _, _, _, _, rfl, rfl, hbX X1, atI_nat (j := 3) rfl, _, rfl, _, rfl, _, _, _, _, rfl, rfl, hbX X1, atI_nat (j := 2) rfl, a4, _, rfl, dps g1 (put_dk id L p (.str n)) (by rw [dk_len]; exact small (by omega)), ?_⟩
          have X2 := X1.stepM g1 g2 p (.str n) (put fp.weds p (((fp.weds.lookup p).getD []) ++ [n]))
          refine ⟨_, rfl, .inl ⟨rfl, _, SqL.of X2.ho⟩, _, rfl, _, _, _, _, rfl, rfl, hbX X2, atI_nat (j := 3) rfl, a6, _, _, rfl, rfl, X2.ho, (by rw [List.length_map]; exact small l5), ?_⟩
          exact ⟨_, by rw [fs]; exact X2.stepO n, rfl⟩
        | happ y n =>
          refine ⟨_, rfl, _, _, _, _, rfl, rfl, hbX X, atI_nat (j := 0) rfl, rfl, _, rfl, ?_⟩
          rw [show decide (V.str (Ev.happ y n).w = V.str "born") = false from decide_eq_false (ne (by show ("happened" : Str) ≠ "born"; decide +kernel))]
          refine iteF ⟨_, rfl, _, _, _, _, rfl, rfl, hbX X, atI_nat (j := 0) rfl, rfl, _, rfl, ?_⟩
          rw [show decide (V.str (Ev.happ y n).w = V.str "wed") = false from decide_eq_false (ne (by show ("happened" : Str) ≠ "wed"; decide +kernel))]
          refine iteF ⟨_, rfl, _, _, _, _, rfl, rfl, hbX X, atI_nat (j := 0) rfl, rfl, _, rfl, ?_⟩
          rw [show decide (V.str (Ev.happ y n).w = V.str "happened") = true from decide_eq_true rfl]
          refine iteT ⟨_, rfl, _, _, _, _, rfl, rfl, hbX X, atI_nat (j := 1) rfl, _, rfl, _, rfl, _, _, _, _, rfl, rfl, hbX X, atI_nat (j := 2) rfl, a5, _, rfl, dps X.hf (put_dk V.int _ n y) (by rw [dk_len]; exact small (by omega)), ?_⟩
          exact ⟨_, by rw [fs]; exact (X.stepF n y).mono (Nat.le_succ _), rfl⟩
        | died y p =>
          refine ⟨_, rfl, _, _, _, _, rfl, rfl, hbX X, atI_nat (j := 0) rfl, rfl, _, rfl, ?_⟩
          rw [show decide (V.str (Ev.died y p).w = V.str "born") = false from decide_eq_false (ne (by show ("died" : Str) ≠ "born"; decide +kernel))]
          refine iteF ⟨_, rfl, _, _, _, _, rfl, rfl, hbX X, atI_nat (j := 0) rfl, rfl, _, rfl, ?_⟩
          rw [show decide (V.str (Ev.died y p).w = V.str "wed") = false from decide_eq_false (ne (by show ("died" : Str) ≠ "wed"; decide +kernel))]
          refine iteF ⟨_, rfl, _, _, _, _, rfl, rfl, hbX X, atI_nat (j := 0) rfl, rfl, _, rfl, ?_⟩
          rw [show decide (V.str (Ev.died y p).w = V.str "happened") = false from decide_eq_false (ne (by show ("died" : Str) ≠ "happened"; decide +kernel))]
          refine iteF ⟨_, rfl, _, _, _, _, rfl, rfl, hbX X, atI_nat (j := 1) rfl, _, rfl, _, rfl, _, _, _, _, rfl, rfl, hbX X, atI_nat (j := 2) rfl, a2, _, rfl, dps X.hd (put_dk V.int _ p y) (by rw [dk_len]; exact small (by omega)), ?_⟩
          exact ⟨_, by rw [fs]; exact (X.stepD p y).mono (Nat.le_succ _), rfl⟩
      · rintro σ H2 ⟨v12, X, rfl⟩
        rw [List.take_of_length_le (Nat.le_of_eq lw.symm), lw] at X
        refine ⟨_, rfl, _, rfl, _, rfl, _, rfl, _, rfl, _, rfl, _, rfl, by show 7 ≤ sizeLine; decide, fun t ht => ?_⟩
        exact k t _ _ (X.same (sNew ht)) upd_same
theorem cal_facts (T : Txt P w K mg cl) : Cal P w K mg base CX0 1 "_law_facts" ["_law_customs_here", "_law_lives_here", "_law_rows_here"] spFacts := by
  obtain ⟨f, fd, F, m⟩ := T.d_facts
  exact ⟨f, fd, ok_facts F T, m, F.kp, F.binds fun _ _ _ _ _ _ us hl => match us, hl with | [_, _, _], _ => rfl⟩
end
end My
set_option Elab.async false
set_option linter.all false
set_option maxRecDepth 100000
set_option maxHeartbeats 1000000
namespace My
open PySem L2 Dw
open C8 (pss_cut tCut)
theorem Bld.same {H H1 H2 : Hp} {p : Addr} {o : HO} {L : List (Addr × HO)} (B : Bld H H1 p o L) (S : Same H1 H2) : Bld H H2 p o L :=
  ⟨S _ _ B.self, fun q hq => S _ _ (B.at_ q hq), B.nod, B.fr, fun b u e n => S _ _ (B.but _ _ e n)⟩
section
variable {P : Program} {w : World} {K : PySem.W.Frag} {mg : Str → Option Value} {base : Heap} {cl : String → Addr}
theorem ok_Record_init {f : Addr} {fd : FuncData} (F : HeM.FunV K "__init__" "Record.__init__" s_Record_init f fd) (T : Txt P w K mg cl) : FnOk P w K mg base (L2.CX P w) 5 f fd ["self", "lives", "rows"] (spRec K (cl "Record") (cl "Customs") (cl "Lives") (cl "BadRecord")) := by
  refine HeM.FunV.ok F sc_Record_init (fun vs H Q E h => ?_) (fun cdv A outer s H vs Q E hr h => ?_)
  · obtain ⟨p, dx, lv, rv, rfl, _⟩ := h
    rfl
  · obtain ⟨p, dx, lv, rv, rfl, hp, h⟩ := h
    have hu := hu_of hr
    have I_Family : CalC P w K mg base CX0 1 (cl "Family") _ (spFamI (cl "Family") (cl "Lives")) := cal_Family_init T
    have C_Family_fault : CalM P w K mg base CX0 3 (cl "Family") "fault" _ (spFault K (cl "Family") (cl "Customs") (cl "Lives")) := cal_fault T
    have C_Family_add : CalM P w K mg base CX0 2 (cl "Family") "add" _ (spAdd (cl "Family")) := cal_add T
    refine ⟨_, (pss_cons (ps_if (pt_not (pt_val (pe_callB call_isi (by rfl) T.n_isinstance (by decide +kernel) (pa_cons (pv 1) (pa_cons (pe_cls T.m_Lives) pa_nil)))))
          (pss_one (ps_raiseErr (k := 1) (okV := okVI) rfl T.e_BadRecord okVI_ok T.m_BadRecord (hr.mono (by decide)) (takes_of rfl rfl rfl rfl) (by exact (pa_cons pe_int (pa_cons pe_str pa_nil))))) pss_nil)
        (pss_cons (ps_if (pt_not (pt_val (pe_callB call_isiT (by rfl) T.n_isinstance (by decide +kernel) (pa_cons (pv 2) (pa_cons (pe_tup (pa_cons (pe_ty "list" T.n_list) (pa_cons (pe_ty "tuple" T.n_tuple) pa_nil))) pa_nil)))))
          (pss_one (ps_raiseErr (k := 1) (okV := okVI) rfl T.e_BadRecord okVI_ok T.m_BadRecord (hr.mono (by decide)) (takes_of rfl rfl rfl rfl) (by exact (pa_cons pe_int (pa_cons pe_str pa_nil))))) pss_nil)
        (pss_cons (ps_set (i := 3) sc_Record_init.nd rfl (Or.inl rfl) (pe_mk I_Family T.m_Family (hr.mono (by decide))  (pa_cons (pv 1) pa_nil)))
        (pss_cons (ps_for (passes_of rfl) rfl (pi_enu2 (by rfl) T.n_enumerate (pa_cons (pv 2) pa_nil)) (pg_tup rfl (pgs_cons (pg_name (i := 4) sc_Record_init.nd rfl (Or.inl rfl)) (pgs_cons (pg_name (i := 5) sc_Record_init.nd rfl (Or.inl rfl)) pgs_nil)))
          (pss_cons (ps_set (i := 6) sc_Record_init.nd rfl (Or.inl rfl) (pe_mth T.cl_Family C_Family_fault (hr.mono (by decide)) (pv 3) (pa_cons (pv 5) pa_nil)))
            (pss_cons (ps_if (pt_cmpR op_notN (pv 6) pe_non (nomark _))
              (pss_one (ps_raiseErr (k := 1) (okV := okVI) rfl T.e_BadRecord okVI_ok T.m_BadRecord (hr.mono (by decide)) (takes_of rfl rfl rfl rfl) (by exact (pa_cons (pv 4) (pa_cons (pv 6) pa_nil))))) pss_nil)
            (pss_one (ps_expr (pe_mth T.cl_Family C_Family_add (hr.mono (by decide)) (pv 3) (pa_cons (pv 5) pa_nil)))))))
        (pss_cons (ps_fld (pv 0) (pv 1) rfl)
        (pss_cons (ps_fld (pv 0) (pe_fld (pv 1) rfl) rfl)
        (pss_cons (ps_fld (pv 0) (pe_callTy call_tuple_of (by rfl) T.n_tuple (by decide +kernel) (pa_cons (pe_lc (own := [("row", 5)]) (g := gName 5) (tt := tYes) rfl sc_Record_init.nd (pi_seq (pv 2)) (blkOk_by (own := [("row", 5)]) (N := ["self", "lives", "rows", "family", "index", "row", "word"]) (sc := defScope s_Record_init) (by decide +kernel)) (fun _ _ _ _ _ => pg_name (i := 5) sc_Record_init.nd rfl (Or.inl rfl)) (fun _ _ _ _ _ => pts_nil) (fun _ _ _ _ _ => (pe_callTy (call_tuple_ofK (K := K) rfl) (by rfl) T.n_tuple (by decide +kernel) (pa_cons (pv 5) pa_nil)))) pa_nil)) rfl)
        (pss_cons (ps_fld (pv 0) (pe_fld (pv 3) rfl) rfl)
        (pss_cons (ps_fld (pv 0) (pe_fld (pv 3) rfl) rfl)
        (pss_cons (ps_fld (pv 0) (pe_fld (pv 3) rfl) rfl)
        (pss_cons (ps_fld (pv 0) (pe_fld (pv 3) rfl) rfl)
        (pss_cons (ps_fld (pv 0) (pe_fld (pv 3) rfl) rfl)
        (pss_one (ps_fld (pv 0) (pe_callTy call_tuple_of (by rfl) T.n_tuple (by decide +kernel) (pa_cons (pe_fld (pv 3) rfl) pa_nil)) rfl)))))))))))))), ?_⟩
    rcases h with ⟨n, dn, kb⟩ | ⟨li, cu, t, us, gs, n0, n1, n2, c3, ro, rfl, L, hz, hc, hrw, kb, kg⟩
    · have hm : n ∈ (["NoneType", "bool", "int", "str", "list", "tuple"] : List String) := by cases dn <;> decide
      exact ⟨_, rfl, _, _, _, _, _, rfl, .own (cl "Lives"), dn.ty, T.k_in_Li n hm, _, rfl, iteT ⟨rfl, ⟨0, _, rfl, by decide⟩, fun e he => kb H e (Same.refl H) he⟩⟩
    · obtain ⟨dl, la, lp, hli, _⟩ := L.ex
      refine ⟨_, rfl, _, _, _, _, _, rfl, .own (cl "Lives"), .base (.ins hli T.cl_Lives T.y_Lives T.z1 T.z2 T.z3_Lives), T.k_Li_Li, _, rfl, iteF ?_⟩
      refine ⟨_, rfl, by show 2 ≤ sizeLine; decide, fun tp htp => ?_⟩
      have S0 := sNew (o := .tup [.ty "list", .ty "tuple"]) htp
      cases ro with
      | none =>
        obtain ⟨n, dn, g1, g2⟩ := Sr.dm (K := K) (H := upd H tp (.tup [.ty "list", .ty "tuple"])) (show Sr rv from hrw)
        have ka : PySem.W.kitAny K (.type n) [.type "list", .type "tuple"] = some false := by rw [isLT dn, decide_eq_false g1, decide_eq_false g2]; rfl
        exact ⟨_, tp, _, _, _, _, rfl, upd_same, .cons (.ty "list") (.cons (.ty "tuple") .nil), dn.ty, ka, _, rfl, iteT ⟨rfl, ⟨0, _, rfl, by decide⟩, fun e he => kb 0 "rows" _ e rfl S0 he⟩⟩
      | some rs =>
        obtain ⟨r, ws, rfl, hw, hpw, rok, hlr⟩ := hrw
        have hw1 := hw.imp (S0 _ _) (S0 _ _)
        have dmr : ∃ n, Dm K (upd H tp (.tup [.ty "list", .ty "tuple"])) (.ref r) n ∧ PySem.W.kitAny K (.type n) [.type "list", .type "tuple"] = some true := by
          rcases hw1 with h | h
          · exact ⟨_, .lst h, isLT (.lst h)⟩
          · exact ⟨_, .tup h, isLT (.tup h)⟩
        obtain ⟨nr, dr, ka⟩ := dmr
        refine ⟨_, tp, _, _, _, _, rfl, upd_same, .cons (.ty "list") (.cons (.ty "tuple") .nil), dr.ty, ka, _, rfl, iteF ?_⟩
        clear dr ka hw1
        generalize upd H tp (.tup [.ty "list", .ty "tuple"]) = HA at S0
        clear htp
        refine ⟨_, rfl, fun x dx2 nx ndx nex => ?_⟩
        have S2 : Same HA (upd (upd HA dx2 (.own x)) x (.ins (cl "Family") dx2 [])) := (sNew ndx).trans (sNew (by rw [upd_ne (Ne.symm nex)]; exact nx))
        refine ⟨HA, x, dx2, li, cu, t, us, gs, rfl, upd_same, nx, S2, L.same S0, hz, fun H1 A X => ⟨rfl, ?_⟩⟩
        clear S2
        have hl := hpw.length
        have f0 : FamOk gs (fam0 gs) := fam0_ok hz
        refine ⟨_, rfl, r, ws, rfl, hw.imp (fun h => X.sa _ _ (S0 _ _ h)) (fun h => X.sa _ _ (S0 _ _ h)), fun J wk => for_it wk (fun i σ H' => ∃ (A' : FamA) (v4 v5 v6 : Option V), FamX (cl "Family") HA H' x li cu A' (famOf (fam0 gs) (rs.take i)) ∧ FamOk gs (famOf (fam0 gs) (rs.take i)) ∧
          runW n0 n1 n2 gs (fam0 gs) 0 rs = runW n0 n1 n2 gs (famOf (fam0 gs) (rs.take i)) i (rs.drop i) ∧ σ = [some (.ref p), some (.ref li), some (.ref r), some (.ref x), v4, v5, v6]) ⟨A, _, _, _, X, f0, rfl, rfl⟩ (fun i σ H' _ q => ?_) ?_ ?_⟩
        · obtain ⟨A', _, _, _, X', _⟩ := q
          rcases hw with h | h
          · rw [X.sa _ _ (S0 _ _ h), X'.sa _ _ (S0 _ _ h)]
          · rw [X.sa _ _ (S0 _ _ h), X'.sa _ _ (S0 _ _ h)]
        · rintro i xv σ H3 H4 hi ⟨A', v4, v5, v6, X3, fok, hg, rfl⟩ ⟨Tt, x1, y1, rfl, hT, rfl, e1, e2⟩
          cases e1
          obtain ⟨rd, hrd, hv⟩ := Paired.at hpw e2
          have X4 := X3.same (sNew (o := .tup [.int (i : Nat), y1]) hT)
          refine ⟨Tt, _, rfl, SqT.of upd_same, rfl, _, _, rfl, _, _, rfl, rfl, ?_⟩
          refine ⟨_, rfl, x, _, _, rfl, X4.self, rfl, _, rfl, HA, x, li, cu, t, us, gs, A', _, n0, n1, n2, c3, y1, rd, rfl, X4, fok, (L.same S0).same X4.sa, cuSame X4.sa (cuSame S0 hc), (hv.same S0).same X4.sa, rok rd (List.mem_of_getElem? hrd), fun H5 S5 => ?_⟩
          have X5 := X4.same S5
          rw [take_drop_at hrd, runW_cons] at hg
          cases e : faultW n0 n1 n2 gs (famOf (fam0 gs) (rs.take i)) rd with
          | some s =>
            rw [e] at hg
            exact ⟨_, rfl, rfl, _, rfl, iteT ⟨_, rfl, _, rfl, rfl, ⟨i, _, rfl, log_small (by omega)⟩, fun e he => kb i s H5 e hg (S0.trans X5.sa) he⟩⟩
          | none =>
            rw [e] at hg
            obtain ⟨ev, rfl, evok⟩ := row_ev (many_of e).2
            obtain ⟨b, rfl, hb⟩ := hv.same S0
            refine ⟨_, rfl, rfl, _, rfl, iteF ⟨_, rfl, x, _, _, rfl, X5.self, rfl, _, rfl, HA, x, li, cu, b, gs, A', _, ev, rfl, X5, fok, (many_of e).1, hb, fun A6 H6 X6 => ?_⟩⟩
            have fe : famOf (fam0 gs) (rs.take (i + 1)) = (famOf (fam0 gs) (rs.take i)).add ev := by rw [take_snoc hrd, famOf_snoc, evOf_row]
            refine ⟨A6, _, _, _, by rw [fe]; exact X6, by rw [fe]; exact fok.add (many_of e).1 ev, ?_, rfl⟩
            rw [hg, fe, evOf_row]
        · rintro σ H3 ⟨A', v4, v5, v6, X3, fok, hg, rfl⟩
          rw [List.drop_of_length_le (Nat.le_of_eq hl.symm)] at hg
          have hn : dueR n0 n1 n2 gs (some rs) = none := hg
          obtain ⟨evs, rfl, evok⟩ := runW_good hn
          rw [List.take_of_length_le (Nat.le_of_eq hl.symm), famOf_map] at X3
          have X3 : FamX (cl "Family") HA H3 x li cu A' (famE gs evs) := X3
          have hp3 : H3 p = some (.ins (cl "Record") dx []) := X3.sa _ _ (S0 _ _ hp)
          have npF : ∀ {a o}, HA a = none → H3 a = some o → a ≠ p := fun {a o} h h' e => by rw [e, S0 _ _ hp] at h; cases h
          have SH : Same H H3 := S0.trans X3.sa
          clear X hg
          have na : ∀ f : Str, f ∈ (["lives", "customs", "rows", "births", "deaths", "parents", "weddings", "facts", "persons"] : List Str) → NoAttr K (cl "Record") f := fun f h => T.na_Record f h
          have B0 : Bld H3 H3 p (.ins (cl "Record") dx []) [] := ⟨hp3, by simp, by simp, by simp, fun b u e _ => e⟩
          refine ⟨_, rfl, _, rfl, fldB B0 T.cl_Record (na _ (by decide)) (by show 0 < 1000; decide) rfl fun H4 B1 => ?_⟩
          have nli : li ≠ p := ne_of hli hp fun z => by injection z with _ _ z; exact List.cons_ne_nil _ _ z
          refine ⟨_, rfl, li, _, dl, _, _, rfl, B1.but _ _ (SH _ _ hli) nli, T.cl_Lives, T.na_Lives _ (by decide), rfl, _, rfl, fldB B1 T.cl_Record (na _ (by decide)) (by show 1 < 1000; decide) rfl fun H5 B2 => ?_⟩
          have nr : r ≠ p := by rcases hw with h | h <;> exact ne_of h hp (fun z => nomatch z)
          have hw5 : H5 r = some (.lst ws) ∨ H5 r = some (.tup ws) := hw.imp (fun h => B2.but _ _ (SH _ _ h) nr) (fun h => B2.but _ _ (SH _ _ h) nr)
          have hpw5 : Paired (RdAt H5) ws (evs.map rowR) := L2.Paired.mapP hpw fun v x h => by
            cases x with
            | sq xs =>
              obtain ⟨b, e, hb⟩ := h
              have nb : b ≠ p := by rcases hb with h | h <;> exact ne_of h hp (fun z => nomatch z)
              exact ⟨b, e, hb.imp (fun h => B2.but _ _ (SH _ _ h) nb) fun h => B2.but _ _ (SH _ _ h) nb⟩
            | pl x => exact h
          refine ⟨_, rfl, r, ws, rfl, hw5, fun J wk D hD => lc_it wk (fun i H' => ∃ us2, H' D = some (.lst us2) ∧ us2.length = i ∧ Paired (EvAt H') us2 (evs.take i) ∧ Same H5 H') ⟨[], upd_same, rfl, .nil, sNew hD⟩ (fun i H' _ ⟨us2, _, _, _, S⟩ => ?_) ?_ ?_⟩
          · rcases hw5 with h | h
            · exact (S _ _ h).trans h.symm
            · exact (S _ _ h).trans h.symm
          · rintro i v H6 H7 hi ⟨us2, hD6, hlen, hp6, S6⟩ ⟨rfl, hv⟩
            obtain ⟨x2, hx, hvx⟩ := Paired.at hpw5 hv
            obtain ⟨ev, hev, rfl⟩ : ∃ g, evs[i]? = some g ∧ rowR g = x2 := by
              rw [List.getElem?_map] at hx
              cases e : evs[i]? with
              | none => rw [e] at hx; cases hx
              | some g => rw [e] at hx; exact ⟨g, rfl, Option.some.inj hx⟩
            obtain ⟨b, rfl, hb⟩ := hvx.same S6
            have hlz : us2.length < sizeLine := small1000 (by rw [List.length_map] at hlr; have := hpw5.length; rw [List.length_map] at this; omega)
            refine ⟨rfl, _, rfl, b, ev.row, rfl, ?_⟩
            rcases hb with hb | hb
            · refine .inl ⟨SqL.of hb, fun l hl2 => ⟨us2, by rw [upd_ne (ne_of_none hD6 hl2)]; exact hD6, hlz, us2 ++ [.ref l], upd_same, by simp [hlen], ?_, fun b' o e => ?_⟩⟩
              · rw [take_snoc hev]
                have nlD : l ≠ D := Ne.symm (ne_of_none hD6 hl2)
                refine Paired.appendP (L2.Paired.mapP hp6 fun _ _ h => h.keep fun b' xs e => ?_) (.cons ⟨l, rfl, by rw [upd_ne nlD]; exact upd_same⟩ .nil)
                rw [upd_ne (ne_of e hD6 (fun z => nomatch z)), upd_ne (ne_of_none e hl2)]
                exact e
              · rw [upd_ne (ne_of_none e hD), upd_ne (ne_of_none (S6 _ _ e) hl2)]
                exact S6 _ _ e
            · refine .inr ⟨SqT.of hb, us2, hD6, hlz, us2 ++ [.ref b], upd_same, by simp [hlen], ?_, fun b' o e => ?_⟩
              · rw [take_snoc hev]
                have nbD : b ≠ D := ne_of hb hD6 (fun z => nomatch z)
                refine Paired.appendP (L2.Paired.mapP hp6 fun _ _ h => h.keep fun b' xs e => ?_) (.cons ⟨b, rfl, by rw [upd_ne nbD]; exact hb⟩ .nil)
                rw [upd_ne (ne_of e hD6 (fun z => nomatch z))]
                exact e
              · rw [upd_ne (ne_of_none e hD)]
                exact S6 _ _ e
          · rintro H6 ⟨us2, hD6, hlen, hp6, S6⟩
            rw [List.take_of_length_le (by have := hpw5.length; rw [List.length_map] at this; omega)] at hp6
            refine ⟨D, us2, rfl, .inl ⟨SqL.of hD6, fun tt htt => ?_⟩⟩
            have B3 := (B2.same S6).same (sNew (o := .tup us2) htt)
            have htt7 : (upd H6 tt (.tup us2)) tt = some (.tup us2) := upd_same
            have hp7 : Paired (EvAt (upd H6 tt (.tup us2))) us2 evs := L2.Paired.mapP hp6 fun _ _ h => h.keep fun _ _ e => sNew htt _ _ e
            generalize upd H6 tt (.tup us2) = H7 at B3 htt7 hp7
            have nx : x ≠ p := npF (X3.fr x (by simp)) X3.self
            have F7 : ∀ {b o}, H3 b = some o → b ≠ p → H7 b = some o := fun e n => B3.but _ _ e n
            have C0 : Bld H7 H7 p (.ins (cl "Record") dx [("lives", .ref li), ("customs", .ref cu)]) [] := ⟨B3.self, by simp, by simp, by simp, fun b u e _ => e⟩
            have up : ∀ {H8 o L}, Bld H7 H8 p o L → H8 x = some (.ins (cl "Family") A'.dx (faF li cu A' (famE gs evs).many)) := fun B => B.but _ _ (F7 X3.self nx) nx
            refine ⟨_, rfl, fldB C0 T.cl_Record (na _ (by decide)) (by show 2 < 1000; decide) rfl fun H8 C1 => ?_⟩
            refine ⟨_, rfl, x, _, _, _, _, rfl, up C1, T.cl_Family, T.na_Family _ (by decide), rfl, _, rfl, fldB C1 T.cl_Record (na _ (by decide)) (by show 3 < 1000; decide) rfl fun H9 C2 => ?_⟩
            refine ⟨_, rfl, x, _, _, _, _, rfl, up C2, T.cl_Family, T.na_Family _ (by decide), rfl, _, rfl, fldB C2 T.cl_Record (na _ (by decide)) (by show 4 < 1000; decide) rfl fun H10 C3 => ?_⟩
            refine ⟨_, rfl, x, _, _, _, _, rfl, up C3, T.cl_Family, T.na_Family _ (by decide), rfl, _, rfl, fldB C3 T.cl_Record (na _ (by decide)) (by show 5 < 1000; decide) rfl fun H11 C4 => ?_⟩
            refine ⟨_, rfl, x, _, _, _, _, rfl, up C4, T.cl_Family, T.na_Family _ (by decide), rfl, _, rfl, fldB C4 T.cl_Record (na _ (by decide)) (by show 6 < 1000; decide) rfl fun H12 C5 => ?_⟩
            refine ⟨_, rfl, x, _, _, _, _, rfl, up C5, T.cl_Family, T.na_Family _ (by decide), rfl, _, rfl, fldB C5 T.cl_Record (na _ (by decide)) (by show 7 < 1000; decide) rfl fun H13 C6 => ?_⟩
            have nF : ∀ a ∈ ([A'.b, A'.d, A'.pr, A'.wd, A'.fc, A'.od] : List Addr), a ≠ p := fun a ha => by
              rcases (show a = A'.b ∨ a = A'.d ∨ a = A'.pr ∨ a = A'.wd ∨ a = A'.fc ∨ a = A'.od by simpa using ha) with rfl | rfl | rfl | rfl | rfl | rfl
              · exact npF (X3.fr _ (by simp)) X3.hb
              · exact npF (X3.fr _ (by simp)) X3.hd
              · exact npF (X3.fr _ (by simp)) X3.hp
              · exact npF (X3.fr _ (by simp)) X3.hw
              · exact npF (X3.fr _ (by simp)) X3.hf
              · exact npF (X3.fr _ (by simp)) X3.ho
            refine ⟨_, rfl, x, _, _, _, _, rfl, up C6, T.cl_Family, T.na_Family _ (by decide), rfl, A'.od, _, rfl, .inl ⟨SqL.of (C6.but _ _ (F7 X3.ho (nF _ (by simp))) (nF _ (by simp))), fun ps hps => ?_⟩⟩
            have C7 := C6.new (oa := .tup ((famE gs evs).order.map V.str)) hps
            refine ⟨_, rfl, fldB C7 T.cl_Record (na _ (by decide)) (by show 8 < 1000; decide) rfl fun H14 C8 => ?_⟩
            have to : ∀ {b o}, H3 b = some o → b ≠ p → H14 b = some o := fun e n => C8.but _ _ (F7 e n) n
            have tn : tt ≠ p := ne_of htt7 B3.self (fun z => nomatch z)
            refine kg evs tt us2 ⟨dx, A'.b, A'.d, A'.pr, A'.wd, A'.fc, ps, A'.wl⟩ H14 rfl evok hn (fun b u e n => to (SH _ _ e) n)
              ⟨C8.self, C8.but _ _ htt7 tn, L2.Paired.mapP hp7 fun _ _ h => h.keep fun b xs e => C8.but _ _ e (ne_of e B3.self (fun z => nomatch z)), to X3.hb (nF _ (by simp)), to X3.hd (nF _ (by simp)), to X3.hp (nF _ (by simp)), to X3.hw (nF _ (by simp)), to X3.hf (nF _ (by simp)), C8.at_ (ps, _) (by simp),
                L2.Paired.mapP X3.we fun _ _ h => h.keep fun b xs e => to e (ne_of e hp3 (fun z => nomatch z))⟩
theorem cal_Record_init (T : Txt P w K mg cl) : CalC P w K mg base (L2.CX P w) 5 (cl "Record") ["self", "lives", "rows"] (spRec K (cl "Record") (cl "Customs") (cl "Lives") (cl "BadRecord")) := by
  obtain ⟨f, fd, F, m⟩ := T.i_Record
  exact ⟨f, fd, ok_Record_init F T, m, HeM.FunV.binds F fun _ _ _ _ _ _ _ us its hl hi => match us, its, hl, hi with | [_, _, _], [_], _, _ => ⟨_, rfl, rfl⟩⟩
end
end My
set_option Elab.async false
set_option linter.all false
set_option maxRecDepth 100000
set_option maxHeartbeats 1000000
/-! methods with a star parameter -/
namespace L2
open PySem PySem.Spec PyProof.Rows StX
section
variable {X : Cx} {CX : CXT} {k : Nat} {f C : Addr} {sp : Sp} {E : St → XK} {m : Str} {pos apos : Pos} {e o : Expr} {es : List Expr} {ta : TE} {t : TA}
theorem run_fnRS {pins : List (Addr × Obj)} {σ : St} {H : Hp} {s : Shared} {Q : VK} {us : List Value} {vs : List V} (F : FnR X.prog X.w X.K X.mg X.base CX k f sp) (hr : Room k X.A) (hx : PassesAt CX X σ (E σ))
    (I : Inv X pins σ H s) (r : Vals vs us) (h : sp vs H Q (E σ)) : wpAny (model X.prog X.w) X.A (call (.ref f) us) (EP X pins σ Q) X.xe s := by
  refine wpAny_call (codeAny_mono (F X.A X.stack s H us vs Q (E σ) hr I.env0 r h) fun r s' hq => ?_)
  cases r with
  | error e => exact hx pins H s e s' I hq
  | ok fl =>
    cases fl with
    | ret u => exact I.after hq
    | next => exact False.elim hq
    | brk => exact False.elim hq
    | cont => exact False.elim hq
/-- the class at C has the method m, its promise told of the values as they are written -/
def CalS (P : Program) (w : World) (K : PySem.W.Frag) (mg : Str → Option Value) (base : Heap) (CX : CXT) (k : Nat) (C : Addr) (m : Str) (sp : Sp) : Prop := ∃ f, FnR P w K mg base CX k f sp ∧ Meth K C m f
def tMethX (C : Addr) (m : Str) (sp : Sp) (E : St → XK) (ta : TE) (t : TA) : TE := fun σ H Q => ta σ H fun x H1 => ∃ a dx fs, x = .ref a ∧ H1 a = some (.ins C dx fs) ∧ fs.lookup m = none ∧
  t σ H1 fun vs H2 => sp (x :: vs) H2 Q (E σ)
theorem pe_mthR {pl : Sem Bool} (cl : Cls X.K C) (c : CalS X.prog X.w X.K X.mg X.base CX k C m sp) (hr : Room k X.A) (ho : PE X o ta) (hx : ∀ σ, PassesAt CX X σ (E σ)) (ha : PA X (e :: es) t)
    (hst : starEach (e :: es) X.env = (false, eval e X.env) :: starEach es X.env := by rfl) (hpl : (backTo pos (starEach es X.env)).any (·.1) = false := by rfl)
    (ht : eval (.Call (.Attribute o m apos) (e :: es) [] pos) X.env = (do
      let v0 ← eval o X.env
      standAt apos.atName
      let (f1, first) ← holding [v0] (getMethod v0 m pl)
      callWith pos f1 first (backTo pos (starEach (e :: es) X.env)) (backToKw pos (keywordEach [] X.env))) := by rfl) :
    PE X (.Call (.Attribute o m apos) (e :: es) [] pos) (tMethX C m sp E ta t) := by
  obtain ⟨f, F, hm⟩ := c
  refine ⟨fun pins s σ H Q I h => PySem.W.methodCall_KW (pl := pl) (thn (ho.run pins s σ H _ I h) fun u s1 hh => ?_) ht⟩
  obtain ⟨x, H1, I1, rx, a, dx, fs, ex, ea, l, q⟩ := hh
  subst ex
  obtain rfl : u = Value.ref a := rx
  refine getmeth_ok I1 ea cl hm l (PySem.W.callWith_K (first := [.ref a]) (h₀ := X.base) I.ok.mod.kin hm.kp (thn (ha.run pos pins s1 σ H1 _ I1 q) fun us s2 hh2 => ?_) hst hpl)
  obtain ⟨vs, H2, I2, r, q2⟩ := hh2
  exact ⟨I2.kIn, run_fnRS (us := .ref a :: us) (vs := .ref a :: vs) F hr (hx σ) I2 (.cons rfl r) q2⟩
theorem pe_mthR0 {pl : Sem Bool} (cl : Cls X.K C) (c : CalS X.prog X.w X.K X.mg X.base CX k C m sp) (hr : Room k X.A) (ho : PE X o ta) (hx : ∀ σ, PassesAt CX X σ (E σ))
    (ht : eval (.Call (.Attribute o m apos) [] [] pos) X.env = (do
      let v0 ← eval o X.env
      standAt apos.atName
      let (f1, first) ← holding [v0] (getMethod v0 m pl)
      callWith pos f1 first (backTo pos (starEach [] X.env)) (backToKw pos (keywordEach [] X.env))) := by rfl) :
    PE X (.Call (.Attribute o m apos) [] [] pos) (tMethX C m sp E ta tNil) := by
  obtain ⟨f, F, hm⟩ := c
  refine ⟨fun pins s σ H Q I h => PySem.W.methodCall_KW (pl := pl) (thn (ho.run pins s σ H _ I h) fun u s1 hh => ?_) ht⟩
  obtain ⟨x, H1, I1, rx, a, dx, fs, ex, ea, l, q⟩ := hh
  subst ex
  obtain rfl : u = Value.ref a := rx
  exact getmeth_ok I1 ea cl hm l (PySem.W.callWith_K0 (first := [.ref a]) I1.kIn hm.kp (run_fnRS (us := [.ref a]) (vs := [.ref a]) F hr (hx σ) I1 (.cons rfl .nil) q))
end
theorem call_len_seqK {X : Cx} {K : PySem.W.Frag} (h : X.K = K) : CallR X (.builtin "len") (fun xs H Q => ∃ p ys, xs = [V.ref p] ∧ (SqL K H p ys ∨ SqT K H p ys) ∧ Q (V.int ys.length) H) := h ▸ call_len_seq
/-- a def with one parameter and a star -/
theorem Fun.star1 {P : Program} {w : World} {K : PySem.W.Frag} {mg : Str → Option Value} {base : Heap} {CX : CXT} {x qual : Str} {st : Stmt} {f : Addr} {fd : FuncData} {N : List Str} {p1 pv : Str} {k : Nat} {sp : Sp} (F : Fun K x qual st f fd) (S : FnScope N ([p1] ++ [pv]) (defScope st)) (hCX : CXUp CX)
    (h0 : ∀ (kV doc pm : Value) (an : Option Addr) (cdv ct : Value) a, bindArgs (PySem.W.fnOf x qual (defArgs st) (defBody st) (defScope st) .none kV doc pm an cdv ct) ⟨[a], []⟩ = (newTuple [] >>= fun t => pure [(p1, a), (pv, t)]))
    (h1 : ∀ (kV doc pm : Value) (an : Option Addr) (cdv ct : Value) a r rs, bindArgs (PySem.W.fnOf x qual (defArgs st) (defBody st) (defScope st) .none kV doc pm an cdv ct) ⟨a :: r :: rs, []⟩ = (newTuple (r :: rs) >>= fun t => pure [(p1, a), (pv, t)]))
    (hbody : ∀ (cdv : Value) (A : Around) (outer : List Env) (s : Shared) (H : Hp) (vs : List V) (Q : VK) (E : XK), Room k (A.deeper (envOfC qual (defScope st) s.heap.objs.size f cdv)) → sp vs H Q E →
      ∃ t, PSs (cxOf CX P w K mg base N qual (defScope st) f cdv A outer s H E) (defBody st) t ∧ t { nx := fun _ H' => Q .non H', rt := Q } (start N vs) H) :
    FnR P w K mg base CX (k + 1) f (fun vs H Q E => ∃ ws rest, vs = ws ++ rest ∧ ws.length = [p1].length ∧ rest.length ≤ sizeLine ∧ ∀ p, H p = Option.none → sp (ws ++ [V.ref p]) (upd H p (.tup rest)) Q E) := by
  obtain ⟨oc, od, kV, doc, pm, an, cdv, ct, osl, rfl, lk, hcd⟩ := F.ex
  exact fn_star lk hcd S hCX (bind_star1 (B := fun us => bindArgs (PySem.W.fnOf x qual (defArgs st) (defBody st) (defScope st) .none kV doc pm an cdv ct) ⟨us, []⟩) (h0 kV doc pm an cdv ct) (h1 kV doc pm an cdv ct)) (hbody cdv)
end L2
set_option Elab.async false
set_option linter.all false
set_option maxRecDepth 100000
set_option maxHeartbeats 1000000
namespace My
open PySem L2 Dw
open C8 (pss_cut tCut)
/-- after, told of its two values -/
def spAfterI (K : PySem.W.Frag) (C CC CL CB : Addr) : Sp := fun vs H Q E => ∃ (r q li cu tt t : Addr) (us ts ws : List V) (gs : List Gd) (n0 n1 n2 : Int) (c3 : V) (A : RecA) (f : Fam) (evs : List Ev) (rs : List Rd), vs = [.ref r, .ref q] ∧ RecX C H r li cu tt ts A f evs ∧ (∀ e ∈ evs, e.Ok) ∧ H q = some (.tup ws) ∧ Paired (RdAt H) ws rs ∧ (∀ x ∈ rs, RdOk x) ∧ evs.length + rs.length ≤ 300 ∧
  LiAt CL H li cu t us gs ∧ gs.length ≤ 9 ∧ CuAt CC H cu (.int n0) (.int n1) (.int n2) c3 ∧
  (∀ i s H' e, runW n0 n1 n2 gs (fam0 gs) 0 (evs.map rowR ++ rs) = some (i, s) → Same H H' → H' e = none → E (.ref CB) (some e) (upd H' e (.xd [("index", .int (i : Nat)), ("what", .str s)]))) ∧
  (∀ r' evs' tt' ts' A' H', evs.map rowR ++ rs = evs'.map rowR → (∀ e ∈ evs', e.Ok) → runW n0 n1 n2 gs (fam0 gs) 0 (evs.map rowR ++ rs) = none → Same H H' → RecX C H' r' li cu tt' ts' A' (famE gs evs') evs' → Q (.ref r') H')
def spAfter (K : PySem.W.Frag) (C CC CL CB : Addr) : Sp := fun vs H Q E => ∃ (r : Addr) (rest : List V), vs = [.ref r] ++ rest ∧ rest.length ≤ sizeLine ∧ ∀ q, H q = none → spAfterI K C CC CL CB [.ref r, .ref q] (upd H q (.tup rest)) Q E
theorem row_ok {e : Ev} (h : e.Ok) : RdOk (rowR e) := by
  obtain ⟨h1, h2, h3⟩ := h
  have sn : ∀ s ∈ e.tl, Sr (.str s) := fun s hs => by
    have q := h3 s hs
    refine ⟨Nat.le_trans (isN_len q) (by decide), ?_⟩
    have q2 := (Bool.and_eq_true_iff.mp (show ((decide (1 ≤ s.length) && decide (s.length ≤ 8)) && s.cps.toList.all fun c => decide (c ∈ letters)) = true from q)).2
    show s.cps.all (· < 0x110000) = true
    have lt : ∀ c ∈ letters, c < 0x110000 := by decide +kernel
    rw [← Array.all_toList]
    exact List.all_eq_true.mpr fun c hc => decide_eq_true (lt c (of_decide_eq_true (List.all_eq_true.mp q2 c hc)))
  have w : Sr (.str e.w) := by
    cases e with
    | born y p n => exact (show Sr (.str "born") from ⟨by decide, by decide +kernel⟩)
    | wed y p n => exact (show Sr (.str "wed") from ⟨by decide, by decide +kernel⟩)
    | happ y n => exact (show Sr (.str "happened") from ⟨by decide, by decide +kernel⟩)
    | died y n => exact (show Sr (.str "died") from ⟨by decide, by decide +kernel⟩)
  refine ⟨by cases e <;> (simp [Ev.row, Ev.tl]), fun x hx => ?_⟩
  have hx : x = .str e.w ∨ x = .int e.y ∨ x ∈ e.tl.map V.str := by simpa [Ev.row] using hx
  rcases hx with rfl | rfl | hx
  · exact w
  · trivial
  · obtain ⟨s, hs, rfl⟩ := List.mem_map.mp hx
    exact sn s hs
theorem evs_rd {H : Hp} : ∀ {ts : List V} {evs : List Ev}, Paired (EvAt H) ts evs → Paired (RdAt H) ts (evs.map rowR)
  | _, _, .nil => .nil
  | _, _, .cons h t => .cons (let ⟨b, e, hb⟩ := h; ⟨b, e, .inr hb⟩) (evs_rd t)
section
variable {P : Program} {w : World} {K : PySem.W.Frag} {mg : Str → Option Value} {base : Heap} {cl : String → Addr}
end
end My
set_option Elab.async false
set_option linter.all false
set_option maxRecDepth 100000
set_option maxHeartbeats 1000000
namespace My
open PySem L2 Dw
open C8 (pss_cut tCut)
theorem eqv_nil (ds : List PyData) : PyData.eqv (sqD true ds) (sqD true []) = ds.isEmpty := by
  cases ds <;> simp [sqD, PyData.eqv, PyData.eqvAll]
def evD (e : Ev) : PyData := sqD false (e.row.map vD)
theorem ev_okV {e : Ev} (h : e.Ok) : ∀ x ∈ e.row, okV x = true := fun x hx => ((row_ok h).2 x hx).ok
theorem evs_dp {K : PySem.W.Frag} {H : Hp} : ∀ {ws : List V} {evs : List Ev}, Paired (EvAt H) ws evs → (∀ e ∈ evs, e.Ok) → DpAll K H ws (evs.map evD)
  | _, _, .nil, _ => .nil
  | _, _, .cons h t, ok => by
    obtain ⟨b, rfl, hb⟩ := h
    exact .cons (dp_tup (SqT.of hb) (dpvs fun x hx => okV.flat (ev_okV (ok _ List.mem_cons_self) x hx))) (evs_dp t fun e he => ok e (List.mem_cons_of_mem _ he))
theorem evs_fl {evs : List Ev} (ok : ∀ e ∈ evs, e.Ok) : ∀ d ∈ evs.map evD, Fl1 d := fun d hd => by
  obtain ⟨e, he, rfl⟩ := List.mem_map.mp hd
  exact fl_row false (ev_okV (ok e he))
theorem famP_born {gs : List Gd} (hz : gs.length ≤ 9) : ∀ n (evs : List Ev), evs.length = n → ∀ s, hasN gs (.str s) = true → ((famP gs evs).births.lookup s).isSome = true := fun n => by
  induction n with
  | zero =>
    intro evs h
    cases evs with
    | cons _ _ => cases h
    | nil => exact (fam0_ok hz).born
  | succ n ih =>
    intro evs h s hs
    rcases List.eq_nil_or_concat evs with rfl | ⟨es, e, rfl⟩
    · cases h
    · rw [List.concat_eq_append] at h ⊢
      rw [List.length_append] at h
      have q := ih es (by simpa using h) s hs
      rw [famP_snoc]
      cases e with
      | born y p m =>
        show ((put (famP gs es).births m y).lookup s).isSome = true
        rw [look_put]
        split
        · rfl
        · exact q
      | wed y p m => exact q
      | happ y m => exact q
      | died y p => exact q
def tup00 (H : Hp) : V → Option V
  | .ref b => match H b with
    | some (.tup xs) => xs[0]?
    | _ => none
  | _ => none
theorem names_tup0 {H : Hp} : ∀ {us : List V} {gs : List Gd}, Paired (TupAt H) us (gs.map mkR) → us.filterMap (tup00 H) = gs.map fun g => V.str g.1
  | _, [], h => by cases h; rfl
  | _, g :: gs, h => by
    cases h with
    | cons a t =>
      obtain ⟨b, rfl, hb⟩ := tup0 a
      rw [List.filterMap_cons, show tup00 H (.ref b) = some (.str g.1) by simp [tup00, hb], List.map_cons, names_tup0 t]
theorem inV_gs (x : Str) : ∀ gs : List Gd, inV (.str x) (gs.map fun g => V.str g.1) = hasN gs (.str x)
  | [] => rfl
  | g :: gs => by
    have ih := inV_gs x gs
    show (eqV (.str g.1) (.str x) || inV (.str x) _) = (List.lookup x ((g.1, V.int g.2.1) :: gs.map fun g => (g.1, V.int g.2.1))).isSome
    rw [ih, List.lookup_cons]
    show ((g.1 == x) || hasN gs (.str x)) = _
    by_cases e : x = g.1
    · rw [show (x == g.1) = true from beq_iff_eq.mpr e, show (g.1 == x) = true from beq_iff_eq.mpr e.symm]; rfl
    · rw [show (x == g.1) = false from beq_eq_false_iff_ne.mpr e, show (g.1 == x) = false from beq_eq_false_iff_ne.mpr (Ne.symm e)]
      rfl
def spLRF : Sp := fun vs H Q _ => ∃ (ct l bf : Addr) (us ws : List V) (gs : List Gd) (evs : List Ev) (n0 n1 n2 n3 : Int) (v : V) (r : Rd), vs = [.ref ct, .ref l, .ref bf, v] ∧ H ct = some (.tup [.int n0, .int n1, .int n2, .int n3]) ∧ 0 ≤ n1 ∧ H l = some (.lst us) ∧ Paired (TupAt H) us (gs.map mkR) ∧ gs.length ≤ 9 ∧ H bf = some (.lst ws) ∧ Paired (EvAt H) ws evs ∧ (∀ e ∈ evs, e.Ok) ∧ evs.length ≤ 300 ∧ RdAt H v r ∧ RdOk r ∧
  ∀ H', Same H H' → Q (optV (faultW n0 n1 n2 gs (famE gs evs) r)) H'
section
variable {P : Program} {w : World} {K : PySem.W.Frag} {mg : Str → Option Value} {base : Heap} {cl : String → Addr}
theorem ok_lrf {f : Addr} {fd : FuncData} (F : Fun K "_law_row_fault" "_law_row_fault" s_L_row_fault f fd) (T : Txt P w K mg cl) : FnOk P w K mg base CX0 2 f fd ["_law_customs_here", "_law_lives_here", "_law_before", "_law_row"] spLRF := by
  refine F.ok sc_L_row_fault (fun vs H Q E h => ?_) (fun cdv A outer s H vs Q E hr h => ?_)
  · obtain ⟨ct, l, bf, us, ws, gs, evs, n0, n1, n2, n3, v, r, rfl, _⟩ := h
    rfl
  · obtain ⟨ct, l, bf, us, ws, gs, evs, n0, n1, n2, n3, v, r, rfl, hct, hn1, hl, hpu, hz, hbf, hpw, eok, hze, hv, rok, k⟩ := h
    have hu := hu_of hr
    have C_parts_ok : Cal P w K mg base CX0 1 "_law_parts_ok" _ spParts := cal_parts T
    have C_place : Cal P w K mg base CX0 1 "_law_place" _ spPlaceL := cal_place T
    have C_facts : Cal P w K mg base CX0 1 "_law_facts" _ spFacts := cal_facts T
    refine ⟨_, (pss_cons (ps_if (pt_cmpR op_ge (pe_callB call_len_seq (by rfl) T.n_len PySem.boot_len (pa_cons (pv 2) pa_nil)) pe_int (nomark _))
          (pss_one (ps_ret pe_str)) pss_nil)
        (pss_cons (ps_if (pt_not (pt_val (pe_cal C_parts_ok (hr.mono (by decide)) (pa_cons (pv 3) pa_nil))))
          (pss_one (ps_ret pe_str)) pss_nil)
        (pss_cut (ps_if (PW.pt (pw_and (pt_cmpR (op_neD hr.units) (pv 2) (pe_lst pa_nil) (nomark _)) (pw_and1 (pt_cmpR (op_leP hr.units) (pe_cal C_place (hr.mono (by decide)) (pa_cons (pv 3) pa_nil)) (pe_cal C_place (hr.mono (by decide)) (pa_cons (pe_ix ix_list (pv 2) (pe_un un_neg pe_int) (fun _ _ => rfl)) pa_nil)) (nomark _)))))
          (pss_one (ps_ret pe_str)) pss_nil)
        (pss_cons (ps_set (i := 4) sc_L_row_fault.nd rfl (Or.inl rfl) (pe_cal C_facts (hr.mono (by decide)) (pa_cons (pv 0) (pa_cons (pv 1) (pa_cons (pv 2) pa_nil)))))
        (pss_cons (ps_par3 (i := 5) (j := 6) (l := 7) rfl sc_L_row_fault.nd rfl rfl rfl (by decide) (by decide) (by decide) rfl rfl rfl (pa_cons (pe_ix ix_tup (pv 4) pe_int (fun _ _ => rfl)) (pa_cons (pe_ix ix_tup (pv 4) pe_int (fun _ _ => rfl)) (pa_cons (pe_ix ix_tup (pv 4) pe_int (fun _ _ => rfl)) pa_nil))) (by rfl))
        (pss_cons (ps_set (i := 8) sc_L_row_fault.nd rfl (Or.inl rfl) (pe_ix ix_either (pv 3) pe_int (fun _ _ => rfl)))
        (pss_cons (ps_if (pt_cmpR op_eq (pe_ix ix_either (pv 3) pe_int (fun _ _ => rfl)) pe_str (nomark _))
          (pss_cons (ps_if (pt_cmp (pc_dnotin hu (pe_ix ix_either (pv 3) pe_int (fun _ _ => rfl)) (pv 5)))
              (pss_one (ps_ret pe_str)) pss_nil)
            (pss_cons (ps_if (pt_cmpR op_lt (pv 8) (pe_op op_add (pe_dget hu (pv 5) (pe_ix ix_either (pv 3) pe_int (fun _ _ => rfl)) (fun _ _ => rfl)) (pe_ix ix_tup (pv 0) pe_int (fun _ _ => rfl))) (nomark _))
              (pss_one (ps_ret pe_str)) pss_nil)
            (pss_cons (ps_if (pt_cmpR op_gt (pv 8) (pe_op op_add (pe_dget2 hu (pv 6) (pe_ix ix_either (pv 3) pe_int (fun _ _ => rfl)) (pe_op op_pow pe_int pe_int) ⟨rfl, rfl, rfl, rfl⟩) (pe_ix ix_tup (pv 0) pe_int (fun _ _ => rfl))) (nomark _))
              (pss_one (ps_ret pe_str)) pss_nil)
            (pss_one (ps_ret (pe_ifExp (pt_cmp (pc_din hu (pe_ix ix_either (pv 3) pe_int (fun _ _ => rfl)) (pv 7))) pe_str pe_non)))))) pss_nil)
        (pss_cons (ps_if (pt_cmpR op_eq (pe_ix ix_either (pv 3) pe_int (fun _ _ => rfl)) pe_str (nomark _))
          (pss_cons (ps_if (pt_cmpR op_notIn_seq (pe_ix ix_either (pv 3) pe_int (fun _ _ => rfl)) (pe_lc (own := [("_law_x", 9)]) (g := gName 9) (tt := tYes) rfl sc_L_row_fault.nd (pi_list (pv 1)) (blkOk_by (own := [("_law_x", 9)]) (N := ["_law_customs_here", "_law_lives_here", "_law_before", "_law_row", "_law_told_here", "_law_births", "_law_deaths", "_law_parents", "_law_year", "_law_x"]) (sc := defScope s_L_row_fault) (by decide +kernel)) (fun _ _ _ _ _ => pg_name (i := 9) sc_L_row_fault.nd rfl (Or.inl rfl)) (fun _ _ _ _ _ => pts_nil) (fun _ _ _ _ _ => (pe_ix (ix_tupK (K := K) rfl) (pv 9) pe_int (fun _ _ => rfl)))) (by rfl))
              (pss_one (ps_ret pe_str)) pss_nil)
            (pss_cons (ps_if (pt_cmp (pc_din hu (pe_ix ix_either (pv 3) pe_int (fun _ _ => rfl)) (pv 6)))
              (pss_one (ps_ret pe_str)) pss_nil)
            (pss_cons (ps_if (pt_cmpR op_lt (pv 8) (pe_op op_add (pe_dget hu (pv 5) (pe_ix ix_either (pv 3) pe_int (fun _ _ => rfl)) (fun _ _ => rfl)) (pe_ix ix_tup (pv 0) pe_int (fun _ _ => rfl))) (nomark _))
              (pss_one (ps_ret pe_str)) pss_nil)
            (pss_one (ps_ret (pe_ifExp (pt_cmp (pc_din hu (pe_ix ix_either (pv 3) pe_int (fun _ _ => rfl)) (pv 7))) pe_str pe_non)))))) pss_nil)
        (pss_cons (ps_if (pt_cmpR op_eq (pe_ix ix_either (pv 3) pe_int (fun _ _ => rfl)) pe_str (nomark _))
          (pss_one (ps_ret (pe_ifExp (pt_cmp (pc_din hu (pe_ix ix_either (pv 3) pe_int (fun _ _ => rfl)) (pe_ix ix_tup (pv 4) pe_int (fun _ _ => rfl)))) pe_str pe_non))) pss_nil)
        (pss_cons (ps_if (pt_cmp (pc_dnotin hu (pe_ix ix_either (pv 3) pe_int (fun _ _ => rfl)) (pv 7)))
          (pss_one (ps_ret pe_str)) pss_nil)
        (pss_one (ps_ret (pe_ifExp (pt_cmp (pc_din hu (pe_ix ix_either (pv 3) pe_int (fun _ _ => rfl)) (pv 6))) pe_str pe_non))))))))))))), ?_⟩
    have lw := hpw.length
    have fe := famE_P gs evs.length evs rfl
    have fin : ∀ H', Same H H' → ∀ o, faultW n0 n1 n2 gs (famE gs evs) r = o → Q (optV o) H' := fun H' S' o e => by rw [← e]; exact k H' S'
    have fm : (famE gs evs).many = evs.length := by rw [fe]
    refine ⟨_, rfl, bf, ws, rfl, .inl (SqL.of hbf), _, _, rfl, rfl, _, rfl, ?_⟩
    refine ite2 (fun g => ?_) (fun g => ?_)
    · exact fin _ (Same.refl H) (some ("many" : Str)) (if_pos (by rw [fm]; have := of_decide_eq_true g; omega))
    have g0 : ws.length < 200 := by
      have : ¬ (200 : Int) ≤ ws.length := fun z => g (decide_eq_true z)
      omega
    have g1 : ¬ 200 ≤ (famE gs evs).many := by rw [fm]; omega
    refine ⟨_, rfl, v, r, rfl, hv, rok, fun H1 S1 => ⟨_, rfl, ?_⟩⟩
    refine ite2 (fun g => ?_) (fun g => ?_)
    · exact fin _ S1 (some ("row" : Str)) (by unfold faultW; rw [if_neg g1, if_pos (by simpa using g)])
    have g2 : isRowB r = true := by simpa using g
    obtain ⟨e, rfl, ek⟩ := row_ev g2
    obtain ⟨b, rfl, hb0⟩ := hv
    have hbS : ∀ {H'}, Same H H' → (H' b = some (.lst e.row) ∨ H' b = some (.tup e.row)) := fun S => hb0.imp (S _ _) (S _ _)
    have fl : (famE gs evs).last = (evs.getLast?).map Ev.pl := by rw [fe]
    have w1 : faultW n0 n1 n2 gs (famE gs evs) (.sq e.row) = if lastGe ((evs.getLast?).map Ev.pl) e.pl = true then some ("order" : Str) else evW n0 n1 n2 gs (famE gs evs) e := by
      unfold faultW
      rw [if_neg g1, if_neg (by rw [g2]; decide), evOf_row, fl]
    refine ⟨fun σ' H' => σ' = [some (.ref ct), some (.ref l), some (.ref bf), some (.ref b), none, none, none, none, none, none] ∧ Same H H' ∧ ¬ lastGe ((evs.getLast?).map Ev.pl) e.pl = true, ?_, ?_⟩
    · refine ⟨_, rfl, by show 0 ≤ sizeLine; exact Nat.zero_le _, fun e2 he2 => ?_⟩
      have S2 := S1.trans (sNew (o := .lst []) he2)
      have fls := evs_fl eok
      refine ⟨_, _, dp_lst (SqL.of (S2 _ _ hbf)) (evs_dp (L2.Paired.mapP hpw fun _ _ h => h.keep fun _ _ => S2 _ _) eok), dp_lst (SqL.of upd_same) .nil, fls_shaped true fls, fls_shaped true (ds := []) (by simp), _, rfl, ?_⟩
      rw [eqv_nil]
      rcases List.eq_nil_or_concat evs with rfl | ⟨es, e0, rfl⟩
      · exact iteF (iteF ⟨rfl, S2, fun z => by cases z⟩)
      · rw [List.concat_eq_append] at *
        rw [show ((es ++ [e0]).map evD).isEmpty = false by simp]
        refine iteT ?_
        obtain ⟨v0, hv0, b0, rfl, hb00⟩ := Paired.at' (i := es.length) (y := e0) hpw (by simp)
        have hlast : atI ws (-1) = some (.ref b0) := by
          rcases List.eq_nil_or_concat ws with rfl | ⟨ws', x, rfl⟩
          · simp at hv0
          · rw [List.concat_eq_append] at hv0 lw ⊢
            have : ws'.length = es.length := by simpa using lw
            rw [← this] at hv0
            rw [atI_last, show x = .ref b0 by simpa using hv0]
        refine ⟨_, rfl, b, e, rfl, hbS S2, fun t1 H3 S3 ht1 => ?_⟩
        have S3' := S2.trans S3
        refine ⟨_, rfl, _, rfl, bf, ws, -1, .ref b0, rfl, rfl, SqL.of (S3' _ _ hbf), hlast, b0, e0, rfl, .inr (S3' _ _ hb00), fun t2 H4 S4 ht2 => ?_⟩
        refine ⟨t1, t2, e.pl, e0.pl, rfl, rfl, SqT.of (S4 _ _ ht1), SqT.of ht2, _, rfl, ?_⟩
        have lg : lastGe ((es ++ [e0]).getLast?.map Ev.pl) e.pl = leP e.pl e0.pl := by rw [List.getLast?_append]; rfl
        rw [lg] at w1 ⊢
        refine ite2 (fun g => ?_) (fun g => ?_)
        · exact fin _ (S3'.trans S4) (some ("order" : Str)) (by rw [w1, if_pos g])
        · exact ⟨rfl, S3'.trans S4, g⟩
    · rintro σ' H2 ⟨rfl, S2, nl⟩
      rw [if_neg nl] at w1
      have w1 := w1.trans (congrArg (fun f => evW n0 n1 n2 gs f e) fe)
      refine ⟨_, rfl, _, rfl, _, rfl, .ref ct, l, bf, us, ws, gs, evs, rfl, S2 _ _ hl, L2.Paired.mapP hpu fun _ _ h => h.keep fun _ _ => S2 _ _, hz, S2 _ _ hbf, L2.Paired.mapP hpw fun _ _ h => h.keep fun _ _ => S2 _ _, by omega, fun t A H3 X ht => ?_⟩
      have S3 := S2.trans X.sa
      have hb := hbS S3
      have hct3 := S3 _ _ hct
      have hl3 := S3 _ _ hl
      have hpu3 : Paired (TupAt H3) us (gs.map mkR) := L2.Paired.mapP hpu fun _ _ h => h.keep fun _ _ => S3 _ _
      have bo := famP_born hz evs.length evs rfl
      refine ⟨_, rfl, _, _, _, _, rfl, rfl, SqT.of ht, atI_nat (j := 1) rfl, _, rfl, _, _, _, _, rfl, rfl, SqT.of ht, atI_nat (j := 2) rfl, _, rfl, _, _, _, _, rfl, rfl, SqT.of ht, atI_nat (j := 3) rfl, _, _, _, rfl, ?_⟩
      refine ⟨_, rfl, ixOr hb (j := 1) rfl ?_⟩
      have ne : ∀ {x y : Str}, x ≠ y → ¬ V.str x = V.str y := fun h z => h (V.str.inj z)
      generalize famP gs evs = fp at X w1 bo
      cases e with
      | born y s n =>
        have w1 : faultW n0 n1 n2 gs (famE gs evs) (.sq (Ev.born y s n).row) = bornW n0 n1 fp y s n := w1
        refine ⟨_, rfl, ixOr hb (j := 0) rfl ⟨rfl, _, rfl, ?_⟩⟩
        rw [show decide (V.str (Ev.born y s n).w = V.str "born") = true from decide_eq_true rfl]
        refine iteT ⟨_, rfl, ixOr hb (j := 2) rfl ⟨_, rfl, A.b, _, rfl, dgF s X.hb, _, rfl, ?_⟩⟩
        rw [Option.isSome_map]
        cases eb : fp.births.lookup s with
        | none =>
          exact iteT (fin _ S3 (some ("parent" : Str)) (by rw [w1]; unfold bornW; rw [eb]))
        | some b1 =>
          have w1 : faultW n0 n1 n2 gs (famE gs evs) (.sq (Ev.born y s n).row) = if y < b1 + n0 then some ("young" : Str) else if deadW n1 (fp.deaths.lookup s) y = true then some ("dead" : Str) else nameW fp n := by rw [w1]; unfold bornW; rw [eb]
          have dg := dgF s X.hb
          rw [eb] at dg
          refine iteF ⟨_, rfl, _, rfl, _, rfl, ixOr hb (j := 2) rfl ⟨A.b, _, rfl, dg, _, rfl, _, _, _, _, rfl, rfl, SqT.of hct3, atI_nat (j := 0) rfl, _, _, rfl, rfl, _, _, rfl, rfl, _, rfl, ?_⟩⟩
          refine ite2 (fun g => ?_) (fun g => ?_)
          · exact fin _ S3 (some ("young" : Str)) (by rw [w1, if_pos (show y < b1 + n0 from of_decide_eq_true g)])
          rw [if_neg (show ¬ y < b1 + n0 from fun z => g (decide_eq_true z))] at w1
          have dd := dgF s X.hd
          have last : deadW n1 (fp.deaths.lookup s) y = false → ∀ o, nameW fp n = o → Q (optV o) H3 := fun z o q => fin _ S3 o (by rw [w1, if_neg (by rw [z]; decide), q])
          cases ed : fp.deaths.lookup s with
          | none =>
            rw [ed] at dd last
            refine ⟨_, rfl, _, rfl, A.d, rfl, .inl ⟨_, .inl X.hd⟩, _, rfl, ixOr hb (j := 2) rfl ⟨_, _, rfl, rfl, ⟨by decide, by decide, by decide⟩, _, dd, _, rfl, _, _, _, _, rfl, rfl, SqT.of hct3, atI_nat (j := 1) rfl, _, _, rfl, rfl, _, _, rfl, rfl, _, rfl, ?_⟩⟩
            refine ite2 (fun g => ?_) (fun g => ?_)
            · exfalso
              have g := of_decide_eq_true g
              have hy : y ≤ 1000000000 := ek.2.1
              have g : (10000000000 : Int) + n1 < y := g
              omega
            · refine ⟨_, rfl, ixOr hb (j := 3) rfl ⟨_, rfl, A.pr, _, rfl, dgF n X.hp, _, rfl, ?_⟩⟩
              rw [Option.isSome_map]
              exact ite2 (fun g => last rfl (some ("name" : Str)) (if_pos g)) (fun g => last rfl none (if_neg g))
          | some d1 =>
            rw [ed] at dd last w1
            refine ⟨_, rfl, _, rfl, A.d, rfl, .inl ⟨_, .inl X.hd⟩, _, rfl, ixOr hb (j := 2) rfl ⟨_, _, rfl, rfl, ⟨by decide, by decide, by decide⟩, _, dd, _, rfl, _, _, _, _, rfl, rfl, SqT.of hct3, atI_nat (j := 1) rfl, _, _, rfl, rfl, _, _, rfl, rfl, _, rfl, ?_⟩⟩
            refine ite2 (fun g => ?_) (fun g => ?_)
            · exact fin _ S3 (some ("dead" : Str)) (by rw [w1, if_pos (show deadW n1 (some d1) y = true from g)])
            · refine ⟨_, rfl, ixOr hb (j := 3) rfl ⟨_, rfl, A.pr, _, rfl, dgF n X.hp, _, rfl, ?_⟩⟩
              rw [Option.isSome_map]
              have z : deadW n1 (some d1) y = false := Bool.eq_false_iff.mpr g
              exact ite2 (fun g => last z (some ("name" : Str)) (if_pos g)) (fun g => last z none (if_neg g))
      | wed y s n =>
        have w1 : faultW n0 n1 n2 gs (famE gs evs) (.sq (Ev.wed y s n).row) = wedW n2 gs fp y s n := w1
        refine ⟨_, rfl, ixOr hb (j := 0) rfl ⟨rfl, _, rfl, ?_⟩⟩
        rw [show decide (V.str (Ev.wed y s n).w = V.str "born") = false from decide_eq_false (ne (by show ("wed" : Str) ≠ "born"; decide +kernel))]
        refine iteF ⟨_, rfl, ixOr hb (j := 0) rfl ⟨rfl, _, rfl, ?_⟩⟩
        rw [show decide (V.str (Ev.wed y s n).w = V.str "wed") = true from decide_eq_true rfl]
        have hus : us.length < sizeLine := small1000 (by have := hpu.length; rw [List.length_map] at this; omega)
        refine iteT ⟨_, rfl, ixOr hb (j := 2) rfl ⟨_, rfl, l, rfl, ⟨_, SqL.of hl3⟩, fun D hD => lc_list (xs := us) (PvF H3 D us (tup00 H3)) rfl (fun i H' _ q => by rw [q]; exact SqL.of (by rw [upd_ne (ne_of_none hl3 hD)]; exact hl3)) ?_ ?_⟩⟩
        · rintro i v H' hv rfl
          obtain ⟨x, hx, hvx⟩ := Paired.at hpu3 hv
          obtain ⟨g, _, rfl⟩ := List.mem_map.mp (List.mem_of_getElem? hx)
          obtain ⟨c, rfl, hc⟩ := tup0 hvx
          exact ⟨rfl, _, rfl, _, _, _, _, rfl, rfl, SqT.of (by rw [upd_ne (ne_of_none hc hD)]; exact hc), atI_nat (j := 0) rfl, fm_put hv (by simp [tup00, hc]) hus⟩
        · intro H' q
          obtain rfl := fm_end q
          rw [names_tup0 hpu3]
          have SD := sNew (o := .lst (gs.map fun g => V.str g.1)) hD
          have S4 := S3.trans SD
          have X4 := X.same SD
          refine ⟨D, _, rfl, .inl (SqL.of upd_same), rfl, by rw [List.all_map]; exact List.all_eq_true.mpr fun _ _ => rfl, _, rfl, ?_⟩
          rw [show (if true = true then !inV (.str s) (gs.map fun g => V.str g.1) else inV (.str s) (gs.map fun g => V.str g.1)) = !hasN gs (.str s) from congrArg (fun b => !b) (inV_gs s gs)]
          have hb4 := hbS S4
          have hct4 := S4 _ _ hct
          refine ite2 (fun g => ?_) (fun g => ?_)
          · exact fin _ S4 (some ("life" : Str)) (by rw [w1]; exact if_pos (by simpa using g))
          have g3 : hasN gs (.str s) = true := by simpa using g
          have w1 := w1.trans (if_neg (show ¬ hasN gs (.str s) = false by rw [g3]; decide))
          obtain ⟨b1, eb⟩ := Option.isSome_iff_exists.mp (bo s g3)
          refine ⟨_, rfl, ixOr hb4 (j := 2) rfl ⟨_, rfl, A.d, _, rfl, dgF s X4.hd, _, rfl, ?_⟩⟩
          rw [Option.isSome_map]
          refine ite2 (fun g => ?_) (fun g => ?_)
          · exact fin _ S4 (some ("dead" : Str)) (w1.trans (if_pos g))
          have w1 := w1.trans (if_neg g)
          rw [eb] at w1
          have w1 : faultW n0 n1 n2 gs (famE gs evs) (.sq (Ev.wed y s n).row) = if y < b1 + n2 then some ("young" : Str) else nameW fp n := w1
          have dg := dgF s X4.hb
          rw [eb] at dg
          refine ⟨_, rfl, _, rfl, _, rfl, ixOr hb4 (j := 2) rfl ⟨A.b, _, rfl, dg, _, rfl, _, _, _, _, rfl, rfl, SqT.of hct4, atI_nat (j := 2) rfl, _, _, rfl, rfl, _, _, rfl, rfl, _, rfl, ?_⟩⟩
          refine ite2 (fun g => ?_) (fun g => ?_)
          · exact fin _ S4 (some ("young" : Str)) (by rw [w1, if_pos (show y < b1 + n2 from of_decide_eq_true g)])
          rw [if_neg (show ¬ y < b1 + n2 from fun z => g (decide_eq_true z))] at w1
          refine ⟨_, rfl, ixOr hb4 (j := 3) rfl ⟨_, rfl, A.pr, _, rfl, dgF n X4.hp, _, rfl, ?_⟩⟩
          rw [Option.isSome_map]
          exact ite2 (fun g => fin _ S4 (some ("name" : Str)) (by rw [w1]; exact if_pos g)) (fun g => fin _ S4 none (by rw [w1]; exact if_neg g))
      | happ y n =>
        have w1 : faultW n0 n1 n2 gs (famE gs evs) (.sq (Ev.happ y n).row) = if (fp.facts.lookup n).isSome = true then some ("again" : Str) else none := w1
        refine ⟨_, rfl, ixOr hb (j := 0) rfl ⟨rfl, _, rfl, ?_⟩⟩
        rw [show decide (V.str (Ev.happ y n).w = V.str "born") = false from decide_eq_false (ne (by show ("happened" : Str) ≠ "born"; decide +kernel))]
        refine iteF ⟨_, rfl, ixOr hb (j := 0) rfl ⟨rfl, _, rfl, ?_⟩⟩
        rw [show decide (V.str (Ev.happ y n).w = V.str "wed") = false from decide_eq_false (ne (by show ("happened" : Str) ≠ "wed"; decide +kernel))]
        refine iteF ⟨_, rfl, ixOr hb (j := 0) rfl ⟨rfl, _, rfl, ?_⟩⟩
        rw [show decide (V.str (Ev.happ y n).w = V.str "happened") = true from decide_eq_true rfl]
        refine iteT ⟨_, rfl, ixOr hb (j := 2) rfl ⟨_, rfl, _, _, _, _, rfl, rfl, SqT.of ht, atI_nat (j := 5) rfl, A.fc, _, rfl, dgF n X.hf, _, rfl, ?_⟩⟩
        rw [Option.isSome_map]
        exact ite2 (fun g => fin _ S3 (some ("again" : Str)) (by rw [w1]; exact if_pos g)) (fun g => fin _ S3 none (by rw [w1]; exact if_neg g))
      | died y s =>
        have w1 : faultW n0 n1 n2 gs (famE gs evs) (.sq (Ev.died y s).row) = if (fp.parents.lookup s).isSome = false then some ("person" : Str) else if (fp.deaths.lookup s).isSome = true then some ("dead" : Str) else none := w1
        refine ⟨_, rfl, ixOr hb (j := 0) rfl ⟨rfl, _, rfl, ?_⟩⟩
        rw [show decide (V.str (Ev.died y s).w = V.str "born") = false from decide_eq_false (ne (by show ("died" : Str) ≠ "born"; decide +kernel))]
        refine iteF ⟨_, rfl, ixOr hb (j := 0) rfl ⟨rfl, _, rfl, ?_⟩⟩
        rw [show decide (V.str (Ev.died y s).w = V.str "wed") = false from decide_eq_false (ne (by show ("died" : Str) ≠ "wed"; decide +kernel))]
        refine iteF ⟨_, rfl, ixOr hb (j := 0) rfl ⟨rfl, _, rfl, ?_⟩⟩
        rw [show decide (V.str (Ev.died y s).w = V.str "happened") = false from decide_eq_false (ne (by show ("died" : Str) ≠ "happened"; decide +kernel))]
        refine iteF ⟨_, rfl, ixOr hb (j := 2) rfl ⟨_, rfl, A.pr, _, rfl, dgF s X.hp, _, rfl, ?_⟩⟩
        rw [Option.isSome_map]
        refine ite2 (fun g => ?_) (fun g => ?_)
        · exact fin _ S3 (some ("person" : Str)) (by rw [w1]; exact if_pos (by simpa using g))
        have w1 := w1.trans (if_neg (show ¬ (fp.parents.lookup s).isSome = false by simpa using g))
        refine ⟨_, rfl, ixOr hb (j := 2) rfl ⟨_, rfl, A.d, _, rfl, dgF s X.hd, _, rfl, ?_⟩⟩
        rw [Option.isSome_map]
        exact ite2 (fun g => fin _ S3 (some ("dead" : Str)) (by rw [w1]; exact if_pos g)) (fun g => fin _ S3 none (by rw [w1]; exact if_neg g))
theorem cal_lrf (T : Txt P w K mg cl) : Cal P w K mg base CX0 2 "_law_row_fault" ["_law_customs_here", "_law_lives_here", "_law_before", "_law_row"] spLRF := by
  obtain ⟨f, fd, F, m⟩ := T.d_L_row_fault
  exact ⟨f, fd, ok_lrf F T, m, F.kp, F.binds fun _ _ _ _ _ _ us hl => match us, hl with | [_, _, _, _], _ => rfl⟩
end
end My
set_option Elab.async false
set_option linter.all false
set_option maxRecDepth 100000
set_option maxHeartbeats 1000000
namespace My
open PySem L2 Dw
open C8 (pss_cut tCut)
/-- a row of the law's lists: a tuple, or a plain thing -/
def TRd (H : Hp) (v : V) : Rd → Prop
  | .sq xs => ∃ b, v = .ref b ∧ H b = some (.tup xs)
  | .pl x => v = x
theorem TRd.rd {H : Hp} {v : V} {r : Rd} (h : TRd H v r) : RdAt H v r := by
  cases r with
  | sq xs => obtain ⟨b, e, hb⟩ := h; exact ⟨b, e, .inr hb⟩
  | pl x => exact h
theorem TRd.ev {H : Hp} {v : V} {e : Ev} (h : TRd H v (.sq e.row)) : EvAt H v e := h
theorem TRd.keep {H H' : Hp} {v : V} {r : Rd} (h : TRd H v r) (k : ∀ b xs, H b = some (.tup xs) → H' b = some (.tup xs)) : TRd H' v r := by
  cases r with
  | sq xs => obtain ⟨b, e, hb⟩ := h; exact ⟨b, e, k _ _ hb⟩
  | pl x => exact h
def spLF : Sp := fun vs H Q _ => ∃ (ct l r : Addr) (us ws : List V) (gs : List Gd) (rs : List Rd) (n0 n1 n2 n3 : Int), vs = [.ref ct, .ref l, .ref r] ∧ H ct = some (.tup [.int n0, .int n1, .int n2, .int n3]) ∧ 0 ≤ n1 ∧ H l = some (.lst us) ∧ Paired (TupAt H) us (gs.map mkR) ∧ gs.length ≤ 9 ∧ H r = some (.lst ws) ∧ Paired (TRd H) ws rs ∧ (∀ x ∈ rs, RdOk x) ∧ rs.length ≤ 300 ∧
  ∀ v H', Same H H' → DueV H' v (runW n0 n1 n2 gs (fam0 gs) 0 rs) → Q v H'
section
variable {P : Program} {w : World} {K : PySem.W.Frag} {mg : Str → Option Value} {base : Heap} {cl : String → Addr}
theorem ok_lfault {f : Addr} {fd : FuncData} (F : Fun K "_law_fault" "_law_fault" s_fault f fd) (T : Txt P w K mg cl) : FnOk P w K mg base CX0 3 f fd ["_law_customs_here", "_law_lives_here", "_law_rows_here"] spLF := by
  refine F.ok sc_fault (fun vs H Q E h => ?_) (fun cdv A outer s H vs Q E hr h => ?_)
  · obtain ⟨ct, l, r, us, ws, gs, rs, n0, n1, n2, n3, rfl, _⟩ := h
    rfl
  · obtain ⟨ct, l, r, us, ws, gs, rs, n0, n1, n2, n3, rfl, hct, hn1, hl, hpu, hz, hrr, hpw, rok, hlr, k⟩ := h
    have hu := hu_of hr
    have C_L_row_fault : Cal P w K mg base CX0 2 "_law_row_fault" _ spLRF := cal_lrf T
    refine ⟨_, (pss_cons (ps_for PassesOwn.never rfl (pi_range1 rfl T.n_range (pa_cons (pe_callB call_len_seq (by rfl) T.n_len PySem.boot_len (pa_cons (pv 2) pa_nil)) pa_nil)) (pg_name (i := 3) sc_fault.nd rfl (Or.inl rfl))
          (pss_cons (ps_set (i := 4) sc_fault.nd rfl (Or.inl rfl) (pe_cal C_L_row_fault (hr.mono (by decide)) (pa_cons (pv 0) (pa_cons (pv 1) (pa_cons (pe_slice sl_list (pv 2) po_none (po_some (pv 3))) (pa_cons (pe_ix ix_list (pv 2) (pv 3) (fun _ _ => rfl)) pa_nil))))))
            (pss_one (ps_if (pt_cmpR op_notN (pv 4) pe_non (nomark _))
              (pss_one (ps_ret (pe_tup (pa_cons (pv 3) (pa_cons (pv 4) pa_nil))))) pss_nil))))
        (pss_one (ps_ret pe_non))), ?_⟩
    have lw := hpw.length
    refine ⟨_, rfl, r, ws, rfl, .inl (SqL.of hrr), _, rfl, by omega, by omega, for_range (n := ws.length) (fun i σ H' => Same H H' ∧ (∃ evs : List Ev, rs.take i = evs.map rowR ∧ (∀ e ∈ evs, e.Ok) ∧ Paired (EvAt H) (ws.take i) evs ∧ evs.length = i ∧ runW n0 n1 n2 gs (fam0 gs) 0 rs = runW n0 n1 n2 gs (famE gs evs) i (rs.drop i)) ∧ ∃ (v3 v4 : Option V), σ = [some (.ref ct), some (.ref l), some (.ref r), v3, v4]) ⟨Same.refl H, ⟨[], rfl, by simp, .nil, rfl, rfl⟩, _, _, rfl⟩ ?_ ?_⟩
    · rintro i σ H' hi ⟨S, ⟨evs, h1, h2, h3, h4, hg⟩, v3, v4, rfl⟩
      obtain ⟨v, hv⟩ : ∃ v, ws[i]? = some v := ⟨_, List.getElem?_eq_getElem hi⟩
      obtain ⟨x, hx, hvx⟩ := Paired.at hpw hv
      have hsl : cutV ws none (some (0 + (i : Int))) = ws.take i := by rw [Int.zero_add]; exact cut_take ws i
      refine ⟨_, rfl, _, rfl, _, rfl, _, rfl, _, rfl, r, _, rfl, SqL.of (S _ _ hrr), fun l2 hl2 => ?_⟩
      rw [hsl]
      have S1 := S.trans (sNew (o := .lst (ws.take i)) hl2)
      refine ⟨_, rfl, _, rfl, _, _, _, _, rfl, rfl, SqL.of (S1 _ _ hrr), at_of (Int.zero_add _) hv, ?_⟩
      refine ⟨ct, l, l2, us, ws.take i, gs, evs, n0, n1, n2, n3, v, x, rfl, S1 _ _ hct, hn1, S1 _ _ hl, L2.Paired.mapP hpu fun _ _ h => h.keep fun _ _ => S1 _ _, hz, upd_same, L2.Paired.mapP h3 fun _ _ h => h.keep fun _ _ => S1 _ _, h2, by omega, (hvx.rd).same S1, rok x (List.mem_of_getElem? hx), fun H2 S2 => ?_⟩
      have S2 := S1.trans S2
      rw [take_drop_at hx, runW_cons] at hg
      cases e : faultW n0 n1 n2 gs (famE gs evs) x with
      | none =>
        rw [e] at hg
        obtain ⟨ev, rfl, evok⟩ := row_ev (many_of e).2
        refine ⟨_, rfl, rfl, _, rfl, iteF ⟨S2, ⟨evs ++ [ev], ?_, ?_, ?_, by rw [List.length_append, h4]; rfl, ?_⟩, _, _, rfl⟩⟩
        · rw [take_snoc hx, h1, List.map_append]
          rfl
        · intro z hz
          rcases List.mem_append.mp hz with hz | hz
          · exact h2 z hz
          · rw [show z = ev by simpa using hz]
            exact evok
        · rw [take_snoc hv]
          exact Paired.appendP h3 (.cons hvx.ev .nil)
        · rw [hg, evOf_row]
          unfold famE
          rw [List.foldl_append]
          rfl
      | some s =>
        rw [e] at hg
        refine ⟨_, rfl, rfl, _, rfl, iteT ⟨_, rfl, _, rfl, by show 2 ≤ sizeLine; decide, fun t ht => ?_⟩⟩
        refine k _ _ (S2.trans (sNew ht)) ?_
        rw [hg, Int.zero_add]
        exact ⟨t, rfl, upd_same⟩
    · rintro σ H' ⟨S, ⟨evs, h1, h2, h3, h4, hg⟩, v3, v4, rfl⟩
      refine k _ _ S ?_
      rw [hg, List.drop_of_length_le (by omega)]
      rfl
theorem cal_lfault (T : Txt P w K mg cl) : Cal P w K mg base CX0 3 "_law_fault" ["_law_customs_here", "_law_lives_here", "_law_rows_here"] spLF := by
  obtain ⟨f, fd, F, m⟩ := T.d_fault
  exact ⟨f, fd, ok_lfault F T, m, F.kp, F.binds fun _ _ _ _ _ _ us hl => match us, hl with | [_, _, _], _ => rfl⟩
end
end My
set_option Elab.async false
set_option linter.all false
set_option maxRecDepth 100000
set_option maxHeartbeats 1000000
namespace My
open PySem L2 Dw
open C8 (pss_cut tCut)
section
variable {P : Program} {w : World} {K : PySem.W.Frag} {mg : Str → Option Value} {base : Heap} {cl : String → Addr}
theorem ok_next {f : Addr} {fd : FuncData} (F : Fun K "_law_next" "_law_next" s_next f fd) (T : Txt P w K mg cl) : FnOk P w K mg base CX0 1 f fd ["_law_draws", "_law_many"] spNext := by
  refine F.ok sc_next (fun vs H Q E h => ?_) (fun cdv A outer s H vs Q E hr h => ?_)
  · obtain ⟨d, c, many, rfl, _⟩ := h
    rfl
  · obtain ⟨d, c, many, rfl, D, hm0, hm1, k⟩ := h
    have hu := hu_of hr
    refine ⟨_, (pss_cons (ps_dput hu (pv 0) pe_str (pe_op op_add (pe_dget hu (pv 0) pe_str (fun _ _ => rfl)) pe_int) rfl)
        (pss_cut (ps_if (PW.pt (pw_and (pt_cmpR op_eq (pe_dget hu (pv 0) pe_str (fun _ _ => rfl)) pe_int (nomark _)) (pw_and1 (pt_cmpR op_lt (pe_dget hu (pv 0) pe_str (fun _ _ => rfl)) (pe_callB call_len_seq (by rfl) T.n_len PySem.boot_len (pa_cons (pe_dget hu (pv 0) pe_str (fun _ _ => rfl)) pa_nil)) (nomark _)))))
          (pss_cons (ps_set (i := 2) sc_next.nd rfl (Or.inl rfl) (pe_callTy call_int1 (by rfl) T.n_int (by decide +kernel) (pa_cons (pe_ix ix_list (pe_dget hu (pv 0) pe_str (fun _ _ => rfl)) (pe_dget hu (pv 0) pe_str (fun _ _ => rfl)) (fun _ _ => rfl)) pa_nil)))
            (pss_cons (ps_dput hu (pv 0) pe_str (pe_op op_add (pe_dget hu (pv 0) pe_str (fun _ _ => rfl)) pe_int) rfl)
            (pss_one (ps_if (pt_cmpR op_ge (pv 2) (pe_op op_pow pe_int pe_int) (nomark _))
              (pss_cons (ps_dput hu (pv 0) pe_str (pe_op op_sub (pv 2) (pe_op op_pow pe_int pe_int)) rfl)
                (pss_one (ps_dput hu (pv 0) pe_str pe_int rfl))) (pss_one (ps_dput hu (pv 0) pe_str (pe_op op_mod (pe_callTy call_int1 (by rfl) T.n_int (by decide +kernel) (pa_cons (pe_op op_add (pe_op op_add (pe_op op_mul (pe_dget hu (pv 0) pe_str (fun _ _ => rfl)) pe_int) (pe_op op_mod (pv 2) pe_int)) pe_int) pa_nil)) pe_int) rfl)))))) pss_nil)
        (pss_cons (ps_if (pt_cmpR op_gt (pe_dget hu (pv 0) pe_str (fun _ _ => rfl)) pe_int (nomark _))
          (pss_cons (ps_dput hu (pv 0) pe_str (pe_op op_sub (pe_dget hu (pv 0) pe_str (fun _ _ => rfl)) pe_int) rfl)
            (pss_cons (ps_set (i := 3) sc_next.nd rfl (Or.inl rfl) (pe_op op_mod (pe_callTy call_int1 (by rfl) T.n_int (by decide +kernel) (pa_cons (pe_dget hu (pv 0) pe_str (fun _ _ => rfl)) pa_nil)) (pv 1)))
            (pss_cons (ps_dput hu (pv 0) pe_str (pe_op op_fdiv (pe_dget hu (pv 0) pe_str (fun _ _ => rfl)) (pv 1)) rfl)
            (pss_one (ps_ret (pv 3)))))) pss_nil)
        (pss_cons (ps_dput hu (pv 0) pe_str (pe_op op_mod (pe_callTy call_int1 (by rfl) T.n_int (by decide +kernel) (pa_cons (pe_op op_add (pe_op op_add (pe_op op_mul (pe_dget hu (pv 0) pe_str (fun _ _ => rfl)) pe_int) (pe_op op_mul pe_int (pe_dget hu (pv 0) pe_str (fun _ _ => rfl)))) pe_int) pa_nil)) pe_int) rfl)
        (pss_one (ps_ret (pe_op op_mod (pe_op op_fdiv (pe_op op_mod (pe_callTy call_int1 (by rfl) T.n_int (by decide +kernel) (pa_cons (pe_op op_mul (pe_dget hu (pv 0) pe_str (fun _ _ => rfl)) pe_int) pa_nil)) pe_int) pe_int) (pv 1)))))))), ?_⟩
    obtain ⟨ndc, ns, nx, dg, rs, sd, tn, hd, hc, hl, hn⟩ := D
    -- the count of the turns
    refine ⟨_, rfl, _, _, rfl, dgs hd g_turn, _, _, rfl, rfl, _, rfl, _, _, rfl, dps hd p_turn dr_len, ?_⟩
    generalize htn : tn + 1 = tn1
    have hc1 : ∀ o, (upd H d o) c = some (.lst (ns.map V.int)) := fun o => by rw [upd_ne (Ne.symm ndc)]; exact hc
    refine ⟨fun σ' H' => ∃ (nx dg rs sd : Int) (v : Option V), 0 ≤ nx ∧ σ' = [some (.ref d), some (.int many), v, none] ∧ H' = upd H d (.dK (drK c nx dg rs sd tn1)), ?_, ?_⟩
    · refine ⟨_, rfl, _, _, rfl, dgs upd_same g_digits, rfl, _, rfl, ?_⟩
      refine ite2 (fun h0 => ?_) (fun h0 => ?_)
      · refine ⟨_, rfl, _, _, rfl, dgs upd_same g_next, _, rfl, _, _, rfl, dgs upd_same g_cells, _, _, rfl, .inl (SqL.of (hc1 _)), _, _, rfl, rfl, _, rfl, ?_⟩
        refine ite2 (fun h1 => ?_) (fun h1 => ?_)
        · have h1 : nx < (ns.length : Int) := by simpa using h1
          obtain ⟨z, hz⟩ : ∃ z, ns[nx.toNat]? = some z := ⟨_, List.getElem?_eq_getElem (by omega)⟩
          have hz2 : (ns.map V.int)[nx.toNat]? = some (.int z) := by rw [List.getElem?_map, hz]; rfl
          refine ⟨_, rfl, _, _, rfl, dgs upd_same g_cells, _, rfl, _, _, rfl, dgs upd_same g_next, _, _, _, _, rfl, rfl, SqL.of (hc1 _), at_of (by omega) hz2, .inl ⟨_, rfl, ?_⟩⟩
          refine ⟨_, rfl, _, _, rfl, dgs upd_same g_next, _, _, rfl, rfl, _, rfl, _, _, rfl, dpu p_next dr_len, ?_⟩
          refine ⟨_, rfl, _, _, rfl, rfl, ⟨by decide, by decide, by decide⟩, _, _, rfl, rfl, _, rfl, ?_⟩
          refine ite2 (fun h2 => ?_) (fun h2 => ?_)
          · refine ⟨_, rfl, _, _, rfl, rfl, ⟨by decide, by decide, by decide⟩, _, _, rfl, rfl, _, rfl, _, _, rfl, dpu p_rest dr_len, ?_⟩
            exact ⟨_, rfl, _, _, rfl, dpu p_digits dr_len, _, _, _, _, _, by omega, rfl, rfl⟩
          · refine ⟨_, rfl, _, _, rfl, dgs upd_same g_seed, _, _, rfl, rfl, .inr ⟨by decide, by decide⟩, _, rfl, _, _, rfl, rfl, (by show (0 : Int) < _; decide), _, _, rfl, rfl, _, _, rfl, rfl, .inl ⟨_, rfl, _, _, rfl, rfl, (by show (0 : Int) < _; decide), ?_⟩⟩
            exact ⟨_, rfl, _, _, rfl, dpu p_seed dr_len, _, _, _, _, _, by omega, rfl, rfl⟩
        · exact ⟨nx, dg, rs, sd, none, hn, rfl, rfl⟩
      · exact iteF ⟨nx, dg, rs, sd, none, hn, rfl, rfl⟩
    · rintro σ' H' ⟨nx, dg, rs, sd, v2, hn, rfl, rfl⟩
      have fin : ∀ kvs, But d H (upd H d kvs) := fun kvs => But.upd d H kvs
      refine ⟨_, rfl, _, _, rfl, dgs upd_same g_digits, _, _, rfl, rfl, _, rfl, ?_⟩
      refine ite2 (fun h0 => ?_) (fun h0 => ?_)
      · refine ⟨_, rfl, _, _, rfl, dgs upd_same g_digits, _, _, rfl, rfl, _, rfl, _, _, rfl, dpu p_digits dr_len, ?_⟩
        refine ⟨_, rfl, _, _, rfl, dgs upd_same g_rest, .inl ⟨_, rfl, _, rfl, _, _, rfl, rfl, by show 0 < many; omega, ?_⟩⟩
        refine ⟨_, rfl, _, _, rfl, dgs upd_same g_rest, _, rfl, _, _, rfl, rfl, ⟨by omega, by omega⟩, _, rfl, _, _, rfl, dpu p_rest dr_len, ?_⟩
        exact ⟨_, rfl, k _ _ (Int.emod_nonneg _ (by omega)) (Int.emod_lt_of_pos _ (by omega)) ⟨ndc, ns, _, _, _, _, _, upd_same, hc1 _, hl, hn⟩ (fin _)⟩
      · refine ⟨_, rfl, _, _, rfl, dgs upd_same g_seed, _, _, rfl, rfl, .inr ⟨by decide, by decide⟩, _, rfl, _, _, rfl, dgs upd_same g_turn, _, _, rfl, rfl, .inl ⟨by decide, by decide⟩, _, _, rfl, rfl, _, _, rfl, rfl, .inl ⟨_, rfl, _, _, rfl, rfl, (by show (0 : Int) < _; decide), ?_⟩⟩
        refine ⟨_, rfl, _, _, rfl, dpu p_seed dr_len, ?_⟩
        refine ⟨_, rfl, _, _, rfl, dgs upd_same g_seed, _, _, rfl, rfl, .inr ⟨by decide, by decide⟩, .inl ⟨_, rfl, _, _, rfl, rfl, (by show (0 : Int) < _; decide), _, _, rfl, rfl, ⟨by decide, by decide⟩, _, rfl, _, _, rfl, rfl, by show 0 < many; omega, ?_⟩⟩
        exact k _ _ (Int.emod_nonneg _ (by omega)) (Int.emod_lt_of_pos _ (by omega)) ⟨ndc, ns, _, _, _, _, _, upd_same, hc1 _, hl, hn⟩ (fin _)
theorem cal_next (T : Txt P w K mg cl) : Cal P w K mg base CX0 1 "_law_next" ["_law_draws", "_law_many"] spNext := by
  obtain ⟨f, fd, F, m⟩ := T.d_next
  exact ⟨f, fd, ok_next F T, m, F.kp, F.binds fun _ _ _ _ _ _ us hl => match us, hl with | [_, _], _ => rfl⟩
theorem ok_digits {f : Addr} {fd : FuncData} (F : Fun K "_law_digits" "_law_digits" s_digits f fd) (T : Txt P w K mg cl) : FnOk P w K mg base CX0 1 f fd ["_law_script", "_law_many"] (spDigits K) := by
  refine F.ok sc_digits (fun vs H Q E h => ?_) (fun cdv A outer s H vs Q E hr h => ?_)
  · obtain ⟨a, ns, many, rfl, _⟩ := h
    rfl
  · obtain ⟨a, ns, many, rfl, hS, hl, k⟩ := h
    refine ⟨_, (pss_cons (ps_set (i := 2) sc_digits.nd rfl (Or.inl rfl) pe_int)
        (pss_cons (ps_for PassesOwn.never rfl (pi_list (pv 0)) (pg_name (i := 3) sc_digits.nd rfl (Or.inl rfl))
          (pss_one (ps_set (i := 2) sc_digits.nd rfl (Or.inl rfl) (pe_op op_mod (pe_callTy call_int1 (by rfl) T.n_int (by decide +kernel) (pa_cons (pe_op op_add (pe_op op_add (pe_op op_mul (pv 2) pe_int) (pe_op op_mod (pe_callTy call_int1 (by rfl) T.n_int (by decide +kernel) (pa_cons (pv 3) pa_nil)) pe_int)) pe_int) pa_nil)) pe_int))))
        (pss_one (ps_ret (pe_disp (pps_cons pe_str (pe_callTy call_list_of (by rfl) T.n_list (by decide +kernel) (pa_cons (pv 0) pa_nil)) (pps_cons pe_str pe_int (pps_cons pe_str pe_int (pps_cons pe_str pe_int (pps_cons pe_str (pv 2) (pps_cons pe_str pe_int pps_nil)))))) (by rfl) (by rfl) (fun z => by cases z) (by decide)))))), ?_⟩
    refine ⟨_, rfl, a, rfl, ⟨_, hS⟩, for_list (K := K) (a := a) (xs := ns.map V.int) (fun i σ H' => H' = H ∧ ∃ (sd : Int) (v : Option V), σ = [some (.ref a), some many, some (.int sd), v]) ⟨rfl, _, _, rfl⟩ (fun i σ H' _ q => by rw [q.1]; exact hS) ?_ ?_⟩
    · rintro i y σ H' hi ⟨rfl, sd, v, rfl⟩
      obtain ⟨z, rfl⟩ : ∃ z, y = V.int z := by
        rw [List.getElem?_map] at hi
        cases e : ns[i]? with
        | none => rw [e] at hi; cases hi
        | some z => rw [e] at hi; exact ⟨z, (Option.some.inj hi).symm⟩
      refine ⟨_, rfl, _, _, rfl, rfl, .inr ⟨by decide, by decide⟩, _, rfl, .inl ⟨_, rfl, _, _, rfl, rfl, (by show (0 : Int) < _; decide), _, _, rfl, rfl, _, _, rfl, rfl, .inl ⟨_, rfl, _, _, rfl, rfl, (by show (0 : Int) < _; decide), ?_⟩⟩⟩
      exact ⟨rfl, _, _, rfl⟩
    · rintro σ H' ⟨rfl, sd, v, rfl⟩
      refine fun p hp => ⟨_, rfl, a, _, rfl, .inl ((Same.seq (fun b o e => by rw [upd_ne (ne_of_none e hp)]; exact e) hS)), fun l hl' => ?_⟩
      have npl : p ≠ l := ne_of_none upd_same hl'
      have hl0 : H' l = none := by
        have q := hl'
        rw [upd_ne (Ne.symm npl)] at q
        exact q
      have fin := k p l (upd (upd (upd H' p (.dK [])) l (.lst (ns.map V.int))) p (.dK (drK l 0 0 0 sd 0))) hp hl0 ⟨npl, ns, 0, 0, 0, sd, 0, upd_same, by rw [upd_ne (Ne.symm npl), upd_same], hl, Int.le_refl _⟩
        (fun b o e => by rw [upd_ne (ne_of_none e hp), upd_ne (ne_of_none e hl0), upd_ne (ne_of_none e hp)]; exact e)
      exact ⟨_, rfl, by rw [upd_ne npl]; exact upd_same, drK l 0 0 0 sd 0, rfl, by show 6 ≤ 15; decide, fin⟩
theorem cal_digits (T : Txt P w K mg cl) : Cal P w K mg base CX0 1 "_law_digits" ["_law_script", "_law_many"] (spDigits K) := by
  obtain ⟨f, fd, F, m⟩ := T.d_digits
  exact ⟨f, fd, ok_digits F T, m, F.kp, F.binds fun _ _ _ _ _ _ us hl => match us, hl with | [_, _], _ => rfl⟩
end
end My
set_option Elab.async false
set_option linter.all false
set_option maxRecDepth 100000
set_option maxHeartbeats 1000000
namespace My
open PySem L2 Dw
open C8 (pss_cut tCut)
/-- four numbers in a new tuple -/
def spCus : Sp := fun vs H Q _ => ∃ (d c : Addr), vs = [.ref d] ∧ Dr H d c ∧ ∀ (n0 n1 n2 n3 : Int) (t : Addr) (H' : Hp), 1 ≤ n0 → n0 ≤ 14 → 0 ≤ n1 → n1 ≤ 3 → 0 ≤ n2 → n2 ≤ 17 → 0 ≤ n3 → n3 ≤ 39 → H' t = some (.tup [.int n0, .int n1, .int n2, .int n3]) → Dr H' d c → But d H H' → Q (.ref t) H'
/-- the draws' dict is no list -/
theorem butLst {d c b : Addr} {H H' : Hp} {xs : List V} (D : Dr H d c) (B : But d H H') (h : H b = some (.lst xs)) : H' b = some (.lst xs) := by
  obtain ⟨n, ns, nx, dg, rs, sd, tn, h1, h2, h3, h4⟩ := D
  exact B _ _ h (ne_of h h1 (fun z => nomatch z))
theorem butTup {d c b : Addr} {H H' : Hp} {xs : List V} (D : Dr H d c) (B : But d H H') (h : H b = some (.tup xs)) : H' b = some (.tup xs) := by
  obtain ⟨n, ns, nx, dg, rs, sd, tn, h1, h2, h3, h4⟩ := D
  exact B _ _ h (ne_of h h1 (fun z => nomatch z))
section
variable {P : Program} {w : World} {K : PySem.W.Frag} {mg : Str → Option Value} {base : Heap} {cl : String → Addr}
theorem ok_customs {f : Addr} {fd : FuncData} (F : Fun K "_law_customs" "_law_customs" s_customs f fd) (T : Txt P w K mg cl) : FnOk P w K mg base CX0 2 f fd ["_law_draws"] spCus := by
  refine F.ok sc_customs (fun vs H Q E h => ?_) (fun cdv A outer s H vs Q E hr h => ?_)
  · obtain ⟨d, c, rfl, _⟩ := h
    rfl
  · obtain ⟨d, c, rfl, D, k⟩ := h
    have C_next : Cal P w K mg base CX0 1 "_law_next" _ spNext := cal_next T
    refine ⟨_, (pss_one (ps_ret (pe_tup (pa_cons (pe_op op_add pe_int (pe_cal C_next (hr.mono (by decide)) (pa_cons (pv 0) (pa_cons pe_int pa_nil)))) (pa_cons (pe_cal C_next (hr.mono (by decide)) (pa_cons (pv 0) (pa_cons pe_int pa_nil))) (pa_cons (pe_cal C_next (hr.mono (by decide)) (pa_cons (pv 0) (pa_cons pe_int pa_nil))) (pa_cons (pe_cal C_next (hr.mono (by decide)) (pa_cons (pv 0) (pa_cons pe_int pa_nil))) pa_nil))))))), ?_⟩
    refine ⟨_, rfl, d, c, _, rfl, D, by decide, by decide, fun j0 H0 p0 q0 D0 B0 => ⟨_, _, rfl, rfl, ?_⟩⟩
    refine ⟨_, rfl, d, c, _, rfl, D0, by decide, by decide, fun j1 H1 p1 q1 D1 B1 => ?_⟩
    refine ⟨_, rfl, d, c, _, rfl, D1, by decide, by decide, fun j2 H2 p2 q2 D2 B2 => ?_⟩
    refine ⟨_, rfl, d, c, _, rfl, D2, by decide, by decide, fun j3 H3 p3 q3 D3 B3 => ?_⟩
    refine ⟨by show 4 ≤ sizeLine; decide, fun t ht => ?_⟩
    exact k _ _ _ _ t _ (by omega) (by omega) (by omega) (by omega) (by omega) (by omega) (by omega) (by omega) upd_same (D3.new ht) ((((B0.trans B1).trans B2).trans B3).trans (But.of (sNew ht)))
theorem cal_customs (T : Txt P w K mg cl) : Cal P w K mg base CX0 2 "_law_customs" ["_law_draws"] spCus := by
  obtain ⟨f, fd, F, m⟩ := T.d_customs
  exact ⟨f, fd, ok_customs F T, m, F.kp, F.binds fun _ _ _ _ _ _ us hl => match us, hl with | [_], _ => rfl⟩
end
abbrev cuP : List Str := ["self", "parent_age", "years_after", "wed_age", "limit"]
section
variable {P : Program} {w : World} {K : PySem.W.Frag} {mg : Str → Option Value} {base : Heap} {cl : String → Addr}
/-- Customs(a, years_after = b, wed_age = c, limit = d) -/
theorem cu_A (T : Txt P w K mg cl) : ∃ (f : Addr) (fd : FuncData) (its mv : List Value), FnOk P w K mg base (L2.CX P w) 4 f fd cuP (spCu K (cl "Customs") (cl "BadCustoms")) ∧ Mk K (cl "Customs") f ∧
    KBn K fd cuP 2 ["years_after", "wed_age", "limit"] (fun us ws => us ++ ws) (fun vs zs => vs ++ zs) := by
  obtain ⟨f, fd, F, M⟩ := T.i_Customs
  obtain ⟨its, mv, h⟩ := F.kbinds (ps := cuP) 2 ["years_after", "wed_age", "limit"] [] (fun us _ _ ws => us ++ ws) (by decide) (by decide) (fun q hq => by cases hq) (fun a _ _ b => a.append b)
    (fun T D doc pm an cdv ct us its mv ws l1 l2 l3 l4 => match us, its, mv, ws, l1, l2, l3, l4 with
      | [_, _], [_], [], [_, _, _], _, _, _, _ => ⟨_, rfl, rfl⟩)
  exact ⟨f, fd, its, mv, ok_Customs_init F T, M, h⟩
end
theorem mkCu {K : PySem.W.Frag} {H : Hp} {C CB : Addr} {a b c d : Int} {E : XK} {Q : Addr → Hp → Prop} (hw : cuWord (.int a) (.int b) (.int c) (.int d) = none) (k : ∀ x H', Same H H' → CuAt C H' x (.int a) (.int b) (.int c) (.int d) → Q x H') :
    ∀ x dx, H x = none → H dx = none → dx ≠ x → spCu K C CB [.ref x, .int a, .int b, .int c, .int d] (upd (upd H dx (.own x)) x (.ins C dx [])) (fun v H3 => v = .non ∧ Q x H3) E := fun x dx nx ndx nex => by
  have S2 : Same H (upd (upd H dx (.own x)) x (.ins C dx [])) := (sNew ndx).trans (sNew (by rw [upd_ne (Ne.symm nex)]; exact nx))
  refine ⟨x, dx, _, _, _, _, _, _, _, _, rfl, upd_same, .int _, .int _, .int _, .int _, fun s hs => (by rw [hw] at hs; cases hs), fun _ => ⟨rfl, k x _ (fun y o hy => ?_) ⟨dx, upd_same⟩⟩⟩
  rw [upd_ne (ne_of_none hy nx)]
  exact S2 _ _ hy
theorem cuWord_ok {a b c d : Int} (h1 : 1 ≤ a ∧ a ≤ 1000) (h2 : 0 ≤ b ∧ b ≤ 1000) (h3 : 0 ≤ c ∧ c ≤ 1000) (h4 : 0 ≤ d ∧ d ≤ 1000000) : cuWord (.int a) (.int b) (.int c) (.int d) = none := by
  simp [cuWord, isW, h1.1, h1.2, h2.1, h2.2, h3.1, h3.2, h4.1, h4.2]
theorem RwsAt.same {H H' : Hp} {v : V} {ro : Option (List Rwd)} (h : RwsAt H v ro) (S : Same H H') : RwsAt H' v ro := by
  cases ro with
  | none => exact h
  | some rs =>
    obtain ⟨r, ws, h1, h2, h3, h4⟩ := h
    exact ⟨r, ws, h1, h2.imp (S _ _) (S _ _), L2.Paired.mapP h3 fun _ _ z => z.same S, h4⟩
theorem mkLi {K : PySem.W.Frag} {H : Hp} {C CC CB cu : Addr} {rv : V} {ro : Option (List Rwd)} {n0 : Int} {c1 c2 c3 : V} {E : XK} {Q : Addr → Hp → Prop} (hc : CuAt CC H cu (.int n0) c1 c2 c3) (hr : RwsAt H rv ro)
    (bad : ∀ i s H' e, dueO n0 ro = some (i, s) → Same H H' → H' e = none → E (.ref CB) (some e) (upd H' e (.xd [("index", .int (i : Nat)), ("what", .str s)])))
    (good : ∀ gs x t us H', ro = some (gs.map mkR) → dueO n0 ro = none → Same H H' → LiAt C H' x cu t us gs → Q x H') :
    ∀ x dx, H x = none → H dx = none → dx ≠ x → spLi K C CC CB [.ref x, .ref cu, rv] (upd (upd H dx (.own x)) x (.ins C dx [])) (fun v H3 => v = .non ∧ Q x H3) E := fun x dx nx ndx nex => by
  have S2 : Same H (upd (upd H dx (.own x)) x (.ins C dx [])) := (sNew ndx).trans (sNew (by rw [upd_ne (Ne.symm nex)]; exact nx))
  refine ⟨x, dx, _, _, rfl, upd_same, .inr ⟨cu, n0, c1, c2, c3, ro, rfl, cuSame S2 hc, hr.same S2, fun i s H' e h1 h2 h3 => bad i s H' e h1 (S2.trans h2) h3, fun gs t us H' h1 h2 h3 h4 => ⟨rfl, good gs x t us H' h1 h2 (fun b o e => h3 _ _ (S2 _ _ e) (ne_of_none e nx)) h4⟩⟩⟩
/-- the customs' tuple -/
structure Nums (H : Hp) (cu : Addr) (n0 n1 n2 n3 : Int) : Prop where
  at_ : H cu = some (.tup [.int n0, .int n1, .int n2, .int n3])
  ok : cuWord (.int n0) (.int n1) (.int n2) (.int n3) = none
def spMade (C CC : Addr) : Sp := fun vs H Q _ => ∃ (ct l : Addr) (us : List V) (gs : List Gd) (n0 n1 n2 n3 : Int), vs = [.ref ct, .ref l] ∧ Nums H ct n0 n1 n2 n3 ∧ H l = some (.lst us) ∧ Paired (TupAt H) us (gs.map mkR) ∧ (∀ x ∈ gs.map mkR, Rok x) ∧ dueW n0 (gs.map mkR) = none ∧
  ∀ li cu t us' H', Same H H' → LiAt C H' li cu t us' gs → CuAt CC H' cu (.int n0) (.int n1) (.int n2) (.int n3) → Q (.ref li) H'
theorem mkR_inj3 {a b : Gd} (h : mkR a = mkR b) : a = b := by
  obtain ⟨a1, a2, a3⟩ := a
  obtain ⟨b1, b2, b3⟩ := b
  injection h with h
  injection h with h1 h
  injection h with h2 h
  injection h with h3 h
  have e1 : a1 = b1 := V.str.inj h1
  have e2 : a2 = b2 := V.int.inj h2
  have e3 : a3 = b3 := h3
  rw [e1, e2, e3]
theorem map_mkR : ∀ {a b : List Gd}, a.map mkR = b.map mkR → a = b
  | [], [], _ => rfl
  | [], _ :: _, h => by cases h
  | _ :: _, [], h => by cases h
  | x :: a, y :: b, h => by
    rw [List.map_cons, List.map_cons] at h
    injection h with h1 h2
    rw [mkR_inj3 h1, map_mkR h2]
theorem tups_rows {H : Hp} : ∀ {us : List V} {rs : List Rwd}, Paired (TupAt H) us rs → Paired (RowAt2 H) us rs
  | _, _, .nil => .nil
  | _, _, .cons h t => .cons (by obtain ⟨b, xs, rfl, rfl, hb⟩ := h; exact ⟨b, rfl, .inr hb⟩) (tups_rows t)
section
variable {P : Program} {w : World} {K : PySem.W.Frag} {mg : Str → Option Value} {base : Heap} {cl : String → Addr}
theorem ok_made {f : Addr} {fd : FuncData} (F : Fun K "_law_made" "_law_made" s_made f fd) (T : Txt P w K mg cl) : FnOk P w K mg base CX0 6 f fd ["_law_customs_here", "_law_lives_here"] (spMade (cl "Lives") (cl "Customs")) := by
  refine F.ok sc_made (fun vs H Q E h => ?_) (fun cdv A outer s H vs Q E hr h => ?_)
  · obtain ⟨ct, l, us, gs, n0, n1, n2, n3, rfl, _⟩ := h
    rfl
  · obtain ⟨ct, l, us, gs, n0, n1, n2, n3, rfl, N, hl, hpu, rok, hd, k⟩ := h
    obtain ⟨fA, fdA, itsA, mvA, G_A, M_A, B_A⟩ := cu_A (base := base) T
    have I_Lives : CalC P w K mg base (L2.CX P w) 3 (cl "Lives") _ (spLi K (cl "Lives") (cl "Customs") (cl "BadLives")) := cal_Lives_init T
    refine ⟨_, (pss_cons (ps_set (i := 2) sc_made.nd rfl (Or.inl rfl) (pe_makeK M_A G_A (hr.mono (by decide)) rfl T.m_Customs B_A passL (pa_cons (pe_ix ix_tup (pv 0) pe_int (fun _ _ => rfl)) pa_nil) (pk_cons (pe_ix ix_tup (pv 0) pe_int (fun _ _ => rfl)) (pk_cons (pe_ix ix_tup (pv 0) pe_int (fun _ _ => rfl)) (pk_cons (pe_ix ix_tup (pv 0) pe_int (fun _ _ => rfl)) pk_nil)))))
        (pss_one (ps_ret (pe_mk I_Lives T.m_Lives (hr.mono (by decide))  (pa_cons (pv 2) (pa_cons (pe_callTy call_list_of (by rfl) T.n_list (by decide +kernel) (pa_cons (pv 1) pa_nil)) pa_nil)))))), ?_⟩
    refine ⟨_, rfl, _, _, _, _, rfl, rfl, SqT.of N.at_, atI_nat (j := 0) rfl, _, rfl, _, _, _, _, rfl, rfl, SqT.of N.at_, atI_nat (j := 1) rfl, _, rfl, _, _, _, _, rfl, rfl, SqT.of N.at_, atI_nat (j := 2) rfl, _, rfl, _, _, _, _, rfl, rfl, SqT.of N.at_, atI_nat (j := 3) rfl, rfl, rfl, mkCu N.ok fun x H1 S1 X1 => ?_⟩
    refine ⟨_, rfl, _, rfl, l, us, rfl, .inl (SqL.of (S1 _ _ hl)), fun l2 hl2 => ?_⟩
    have S2 := S1.trans (sNew (o := .lst us) hl2)
    have hlen : (gs.map mkR).length ≤ 9 := by
      have : ¬ ((gs.map mkR).length = 0 ∨ 6 < (gs.map mkR).length) := fun z => by
        unfold dueW at hd
        rw [if_pos z] at hd
        cases hd
      omega
    refine mkLi (cuSame (sNew hl2) X1) (ro := some (gs.map mkR)) ⟨l2, us, rfl, .inl upd_same, L2.Paired.mapP (tups_rows hpu) fun _ _ z => z.same S2, rok, hlen⟩ (fun i s H2 e z _ _ => ?_) (fun gs2 y t us2 H2 h1 h2 S3 L2 => ?_)
    · have z : dueW n0 (gs.map mkR) = some (i, s) := z
      rw [hd] at z
      cases z
    · obtain rfl := map_mkR (Option.some.inj h1)
      exact k _ _ _ _ _ (S2.trans S3) L2 (cuSame S3 (cuSame (sNew hl2) X1))
theorem cal_made (T : Txt P w K mg cl) : Cal P w K mg base CX0 6 "_law_made" ["_law_customs_here", "_law_lives_here"] (spMade (cl "Lives") (cl "Customs")) := by
  obtain ⟨f, fd, F, m⟩ := T.d_made
  exact ⟨f, fd, ok_made F T, m, F.kp, F.binds fun _ _ _ _ _ _ us hl => match us, hl with | [_, _], _ => rfl⟩
end
theorem mkRec {K : PySem.W.Frag} {H : Hp} {C CC CL CB li cu t : Addr} {us : List V} {gs : List Gd} {n0 n1 n2 : Int} {c3 rv : V} {rs : List Rd} {E : XK} {Q : Addr → Hp → Prop} (L : LiAt CL H li cu t us gs) (hz : gs.length ≤ 9) (hc : CuAt CC H cu (.int n0) (.int n1) (.int n2) c3) (hr : RdsAt H rv (some rs))
    (bad : ∀ i s H' e, runW n0 n1 n2 gs (fam0 gs) 0 rs = some (i, s) → Same H H' → H' e = none → E (.ref CB) (some e) (upd H' e (.xd [("index", .int (i : Nat)), ("what", .str s)])))
    (good : ∀ evs x tt ts A H', rs = evs.map rowR → (∀ e ∈ evs, e.Ok) → runW n0 n1 n2 gs (fam0 gs) 0 rs = none → Same H H' → RecX C H' x li cu tt ts A (famE gs evs) evs → Q x H') :
    ∀ x dx, H x = none → H dx = none → dx ≠ x → spRec K C CC CL CB [.ref x, .ref li, rv] (upd (upd H dx (.own x)) x (.ins C dx [])) (fun v H3 => v = .non ∧ Q x H3) E := fun x dx nx ndx nex => by
  have S2 : Same H (upd (upd H dx (.own x)) x (.ins C dx [])) := (sNew ndx).trans (sNew (by rw [upd_ne (Ne.symm nex)]; exact nx))
  exact ⟨x, dx, _, _, rfl, upd_same, .inr ⟨li, cu, t, us, gs, n0, n1, n2, c3, some rs, rfl, L.same S2, hz, cuSame S2 hc, hr.same S2, fun i s H' e h1 h2 h3 => bad i s H' e h1 (S2.trans h2) h3, fun evs tt ts A H' h1 h2 h3 h4 h5 => ⟨rfl, good evs x tt ts A H' (Option.some.inj h1) h2 h3 (fun b o e => h4 _ _ (S2 _ _ e) (ne_of_none e nx)) h5⟩⟩⟩
end My
set_option Elab.async false
set_option linter.all false
set_option maxRecDepth 100000
set_option maxHeartbeats 1000000
namespace My
open PySem L2 Dw
open C8 (pss_cut tCut)
def spToldR (CC CL : Addr) : Sp := fun vs H Q _ => ∃ (li cu t r : Addr) (us ws : List V) (gs : List Gd) (n0 n1 n2 : Int) (c3 : V) (rs : List Rd), vs = [.ref li, .ref r] ∧ LiAt CL H li cu t us gs ∧ gs.length ≤ 9 ∧ CuAt CC H cu (.int n0) (.int n1) (.int n2) c3 ∧ H r = some (.lst ws) ∧ Paired (RdAt H) ws rs ∧ (∀ x ∈ rs, RdOk x) ∧ rs.length ≤ 300 ∧
  ∀ v H', Same H H' → DueV H' v (runW n0 n1 n2 gs (fam0 gs) 0 rs) → Q v H'
def rowsDE (evs : List Ev) : PyData := sqD false (evs.map evD)
theorem rowsDE_dp {K : PySem.W.Frag} {H : Hp} {t : Addr} {us : List V} {evs : List Ev} (h : H t = some (.tup us)) (p : Paired (EvAt H) us evs) (ok : ∀ e ∈ evs, e.Ok) : Dp K H (.ref t) (rowsDE evs) := dp_tup (SqT.of h) (evs_dp p ok)
theorem rowsDE_self (evs : List Ev) : PyData.eqv (rowsDE evs) (rowsDE evs) = true := sqD_self false fun d hd => by
  obtain ⟨e, _, rfl⟩ := List.mem_map.mp hd
  exact row_self false _
section
variable {P : Program} {w : World} {K : PySem.W.Frag} {mg : Str → Option Value} {base : Heap} {cl : String → Addr}
end
end My
set_option Elab.async false
set_option linter.all false
set_option maxRecDepth 100000
set_option maxHeartbeats 1000000
namespace My
open PySem L2 Dw
open C8 (pss_cut tCut)
theorem runW_app {n0 n1 n2 : Int} {gs : List Gd} {b : List Rd} : ∀ {a : List Rd} {f : Fam} {i : Nat}, runW n0 n1 n2 gs f i (a ++ b) = match runW n0 n1 n2 gs f i a with
    | some q => some q
    | none => runW n0 n1 n2 gs (famOf f a) (i + a.length) b
  | [], f, i => rfl
  | r :: a, f, i => by
    rw [List.cons_append, runW_cons, runW_cons]
    cases faultW n0 n1 n2 gs f r with
    | some s => rfl
    | none =>
      have q := runW_app (n0 := n0) (n1 := n1) (n2 := n2) (gs := gs) (b := b) (a := a) (f := f.add (evOf r)) (i := i + 1)
      rw [show i + 1 + a.length = i + (r :: a).length by simp; omega] at q
      exact q
theorem runW_ix {n0 n1 n2 : Int} {gs : List Gd} : ∀ {a : List Rd} {f : Fam} {i j : Nat} {s : Str}, runW n0 n1 n2 gs f i a = some (j, s) → i ≤ j ∧ j < i + a.length
  | [], _, _, _, _, h => by cases h
  | r :: a, f, i, j, s, h => by
    rw [runW_cons] at h
    cases e : faultW n0 n1 n2 gs f r with
    | some t =>
      rw [e] at h
      cases h
      exact ⟨Nat.le_refl _, by simp⟩
    | none =>
      rw [e] at h
      obtain ⟨h1, h2⟩ := runW_ix (a := a) h
      exact ⟨by omega, by simp; omega⟩
theorem runW_pre {n0 n1 n2 : Int} {gs : List Gd} {rs : List Rd} {n : Nat} (h : ∀ i s, runW n0 n1 n2 gs (fam0 gs) 0 rs = some (i, s) → n ≤ i) : runW n0 n1 n2 gs (fam0 gs) 0 (rs.take n) = none := by
  cases e : runW n0 n1 n2 gs (fam0 gs) 0 (rs.take n) with
  | none => rfl
  | some q =>
    obtain ⟨i, s⟩ := q
    have q := runW_app (n0 := n0) (n1 := n1) (n2 := n2) (gs := gs) (b := rs.drop n) (a := rs.take n) (f := fam0 gs) (i := 0)
    rw [List.take_append_drop, e] at q
    have := h i s q
    have := (runW_ix e).2
    have := List.length_take_le n rs
    omega
theorem mkAft {K : PySem.W.Frag} {H : Hp} {C CC CL CB li cu t x tt : Addr} {us ts vs : List V} {gs : List Gd} {n0 n1 n2 : Int} {c3 : V} {A : RecA} {f : Fam} {evs : List Ev} {rs : List Rd} {E : XK} {Q : VK} (L : LiAt CL H li cu t us gs) (hz : gs.length ≤ 9) (hc : CuAt CC H cu (.int n0) (.int n1) (.int n2) c3)
    (X : RecX C H x li cu tt ts A f evs) (eok : ∀ e ∈ evs, e.Ok) (hp : Paired (RdAt H) vs rs) (rok : ∀ z ∈ rs, RdOk z) (hl : evs.length + rs.length ≤ 300)
    (bad : ∀ i s H' e, runW n0 n1 n2 gs (fam0 gs) 0 (evs.map rowR ++ rs) = some (i, s) → Same H H' → H' e = none → E (.ref CB) (some e) (upd H' e (.xd [("index", .int (i : Nat)), ("what", .str s)])))
    (good : ∀ r' H', runW n0 n1 n2 gs (fam0 gs) 0 (evs.map rowR ++ rs) = none → Same H H' → Q (.ref r') H') : spAfter K C CC CL CB (.ref x :: vs) H Q E :=
  ⟨x, vs, rfl, Nat.le_of_lt (small1000 (by have := hp.length; omega)), fun q hq =>
    have S := sNew (o := .tup vs) hq
    ⟨x, q, li, cu, tt, t, us, ts, vs, gs, n0, n1, n2, c3, A, f, evs, rs, rfl, X.same S, eok, upd_same, L2.Paired.mapP hp fun _ _ h => h.same S, rok, hl, L.same S, hz, cuSame S hc, fun i s H' e h1 h2 h3 => bad i s H' e h1 (S.trans h2) h3, fun r' evs' tt' ts' A' H' h1 h2 h3 h4 h5 => good r' H' h3 (S.trans h4)⟩⟩
def spTA (CC CL : Addr) : Sp := fun vs H Q _ => ∃ (li cu t r : Addr) (us ws : List V) (gs : List Gd) (n0 n1 n2 : Int) (c3 : V) (rs : List Rd) (n : Nat), vs = [.ref li, .ref r, .int (n : Nat)] ∧ LiAt CL H li cu t us gs ∧ gs.length ≤ 9 ∧ CuAt CC H cu (.int n0) (.int n1) (.int n2) c3 ∧ H r = some (.lst ws) ∧ Paired (RdAt H) ws rs ∧ (∀ x ∈ rs, RdOk x) ∧ rs.length ≤ 300 ∧ rs.length ≤ n + 3 ∧
  (∀ i s, runW n0 n1 n2 gs (fam0 gs) 0 rs = some (i, s) → n ≤ i) ∧ ∀ v H', Same H H' → DueV H' v (runW n0 n1 n2 gs (fam0 gs) 0 rs) → Q v H'
section
variable {P : Program} {w : World} {K : PySem.W.Frag} {mg : Str → Option Value} {base : Heap} {cl : String → Addr}
end
end My
set_option Elab.async false
set_option linter.all false
set_option maxRecDepth 100000
set_option maxHeartbeats 1000000
namespace My
open PySem L2 Dw
open C8 (pss_cut tCut)
/-! drawn lives -/
theorem dueGo_snoc {c : Int} {r : Rwd} : ∀ {rs : List Rwd} {bf : Bf} {i : Nat}, dueGo c bf i rs = none → rowW c (bf ++ rs.map keyOf) r = none → dueGo c bf i (rs ++ [r]) = none
  | [], bf, i, _, h => by
    rw [List.map_nil, List.append_nil] at h
    rw [List.nil_append, dueGo_cons, h]
    rfl
  | x :: rs, bf, i, h1, h2 => by
    rw [dueGo_cons] at h1
    rw [List.cons_append, dueGo_cons]
    cases e : rowW c bf x with
    | some s => rw [e] at h1; cases h1
    | none =>
      rw [e] at h1
      refine dueGo_snoc h1 ?_
      rw [List.append_assoc]
      exact h2
def abc : List Str := ["a", "b", "c"]
structure LvOk (n0 : Int) (gs : List Gd) : Prop where
  due : dueGo n0 [] 0 (gs.map mkR) = none
  rok : ∀ g ∈ gs, Rok (mkR g)
  nam : gs.map (·.1) = abc.take gs.length
  one : 1 ≤ gs.length
  thr : gs.length ≤ 3
  age : ∀ g ∈ gs, 0 ≤ g.2.1 ∧ g.2.1 ≤ 50
theorem LvOk.dueW {n0 : Int} {gs : List Gd} (h : LvOk n0 gs) : dueW n0 (gs.map mkR) = none := by
  unfold My.dueW
  rw [if_neg (by rw [List.length_map]; have := h.one; have := h.thr; omega)]
  exact h.due
theorem abc_at : ∀ (n : Nat) (s : Str), abc[n]? = some s → isN (.str s) = true ∧ Sc (.str s) := by
  intro n s h
  match n, h with
  | 0, h => cases h; exact ⟨by decide +kernel, by decide, by decide +kernel, by decide +kernel⟩
  | 1, h => cases h; exact ⟨by decide +kernel, by decide, by decide +kernel, by decide +kernel⟩
  | 2, h => cases h; exact ⟨by decide +kernel, by decide, by decide +kernel, by decide +kernel⟩
  | n + 3, h => simp [abc] at h
theorem abc_new : ∀ (n : Nat) (s : Str), abc[n]? = some s → s ∉ abc.take n := by
  intro n s h
  match n, h with
  | 0, h => simp
  | 1, h => cases h; decide +kernel
  | 2, h => cases h; decide +kernel
  | n + 3, h => simp [abc] at h
theorem keys_gs (gs : List Gd) : (gs.map mkR).map keyOf = gs.map fun g => (g.1, g.2.1) := by
  rw [List.map_map]
  rfl
theorem look_nomem {s : Str} : ∀ {L : Bf}, s ∉ L.map (·.1) → L.lookup s = none
  | [], _ => rfl
  | (t, a) :: L, h => by
    simp only [List.map_cons, List.mem_cons, not_or] at h
    rw [List.lookup_cons, show (s == t) = false from beq_eq_false_iff_ne.mpr h.1]
    exact look_nomem h.2
theorem LvOk.snoc {n0 : Int} {gs : List Gd} (h : LvOk n0 gs) (hl : gs.length < 3) {nm : Str} (hn : abc[gs.length]? = some nm) {a : Int} (ha : 0 ≤ a ∧ a ≤ 50) {p : V} (hp : p = .non ∨ ∃ s e, p = .str s ∧ Sc (.str s) ∧ (gs.map fun g => (g.1, g.2.1)).lookup s = some e ∧ ¬ e - a < n0) : LvOk n0 (gs ++ [(nm, a, p)]) := by
  obtain ⟨q1, q2⟩ := abc_at _ _ hn
  refine ⟨?_, fun g hg => ?_, ?_, by rw [List.length_append]; simp, by rw [List.length_append]; simp; omega, fun g hg => ?_⟩
  · rw [List.map_append]
    refine dueGo_snoc h.due ?_
    rw [List.nil_append, keys_gs]
    show (if isN (.str nm) = false then some ("name" : Str) else if (ageOf (gs.map fun g => (g.1, g.2.1)) (.str nm)).isSome = true then some ("double" : Str) else rowA n0 (gs.map fun g => (g.1, g.2.1)) (.int a) p) = none
    rw [if_neg (by rw [q1]; decide)]
    have nl : (gs.map fun g => (g.1, g.2.1)).lookup nm = none := look_nomem (by rw [List.map_map]; show nm ∉ gs.map (·.1); rw [h.nam]; exact abc_new _ _ hn)
    rw [if_neg (by show ¬ (List.lookup nm (gs.map fun g => (g.1, g.2.1))).isSome = true; rw [nl]; intro z; cases z)]
    unfold rowA
    rw [if_neg (by simp [isW]; omega)]
    rcases hp with rfl | ⟨s, e, rfl, _, he, hy⟩
    · exact if_pos rfl
    · rw [if_neg (fun z => by cases z)]
      show rowP n0 (.int a) (List.lookup s (gs.map fun g => (g.1, g.2.1))) = none
      rw [he]
      exact if_neg hy
  · rcases List.mem_append.mp hg with hg | hg
    · exact h.rok g hg
    · rw [show g = (nm, a, p) by simpa using hg]
      refine ⟨by show 3 ≤ 5; decide, fun x hx => ?_⟩
      rcases (show x = .str nm ∨ x = .int a ∨ x = p by simpa using hx) with rfl | rfl | rfl
      · exact q2
      · trivial
      · rcases hp with rfl | ⟨s, e, rfl, sc, _⟩
        · trivial
        · exact sc
  · rw [List.map_append, h.nam, List.length_append]
    show abc.take gs.length ++ [nm] = abc.take (gs.length + 1)
    exact (take_snoc hn).symm
  · rcases List.mem_append.mp hg with hg | hg
    · exact h.age g hg
    · rw [show g = (nm, a, p) by simpa using hg]
      exact ha
end My
set_option Elab.async false
set_option linter.all false
set_option maxRecDepth 100000
set_option maxHeartbeats 1000000
namespace My
open PySem L2 Dw
open C8 (pss_cut tCut)
theorem bc_at {kk i : Nat} {v : V} (h : ([V.str "b", .str "c"].take kk)[i]? = some v) : ∃ nm, v = .str nm ∧ abc[i + 1]? = some nm ∧ i < 2 := by
  rw [List.getElem?_take] at h
  split at h
  · match i, h with
    | 0, h => exact ⟨"b", (Option.some.inj h).symm, rfl, by decide⟩
    | 1, h => exact ⟨"c", (Option.some.inj h).symm, rfl, by decide⟩
    | i + 2, h => simp at h
  · cases h
theorem look_in {g : Gd} : ∀ {gs : List Gd}, g ∈ gs → ∃ e, (gs.map fun g => (g.1, g.2.1)).lookup g.1 = some e
  | x :: gs, h => by
    rw [List.map_cons, List.lookup_cons]
    cases e : g.1 == x.1 with
    | true => exact ⟨_, rfl⟩
    | false =>
      rcases List.mem_cons.mp h with rfl | h
      · rw [beq_self_eq_true] at e; cases e
      · exact look_in h
def ageT (H : Hp) (s : Str) : V → Option V
  | .ref b => match H b with
    | some (.tup (x :: y :: _)) => if x = .str s then some y else none
    | _ => none
  | _ => none
def agesG (gs : List Gd) (s : Str) : List Int := gs.filterMap fun g => if g.1 = s then some g.2.1 else none
theorem ageT_at {H : Hp} {s : Str} {b : Addr} {g : Gd} (h : H b = some (.tup [.str g.1, .int g.2.1, g.2.2])) : ageT H s (.ref b) = if g.1 = s then some (.int g.2.1) else none := by
  simp only [ageT, h]
  show (if V.str g.1 = .str s then some (V.int g.2.1) else none) = _
  by_cases e : g.1 = s
  · rw [if_pos (congrArg V.str e), if_pos e]
  · rw [if_neg (fun z => e (V.str.inj z)), if_neg e]
theorem ages_tup {H : Hp} {s : Str} : ∀ {us : List V} {gs : List Gd}, Paired (TupAt H) us (gs.map mkR) → us.filterMap (ageT H s) = (agesG gs s).map V.int
  | _, [], h => by cases h; rfl
  | _, g :: gs, h => by
    cases h with
    | cons x t =>
      obtain ⟨b, rfl, hb⟩ := tup0 x
      have ih := ages_tup (s := s) t
      unfold agesG at ih ⊢
      rw [List.filterMap_cons, List.filterMap_cons, ageT_at hb, ih]
      by_cases e : g.1 = s
      · rw [if_pos e, if_pos e]; rfl
      · rw [if_neg e, if_neg e]
theorem ages_hd {s : Str} : ∀ gs : List Gd, (agesG gs s).head? = (gs.map fun g => (g.1, g.2.1)).lookup s
  | [] => rfl
  | g :: gs => by
    have ih := ages_hd (s := s) gs
    unfold agesG at ih ⊢
    rw [List.filterMap_cons, List.map_cons, List.lookup_cons]
    by_cases e : g.1 = s
    · rw [if_pos e, show (s == g.1) = true from beq_iff_eq.mpr e.symm]; rfl
    · rw [if_neg e, show (s == g.1) = false from beq_eq_false_iff_ne.mpr (Ne.symm e)]
      exact ih
def spLives : Sp := fun vs H Q _ => ∃ (d c ct : Addr) (n0 : Int) (cs : List V), vs = [.ref d, .ref ct] ∧ Dr H d c ∧ H ct = some (.tup (.int n0 :: cs)) ∧
  ∀ (r : Addr) (us : List V) (gs : List Gd) (H' : Hp), H r = none → H' r = some (.lst us) → Paired (TupAt H') us (gs.map mkR) → LvOk n0 gs → Dr H' d c → But d H H' → Q (.ref r) H'
theorem fdiv_hi {m : Int} (h0 : 0 ≤ m) (h1 : m < 6) : ∃ k : Nat, (m + 1) / 3 = (k : Int) ∧ k ≤ 2 := ⟨((m + 1) / 3).toNat, by omega, by omega⟩
section
variable {P : Program} {w : World} {K : PySem.W.Frag} {mg : Str → Option Value} {base : Heap} {cl : String → Addr}
theorem ok_lives {f : Addr} {fd : FuncData} (F : Fun K "_law_lives" "_law_lives" s_lives f fd) (T : Txt P w K mg cl) : FnOk P w K mg base CX0 2 f fd ["_law_draws", "_law_customs_here"] spLives := by
  refine F.ok sc_lives (fun vs H Q E h => ?_) (fun cdv A outer s H vs Q E hr h => ?_)
  · obtain ⟨d, c, ct, n0, cs, rfl, _⟩ := h
    rfl
  · obtain ⟨d, c, ct, n0, cs, rfl, D, hct, k⟩ := h
    have hu := hu_of hr
    have C_next : Cal P w K mg base CX0 1 "_law_next" _ spNext := cal_next T
    refine ⟨_, (pss_cons (ps_set (i := 2) sc_lives.nd rfl (Or.inl rfl) (pe_lst (pa_cons (pe_tup (pa_cons pe_str (pa_cons (pe_op op_add pe_int (pe_cal C_next (hr.mono (by decide)) (pa_cons (pv 0) (pa_cons pe_int pa_nil)))) (pa_cons pe_non pa_nil)))) pa_nil)))
        (pss_cons (ps_set (i := 3) sc_lives.nd rfl (Or.inl rfl) (pe_cal C_next (hr.mono (by decide)) (pa_cons (pv 0) (pa_cons pe_int pa_nil))))
        (pss_cons (ps_for PassesOwn.never rfl (pi_list (pe_slice sl_list (pe_lst (pa_cons pe_str (pa_cons pe_str pa_nil))) po_none (po_some (pe_op op_fdiv (pe_op op_add (pv 3) pe_int) pe_int)))) (pg_name (i := 4) sc_lives.nd rfl (Or.inl rfl))
          (pss_cons (ps_set (i := 5) sc_lives.nd rfl (Or.inr rfl) (pe_ix ix_list (pe_lst (pa_cons pe_non (pa_cons pe_str (pa_cons (pe_ix ix_tup (pe_ix ix_list (pv 2) (pe_un un_neg pe_int) (fun _ _ => rfl)) pe_int (fun _ _ => rfl)) pa_nil)))) (pe_cal C_next (hr.mono (by decide)) (pa_cons (pv 0) (pa_cons pe_int pa_nil))) (fun _ _ => rfl)))
            (pss_cons (ps_set (i := 6) sc_lives.nd rfl (Or.inl rfl) (pe_cal C_next (hr.mono (by decide)) (pa_cons (pv 0) (pa_cons pe_int pa_nil))))
            (pss_cut (ps_if (pt_cmpR op_notN (pv 5) pe_non (nomark _))
              (pss_cons (ps_set (i := 7) sc_lives.nd rfl (Or.inl rfl) (pe_ix ix_list (pe_lc (own := [("_law_x", 8)]) (g := gName 8)  rfl sc_lives.nd (pi_list (pv 2)) (blkOk_by (own := [("_law_x", 8)]) (N := ["_law_draws", "_law_customs_here", "_law_rows_here", "_law_many", "_law_name", "_law_parent", "_law_age", "_law_elder", "_law_x"]) (sc := defScope s_lives) (by decide +kernel)) (fun _ _ _ _ _ => pg_name (i := 8) sc_lives.nd rfl (Or.inl rfl)) (fun _ _ _ _ _ => pts_one (pt_cmpR op_eq (pe_ix (ix_tupK (K := K) rfl) (pv 8) pe_int (fun _ _ => rfl)) (pv 5) (nomark _))) (fun _ _ _ _ _ => (pe_ix (ix_tupK (K := K) rfl) (pv 8) pe_int (fun _ _ => rfl)))) pe_int (fun _ _ => rfl)))
                (pss_cons (ps_set (i := 6) sc_lives.nd rfl (Or.inl rfl) (pe_callB (call_min2 rfl) (by rfl) T.n_min (by decide +kernel) (pa_cons (pv 6) (pa_cons (pe_callB (call_max2 rfl) (by rfl) T.n_max (by decide +kernel) (pa_cons pe_int (pa_cons (pe_op op_sub (pv 7) (pe_ix ix_tup (pv 1) pe_int (fun _ _ => rfl))) pa_nil))) pa_nil))))
                (pss_one (ps_if (pt_cmpR op_lt (pe_op op_sub (pv 7) (pv 6)) (pe_ix ix_tup (pv 1) pe_int (fun _ _ => rfl)) (nomark _))
                  (pss_one (ps_set (i := 5) sc_lives.nd rfl (Or.inr rfl) pe_non)) pss_nil)))) pss_nil)
            (pss_one (ps_expr (pe_app1 (by exact (pv 2)) (by exact (pa_cons (pe_tup (pa_cons (pv 4) (pa_cons (pv 6) (pa_cons (pv 5) pa_nil)))) pa_nil)))))))))
        (pss_one (ps_ret (pv 2)))))), ?_⟩
    refine ⟨_, rfl, d, c, _, rfl, D, by decide, by decide, fun j H1 j0 j1 D1 B1 => ⟨_, _, rfl, rfl, by show 3 ≤ sizeLine; decide, fun t ht => ⟨by show 1 ≤ sizeLine; decide, fun r hr1 => ?_⟩⟩⟩
    have D2 := (D1.new (o := .tup [.str "a", .int (20 + j), .non]) ht).new (o := .lst [.ref t]) hr1
    have B2 : But d H (upd (upd H1 t (.tup [.str "a", .int (20 + j), .non])) r (.lst [.ref t])) := B1.trans (But.of ((sNew ht).trans (sNew hr1)))
    have L0 : LvOk n0 [("a", 20 + j, .non)] := by
      refine ⟨?_, ?_, rfl, Nat.le_refl 1, Nat.le_of_ble_eq_true rfl, ?_⟩
      · show dueGo n0 [] 0 ([] ++ [mkR ("a", 20 + j, .non)]) = none
        refine dueGo_snoc rfl ?_
        show (if isN (.str "a") = false then some ("name" : Str) else if (ageOf [] (.str "a")).isSome = true then some ("double" : Str) else rowA n0 [] (.int (20 + j)) .non) = none
        rw [if_neg (by decide +kernel), if_neg (by decide)]
        unfold rowA
        rw [if_neg (by simp [isW]; omega), if_pos rfl]
      · intro g hg
        rw [show g = (("a", 20 + j, .non) : Gd) by simpa using hg]
        refine ⟨by show 3 ≤ 5; decide, fun x hx => ?_⟩
        rcases (show x = .str "a" ∨ x = .int (20 + j) ∨ x = .non by simpa using hx) with rfl | rfl | rfl
        · exact (abc_at 0 "a" rfl).2
        · trivial
        · trivial
      · intro g hg
        rw [show g = (("a", 20 + j, .non) : Gd) by simpa using hg]
        exact (⟨by omega, by omega⟩ : 0 ≤ 20 + j ∧ 20 + j ≤ 50)
    have nrd : r ≠ d := Ne.symm ((D1.new (o := .tup [.str "a", .int (20 + j), .non]) ht).ne hr1).1
    have nrc : r ≠ c := Ne.symm ((D1.new (o := .tup [.str "a", .int (20 + j), .non]) ht).ne hr1).2
    have hrH : H r = none := by
      cases e : H r with
      | none => rfl
      | some o =>
        have nrd : r ≠ d := Ne.symm ((D1.new (o := .tup [.str "a", .int (20 + j), .non]) ht).ne hr1).1
        rw [sNew ht _ _ (B1 _ _ e nrd)] at hr1
        cases hr1
    have hr2 : (upd (upd H1 t (.tup [.str "a", .int (20 + j), .non])) r (.lst [.ref t])) r = some (.lst [.ref t]) := upd_same
    have hp2 : Paired (TupAt (upd (upd H1 t (.tup [.str "a", .int (20 + j), .non])) r (.lst [.ref t]))) [.ref t] (([("a", 20 + j, .non)] : List Gd).map mkR) := .cons ⟨t, _, rfl, rfl, sNew hr1 _ _ upd_same⟩ .nil
    generalize upd (upd H1 t (.tup [.str "a", .int (20 + j), .non])) r (.lst [.ref t]) = H2 at D2 B2 hr2 hp2
    clear ht hr1 D1 B1
    refine ⟨_, rfl, d, c, _, rfl, D2, by decide, by decide, fun m H3 m0 m1 D3 B3 => ?_⟩
    obtain ⟨kk, hk, hk2⟩ := fdiv_hi m0 m1
    refine ⟨by show 2 ≤ sizeLine; decide, fun q hq => ⟨_, rfl, _, _, rfl, rfl, _, _, rfl, rfl, ⟨by decide, by decide⟩, _, rfl, q, _, rfl, SqL.of upd_same, fun l hl => ?_⟩⟩
    rw [show cutV [V.str "b", .str "c"] none (some ((m + 1) / 3)) = [V.str "b", .str "c"].take kk by rw [hk]; exact cut_take _ kk]
    have D4 := (D3.new (o := .lst [.str "b", .str "c"]) hq).new (o := .lst ([V.str "b", .str "c"].take kk)) hl
    have S4 : Same H3 (upd (upd H3 q (.lst [.str "b", .str "c"])) l (.lst ([V.str "b", .str "c"].take kk))) := (sNew hq).trans (sNew hl)
    have r3 := butLst D2 B3 hr2
    have nlr : r ≠ l := ne_of_none (sNew hq _ _ r3) hl
    have hl4 : (upd (upd H3 q (.lst [.str "b", .str "c"])) l (.lst ([V.str "b", .str "c"].take kk))) l = some (.lst ([V.str "b", .str "c"].take kk)) := upd_same
    have P4 : Paired (TupAt (upd (upd H3 q (.lst [.str "b", .str "c"])) l (.lst ([V.str "b", .str "c"].take kk)))) [.ref t] (([("a", 20 + j, .non)] : List Gd).map mkR) := L2.Paired.mapP hp2 fun _ _ h => h.keep fun b xs e => S4 _ _ (butTup D2 B3 e)
    have B4 := (B2.trans B3).trans (But.of S4)
    have r4 := S4 _ _ r3
    generalize upd (upd H3 q (.lst [.str "b", .str "c"])) l (.lst ([V.str "b", .str "c"].take kk)) = H4 at D4 S4 hl4 P4 B4 r4
    clear hl hq D3 B3 D2 hr2 hp2 r3 S4
    refine ⟨l, rfl, ⟨_, SqL.of hl4⟩, for_list (K := K) (a := l) (xs := [V.str "b", .str "c"].take kk) (fun i σ H' => Dr H' d c ∧ But d H H' ∧ H' l = some (.lst ([V.str "b", .str "c"].take kk)) ∧ (∃ us gs, H' r = some (.lst us) ∧ Paired (TupAt H') us (gs.map mkR) ∧ LvOk n0 gs ∧ gs.length = i + 1) ∧ ∃ (v4 v5 v6 v7 : Option V), σ = [some (.ref d), some (.ref ct), some (.ref r), some (.int m), v4, v5, v6, v7, none]) ⟨D4, B4, hl4, ⟨_, _, r4, P4, L0, rfl⟩, _, _, _, _, rfl⟩ (fun i σ H' _ q => SqL.of q.2.2.1) ?_ ?_⟩
    · rintro i v σ H' hv ⟨D5, B5, hl5, ⟨us, gs, hr5, hp5, L5, hg⟩, v4, v5, v6, v7, rfl⟩
      obtain ⟨nm, rfl, hnm, hi2⟩ := bc_at hv
      obtain ⟨gl, hgl⟩ : ∃ g, gs[i]? = some g := ⟨_, List.getElem?_eq_getElem (by omega)⟩
      have hgR : (gs.map mkR)[i]? = some (mkR gl) := by rw [List.getElem?_map, hgl]; rfl
      obtain ⟨u, hu1, hut⟩ := Paired.at' hp5 hgR
      obtain ⟨b, rfl, hb⟩ := tup0 hut
      have hul : us.length = i + 1 := by have := hp5.length; rw [List.length_map] at this; omega
      have hlast : atI us (-1) = some (.ref b) := by
        rcases List.eq_nil_or_concat us with rfl | ⟨us', x, rfl⟩
        · simp at hul
        · rw [List.concat_eq_append] at hu1 hul ⊢
          have : us'.length = i := by simpa using hul
          rw [← this] at hu1
          rw [atI_last, show x = .ref b by simpa using hu1]
      refine ⟨_, rfl, _, rfl, _, _, _, _, rfl, rfl, SqL.of hr5, hlast, _, _, _, _, rfl, rfl, SqT.of hb, atI_nat (j := 0) rfl, by show 3 ≤ sizeLine; decide, fun q2 hq2 => ⟨_, rfl, d, c, _, rfl, D5.new hq2, by decide, by decide, fun j3 H6 p0 p1 D6 B6 => ?_⟩⟩
      obtain ⟨m3, rfl⟩ : ∃ m3 : Nat, j3 = (m3 : Int) := ⟨j3.toNat, by omega⟩
      have hpar : ∃ pv, ([.non, .str "a", .str gl.1] : List V)[m3]? = some pv ∧ (pv = .non ∨ ∃ s, pv = .str s ∧ Sc (.str s) ∧ ∃ e, (gs.map fun g => (g.1, g.2.1)).lookup s = some e) := by
        have sc : ∀ g ∈ gs, Sc (.str g.1) := fun g hg => (L5.rok g hg).2 _ (by simp)
        match m3, p1 with
        | 0, _ => exact ⟨_, rfl, .inl rfl⟩
        | 1, _ =>
          obtain ⟨g, hg1, hg2⟩ : ∃ g ∈ gs, g.1 = "a" := by
            have : ("a" : Str) ∈ gs.map (·.1) := by rw [L5.nam, hg]; exact List.mem_cons_self
            obtain ⟨g, h1, h2⟩ := List.mem_map.mp this
            exact ⟨g, h1, h2⟩
          obtain ⟨e, he⟩ := look_in hg1
          rw [hg2] at he
          exact ⟨_, rfl, .inr ⟨_, rfl, hg2 ▸ sc g hg1, e, he⟩⟩
        | 2, _ => exact ⟨_, rfl, .inr ⟨_, rfl, sc gl (List.mem_of_getElem? hgl), look_in (List.mem_of_getElem? hgl)⟩⟩
        | m + 3, h => exact absurd h (by omega)
      obtain ⟨pv, hpv, hpc⟩ := hpar
      refine ⟨_, _, _, _, rfl, rfl, SqL.of (butLst (D5.new hq2) B6 upd_same), atI_nat hpv, ?_⟩
      refine ⟨_, rfl, d, c, _, rfl, D6, by decide, by decide, fun a0 H7 a1 a2 D7 B7 => ?_⟩
      have S2 := sNew (o := .lst [.non, .str "a", .str gl.1]) hq2
      have B67 := B6.trans B7
      have tl : ∀ {b xs}, H' b = some (.lst xs) → H7 b = some (.lst xs) := fun e => butLst (D5.new (o := .lst [.non, .str "a", .str gl.1]) hq2) B67 (S2 _ _ e)
      have tt : ∀ {b xs}, H' b = some (.tup xs) → H7 b = some (.tup xs) := fun e => butTup (D5.new (o := .lst [.non, .str "a", .str gl.1]) hq2) B67 (S2 _ _ e)
      have B7' := B5.trans ((But.of S2).trans B67)
      have hr7 := tl hr5
      have hl7 := tl hl5
      have hp7 : Paired (TupAt H7) us (gs.map mkR) := L2.Paired.mapP hp5 fun _ _ h => h.keep fun _ _ => tt
      clear hq2 D6 B6 B7 hl5 hr5 hp5 S2 B67 tl tt B5 D5
      refine ⟨fun σ' H'' => ∃ (a : Int) (p : V) (e : Option V), σ' = [some (.ref d), some (.ref ct), some (.ref r), some (.int m), some (.str nm), some p, some (.int a), e, none] ∧ 0 ≤ a ∧ a ≤ 50 ∧ (p = .non ∨ ∃ s e, p = .str s ∧ Sc (.str s) ∧ (gs.map fun g => (g.1, g.2.1)).lookup s = some e ∧ ¬ e - a < n0) ∧ Same H7 H'', ?_, ?_⟩
      · rcases hpc with rfl | ⟨s, rfl, scs, el, hel⟩
        · exact ⟨_, rfl, rfl, _, rfl, iteF ⟨a0, .non, v7, rfl, a1, by omega, .inl rfl, Same.refl _⟩⟩
        · have hus : us.length < sizeLine := small1000 (by omega)
          refine ⟨_, rfl, rfl, _, rfl, iteT ⟨_, rfl, r, rfl, ⟨_, SqL.of hr7⟩, fun DD hD => lc_list (xs := us) (PvF H7 DD us (ageT H7 s)) rfl (fun i H' _ q => by rw [q]; exact SqL.of (by rw [upd_ne (ne_of_none hr7 hD)]; exact hr7)) ?_ ?_⟩⟩
          · rintro i v H' hv rfl
            obtain ⟨x, hx, hvx⟩ := Paired.at hp7 hv
            obtain ⟨g, _, rfl⟩ := List.mem_map.mp (List.mem_of_getElem? hx)
            obtain ⟨b2, rfl, hb2⟩ := tup0 hvx
            have hbD : SqT K (upd H7 DD (.lst ((us.take i).filterMap (ageT H7 s)))) b2 [.str g.1, .int g.2.1, g.2.2] := SqT.of (by rw [upd_ne (ne_of_none hb2 hD)]; exact hb2)
            refine ⟨rfl, _, rfl, _, _, _, _, rfl, rfl, hbD, atI_nat (j := 0) rfl, _, rfl, rfl, _, rfl, ?_⟩
            refine ite2 (fun e => ?_) (fun e => ?_)
            · have e : g.1 = s := V.str.inj (of_decide_eq_true e)
              exact ⟨_, rfl, _, _, _, _, rfl, rfl, hbD, atI_nat (j := 1) rfl, fm_put hv (by rw [ageT_at hb2, if_pos e]) hus⟩
            · exact fm_skip hv (by rw [ageT_at hb2, if_neg (fun z => e (decide_eq_true (congrArg V.str z)))])
          · intro H' q
            obtain rfl := fm_end q
            rw [ages_tup hp7]
            have SD := sNew (o := .lst ((agesG gs s).map V.int)) hD
            have hh := ages_hd (s := s) gs
            rw [hel] at hh
            cases hag : agesG gs s with
            | nil => rw [hag] at hh; cases hh
            | cons e0 es =>
              rw [hag] at hh SD
              cases hh
              have hct9 := SD _ _ (butTup D B7' hct)
              refine ⟨_, _, _, _, rfl, rfl, SqL.of upd_same, atI_nat (j := 0) rfl, ?_⟩
              refine ⟨_, rfl, _, rfl, _, rfl, _, _, _, _, rfl, rfl, SqT.of hct9, atI_nat (j := 0) rfl, _, _, rfl, rfl, _, _, rfl, _, _, rfl, ?_⟩
              refine ⟨_, rfl, _, rfl, _, _, rfl, rfl, _, rfl, _, _, _, _, rfl, rfl, SqT.of hct9, atI_nat (j := 0) rfl, _, _, rfl, rfl, _, rfl, ?_⟩
              have fin : ∀ (x : Int), (x = if (if el - n0 > 0 then el - n0 else 0) < a0 then (if el - n0 > 0 then el - n0 else 0) else a0) → 0 ≤ x ∧ x ≤ 50 := fun x hx => by
                rw [hx]
                split <;> split <;> omega
              refine ite2 (fun g => ?_) (fun g => ?_)
              · exact ⟨_, .non, _, rfl, (fin _ rfl).1, (fin _ rfl).2, .inl rfl, SD⟩
              · exact ⟨_, .str s, _, rfl, (fin _ rfl).1, (fin _ rfl).2, .inr ⟨s, el, rfl, scs, hel, fun z => g (decide_eq_true z)⟩, SD⟩
      · rintro σ' H8 ⟨a, p, e, rfl, ha0, ha1, hpp, S8⟩
        refine ⟨_, rfl, .inl ⟨rfl, _, SqL.of (S8 _ _ hr7)⟩, _, rfl, _, rfl, _, rfl, by show 3 ≤ sizeLine; decide, fun t2 ht2 => ?_⟩
        have S9 := S8.trans (sNew (o := .tup [.str nm, .int a, p]) ht2)
        have hr9 := S9 _ _ hr7
        have D9 := D7.same S9
        refine ⟨r, _, _, rfl, rfl, hr9, small1000 (by omega), ?_⟩
        have nt : t2 ≠ r := Ne.symm (ne_of_none (S8 _ _ hr7) ht2)
        refine ⟨D9.upd (Ne.symm nrd) (Ne.symm nrc), fun b o e n => (upd_ne (ne_of_none e hrH)).trans (S9 _ _ (B7' _ _ e n)), (upd_ne (Ne.symm nlr)).trans (S9 _ _ hl7), ⟨us ++ [.ref t2], gs ++ [(nm, a, p)], upd_same, ?_, L5.snoc (by omega) (by rw [hg]; exact hnm) ⟨ha0, ha1⟩ hpp, by rw [List.length_append, hg]; rfl⟩, _, _, _, _, rfl⟩
        rw [List.map_append]
        refine Paired.appendP (L2.Paired.mapP hp7 fun _ _ h => h.keep fun b xs e => (upd_ne (ne_of (S9 _ _ e) hr9 (fun z => nomatch z))).trans (S9 _ _ e)) (.cons ⟨t2, _, rfl, rfl, (upd_ne nt).trans upd_same⟩ .nil)
    · rintro σ H' ⟨D5, B5, hl5, ⟨us, gs, hr5, hp5, L5, hg⟩, v4, v5, v6, v7, rfl⟩
      exact ⟨_, rfl, k r us gs H' hrH hr5 hp5 L5 D5 B5⟩
theorem cal_lives (T : Txt P w K mg cl) : Cal P w K mg base CX0 2 "_law_lives" ["_law_draws", "_law_customs_here"] spLives := by
  obtain ⟨f, fd, F, m⟩ := T.d_lives
  exact ⟨f, fd, ok_lives F T, m, F.kp, F.binds fun _ _ _ _ _ _ us hl => match us, hl with | [_, _], _ => rfl⟩
end
end My
set_option Elab.async false
set_option linter.all false
set_option maxRecDepth 100000
set_option maxHeartbeats 1000000
namespace My
open PySem L2 Dw
open C8 (pss_cut tCut)
/-! drawn rows, plain -/
theorem leP_next {p q : Int × Int × Str} (h : q.1 < p.1) : leP p q = false := by
  unfold leP
  rw [if_neg (by omega)]
  exact decide_eq_false (by omega)
theorem fault_ok {n0 n1 n2 : Int} {gs : List Gd} {f : Fam} {e : Ev} (hm : f.many < 200) (ok : e.Ok) (hl : lastGe f.last e.pl = false) (he : evW n0 n1 n2 gs f e = none) : faultW n0 n1 n2 gs f (rowR e) = none := by
  unfold faultW
  rw [if_neg (by omega), if_neg (by rw [show isRowB (rowR e) = true from isRow_ev ok]; decide), show evOf (rowR e) = e from evOf_row e, if_neg (by rw [hl]; decide)]
  exact he
theorem run_snoc {n0 n1 n2 : Int} {gs : List Gd} {evs : List Ev} {e : Ev} (h : runW n0 n1 n2 gs (fam0 gs) 0 (evs.map rowR) = none) (he : faultW n0 n1 n2 gs (famE gs evs) (rowR e) = none) : runW n0 n1 n2 gs (fam0 gs) 0 ((evs ++ [e]).map rowR) = none := by
  rw [List.map_append, runW_app, h, famOf_map]
  show runW n0 n1 n2 gs (famE gs evs) _ [rowR e] = none
  rw [runW_cons, he]
  rfl
theorem famE_snoc {gs : List Gd} {evs : List Ev} {e : Ev} : famE gs (evs ++ [e]) = (famE gs evs).add e := by
  unfold famE
  rw [List.foldl_append]
  rfl
theorem born_ok {n0 n1 n2 : Int} {gs : List Gd} {f : Fam} {y : Int} {p n : Str} {b : Int} (hb : f.births.lookup p = some b) (hy : b + n0 ≤ y) (hd : ∀ d, f.deaths.lookup p = some d → y ≤ d + n1) (hn : f.parents.lookup n = none) : evW n0 n1 n2 gs f (.born y p n) = none := by
  show bornW n0 n1 f y p n = none
  unfold bornW
  rw [hb]
  show (if y < b + n0 then some ("young" : Str) else if deadW n1 (f.deaths.lookup p) y = true then some ("dead" : Str) else nameW f n) = none
  rw [if_neg (by omega)]
  have e : deadW n1 (f.deaths.lookup p) y = false := by
    cases q : f.deaths.lookup p with
    | none => rfl
    | some d => exact decide_eq_false (by have := hd d q; omega)
  rw [if_neg (by rw [e]; decide)]
  unfold nameW
  rw [if_neg (by rw [hn]; intro z; cases z)]
theorem wed_ok {n0 n1 n2 : Int} {gs : List Gd} {f : Fam} {y : Int} {p n : Str} {b : Int} (hl : hasN gs (.str p) = true) (hd : f.deaths.lookup p = none) (hb : f.births.lookup p = some b) (hy : b + n2 ≤ y) (hn : f.parents.lookup n = none) : evW n0 n1 n2 gs f (.wed y p n) = none := by
  show wedW n2 gs f y p n = none
  unfold wedW
  rw [if_neg (by rw [hl]; decide), if_neg (by rw [hd]; intro z; cases z), hb]
  show (if y < b + n2 then some ("young" : Str) else nameW f n) = none
  rw [if_neg (by omega)]
  unfold nameW
  rw [if_neg (by rw [hn]; intro z; cases z)]
theorem happ_ok {n0 n1 n2 : Int} {gs : List Gd} {f : Fam} {y : Int} {n : Str} (h : f.facts.lookup n = none) : evW n0 n1 n2 gs f (.happ y n) = none := if_neg (by rw [h]; intro z; cases z)
theorem died_ok {n0 n1 n2 : Int} {gs : List Gd} {f : Fam} {y : Int} {p : Str} (h1 : (f.parents.lookup p).isSome = true) (h2 : f.deaths.lookup p = none) : evW n0 n1 n2 gs f (.died y p) = none := by
  show (if (f.parents.lookup p).isSome = false then some ("person" : Str) else if (f.deaths.lookup p).isSome = true then some ("dead" : Str) else none) = none
  rw [if_neg (by rw [h1]; decide), if_neg (by rw [h2]; intro z; cases z)]
end My
set_option Elab.async false
set_option linter.all false
set_option maxRecDepth 100000
set_option maxHeartbeats 1000000
namespace My
open PySem L2 Dw
open C8 (pss_cut tCut)
/-! fresh names -/
def fn1 : List Str := ["q", "r", "s", "t", "u", "v", "w", "x", "y", "z"]
def fn2 : List Str := ["", "a", "b", "c", "d", "e"]
def freshN (k : Nat) : Str := (fn1.getD (k % 10) "") ++ (fn2.getD (k / 10 % 6) "")
def freshB (k : Nat) : Bool := isN (.str (freshN k)) && (!(abc.any fun s => s == freshN k) && (List.range k).all fun j => !(freshN j == freshN k))
theorem fresh_all : ((List.range 60).all freshB) = true := by decide +kernel
theorem fresh_ok {k : Nat} (h : k < 60) : isN (.str (freshN k)) = true ∧ freshN k ∉ abc ∧ ∀ j, j < k → freshN j ≠ freshN k := by
  have q := List.all_eq_true.mp fresh_all k (List.mem_range.mpr h)
  obtain ⟨h1, q⟩ := Bool.and_eq_true_iff.mp (show (isN (.str (freshN k)) && (!(abc.any fun s => s == freshN k) && (List.range k).all fun j => !(freshN j == freshN k))) = true from q)
  obtain ⟨h2, h3⟩ := Bool.and_eq_true_iff.mp q
  refine ⟨h1, fun z => ?_, fun j hj z => ?_⟩
  · have : (abc.any fun s => s == freshN k) = true := List.any_eq_true.mpr ⟨_, z, beq_self_eq_true _⟩
    rw [this] at h2
    cases h2
  · have := List.all_eq_true.mp h3 j (List.mem_range.mpr hj)
    rw [z, beq_self_eq_true] at this
    cases this
theorem fn1_at (k : Nat) : fn1[k % 10]? = some (fn1.getD (k % 10) "") := by
  have h : k % 10 < fn1.length := Nat.mod_lt _ (by decide)
  rw [List.getD_eq_getElem?_getD, List.getElem?_eq_getElem h]
  rfl
theorem fn2_at (k : Nat) : fn2[k / 10 % 6]? = some (fn2.getD (k / 10 % 6) "") := by
  have h : k / 10 % 6 < fn2.length := Nat.mod_lt _ (by decide)
  rw [List.getD_eq_getElem?_getD, List.getElem?_eq_getElem h]
  rfl
end My
set_option Elab.async false
set_option linter.all false
set_option maxRecDepth 100000
set_option maxHeartbeats 1000000
namespace My
open PySem L2 Dw
open C8 (pss_cut tCut)
/-! two hundred rows, plain -/
def cs20 : List Nat := ("abcdefghijklmnopqrst" : Str).cps.toList
def nmM (k : Nat) : Str := ⟨#[cs20.getD (k / 20) 0]⟩ ++ ⟨#[cs20.getD (k % 20) 0]⟩
def nmB (k : Nat) : Bool := isN (.str (nmM k)) && (List.range k).all fun j => !(nmM j == nmM k)
theorem nmM_all : ((List.range 200).all nmB) = true := by decide +kernel
theorem nmM_ok {k : Nat} (h : k < 200) : isN (.str (nmM k)) = true ∧ ∀ j, j < k → nmM j ≠ nmM k := by
  have q := List.all_eq_true.mp nmM_all k (List.mem_range.mpr h)
  obtain ⟨h1, h3⟩ := Bool.and_eq_true_iff.mp (show (isN (.str (nmM k)) && (List.range k).all fun j => !(nmM j == nmM k)) = true from q)
  refine ⟨h1, fun j hj z => ?_⟩
  have := List.all_eq_true.mp h3 j (List.mem_range.mpr hj)
  rw [z, beq_self_eq_true] at this
  cases this
def evM (k : Nat) : Ev := .happ (1 + (k : Int)) (nmM k)
def evsM (n : Nat) : List Ev := (List.range n).map evM
theorem evsM_succ (n : Nat) : evsM (n + 1) = evsM n ++ [evM n] := by
  unfold evsM
  rw [List.range_succ, List.map_append]
  rfl
theorem evM_ok {k : Nat} (h : k < 200) : (evM k).Ok := ⟨by show (1 : Int) ≤ 1 + k; omega, by show 1 + (k : Int) ≤ 1000000000; omega, fun s hs => by rw [show s = nmM k by simpa [evM, Ev.tl] using hs]; exact (nmM_ok h).1⟩
theorem runM_ok {n0 n1 n2 : Int} {gs : List Gd} : ∀ n, n ≤ 200 → runW n0 n1 n2 gs (fam0 gs) 0 ((evsM n).map rowR) = none ∧ (famE gs (evsM n)).many = n ∧ (∀ q, (famE gs (evsM n)).last = some q → q.1 ≤ n) ∧ ∀ s, (∀ j, j < n → nmM j ≠ s) → (famE gs (evsM n)).facts.lookup s = none := fun n => by
  induction n with
  | zero =>
    intro _
    obtain ⟨m0, m1, m2, m3, m4⟩ := fam0_many gs
    refine ⟨rfl, m0, fun q hq => ?_, fun s _ => ?_⟩
    · have hq : (fam0 gs).last = some q := hq
      rw [m4] at hq
      cases hq
    · show (fam0 gs).facts.lookup s = none
      rw [m3]
      rfl
  | succ n ih =>
    intro hn
    obtain ⟨h1, h2, h3, h4⟩ := ih (by omega)
    have ok := evM_ok (k := n) (by omega)
    have inj := (nmM_ok (k := n) (by omega)).2
    have hl : lastGe (famE gs (evsM n)).last (evM n).pl = false := by
      cases e : (famE gs (evsM n)).last with
      | none => rfl
      | some q =>
        refine leP_next ?_
        show q.1 < 1 + (n : Int)
        have := h3 q e
        omega
    have hf := fault_ok (n0 := n0) (n1 := n1) (n2 := n2) (gs := gs) (by rw [h2]; omega) ok hl (happ_ok (h4 _ inj))
    rw [evsM_succ, famE_snoc]
    refine ⟨run_snoc h1 hf, by show (famE gs (evsM n)).many + 1 = n + 1; rw [h2], fun q hq => ?_, fun s hs => ?_⟩
    · have hq : some (evM n).pl = some q := hq
      cases hq
      show 1 + (n : Int) ≤ ((n + 1 : Nat) : Int)
      omega
    · show (put (famE gs (evsM n)).facts (nmM n) (1 + (n : Int))).lookup s = none
      rw [look_put, if_neg (fun z => hs n (Nat.lt_succ_self n) z.symm)]
      exact h4 s fun j hj => hs j (Nat.lt_succ_of_lt hj)
end My
set_option Elab.async false
set_option linter.all false
set_option maxRecDepth 100000
set_option maxHeartbeats 1000000
namespace My
open PySem L2 Dw
open C8 (pss_cut tCut)
/-! what is due, as data -/
theorem word_of {o : Option Str} {s t : Str} (h : o = some s) (e : o = some t) (k : PyData.strOk t = true) : PyData.strOk s = true := by
  rw [h] at e
  cases e
  exact k
theorem nameW_word {f : Fam} {n s : Str} (h : nameW f n = some s) : PyData.strOk s = true := by
  unfold nameW at h
  split at h
  · cases h; decide +kernel
  · cases h
theorem evW_word {n0 n1 n2 : Int} {gs : List Gd} {f : Fam} {e : Ev} {s : Str} (h : evW n0 n1 n2 gs f e = some s) : PyData.strOk s = true := by
  cases e with
  | born y p n =>
    have h : bornW n0 n1 f y p n = some s := h
    unfold bornW at h
    split at h
    · cases h; decide +kernel
    split at h
    · cases h; decide +kernel
    split at h
    · cases h; decide +kernel
    · exact nameW_word h
  | wed y l n =>
    have h : wedW n2 gs f y l n = some s := h
    unfold wedW at h
    split at h
    · cases h; decide +kernel
    split at h
    · cases h; decide +kernel
    split at h
    · cases h
    split at h
    · cases h; decide +kernel
    · exact nameW_word h
  | happ y n =>
    have h : (if (f.facts.lookup n).isSome = true then some ("again" : Str) else none) = some s := h
    split at h
    · cases h; decide +kernel
    · cases h
  | died y p =>
    have h : (if (f.parents.lookup p).isSome = false then some ("person" : Str) else if (f.deaths.lookup p).isSome = true then some ("dead" : Str) else none) = some s := h
    split at h
    · cases h; decide +kernel
    split at h
    · cases h; decide +kernel
    · cases h
theorem faultW_word {n0 n1 n2 : Int} {gs : List Gd} {f : Fam} {r : Rd} {s : Str} (h : faultW n0 n1 n2 gs f r = some s) : PyData.strOk s = true := by
  unfold faultW at h
  split at h
  · cases h; decide +kernel
  split at h
  · cases h; decide +kernel
  split at h
  · cases h; decide +kernel
  · exact evW_word h
theorem runW_word {n0 n1 n2 : Int} {gs : List Gd} : ∀ {rs : List Rd} {f : Fam} {i j : Nat} {s : Str}, runW n0 n1 n2 gs f i rs = some (j, s) → PyData.strOk s = true
  | [], _, _, _, _, h => by cases h
  | r :: rs, f, i, j, s, h => by
    rw [runW_cons] at h
    cases e : faultW n0 n1 n2 gs f r with
    | none => rw [e] at h; exact runW_word h
    | some t => rw [e] at h; cases h; exact faultW_word e
def dueDR : Option (Nat × Str) → PyData
  | none => vD .non
  | some (i, s) => sqD false ([V.int (i : Nat), .str s].map vD)
theorem due_datR {K : PySem.W.Frag} {H : Hp} {v : V} {o : Option (Nat × Str)} (w : ∀ i s, o = some (i, s) → PyData.strOk s = true) (h : DueV H v o) : Dp K H v (dueDR o) ∧ SeqAt.shaped (dueDR o) = true ∧ PyData.eqv (dueDR o) (dueDR o) = true := by
  cases o with
  | none =>
    obtain rfl : v = .non := h
    exact ⟨.non, vD_shaped (v := .non) rfl, vD_self .non⟩
  | some q =>
    obtain ⟨i, s⟩ := q
    obtain ⟨t, rfl, ht⟩ := h
    have ok : ∀ x ∈ ([V.int (i : Nat), .str s] : List V), okV x = true := fun x hx => by
      rcases (show x = .int (i : Nat) ∨ x = .str s by simpa using hx) with rfl | rfl
      · rfl
      · exact w _ _ rfl
    exact ⟨dp_tup (SqT.of ht) (dpvs fun x hx => okV.flat (ok x hx)), row_shaped false ok, row_self false _⟩
end My
set_option Elab.async false
set_option linter.all false
set_option maxRecDepth 100000
set_option maxHeartbeats 1000000
namespace My
open PySem L2 Dw
open C8 (pss_cut tCut)
/-! the state of drawn rows, plain -/
theorem hasN_snoc {gs : List Gd} {g : Gd} {s : Str} : hasN (gs ++ [g]) (.str s) = (hasN gs (.str s) || s == g.1) := by
  show (lkA (gs ++ [g]) s).isSome = ((lkA gs s).isSome || s == g.1)
  unfold lkA
  rw [List.map_append, look_app_some (v := V.non), List.map_cons, List.map_nil, List.lookup_cons]
  cases s == g.1 <;> rfl
theorem mem_putK {α : Type} {L : List (Str × α)} {k : Str} {v : α} {q : Str × α} (h : q ∈ put L k v) : q.1 = k ∨ ∃ r ∈ L, r.1 = q.1 := by
  unfold put at h
  split at h
  · obtain ⟨r, hr, e⟩ := List.mem_map.mp h
    refine .inr ⟨r, hr, ?_⟩
    rw [← e]
    split <;> rfl
  · rcases List.mem_append.mp h with h | h
    · exact .inr ⟨q, h, rfl⟩
    · exact .inl (by rw [show q = (k, v) by simpa using h])
theorem put_pos {α : Type} {L : List (Str × α)} {k : Str} {v : α} : 1 ≤ (put L k v).length := by
  have e : (put L k v).lookup k = some v := by rw [look_put, if_pos rfl]
  cases h : put L k v with
  | nil => rw [h] at e; cases e
  | cons q L => rw [List.length_cons]; omega
theorem look_key {α : Type} {s : Str} : ∀ {L : List (Str × α)}, s ∈ L.map (·.1) → ∃ w, L.lookup s = some w
  | [], h => by cases h
  | (t, a) :: L, h => by
    rw [List.lookup_cons]
    cases e : s == t with
    | true => exact ⟨_, rfl⟩
    | false =>
      rcases List.mem_cons.mp (show s ∈ t :: L.map (·.1) from h) with rfl | h
      · rw [beq_self_eq_true] at e; cases e
      · exact look_key h
def kd0 (gs : List Gd) : List (Str × Str) := gs.foldl (fun L g => put L g.1 "life") []
theorem kd0_step (gs : List Gd) (g : Gd) : kd0 (gs ++ [g]) = put (kd0 gs) g.1 "life" := by
  unfold kd0
  rw [List.foldl_append]
  rfl
structure KdOk (gs : List Gd) : Prop where
  key : ∀ s, ((kd0 gs).lookup s).isSome = ((fam0 gs).parents.lookup s).isSome
  lif : ∀ s w, (kd0 gs).lookup s = some w → w = "life" ∧ hasN gs (.str s) = true ∧ ∃ b, (fam0 gs).births.lookup s = some b
  kl : (kd0 gs).length ≤ gs.length
  bl : (fam0 gs).births.length ≤ gs.length
  k1 : gs ≠ [] → 1 ≤ (kd0 gs).length
  mem : ∀ q ∈ kd0 gs, q.1 ∈ gs.map (·.1)
theorem kd0_ok : ∀ (n : Nat) (gs : List Gd), gs.length = n → KdOk gs := fun n => by
  induction n with
  | zero =>
    intro gs h
    cases gs with
    | cons _ _ => cases h
    | nil => exact ⟨fun s => rfl, fun s w h => (by cases h), Nat.le_refl _, Nat.le_refl _, fun h => absurd rfl h, fun q h => (by cases h)⟩
  | succ n ih =>
    intro gs h
    rcases List.eq_nil_or_concat gs with rfl | ⟨es, g, rfl⟩
    · cases h
    · rw [List.concat_eq_append] at h ⊢
      rw [List.length_append] at h
      have q := ih es (by simpa using h)
      refine ⟨fun s => ?_, fun s w h => ?_, ?_, ?_, fun _ => ?_, fun r hr => ?_⟩
      · rw [kd0_step, fam0_step]
        show ((put (kd0 es) g.1 "life").lookup s).isSome = ((put (fam0 es).parents g.1 g.2.2).lookup s).isSome
        rw [look_put, look_put]
        split
        · rfl
        · exact q.key s
      · rw [kd0_step, look_put] at h
        rw [fam0_step]
        show w = "life" ∧ hasN (es ++ [g]) (.str s) = true ∧ ∃ b, (put (fam0 es).births g.1 (-g.2.1)).lookup s = some b
        rw [look_put, hasN_snoc]
        split at h
        · rename_i e
          rw [if_pos e]
          exact ⟨(Option.some.inj h).symm, by rw [show (s == g.1) = true from beq_iff_eq.mpr e, Bool.or_true], _, rfl⟩
        · rename_i e
          rw [if_neg e]
          obtain ⟨h1, h2, h3⟩ := q.lif s w h
          exact ⟨h1, by rw [h2]; rfl, h3⟩
      · rw [kd0_step, List.length_append]
        exact Nat.le_trans put_len (Nat.succ_le_succ q.kl)
      · rw [fam0_step, List.length_append]
        exact Nat.le_trans (put_len (L := (fam0 es).births)) (Nat.succ_le_succ q.bl)
      · rw [kd0_step]
        exact put_pos
      · rw [kd0_step] at hr
        rw [List.map_append]
        rcases mem_putK hr with e | ⟨r2, hr2, e⟩
        · exact List.mem_append_right _ (by rw [e]; exact List.mem_cons_self)
        · exact List.mem_append_left _ (by rw [← e]; exact q.mem _ hr2)
structure DrW (n0 n1 n2 : Int) (gs : List Gd) (evs : List Ev) (B : List (Str × Int)) (Kd : List (Str × Str)) (fs : List Str) (y : Int) (k i : Nat) (lp : Int × Int × Str) : Prop where
  run : runW n0 n1 n2 gs (fam0 gs) 0 (evs.map rowR) = none
  ok : ∀ e ∈ evs, e.Ok
  len : evs.length ≤ i
  key : ∀ s, (Kd.lookup s).isSome = ((famE gs evs).parents.lookup s).isSome
  bir : ∀ s w, Kd.lookup s = some w → ∃ b, B.lookup s = some b ∧ (w ≠ "mate" → (famE gs evs).births.lookup s = some b)
  lif : ∀ s, Kd.lookup s = some ("life" : Str) → hasN gs (.str s) = true
  yr1 : 1 ≤ y
  yr2 : y ≤ 1 + 40000000 * (i : Int)
  lst : ∀ q, (famE gs evs).last = some q → q = lp
  lpy : lp.1 ≤ y
  fk : k ≤ i
  frs : ∀ j, k ≤ j → j < 60 → Kd.lookup (freshN j) = none
  kl : Kd.length ≤ 3 + i
  bl : B.length ≤ 3 + i
  dl : (famE gs evs).deaths.length ≤ i
  k1 : 1 ≤ Kd.length
  nms : ∀ q ∈ Kd, isN (.str q.1) = true
  fct : ∀ s, inV (.str s) (fs.map V.str) = ((famE gs evs).facts.lookup s).isSome
  fl : fs.length ≤ i
  dom : ∀ s w, Kd.lookup s = some w → s ∈ abc ∨ ∃ j, j < 60 ∧ s = freshN j
theorem many_E {gs : List Gd} {evs : List Ev} : (famE gs evs).many = evs.length := by rw [famE_P gs evs.length evs rfl]
theorem drw0 {n0 n1 n2 : Int} {gs : List Gd} (L : LvOk n0 gs) : DrW n0 n1 n2 gs [] (fam0 gs).births (kd0 gs) [] 1 0 0 (0, 0, "") := by
  have q := kd0_ok gs.length gs rfl
  obtain ⟨m0, m1, m2, m3, m4⟩ := fam0_many gs
  have nm : ∀ r ∈ kd0 gs, r.1 ∈ abc := fun r hr => by
    have := q.mem r hr
    rw [L.nam] at this
    exact List.mem_of_mem_take this
  have one := L.one
  have thr := L.thr
  refine ⟨rfl, fun e h => (by cases h), Nat.le_refl 0, q.key, fun s w h => ?_, fun s h => (q.lif s _ h).2.1, by decide, by decide, fun r h => ?_, by decide, Nat.le_refl 0, fun j _ hj => ?_, ?_, ?_, ?_, q.k1 (fun z => by rw [z] at one; cases one), fun r hr => ?_, fun s => ?_, Nat.le_refl 0, fun s w h => .inl (nm _ (look_some_mem h))⟩
  · obtain ⟨h1, h2, b, h3⟩ := q.lif s w h
    exact ⟨b, h3, fun _ => h3⟩
  · have h : (fam0 gs).last = some r := h
    rw [m4] at h
    cases h
  · cases e : (kd0 gs).lookup (freshN j) with
    | none => rfl
    | some w => exact absurd (nm _ (look_some_mem e)) (fresh_ok hj).2.1
  · have := q.kl; omega
  · have := q.bl; omega
  · show (fam0 gs).deaths.length ≤ 0
    rw [m1]
    exact Nat.le_refl 0
  · obtain ⟨n, hn⟩ := List.mem_iff_getElem?.mp (nm r hr)
    exact (abc_at n _ hn).1
  · show false = ((fam0 gs).facts.lookup s).isSome
    rw [m3]
    rfl
theorem DrW.skip {n0 n1 n2 : Int} {gs : List Gd} {evs : List Ev} {B : List (Str × Int)} {Kd : List (Str × Str)} {fs : List Str} {y : Int} {k i : Nat} {lp : Int × Int × Str} (h : DrW n0 n1 n2 gs evs B Kd fs y k i lp) {y' : Int} (h1 : y ≤ y') (h2 : y' ≤ y + 40000000) : DrW n0 n1 n2 gs evs B Kd fs y' k (i + 1) lp :=
  ⟨h.run, h.ok, Nat.le_succ_of_le h.len, h.key, h.bir, h.lif, by have := h.yr1; omega, by have := h.yr2; omega, h.lst, Int.le_trans h.lpy h1, Nat.le_succ_of_le h.fk, h.frs, Nat.le_succ_of_le h.kl, Nat.le_succ_of_le h.bl, Nat.le_succ_of_le h.dl, h.k1, h.nms, h.fct, Nat.le_succ_of_le h.fl, h.dom⟩
def Ev.at (e : Ev) (y : Int) : Ev := match e with
  | .born _ p n => .born y p n
  | .wed _ l n => .wed y l n
  | .happ _ n => .happ y n
  | .died _ p => .died y p
theorem Ev.at_y (e : Ev) (y : Int) : (e.at y).y = y := by cases e <;> rfl
theorem Ev.at_tl (e : Ev) (y : Int) : (e.at y).tl = e.tl := by cases e <;> rfl
theorem Ev.at_k (e : Ev) (y : Int) : (e.at y).k = e.k := by cases e <;> rfl
theorem Ev.at_w (e : Ev) (y : Int) : (e.at y).w = e.w := by cases e <;> rfl
theorem Ev.at_z (e : Ev) (y : Int) : (e.at y).z = e.z := by cases e <;> rfl
theorem Ev.at_row (e : Ev) (y : Int) : (e.at y).row = .str e.w :: .int y :: e.tl.map V.str := by cases e <;> rfl
theorem Ev.row_cut (e : Ev) (y : Int) : (e.row.take 1 ++ [.int y]) ++ e.row.drop 2 = (e.at y).row := by cases e <;> rfl
/-- the fresh name that a row brings -/
def Ev.newN (e : Ev) : Option Str := match e with
  | .born _ _ n => some n
  | .wed _ _ n => some n
  | _ => none
/-- a row that may be put behind -/
structure Cnd (n0 n1 n2 : Int) (gs : List Gd) (f : Fam) (k : Nat) (y : Int) (e : Ev) : Prop where
  nok : ∀ s ∈ e.tl, isN (.str s) = true
  ev : evW n0 n1 n2 gs f e = none
  new : ∀ s, e.newN = some s → s = freshN k
  y : e.y = y
theorem Cnd.bump {n0 n1 n2 : Int} {gs : List Gd} {f : Fam} {k : Nat} {y y' : Int} {e : Ev} (h : Cnd n0 n1 n2 gs f k y e) (hy : y ≤ y') (hb : ∀ p n, e = .born y p n → deadW n1 (f.deaths.lookup p) y' = false) : Cnd n0 n1 n2 gs f k y' (e.at y') := by
  obtain ⟨h1, h2, h3, h4⟩ := h
  cases e with
  | born z p n =>
    obtain rfl : z = y := h4
    refine ⟨h1, ?_, h3, rfl⟩
    have h2 : bornW n0 n1 f z p n = none := h2
    show bornW n0 n1 f y' p n = none
    unfold bornW at h2 ⊢
    cases e : f.births.lookup p with
    | none => rw [e] at h2; cases h2
    | some b =>
      rw [e] at h2
      have h2 : (if z < b + n0 then some ("young" : Str) else if deadW n1 (f.deaths.lookup p) z = true then some ("dead" : Str) else nameW f n) = none := h2
      show (if y' < b + n0 then some ("young" : Str) else if deadW n1 (f.deaths.lookup p) y' = true then some ("dead" : Str) else nameW f n) = none
      split at h2
      · cases h2
      split at h2
      · cases h2
      rw [if_neg (by omega), if_neg (by rw [hb p n rfl]; decide)]
      exact h2
  | wed z p n =>
    obtain rfl : z = y := h4
    refine ⟨h1, ?_, h3, rfl⟩
    have h2 : wedW n2 gs f z p n = none := h2
    show wedW n2 gs f y' p n = none
    unfold wedW at h2 ⊢
    split at h2
    · cases h2
    rename_i g1
    split at h2
    · cases h2
    rename_i g2
    rw [if_neg g1, if_neg g2]
    cases e : f.births.lookup p with
    | none => rfl
    | some b =>
      rw [e] at h2
      have h2 : (if z < b + n2 then some ("young" : Str) else nameW f n) = none := h2
      show (if y' < b + n2 then some ("young" : Str) else nameW f n) = none
      split at h2
      · cases h2
      rw [if_neg (by omega)]
      exact h2
  | happ z n => exact ⟨h1, h2, h3, rfl⟩
  | died z p => exact ⟨h1, h2, h3, rfl⟩
def putB (B : List (Str × Int)) (e : Ev) : List (Str × Int) := match e.newN with
  | some s => put B s e.y
  | none => B
def putKd (Kd : List (Str × Str)) : Ev → List (Str × Str)
  | .born _ _ n => put Kd n "unborn"
  | .wed _ _ n => put Kd n "mate"
  | _ => Kd
def addF (fs : List Str) : Ev → List Str
  | .happ _ n => fs ++ [n]
  | _ => fs
def nxtK (k : Nat) (e : Ev) : Nat := if e.newN.isSome = true then k + 1 else k
theorem inV_snoc {v : V} {x : Str} {xs : List Str} : inV v ((xs ++ [x]).map V.str) = (inV v (xs.map V.str) || eqV (.str x) v) := by
  rw [List.map_append]
  unfold inV
  rw [List.any_append]
  show (_ || (eqV (.str x) v || false)) = _
  rw [Bool.or_false]
theorem eqV_str (x s : Str) : eqV (.str x) (.str s) = (x == s) := rfl
theorem DrW.step {n0 n1 n2 : Int} {gs : List Gd} {evs : List Ev} {B : List (Str × Int)} {Kd : List (Str × Str)} {fs : List Str} {y : Int} {k i : Nat} {lp : Int × Int × Str} {e : Ev} (h : DrW n0 n1 n2 gs evs B Kd fs y k (i + 1) lp) (hi : i < 24) (hl : evs.length ≤ i) (hk : k ≤ i) (hfl : fs.length ≤ i) (hdl : (famE gs evs).deaths.length ≤ i) (hkl : Kd.length ≤ 3 + i) (hbl : B.length ≤ 3 + i) (c : Cnd n0 n1 n2 gs (famE gs evs) k y e) (g : leP e.pl lp = false) :
    DrW n0 n1 n2 gs (evs ++ [e]) (putB B e) (putKd Kd e) (addF fs e) y (nxtK k e) (i + 1) e.pl := by
  have y1 := h.yr1
  have y2 := h.yr2
  have eok : e.Ok := ⟨by rw [c.y]; exact y1, by rw [c.y]; omega, c.nok⟩
  have hls : lastGe (famE gs evs).last e.pl = false := by
    cases q : (famE gs evs).last with
    | none => rfl
    | some r => rw [h.lst r q]; exact g
  have hf := fault_ok (n0 := n0) (n1 := n1) (n2 := n2) (gs := gs) (by rw [many_E]; omega) eok hls c.ev
  have fr := fresh_ok (k := k) (by omega)
  have fnew : Kd.lookup (freshN k) = none := h.frs k (Nat.le_refl _) (by omega)
  have base : ∀ (B' : List (Str × Int)) (Kd' : List (Str × Str)) (fs' : List Str) (k' : Nat),
      (∀ s, (Kd'.lookup s).isSome = (((famE gs evs).add e).parents.lookup s).isSome) →
      (∀ s w, Kd'.lookup s = some w → ∃ b, B'.lookup s = some b ∧ (w ≠ "mate" → ((famE gs evs).add e).births.lookup s = some b)) →
      (∀ s, Kd'.lookup s = some ("life" : Str) → hasN gs (.str s) = true) → k' ≤ i + 1 → (∀ j, k' ≤ j → j < 60 → Kd'.lookup (freshN j) = none) → Kd'.length ≤ 3 + (i + 1) → B'.length ≤ 3 + (i + 1) →
      ((famE gs evs).add e).deaths.length ≤ i + 1 → 1 ≤ Kd'.length → (∀ q ∈ Kd', isN (.str q.1) = true) → (∀ s, inV (.str s) (fs'.map V.str) = (((famE gs evs).add e).facts.lookup s).isSome) → fs'.length ≤ i + 1 → (∀ s w, Kd'.lookup s = some w → s ∈ abc ∨ ∃ j, j < 60 ∧ s = freshN j) →
      DrW n0 n1 n2 gs (evs ++ [e]) B' Kd' fs' y k' (i + 1) e.pl := fun B' Kd' fs' k' a1 a2 a3 a4 a5 a6 a7 a8 a9 a10 a11 a12 a13 => by
    rw [← famE_snoc] at a1 a2 a8 a11
    refine ⟨run_snoc h.run hf, fun x hx => ?_, by rw [List.length_append]; exact Nat.succ_le_succ hl, a1, a2, a3, y1, y2, fun q hq => ?_, by show e.y ≤ y; rw [c.y]; exact Int.le_refl _, a4, a5, a6, a7, a8, a9, a10, a11, a12, a13⟩
    · rcases List.mem_append.mp hx with hx | hx
      · exact h.ok x hx
      · rw [show x = e by simpa using hx]; exact eok
    · rw [famE_snoc] at hq
      exact (Option.some.inj hq).symm
  have nn : ∀ {s}, s = freshN k → ∀ j, k + 1 ≤ j → j < 60 → freshN j ≠ s := fun hs j h1 h2 => by
    rw [hs]
    exact Ne.symm ((fresh_ok h2).2.2 k (by omega))
  cases e with
  | born z p n =>
    obtain rfl := c.new n rfl
    refine base _ _ _ _ (fun s => ?_) (fun s w hw => ?_) (fun s hs => ?_) (Nat.succ_le_succ hk) (fun j h1 h2 => ?_) (Nat.le_trans put_len (Nat.succ_le_succ hkl)) (Nat.le_trans put_len (Nat.succ_le_succ hbl)) (Nat.le_succ_of_le hdl) put_pos (fun q hq => ?_) h.fct (Nat.le_succ_of_le hfl) (fun s w hw => ?_)
    · show ((put Kd (freshN k) "unborn").lookup s).isSome = ((put (famE gs evs).parents (freshN k) (.str p)).lookup s).isSome
      rw [look_put, look_put]
      split
      · rfl
      · exact h.key s
    · have hw : (put Kd (freshN k) "unborn").lookup s = some w := hw
      show ∃ b, (put B (freshN k) z).lookup s = some b ∧ (w ≠ "mate" → (put (famE gs evs).births (freshN k) z).lookup s = some b)
      rw [look_put] at hw
      rw [look_put, look_put]
      split at hw
      · rename_i e
        rw [if_pos e, if_pos e]
        exact ⟨_, rfl, fun _ => rfl⟩
      · rename_i e
        rw [if_neg e, if_neg e]
        exact h.bir s w hw
    · have hs : (put Kd (freshN k) "unborn").lookup s = some ("life" : Str) := hs
      rw [look_put] at hs
      split at hs
      · exact absurd (Option.some.inj hs) (by decide +kernel)
      · exact h.lif s hs
    · show (put Kd (freshN k) "unborn").lookup (freshN j) = none
      have h1 : k + 1 ≤ j := h1
      rw [look_put, if_neg (nn rfl j h1 h2)]
      exact h.frs j (by omega) h2
    · rcases mem_putK hq with e | ⟨r, hr, e⟩
      · rw [e]; exact fr.1
      · rw [← e]; exact h.nms r hr
    · rcases Classical.em (s = freshN k) with e | e
      · exact .inr ⟨k, by omega, e⟩
      · refine h.dom s w ?_
        have hw : (put Kd (freshN k) _).lookup s = some w := hw
        rw [look_put, if_neg e] at hw
        exact hw
  | wed z p n =>
    obtain rfl := c.new n rfl
    refine base _ _ _ _ (fun s => ?_) (fun s w hw => ?_) (fun s hs => ?_) (Nat.succ_le_succ hk) (fun j h1 h2 => ?_) (Nat.le_trans put_len (Nat.succ_le_succ hkl)) (Nat.le_trans put_len (Nat.succ_le_succ hbl)) (Nat.le_succ_of_le hdl) put_pos (fun q hq => ?_) h.fct (Nat.le_succ_of_le hfl) (fun s w hw => ?_)
    · show ((put Kd (freshN k) "mate").lookup s).isSome = ((put (famE gs evs).parents (freshN k) .non).lookup s).isSome
      rw [look_put, look_put]
      split
      · rfl
      · exact h.key s
    · have hw : (put Kd (freshN k) "mate").lookup s = some w := hw
      show ∃ b, (put B (freshN k) z).lookup s = some b ∧ (w ≠ "mate" → (famE gs evs).births.lookup s = some b)
      rw [look_put] at hw
      rw [look_put]
      split at hw
      · rename_i e
        rw [if_pos e]
        exact ⟨_, rfl, fun ne => absurd (Option.some.inj hw).symm ne⟩
      · rename_i e
        rw [if_neg e]
        exact h.bir s w hw
    · have hs : (put Kd (freshN k) "mate").lookup s = some ("life" : Str) := hs
      rw [look_put] at hs
      split at hs
      · exact absurd (Option.some.inj hs) (by decide +kernel)
      · exact h.lif s hs
    · show (put Kd (freshN k) "mate").lookup (freshN j) = none
      have h1 : k + 1 ≤ j := h1
      rw [look_put, if_neg (nn rfl j h1 h2)]
      exact h.frs j (by omega) h2
    · rcases mem_putK hq with e | ⟨r, hr, e⟩
      · rw [e]; exact fr.1
      · rw [← e]; exact h.nms r hr
    · rcases Classical.em (s = freshN k) with e | e
      · exact .inr ⟨k, by omega, e⟩
      · refine h.dom s w ?_
        have hw : (put Kd (freshN k) _).lookup s = some w := hw
        rw [look_put, if_neg e] at hw
        exact hw
  | happ z n =>
    refine base _ _ _ _ h.key h.bir h.lif (Nat.le_succ_of_le hk) h.frs (Nat.le_succ_of_le hkl) (Nat.le_succ_of_le hbl) (Nat.le_succ_of_le hdl) h.k1 h.nms (fun s => ?_) (by show (fs ++ [n]).length ≤ i + 1; rw [List.length_append]; exact Nat.succ_le_succ hfl) h.dom
    show inV (.str s) ((fs ++ [n]).map V.str) = ((put (famE gs evs).facts n z).lookup s).isSome
    rw [inV_snoc, look_put, eqV_str]
    by_cases e : s = n
    · rw [if_pos e, show (n == s) = true from beq_iff_eq.mpr e.symm, Bool.or_true]
      rfl
    · rw [if_neg e, show (n == s) = false from beq_eq_false_iff_ne.mpr (Ne.symm e), Bool.or_false]
      exact h.fct s
  | died z p =>
    exact base _ _ _ _ h.key h.bir h.lif (Nat.le_succ_of_le hk) h.frs (Nat.le_succ_of_le hkl) (Nat.le_succ_of_le hbl) (Nat.le_trans (put_len (L := (famE gs evs).deaths) (k := p) (v := z)) (Nat.succ_le_succ hdl)) h.k1 h.nms h.fct (Nat.le_succ_of_le hfl) h.dom
end My
set_option Elab.async false
set_option linter.all false
set_option maxRecDepth 100000
set_option maxHeartbeats 1000000
namespace My
open PySem L2 Dw
open C8 (pss_cut tCut)
/-! drawn rows in the memory -/
structure RwA where
  d : Addr
  c : Addr
  ct : Addr
  b : Addr
  de : Addr
  kd : Addr
  ws : Addr
  fl : Addr
  wl : Addr
structure RwN (H : Hp) (A : RwA) : Prop where
  new : ∀ a ∈ [A.b, A.de, A.kd, A.ws, A.fl, A.wl], H a = none
  hd : ∃ o, H A.d = some o
  hc : ∃ o, H A.c = some o
  nd : [A.b, A.de, A.kd].Nodup
  nl : [A.ws, A.fl, A.wl].Nodup
structure RwX (H H' : Hp) (A : RwA) (n0 n1 n2 n3 : Int) (B De : List (Str × Int)) (Kd : List (Str × Str)) (fs : List Str) (us : List V) (evs : List Ev) : Prop where
  dr : Dr H' A.d A.c
  bu : But A.d H H'
  ct : H' A.ct = some (.tup [.int n0, .int n1, .int n2, .int n3])
  b : H' A.b = some (.dK (dk V.int B))
  de : H' A.de = some (.dK (dk V.int De))
  kd : H' A.kd = some (.dK (dk V.str Kd))
  ws : H' A.ws = some (.lst us)
  pw : Paired (EvAt H') us evs
  fl : H' A.fl = some (.lst (fs.map V.str))
  wl : H' A.wl = some (.lst (wordsL.map V.str))
section
variable {H H' H2 : Hp} {A : RwA} {n0 n1 n2 n3 : Int} {B De : List (Str × Int)} {Kd : List (Str × Str)} {fs : List Str} {us : List V} {evs : List Ev}
theorem RwN.dne (N : RwN H A) {a : Addr} (h : a ∈ [A.b, A.de, A.kd, A.ws, A.fl, A.wl]) : a ≠ A.d ∧ a ≠ A.c := by
  have h0 := N.new a h
  obtain ⟨o, ho⟩ := N.hd
  obtain ⟨o2, ho2⟩ := N.hc
  exact ⟨Ne.symm (ne_of_none ho h0), Ne.symm (ne_of_none ho2 h0)⟩
theorem RwN.nds (N : RwN H A) : (A.b ≠ A.de ∧ A.b ≠ A.kd) ∧ A.de ≠ A.kd := by
  have := N.nd
  simp at this
  simpa using this
theorem RwN.nls (N : RwN H A) : (A.ws ≠ A.fl ∧ A.ws ≠ A.wl) ∧ A.fl ≠ A.wl := by
  have := N.nl
  simp at this
  simpa using this
theorem evs_keep {K : Hp} (h : Paired (EvAt H') us evs) (k : ∀ b xs, H' b = some (.tup xs) → K b = some (.tup xs)) : Paired (EvAt K) us evs := L2.Paired.mapP h fun _ _ h => by
  obtain ⟨b, e, hb⟩ := h
  exact ⟨b, e, k _ _ hb⟩
theorem RwX.but (X : RwX H H' A n0 n1 n2 n3 B De Kd fs us evs) (N : RwN H A) (D : Dr H2 A.d A.c) (k : But A.d H' H2) : RwX H H2 A n0 n1 n2 n3 B De Kd fs us evs :=
  ⟨D, X.bu.trans k, butTup X.dr k X.ct, k _ _ X.b (N.dne (by simp)).1, k _ _ X.de (N.dne (by simp)).1, k _ _ X.kd (N.dne (by simp)).1, k _ _ X.ws (N.dne (by simp)).1, evs_keep X.pw fun _ _ e => butTup X.dr k e, k _ _ X.fl (N.dne (by simp)).1, k _ _ X.wl (N.dne (by simp)).1⟩
theorem RwX.same (X : RwX H H' A n0 n1 n2 n3 B De Kd fs us evs) (N : RwN H A) (S : Same H' H2) : RwX H H2 A n0 n1 n2 n3 B De Kd fs us evs := X.but N (X.dr.same S) (But.of S)
theorem but_upd {d a : Addr} {o : HO} (k : But d H H') (h : H a = none) : But d H (upd H' a o) := fun b o e n => (upd_ne (ne_of_none e h)).trans (k _ _ e n)
theorem RwX.setB (X : RwX H H' A n0 n1 n2 n3 B De Kd fs us evs) (N : RwN H A) (B' : List (Str × Int)) : RwX H (upd H' A.b (.dK (dk V.int B'))) A n0 n1 n2 n3 B' De Kd fs us evs := by
  obtain ⟨⟨m1, m2⟩, m3⟩ := N.nds
  have nb := N.dne (a := A.b) (by simp)
  have tl : ∀ {b xs}, H' b = some (.lst xs) → (upd H' A.b (.dK (dk V.int B'))) b = some (.lst xs) := fun e => (upd_ne (ne_of e X.b (fun z => nomatch z))).trans e
  have tt : ∀ {b xs}, H' b = some (.tup xs) → (upd H' A.b (.dK (dk V.int B'))) b = some (.tup xs) := fun e => (upd_ne (ne_of e X.b (fun z => nomatch z))).trans e
  exact ⟨X.dr.upd (Ne.symm nb.1) (Ne.symm nb.2), but_upd X.bu (N.new _ (by simp)), tt X.ct, upd_same, (upd_ne (Ne.symm m1)).trans X.de, (upd_ne (Ne.symm m2)).trans X.kd, tl X.ws, evs_keep X.pw fun _ _ => tt, tl X.fl, tl X.wl⟩
theorem RwX.setD (X : RwX H H' A n0 n1 n2 n3 B De Kd fs us evs) (N : RwN H A) (D' : List (Str × Int)) : RwX H (upd H' A.de (.dK (dk V.int D'))) A n0 n1 n2 n3 B D' Kd fs us evs := by
  obtain ⟨⟨m1, m2⟩, m3⟩ := N.nds
  have nb := N.dne (a := A.de) (by simp)
  have tl : ∀ {b xs}, H' b = some (.lst xs) → (upd H' A.de (.dK (dk V.int D'))) b = some (.lst xs) := fun e => (upd_ne (ne_of e X.de (fun z => nomatch z))).trans e
  have tt : ∀ {b xs}, H' b = some (.tup xs) → (upd H' A.de (.dK (dk V.int D'))) b = some (.tup xs) := fun e => (upd_ne (ne_of e X.de (fun z => nomatch z))).trans e
  exact ⟨X.dr.upd (Ne.symm nb.1) (Ne.symm nb.2), but_upd X.bu (N.new _ (by simp)), tt X.ct, (upd_ne m1).trans X.b, upd_same, (upd_ne (Ne.symm m3)).trans X.kd, tl X.ws, evs_keep X.pw fun _ _ => tt, tl X.fl, tl X.wl⟩
theorem RwX.setK (X : RwX H H' A n0 n1 n2 n3 B De Kd fs us evs) (N : RwN H A) (K' : List (Str × Str)) : RwX H (upd H' A.kd (.dK (dk V.str K'))) A n0 n1 n2 n3 B De K' fs us evs := by
  obtain ⟨⟨m1, m2⟩, m3⟩ := N.nds
  have nb := N.dne (a := A.kd) (by simp)
  have tl : ∀ {b xs}, H' b = some (.lst xs) → (upd H' A.kd (.dK (dk V.str K'))) b = some (.lst xs) := fun e => (upd_ne (ne_of e X.kd (fun z => nomatch z))).trans e
  have tt : ∀ {b xs}, H' b = some (.tup xs) → (upd H' A.kd (.dK (dk V.str K'))) b = some (.tup xs) := fun e => (upd_ne (ne_of e X.kd (fun z => nomatch z))).trans e
  exact ⟨X.dr.upd (Ne.symm nb.1) (Ne.symm nb.2), but_upd X.bu (N.new _ (by simp)), tt X.ct, (upd_ne m2).trans X.b, (upd_ne m3).trans X.de, upd_same, tl X.ws, evs_keep X.pw fun _ _ => tt, tl X.fl, tl X.wl⟩
theorem RwX.setW (X : RwX H H' A n0 n1 n2 n3 B De Kd fs us evs) (N : RwN H A) {t : Addr} {e : Ev} (ht : H' t = some (.tup e.row)) : RwX H (upd H' A.ws (.lst (us ++ [.ref t]))) A n0 n1 n2 n3 B De Kd fs (us ++ [.ref t]) (evs ++ [e]) := by
  obtain ⟨⟨m1, m2⟩, m3⟩ := N.nls
  have nb := N.dne (a := A.ws) (by simp)
  have td : ∀ {b xs}, H' b = some (.dK xs) → (upd H' A.ws (.lst (us ++ [.ref t]))) b = some (.dK xs) := fun e => (upd_ne (ne_of e X.ws (fun z => nomatch z))).trans e
  have tt : ∀ {b xs}, H' b = some (.tup xs) → (upd H' A.ws (.lst (us ++ [.ref t]))) b = some (.tup xs) := fun e => (upd_ne (ne_of e X.ws (fun z => nomatch z))).trans e
  exact ⟨X.dr.upd (Ne.symm nb.1) (Ne.symm nb.2), but_upd X.bu (N.new _ (by simp)), tt X.ct, td X.b, td X.de, td X.kd, upd_same, Paired.appendP (evs_keep X.pw fun _ _ => tt) (.cons ⟨t, rfl, tt ht⟩ .nil), (upd_ne (Ne.symm m1)).trans X.fl, (upd_ne (Ne.symm m2)).trans X.wl⟩
theorem RwX.setF (X : RwX H H' A n0 n1 n2 n3 B De Kd fs us evs) (N : RwN H A) (s : Str) : RwX H (upd H' A.fl (.lst (fs.map V.str ++ [.str s]))) A n0 n1 n2 n3 B De Kd (fs ++ [s]) us evs := by
  obtain ⟨⟨m1, m2⟩, m3⟩ := N.nls
  have nb := N.dne (a := A.fl) (by simp)
  have td : ∀ {b xs}, H' b = some (.dK xs) → (upd H' A.fl (.lst (fs.map V.str ++ [.str s]))) b = some (.dK xs) := fun e => (upd_ne (ne_of e X.fl (fun z => nomatch z))).trans e
  have tt : ∀ {b xs}, H' b = some (.tup xs) → (upd H' A.fl (.lst (fs.map V.str ++ [.str s]))) b = some (.tup xs) := fun e => (upd_ne (ne_of e X.fl (fun z => nomatch z))).trans e
  exact ⟨X.dr.upd (Ne.symm nb.1) (Ne.symm nb.2), but_upd X.bu (N.new _ (by simp)), tt X.ct, td X.b, td X.de, td X.kd, (upd_ne m1).trans X.ws, evs_keep X.pw fun _ _ => tt, by rw [List.map_append]; exact upd_same, (upd_ne (Ne.symm m3)).trans X.wl⟩
end
theorem row_nw1 (e : Ev) : ¬ (HT.sIx e.row.length 0 none = 0 ∧ HT.sIx e.row.length e.row.length (some 1) = e.row.length) := by
  cases e with
  | born y p n => exact (by decide : ¬ (HT.sIx 4 0 none = 0 ∧ HT.sIx 4 4 (some 1) = 4))
  | wed y p n => exact (by decide : ¬ (HT.sIx 4 0 none = 0 ∧ HT.sIx 4 4 (some 1) = 4))
  | happ y n => exact (by decide : ¬ (HT.sIx 3 0 none = 0 ∧ HT.sIx 3 3 (some 1) = 3))
  | died y n => exact (by decide : ¬ (HT.sIx 3 0 none = 0 ∧ HT.sIx 3 3 (some 1) = 3))
theorem row_nw2 (e : Ev) : ¬ (HT.sIx e.row.length 0 (some 2) = 0 ∧ HT.sIx e.row.length e.row.length none = e.row.length) := by
  cases e with
  | born y p n => exact (by decide : ¬ (HT.sIx 4 0 (some 2) = 0 ∧ HT.sIx 4 4 none = 4))
  | wed y p n => exact (by decide : ¬ (HT.sIx 4 0 (some 2) = 0 ∧ HT.sIx 4 4 none = 4))
  | happ y n => exact (by decide : ¬ (HT.sIx 3 0 (some 2) = 0 ∧ HT.sIx 3 3 none = 3))
  | died y n => exact (by decide : ¬ (HT.sIx 3 0 (some 2) = 0 ∧ HT.sIx 3 3 none = 3))
theorem row_len (e : Ev) : e.row.length ≤ 4 := by cases e <;> (show _ ≤ 4; simp [Ev.row, Ev.tl])
theorem row_d2 (e : Ev) : e.row.drop 2 ≠ [] := by cases e <;> simp [Ev.row, Ev.tl]
theorem born_or (e : Ev) : (∃ z p n, e = .born z p n ∧ decide (V.str e.w = V.str "born") = true) ∨ ((∀ z p n, e ≠ .born z p n) ∧ decide (V.str e.w = V.str "born") = false) := by
  cases e with
  | born z p n => exact .inl ⟨z, p, n, rfl, decide_eq_true rfl⟩
  | wed z p n => exact .inr ⟨fun _ _ _ h => (by cases h), decide_eq_false fun h => absurd (V.str.inj h) (by show ("wed" : Str) ≠ "born"; decide +kernel)⟩
  | happ z n => exact .inr ⟨fun _ _ _ h => (by cases h), decide_eq_false fun h => absurd (V.str.inj h) (by show ("happened" : Str) ≠ "born"; decide +kernel)⟩
  | died z n => exact .inr ⟨fun _ _ _ h => (by cases h), decide_eq_false fun h => absurd (V.str.inj h) (by show ("died" : Str) ≠ "born"; decide +kernel)⟩
theorem fn_all : (((List.range 10).all fun n => decide ((fn1.getD n "").length ≤ 1)) && ((List.range 6).all fun n => decide ((fn2.getD n "").length ≤ 1))) = true := by decide +kernel
theorem fn_len (k : Nat) : (fn1.getD (k % 10) "").length + (fn2.getD (k / 10 % 6) "").length ≤ sizeLine := by
  obtain ⟨h1, h2⟩ := Bool.and_eq_true_iff.mp fn_all
  have a := of_decide_eq_true (List.all_eq_true.mp h1 (k % 10) (List.mem_range.mpr (Nat.mod_lt _ (by decide))))
  have b := of_decide_eq_true (List.all_eq_true.mp h2 (k / 10 % 6) (List.mem_range.mpr (Nat.mod_lt _ (by decide))))
  exact Nat.le_of_lt (small1000 (by omega))
def spRows : Sp := fun vs H Q _ => ∃ (d c ct l : Addr) (n0 n1 n2 n3 : Int) (lus : List V) (gs : List Gd) (m : Nat) (stp : Int), vs = [.ref d, .ref ct, .ref l, .int (m : Nat), .int stp] ∧ 1 ≤ stp ∧ stp ≤ 40000000 ∧ Dr H d c ∧ H ct = some (.tup [.int n0, .int n1, .int n2, .int n3]) ∧ H l = some (.lst lus) ∧ Paired (TupAt H) lus (gs.map mkR) ∧ LvOk n0 gs ∧ m ≤ 24 ∧
  ∀ (r : Addr) (us : List V) (evs : List Ev) (H' : Hp), H r = none → H' r = some (.lst us) → Paired (EvAt H') us evs → (∀ e ∈ evs, e.Ok) → evs.length ≤ m → runW n0 n1 n2 gs (fam0 gs) 0 (evs.map rowR) = none → (∀ s, ((famE gs evs).parents.lookup s).isSome = true → s ∈ abc ∨ ∃ j, j < 60 ∧ s = freshN j) → Dr H' d c → But d H H' → Q (.ref r) H'
section
variable {P : Program} {w : World} {K : PySem.W.Frag} {mg : Str → Option Value} {base : Heap} {cl : String → Addr}
theorem ok_rows {f : Addr} {fd : FuncData} (F : Fun K "_law_rows" "_law_rows" s_rows f fd) (T : Txt P w K mg cl) : FnOk P w K mg base CX0 2 f fd ["_law_draws", "_law_customs_here", "_law_lives_here", "_law_most", "_law_step"] spRows := by
  refine F.ok sc_rows (fun vs H Q E h => ?_) (fun cdv A outer s H vs Q E hr h => ?_)
  · obtain ⟨d, c, ct, l, n0, n1, n2, n3, lus, gs, m, stp, rfl, _⟩ := h
    rfl
  · obtain ⟨d, c, ct, l, n0, n1, n2, n3, lus, gs, m, stp, rfl, st1, st2, D, hct, hl, hp, L, hm, k⟩ := h
    have hu := hu_of hr
    have C_next : Cal P w K mg base CX0 1 "_law_next" _ spNext := cal_next T
    refine ⟨_, (pss_cons (ps_par3 (i := 5) (j := 6) (l := 7) rfl sc_rows.nd rfl rfl rfl (by decide) (by decide) (by decide) rfl rfl rfl (pa_cons pe_dnewK (pa_cons pe_dnewK (pa_cons pe_dnewK pa_nil))) (by rfl))
        (pss_cons (ps_for PassesOwn.never rfl (pi_list (pv 2)) (pg_tup rfl (pgs_cons (pg_name (i := 8) sc_rows.nd rfl (Or.inl rfl)) (pgs_cons (pg_name (i := 9) sc_rows.nd rfl (Or.inl rfl)) (pgs_cons (pg_name (i := 10) sc_rows.nd rfl (Or.inl rfl)) pgs_nil))))
          (pss_cons (ps_dput hu (pv 5) (pv 8) (pe_un un_neg (pv 9)) rfl)
            (pss_one (ps_dput hu (pv 7) (pv 8) pe_str rfl))))
        (pss_cons (ps_set (i := 11) sc_rows.nd rfl (Or.inl rfl) (pe_lst pa_nil))
        (pss_cons (ps_par3 (i := 12) (j := 13) (l := 14) rfl sc_rows.nd rfl rfl rfl (by decide) (by decide) (by decide) rfl rfl rfl (pa_cons pe_int (pa_cons pe_int (pa_cons (pe_lst pa_nil) pa_nil))) (by rfl))
        (pss_cons (ps_par (i := 15) (j := 16) rfl sc_rows.nd rfl rfl (by decide) rfl rfl (pa_cons (pe_lst (pa_cons pe_str (pa_cons pe_str (pa_cons pe_str (pa_cons pe_str pa_nil))))) (pa_cons (pe_tup (pa_cons pe_int (pa_cons pe_int (pa_cons pe_str pa_nil)))) pa_nil)) (by rfl))
        (pss_cons (ps_for PassesOwn.never rfl (pi_range1 rfl T.n_range (pa_cons (pv 3) pa_nil)) (pg_name (i := 17) sc_rows.nd rfl (Or.inl rfl))
          (pss_cons (ps_set (i := 18) sc_rows.nd rfl (Or.inl rfl) (pe_cal C_next (hr.mono (by decide)) (pa_cons (pv 0) (pa_cons (pv 4) pa_nil))))
            (pss_cons (ps_set (i := 12) sc_rows.nd rfl (Or.inl rfl) (pe_op op_add (pv 12) (pv 18)))
            (pss_cons (ps_set (i := 19) sc_rows.nd rfl (Or.inl rfl) (pe_cal C_next (hr.mono (by decide)) (pa_cons (pv 0) (pa_cons pe_int pa_nil))))
            (pss_cut (ps_set (i := 20) sc_rows.nd rfl (Or.inl rfl) (pe_ix ix_list (pe_callB (call_sortedD rfl) (by rfl) T.n_sorted (by decide +kernel) (pa_cons (pv 7) pa_nil)) (pe_cal C_next (hr.mono (by decide)) (pa_cons (pv 0) (pa_cons (pe_callB call_lenD (by rfl) T.n_len PySem.boot_len (pa_cons (pv 7) pa_nil)) pa_nil))) (fun _ _ => rfl)))
            (pss_cons (ps_set (i := 21) sc_rows.nd rfl (Or.inl rfl) pe_non)
            (pss_cons (ps_set (i := 22) sc_rows.nd rfl (Or.inl rfl) (pe_cmp (pc_dnotin hu (pv 20) (pv 6)) rfl))
            (pss_cut (ps_set (i := 8) sc_rows.nd rfl (Or.inl rfl) (pe_op op_add_str (pe_ix ix_list (pe_lst (pa_cons pe_str (pa_cons pe_str (pa_cons pe_str (pa_cons pe_str (pa_cons pe_str (pa_cons pe_str (pa_cons pe_str (pa_cons pe_str (pa_cons pe_str (pa_cons pe_str pa_nil))))))))))) (pe_op op_mod (pv 13) pe_int) (fun _ _ => rfl)) (pe_ix ix_list (pe_lst (pa_cons pe_str (pa_cons pe_str (pa_cons pe_str (pa_cons pe_str (pa_cons pe_str (pa_cons pe_str pa_nil))))))) (pe_op op_mod (pe_op op_fdiv (pv 13) pe_int) pe_int) (fun _ _ => rfl))))
            (pss_cut (ps_if (PW.pt (pw_and (pt_cmpR op_le (pv 19) pe_int (nomark _)) (pw_and1 (pt_cmpR op_ne (pe_dget hu (pv 7) (pv 20) (fun _ _ => rfl)) pe_str (nomark _)))))
              (pss_one (ps_if (PW.pt (pw_and (pt_cmpR op_ge (pv 12) (pe_op op_add (pe_dget hu (pv 5) (pv 20) (fun _ _ => rfl)) (pe_ix ix_tup (pv 1) pe_int (fun _ _ => rfl))) (nomark _)) (pw_and1 (PW.pt (pw_or (pt_val (pv 22)) (pw_or1 (pt_cmpR op_le (pv 12) (pe_op op_add (pe_dget hu (pv 6) (pv 20) (fun _ _ => rfl)) (pe_ix ix_tup (pv 1) pe_int (fun _ _ => rfl))) (nomark _))))))))
                  (pss_one (ps_set (i := 21) sc_rows.nd rfl (Or.inl rfl) (pe_tup (pa_cons pe_str (pa_cons (pv 12) (pa_cons (pv 20) (pa_cons (pv 8) pa_nil))))))) pss_nil)) (pss_one (ps_if (PW.pt (pw_and (pt_cmpR op_eq (pv 19) pe_int (nomark _)) (pw_and (pt_cmpR op_eq (pe_dget hu (pv 7) (pv 20) (fun _ _ => rfl)) pe_str (nomark _)) (pw_and (pt_val (pv 22)) (pw_and1 (pt_cmpR op_ge (pv 12) (pe_op op_add (pe_dget hu (pv 5) (pv 20) (fun _ _ => rfl)) (pe_ix ix_tup (pv 1) pe_int (fun _ _ => rfl))) (nomark _)))))))
                  (pss_one (ps_set (i := 21) sc_rows.nd rfl (Or.inl rfl) (pe_tup (pa_cons pe_str (pa_cons (pv 12) (pa_cons (pv 20) (pa_cons (pv 8) pa_nil))))))) (pss_one (ps_if (pt_cmpR op_eq (pv 19) pe_int (nomark _))
                      (pss_cons (ps_set (i := 23) sc_rows.nd rfl (Or.inl rfl) (pe_ix ix_list (pe_lst (pa_cons pe_str (pa_cons pe_str pa_nil))) (pe_cal C_next (hr.mono (by decide)) (pa_cons (pv 0) (pa_cons pe_int pa_nil))) (fun _ _ => rfl)))
                        (pss_one (ps_if (pt_cmpR op_notIn_seq (pv 23) (pv 14) (by rfl))
                          (pss_one (ps_set (i := 21) sc_rows.nd rfl (Or.inl rfl) (pe_tup (pa_cons pe_str (pa_cons (pv 12) (pa_cons (pv 23) pa_nil)))))) pss_nil))) (pss_one (ps_if (pt_val (pv 22))
                          (pss_one (ps_set (i := 21) sc_rows.nd rfl (Or.inl rfl) (pe_tup (pa_cons pe_str (pa_cons (pv 12) (pa_cons (pv 20) pa_nil)))))) pss_nil)))))))
            (pss_cons (ps_if (pt_cmpR op_isN (pv 21) pe_non (nomark _))
              (pss_one ps_continue) pss_nil)
            (pss_cut (ps_if (pt_cmpR (op_leP hr.units) (pe_tup (pa_cons (pe_ix ix_tup (pv 21) pe_int (fun _ _ => rfl)) (pa_cons (pe_bm PySem.F.plainAttrs_list PySem.F.slot_list_index PySem.F.type_list_index mt_index (pv 15) (pa_cons (pe_ix ix_tup (pv 21) pe_int (fun _ _ => rfl)) pa_nil)) (pa_cons (pe_ix ix_tup (pv 21) (pe_un un_neg pe_int) (fun _ _ => rfl)) pa_nil)))) (pv 16) (nomark _))
              (pss_cut (ps_set (i := 12) sc_rows.nd rfl (Or.inl rfl) (pe_op op_add (pv 12) pe_int))
                (pss_cut (ps_if (PW.pt (pw_and (pt_cmpR op_eq (pe_ix ix_tup (pv 21) pe_int (fun _ _ => rfl)) pe_str (nomark _)) (pw_and1 (pt_not (PW.pt (pw_or (pt_val (pv 22)) (pw_or1 (pt_cmpR op_le (pv 12) (pe_op op_add (pe_dget hu (pv 6) (pv 20) (fun _ _ => rfl)) (pe_ix ix_tup (pv 1) pe_int (fun _ _ => rfl))) (nomark _)))))))))
                  (pss_one ps_continue) pss_nil)
                (pss_one (ps_set (i := 21) sc_rows.nd rfl (Or.inl rfl) (pe_op op_catT (pe_op op_catT (pe_slice sl_tup (pv 21) po_none (po_some pe_int)) (pe_tup (pa_cons (pv 12) pa_nil))) (pe_slice sl_tup (pv 21) (po_some pe_int) po_none)))))) pss_nil)
            (pss_cons (ps_expr (pe_app1 (by exact (pv 11)) (by exact (pa_cons (pv 21) pa_nil))))
            (pss_cut (ps_set (i := 16) sc_rows.nd rfl (Or.inl rfl) (pe_tup (pa_cons (pe_ix ix_tup (pv 21) pe_int (fun _ _ => rfl)) (pa_cons (pe_bm PySem.F.plainAttrs_list PySem.F.slot_list_index PySem.F.type_list_index mt_index (pv 15) (pa_cons (pe_ix ix_tup (pv 21) pe_int (fun _ _ => rfl)) pa_nil)) (pa_cons (pe_ix ix_tup (pv 21) (pe_un un_neg pe_int) (fun _ _ => rfl)) pa_nil)))))
            (pss_one (ps_if (PW.pt (pw_or (pt_cmpR op_eq (pe_ix ix_tup (pv 21) pe_int (fun _ _ => rfl)) pe_str (nomark _)) (pw_or1 (pt_cmpR op_eq (pe_ix ix_tup (pv 21) pe_int (fun _ _ => rfl)) pe_str (nomark _)))))
              (pss_cons (ps_set (i := 13) sc_rows.nd rfl (Or.inl rfl) (pe_op op_add (pv 13) pe_int))
                (pss_cons (ps_dput hu (pv 7) (pe_ix ix_tup (pv 21) pe_int (fun _ _ => rfl)) (pe_cut (pe_ifExp (pt_cmpR op_eq (pe_ix ix_tup (pv 21) pe_int (fun _ _ => rfl)) pe_str (nomark _)) pe_str pe_str)) rfl)
                (pss_one (ps_dput hu (pv 5) (pe_ix ix_tup (pv 21) pe_int (fun _ _ => rfl)) (pv 12) rfl)))) (pss_one (ps_if (pt_cmpR op_eq (pe_ix ix_tup (pv 21) pe_int (fun _ _ => rfl)) pe_str (nomark _))
                  (pss_one (ps_expr (pe_app1 (by exact (pv 14)) (by exact (pa_cons (pe_ix ix_tup (pv 21) pe_int (fun _ _ => rfl)) pa_nil))))) (pss_one (ps_dput hu (pv 6) (pe_ix ix_tup (pv 21) pe_int (fun _ _ => rfl)) (pv 12) rfl)))))))))))))))))))
        (pss_one (ps_ret (pv 11))))))))), ?_⟩
    refine fun bD hbD dD hdD kD hkD => ⟨_, _, _, rfl, ?_⟩
    have N0 : Nw H H [] := ⟨by simp, by simp, by simp, Same.refl H⟩
    have N1 := N0.new (oa := .dK []) hbD
    have N2 := N1.new (oa := .dK []) hdD
    have N3 := N2.new (oa := .dK []) hkD
    generalize hH1 : upd (upd (upd H bD (.dK [])) dD (.dK [])) kD (.dK []) = H1 at N3
    have nd3 : [bD, dD, kD].Nodup := N3.nod
    obtain ⟨⟨m1, m2⟩, m3⟩ : (bD ≠ dD ∧ bD ≠ kD) ∧ dD ≠ kD := by simpa using nd3
    have fb : H bD = none := N3.fr (bD, .dK []) (by simp)
    have fd : H dD = none := N3.fr (dD, .dK []) (by simp)
    have fk : H kD = none := N3.fr (kD, .dK []) (by simp)
    have lu := hp.length
    rw [List.length_map] at lu
    have thr := L.thr
    refine ⟨_, rfl, l, rfl, ⟨_, SqL.of (N3.sa _ _ hl)⟩, for_list (K := K) (a := l) (xs := lus) (fun i σ H' => ∃ (v8 v9 v10 : Option V), Same H H' ∧ H' bD = some (.dK (dk V.int (fam0 (gs.take i)).births)) ∧ H' dD = some (.dK []) ∧ H' kD = some (.dK (dk V.str (kd0 (gs.take i)))) ∧ σ = [some (.ref d), some (.ref ct), some (.ref l), some (.int (m : Nat)), some (.int stp), some (.ref bD), some (.ref dD), some (.ref kD), v8, v9, v10, none, none, none, none, none, none, none, none, none, none, none, none, none]) ⟨_, _, _, N3.sa, N3.at_ (bD, .dK []) (by simp), N3.at_ (dD, .dK []) (by simp), N3.at_ (kD, .dK []) (by simp), rfl⟩ (fun i σ H' _ q => ?_) ?_ ?_⟩
    · obtain ⟨_, _, _, S, _⟩ := q
      exact SqL.of (S _ _ hl)
    · rintro i v σ H' hv ⟨v8, v9, v10, S, X1, X2, X3, rfl⟩
      obtain ⟨x, hx, hvx⟩ := Paired.at hp hv
      obtain ⟨g, hg, rfl⟩ : ∃ g, gs[i]? = some g ∧ mkR g = x := by
        rw [List.getElem?_map] at hx
        cases e : gs[i]? with
        | none => rw [e] at hx; cases hx
        | some g => rw [e] at hx; exact ⟨g, rfl, Option.some.inj hx⟩
      obtain ⟨b, rfl, hb⟩ := tup0 hvx
      have kk := kd0_ok _ (gs.take i) rfl
      have tl : (gs.take i).length ≤ 3 := by rw [List.length_take]; omega
      have l1 := kk.kl
      have l2 := kk.bl
      refine ⟨b, _, rfl, SqT.of (S _ _ hb), rfl, _, _, rfl, _, _, rfl, _, _, rfl, rfl, ?_⟩
      refine ⟨_, rfl, _, rfl, _, rfl, _, rfl, bD, _, rfl, dps X1 (put_dk V.int _ _ _) (by rw [dk_len]; exact small1000 (by omega)), ?_⟩
      refine ⟨_, rfl, _, rfl, kD, _, rfl, dps ((upd_ne (Ne.symm m2)).trans X3) (put_dk V.str _ _ _) (by rw [dk_len]; exact small1000 (by omega)), ?_⟩
      refine ⟨_, _, _, same_upd (same_upd S fb) fk, ?_, ?_, ?_, rfl⟩
      · rw [take_snoc hg, fam0_step, upd_ne m2]
        exact upd_same
      · rw [upd_ne m3, upd_ne (Ne.symm m1)]
        exact X2
      · rw [take_snoc hg, kd0_step]
        exact upd_same
    · rintro σ H2 ⟨v8, v9, v10, S, X1, X2, X3, rfl⟩
      rw [List.take_of_length_le (by omega)] at X1 X3
      have W0 := drw0 (n1 := n1) (n2 := n2) L
      refine ⟨by show 0 ≤ sizeLine; exact Nat.zero_le _, fun ws hws => ?_⟩
      refine ⟨by show 0 ≤ sizeLine; exact Nat.zero_le _, fun fL hfL => ⟨_, _, _, rfl, ?_⟩⟩
      refine ⟨by show 4 ≤ sizeLine; decide, fun wL hwL => ⟨by show 3 ≤ sizeLine; decide, fun lt hlt => ⟨_, _, rfl, ?_⟩⟩⟩
      have M0 : Nw H2 H2 [] := ⟨by simp, by simp, by simp, Same.refl H2⟩
      have M1 := M0.new (oa := .lst []) hws
      have M2 := M1.new (oa := .lst []) hfL
      have M3 := M2.new (oa := .lst [.str "born", .str "wed", .str "happened", .str "died"]) hwL
      have M4 := M3.new (oa := .tup [.int 0, .int 0, .str ""]) hlt
      generalize hH3 : upd (upd (upd (upd H2 ws (.lst [])) fL (.lst [])) wL (.lst [.str "born", .str "wed", .str "happened", .str "died"])) lt (.tup [.int 0, .int 0, .str ""]) = H3 at M4 ⊢
      have X0 : RwX H H3 ⟨d, c, ct, bD, dD, kD, ws, fL, wL⟩ n0 n1 n2 n3 (fam0 gs).births [] (kd0 gs) [] [] [] :=
        ⟨(D.same S).same M4.sa, But.of (S.trans M4.sa), M4.sa _ _ (S _ _ hct), M4.sa _ _ X1, M4.sa _ _ X2, M4.sa _ _ X3, M4.at_ (ws, .lst []) (by simp), .nil, M4.at_ (fL, .lst []) (by simp), M4.at_ (wL, .lst [.str "born", .str "wed", .str "happened", .str "died"]) (by simp)⟩
      have hn : ∀ {a : Addr}, H2 a = none → H a = none := fun {a} h => by
        cases e : H a with
        | none => rfl
        | some o => rw [S _ _ e] at h; cases h
      have hrH : H ws = none := hn (M4.fr (ws, .lst []) (by simp))
      have N : RwN H ⟨d, c, ct, bD, dD, kD, ws, fL, wL⟩ := by
        refine ⟨fun a ha => ?_, ?_, ?_, nd3, ?_⟩
        · rcases (show a = bD ∨ a = dD ∨ a = kD ∨ a = ws ∨ a = fL ∨ a = wL by simpa using ha) with rfl | rfl | rfl | rfl | rfl | rfl
          · exact fb
          · exact fd
          · exact fk
          · exact hrH
          · exact hn (M4.fr (a, .lst []) (by simp))
          · exact hn (M4.fr (a, .lst [.str "born", .str "wed", .str "happened", .str "died"]) (by simp))
        · obtain ⟨n, ns, nx, dg, rs, sd, tn, h1, h2, h3, h4⟩ := D
          exact ⟨_, h1⟩
        · obtain ⟨n, ns, nx, dg, rs, sd, tn, h1, h2, h3, h4⟩ := D
          exact ⟨_, h2⟩
        · have q : [ws, fL, wL, lt].Nodup := M4.nod
          exact (List.nodup_append.mp (show ([ws, fL, wL] ++ [lt]).Nodup from q)).1
      have hlt3 : H3 lt = some (.tup (plV (0, 0, ""))) := M4.at_ (lt, .tup [.int 0, .int 0, .str ""]) (by simp)
      have m1' := (fam0_many gs).2.1
      clear M0 M1 M2 M3 M4 hws hfL hwL hlt N0 N1 N2 N3 hbD hdD hkD hH1 hH3 X1 X2 X3 S H1
      refine ⟨_, rfl, _, rfl, by omega, by omega, for_range (n := m) (fun i σ H' => ∃ (evs : List Ev) (B : List (Str × Int)) (Kd : List (Str × Str)) (fs : List Str) (us : List V) (y : Int) (k : Nat) (lp : Int × Int × Str) (lt : Addr) (v8 v9 v10 v17 v18 v19 v20 v21 v22 v23 : Option V), RwX H H' ⟨d, c, ct, bD, dD, kD, ws, fL, wL⟩ n0 n1 n2 n3 B (famE gs evs).deaths Kd fs us evs ∧ H' lt = some (.tup (plV lp)) ∧ DrW n0 n1 n2 gs evs B Kd fs y k i lp ∧
        σ = [some (.ref d), some (.ref ct), some (.ref l), some (.int (m : Nat)), some (.int stp), some (.ref bD), some (.ref dD), some (.ref kD), v8, v9, v10, some (.ref ws), some (.int y), some (.int (k : Nat)), some (.ref fL), some (.ref wL), some (.ref lt), v17, v18, v19, v20, v21, v22, v23]) ⟨[], _, _, [], [], 1, 0, (0, 0, ""), lt, _, _, _, _, _, _, _, _, _, _, by rw [show (famE gs []).deaths = [] from m1']; exact X0, hlt3, W0, rfl⟩ ?_ ?_⟩
      · rintro i σ H' hi ⟨evs, B, Kd, fs, us, y, kf, lp, lt, v8, v9, v10, v17, v18, v19, v20, v21, v22, v23, X, hlt, W, rfl⟩
        refine ⟨_, rfl, _, rfl, d, c, _, rfl, X.dr, st1, by omega, fun j H1 j0 j1 D1 B1 => ?_⟩
        have hlt := butTup X.dr B1 hlt
        have X := X.but N D1 B1
        refine ⟨_, rfl, _, rfl, _, _, rfl, rfl, ?_⟩
        refine ⟨_, rfl, d, c, _, rfl, X.dr, by decide, by decide, fun pl H2 p0 p1 D2 B2 => ?_⟩
        have hlt := butTup X.dr B2 hlt
        have X := X.but N D2 B2
        have kl := W.kl
        have k1 := W.k1
        refine ⟨fun σ' H' => ∃ (who kw : Str), Kd.lookup who = some kw ∧ σ' = [some (.ref d), some (.ref ct), some (.ref l), some (.int (m : Nat)), some (.int stp), some (.ref bD), some (.ref dD), some (.ref kD), v8, v9, v10, some (.ref ws), some (.int (y + j)), some (.int (kf : Nat)), some (.ref fL), some (.ref wL), some (.ref lt), some (.int (0 + (i : Nat))), some (.int j), some (.int pl), some (.str who), v21, v22, v23] ∧ RwX H H' ⟨d, c, ct, bD, dD, kD, ws, fL, wL⟩ n0 n1 n2 n3 B (famE gs evs).deaths Kd fs us evs ∧ H' lt = some (.tup (plV lp)), ?_, ?_⟩
        · refine ⟨_, rfl, kD, _, Kd.map (·.1), rfl, .inl X.kd, by unfold dk; rw [List.map_map, List.map_map]; rfl, by rw [List.length_map]; omega, fun ys q perm srt hq => ?_⟩
          have Sq := sNew (o := .lst (ys.map V.str)) hq
          have X := X.same N Sq
          have hlt := Sq _ _ hlt
          refine ⟨_, rfl, _, rfl, kD, _, rfl, X.kd, d, c, _, rfl, X.dr, by rw [dk_len]; omega, by rw [dk_len]; omega, fun j3 H3 r0 r1 D3 B3 => ?_⟩
          have hq3 : H3 q = some (.lst (ys.map V.str)) := butLst X.dr B3 upd_same
          have hlt := butTup X.dr B3 hlt
          have X := X.but N D3 B3
          rw [dk_len] at r1
          obtain ⟨jn, rfl⟩ : ∃ jn : Nat, j3 = (jn : Int) := ⟨j3.toNat, by omega⟩
          have hyl : ys.length = Kd.length := by rw [perm.length_eq, List.length_map]
          obtain ⟨who, hwho⟩ : ∃ who, ys[jn]? = some who := ⟨_, List.getElem?_eq_getElem (by omega)⟩
          have hwm : who ∈ Kd.map (·.1) := perm.subset (List.mem_of_getElem? hwho)
          obtain ⟨kw, hkw⟩ := look_key hwm
          exact ⟨q, _, _, _, rfl, rfl, SqL.of hq3, atI_nat (by rw [List.getElem?_map, hwho]; rfl), who, kw, hkw, rfl, X, hlt⟩
        rintro σ' H3 ⟨who, kw, hkw, rfl, X, hlt⟩
        clear D1 B1 D2 B2
        refine ⟨_, rfl, _, rfl, dD, _, rfl, dgF who X.de, ?_⟩
        rw [Option.isSome_map]
        refine ⟨fun σ' H' => σ' = [some (.ref d), some (.ref ct), some (.ref l), some (.int (m : Nat)), some (.int stp), some (.ref bD), some (.ref dD), some (.ref kD), some (.str (freshN kf)), v9, v10, some (.ref ws), some (.int (y + j)), some (.int (kf : Nat)), some (.ref fL), some (.ref wL), some (.ref lt), some (.int (0 + (i : Nat))), some (.int j), some (.int pl), some (.str who), some .non, some (.bl (!((famE gs evs).deaths.lookup who).isSome)), v23] ∧ RwX H H' ⟨d, c, ct, bD, dD, kD, ws, fL, wL⟩ n0 n1 n2 n3 B (famE gs evs).deaths Kd fs us evs ∧ H' lt = some (.tup (plV lp)), ?_, ?_⟩
        · refine ⟨by show 10 ≤ sizeLine; decide, fun q1 hq1 => ?_⟩
          have hf1 : ([.str "q", .str "r", .str "s", .str "t", .str "u", .str "v", .str "w", .str "x", .str "y", .str "z"] : List V)[kf % 10]? = some (.str (fn1.getD (kf % 10) "")) := by
            show (fn1.map V.str)[kf % 10]? = _
            rw [List.getElem?_map, fn1_at]
            rfl
          have hf2 : ([.str "", .str "a", .str "b", .str "c", .str "d", .str "e"] : List V)[kf / 10 % 6]? = some (.str (fn2.getD (kf / 10 % 6) "")) := by
            show (fn2.map V.str)[kf / 10 % 6]? = _
            rw [List.getElem?_map, fn2_at]
            rfl
          refine ⟨_, rfl, _, _, rfl, rfl, by show (0 : Int) < 10; decide, q1, _, _, _, rfl, rfl, SqL.of upd_same, at_of (by omega) hf1, ?_⟩
          have S1 := sNew (o := .lst [.str "q", .str "r", .str "s", .str "t", .str "u", .str "v", .str "w", .str "x", .str "y", .str "z"]) hq1
          refine ⟨by show 6 ≤ sizeLine; decide, fun q2 hq2 => ?_⟩
          refine ⟨_, rfl, _, _, rfl, rfl, ⟨by decide, by decide⟩, _, _, rfl, rfl, by show (0 : Int) < 6; decide, q2, _, _, _, rfl, rfl, SqL.of upd_same, at_of (by omega) hf2, ?_⟩
          have S2 := sNew (o := .lst [.str "", .str "a", .str "b", .str "c", .str "d", .str "e"]) hq2
          exact ⟨_, _, rfl, rfl, fn_len kf, rfl, (X.same N S1).same N S2, S2 _ _ (S1 _ _ hlt)⟩
        rintro σ' H4 ⟨rfl, X4, hlt4⟩
        clear X hlt
        have X := X4
        have hlt := hlt4
        clear X4 hlt4
        refine ⟨fun σ' H' => ∃ (v21 : V) (v23 : Option V), σ' = [some (.ref d), some (.ref ct), some (.ref l), some (.int (m : Nat)), some (.int stp), some (.ref bD), some (.ref dD), some (.ref kD), some (.str (freshN kf)), v9, v10, some (.ref ws), some (.int (y + j)), some (.int (kf : Nat)), some (.ref fL), some (.ref wL), some (.ref lt), some (.int (0 + (i : Nat))), some (.int j), some (.int pl), some (.str who), some v21, some (.bl (!((famE gs evs).deaths.lookup who).isSome)), v23] ∧ RwX H H' ⟨d, c, ct, bD, dD, kD, ws, fL, wL⟩ n0 n1 n2 n3 B (famE gs evs).deaths Kd fs us evs ∧ H' lt = some (.tup (plV lp)) ∧ (v21 = .non ∨ ∃ e t, v21 = .ref t ∧ H' t = some (.tup (Ev.row e)) ∧ Cnd n0 n1 n2 gs (famE gs evs) kf (y + j) e ∧ ∀ z p n, e = .born z p n → p = who), ?_, ?_⟩
        · obtain ⟨wb, hwb, hwf⟩ := W.bir who kw hkw
          have dK := dgF (fn := V.str) who X.kd
          rw [hkw] at dK
          have dB := dgF (fn := V.int) who X.b
          rw [hwb] at dB
          have hpar : ((famE gs evs).parents.lookup who).isSome = true := by rw [← W.key who, hkw]; rfl
          have hwn : isN (.str who) = true := W.nms _ (look_some_mem hkw)
          have frn : (famE gs evs).parents.lookup (freshN kf) = none := by
            have q := W.key (freshN kf)
            rw [W.frs kf (Nat.le_refl _) (by have := W.fk; omega)] at q
            exact Option.isNone_iff_eq_none.mp (by cases e : (famE gs evs).parents.lookup (freshN kf) with | none => rfl | some x => rw [e] at q; cases q)
          have frk := (fresh_ok (k := kf) (by have := W.fk; omega)).1
          have ply : i < 24 := by omega
          have w0 : ∀ {H'} (x23 : Option V), RwX H H' ⟨d, c, ct, bD, dD, kD, ws, fL, wL⟩ n0 n1 n2 n3 B (famE gs evs).deaths Kd fs us evs → H' lt = some (.tup (plV lp)) → ∃ (v21 : V) (v23 : Option V), [some (.ref d), some (.ref ct), some (.ref l), some (.int (m : Nat)), some (.int stp), some (.ref bD), some (.ref dD), some (.ref kD), some (.str (freshN kf)), v9, v10, some (.ref ws), some (.int (y + j)), some (.int (kf : Nat)), some (.ref fL), some (.ref wL), some (.ref lt), some (.int (0 + (i : Nat))), some (.int j), some (.int pl), some (.str who), some .non, some (.bl (!((famE gs evs).deaths.lookup who).isSome)), x23] = [some (.ref d), some (.ref ct), some (.ref l), some (.int (m : Nat)), some (.int stp), some (.ref bD), some (.ref dD), some (.ref kD), some (.str (freshN kf)), v9, v10, some (.ref ws), some (.int (y + j)), some (.int (kf : Nat)), some (.ref fL), some (.ref wL), some (.ref lt), some (.int (0 + (i : Nat))), some (.int j), some (.int pl), some (.str who), some v21, some (.bl (!((famE gs evs).deaths.lookup who).isSome)), v23] ∧ RwX H H' ⟨d, c, ct, bD, dD, kD, ws, fL, wL⟩ n0 n1 n2 n3 B (famE gs evs).deaths Kd fs us evs ∧ H' lt = some (.tup (plV lp)) ∧ (v21 = .non ∨ ∃ e t, v21 = .ref t ∧ H' t = some (.tup (Ev.row e)) ∧ Cnd n0 n1 n2 gs (famE gs evs) kf (y + j) e ∧ ∀ z p n, e = .born z p n → p = who) := fun x23 X' h' => ⟨.non, x23, rfl, X', h', .inl rfl⟩
          have cdie : (famE gs evs).deaths.lookup who = none → Cnd n0 n1 n2 gs (famE gs evs) kf (y + j) (.died (y + j) who) := fun hd => ⟨fun s hs => by rw [show s = who by simpa [Ev.tl] using hs]; exact hwn, died_ok hpar hd, fun s hs => (by cases hs), rfl⟩
          refine ⟨_, rfl, _, _, rfl, rfl, _, rfl, ?_⟩
          refine (fun (tl : _) => ite2 (fun g1 => ?_) (fun g1 => iteF tl)) ?_
          · refine ⟨_, rfl, _, rfl, kD, _, rfl, dK, rfl, _, rfl, ?_⟩
            refine ite2 (fun g2 => ?_) (fun g2 => ?_)
            · have g2 : kw ≠ "mate" := fun z => by rw [z] at g2; exact absurd g2 (by decide)
              refine ⟨_, rfl, _, rfl, _, rfl, bD, _, rfl, dB, _, rfl, _, _, _, _, rfl, rfl, SqT.of X.ct, atI_nat (j := 0) rfl, _, _, rfl, rfl, _, _, rfl, rfl, _, rfl, ?_⟩
              refine ite2 (fun g3 => ?_) (fun g3 => iteF (w0 _ X hlt))
              have g3 : wb + n0 ≤ y + j := of_decide_eq_true g3
              have mk : (∀ dd, (famE gs evs).deaths.lookup who = some dd → y + j ≤ dd + n1) → Cnd n0 n1 n2 gs (famE gs evs) kf (y + j) (.born (y + j) who (freshN kf)) := fun hd => ⟨fun s hs => by rcases (show s = who ∨ s = freshN kf by simpa [Ev.tl] using hs) with rfl | rfl; exact hwn; exact frk, born_ok (hwf g2) g3 hd frn, fun s hs => (Option.some.inj hs).symm, rfl⟩
              have bo : ∀ z p n, Ev.born (y + j) who (freshN kf) = .born z p n → p = who := fun z p n e => by injection e with _ e _; exact e.symm
              refine ⟨_, rfl, _, rfl, ?_⟩
              refine ite2 (fun g4 => ?_) (fun g4 => ?_)
              · refine iteT ⟨_, rfl, _, rfl, _, rfl, by show 4 ≤ sizeLine; decide, fun t ht => ?_⟩
                have St := sNew (o := .tup (Ev.row (.born (y + j) who (freshN kf)))) ht
                refine ⟨.ref t, _, rfl, X.same N St, St _ _ hlt, .inr ⟨.born (y + j) who (freshN kf), t, rfl, upd_same, ?_, bo⟩⟩
                refine mk fun dd e => ?_
                rw [e] at g4
                cases g4
              · obtain ⟨dd, ed⟩ := Option.isSome_iff_exists.mp (show ((famE gs evs).deaths.lookup who).isSome = true by simpa using g4)
                have dE := dgF (fn := V.int) who X.de
                rw [ed] at dE
                refine ⟨_, rfl, _, rfl, _, rfl, _, _, rfl, dE, _, rfl, _, _, _, _, rfl, rfl, SqT.of X.ct, atI_nat (j := 1) rfl, _, _, rfl, rfl, _, _, rfl, rfl, _, rfl, ?_⟩
                refine ite2 (fun g5 => ?_) (fun g5 => w0 _ X hlt)
                refine ⟨_, rfl, _, rfl, _, rfl, by show 4 ≤ sizeLine; decide, fun t ht => ?_⟩
                have St := sNew (o := .tup (Ev.row (.born (y + j) who (freshN kf)))) ht
                refine ⟨.ref t, _, rfl, X.same N St, St _ _ hlt, .inr ⟨.born (y + j) who (freshN kf), t, rfl, upd_same, ?_, bo⟩⟩
                refine mk fun d2 e => ?_
                rw [ed] at e
                cases e
                exact of_decide_eq_true g5
            · exact tl
          · refine ⟨_, rfl, rfl, _, rfl, ?_⟩
            refine (fun (t2 : _) => ite2 (fun g1 => ?_) (fun g1 => iteF t2)) ?_
            · refine ⟨_, rfl, _, rfl, kD, _, rfl, dK, rfl, _, rfl, ?_⟩
              refine ite2 (fun g2 => ?_) (fun g2 => iteF t2)
              have g2 : kw = "life" := V.str.inj (of_decide_eq_true g2)
              refine ⟨_, rfl, _, rfl, ?_⟩
              refine ite2 (fun g3 => ?_) (fun g3 => iteF t2)
              refine ⟨_, rfl, _, rfl, _, rfl, bD, _, rfl, dB, _, rfl, _, _, _, _, rfl, rfl, SqT.of X.ct, atI_nat (j := 2) rfl, _, _, rfl, rfl, _, _, rfl, rfl, _, rfl, ?_⟩
              refine ite2 (fun g4 => ?_) (fun g4 => t2)
              refine ⟨_, rfl, _, rfl, _, rfl, by show 4 ≤ sizeLine; decide, fun t ht => ?_⟩
              have St := sNew (o := .tup (Ev.row (.wed (y + j) who (freshN kf)))) ht
              refine ⟨.ref t, _, rfl, X.same N St, St _ _ hlt, .inr ⟨.wed (y + j) who (freshN kf), t, rfl, upd_same, ?_, (fun z p n e => by cases e)⟩⟩
              exact ⟨fun s hs => by rcases (show s = who ∨ s = freshN kf by simpa [Ev.tl] using hs) with rfl | rfl; exact hwn; exact frk, wed_ok (W.lif who (by rw [← g2]; exact hkw)) (by simpa using g3) (hwf (by rw [g2]; decide +kernel)) (of_decide_eq_true g4) frn, fun s hs => (Option.some.inj hs).symm, rfl⟩
            · refine ⟨_, rfl, rfl, _, rfl, ?_⟩
              refine ite2 (fun g1 => ?_) (fun g1 => ?_)
              · refine ⟨by show 2 ≤ sizeLine; decide, fun q1 hq1 => ⟨_, rfl, d, c, _, rfl, X.dr.new hq1, by decide, by decide, fun j5 H5 r0 r1 D5 B5 => ?_⟩⟩
                have Sq := sNew (o := .lst [.str "war", .str "rain"]) hq1
                have X5 := (X.same N Sq).but N D5 B5
                have hlt5 := butTup (X.same N Sq).dr B5 (Sq _ _ hlt)
                have hq5 := butLst (X.same N Sq).dr B5 (upd_same (H := H4) (a := q1) (o := .lst [.str "war", .str "rain"]))
                obtain ⟨jn, rfl⟩ : ∃ jn : Nat, j5 = (jn : Int) := ⟨j5.toNat, by omega⟩
                obtain ⟨wd, hwd, hwo⟩ : ∃ wd, ([.str "war", .str "rain"] : List V)[jn]? = some (.str wd) ∧ isN (.str wd) = true := by
                  match jn, r1 with
                  | 0, _ => exact ⟨_, rfl, by decide +kernel⟩
                  | 1, _ => exact ⟨_, rfl, by decide +kernel⟩
                  | n + 2, h => exact absurd h (by omega)
                refine ⟨q1, _, _, _, rfl, rfl, SqL.of hq5, atI_nat hwd, ?_⟩
                refine ⟨_, rfl, _, rfl, fL, _, rfl, .inl (SqL.of X5.fl), rfl, by rw [List.all_map]; exact List.all_eq_true.mpr fun _ _ => rfl, _, rfl, ?_⟩
                refine ite2 (fun g2 => ?_) (fun g2 => ?_)
                · have g2 : (!inV (.str wd) (fs.map V.str)) = true := g2
                  rw [W.fct wd] at g2
                  refine ⟨_, rfl, _, rfl, by show 3 ≤ sizeLine; decide, fun t ht => ?_⟩
                  have St := sNew (o := .tup (Ev.row (.happ (y + j) wd))) ht
                  refine ⟨.ref t, _, rfl, X5.same N St, St _ _ hlt5, .inr ⟨.happ (y + j) wd, t, rfl, upd_same, ?_, (fun z p n e => by cases e)⟩⟩
                  exact ⟨fun s hs => by rw [show s = wd by simpa [Ev.tl] using hs]; exact hwo, happ_ok (by simpa using g2), fun s hs => (by cases hs), rfl⟩
                · exact ⟨.non, _, rfl, X5, hlt5, .inl rfl⟩
              · refine ⟨_, rfl, _, rfl, ?_⟩
                refine ite2 (fun g8 => ?_) (fun g8 => w0 _ X hlt)
                refine ⟨_, rfl, _, rfl, by show 3 ≤ sizeLine; decide, fun t ht => ?_⟩
                have St := sNew (o := .tup (Ev.row (.died (y + j) who))) ht
                refine ⟨.ref t, _, rfl, X.same N St, St _ _ hlt, .inr ⟨.died (y + j) who, t, rfl, upd_same, ?_, (fun z p n e => by cases e)⟩⟩
                exact cdie (by simpa using g8)
        · rintro σ' H5 ⟨v21, v23, rfl, X, hlt, hv⟩
          rcases hv with rfl | ⟨e, t, rfl, ht, cn, bo⟩
          · exact ⟨_, rfl, rfl, _, rfl, iteT ⟨evs, B, Kd, fs, us, y + j, kf, lp, lt, _, _, _, _, _, _, _, _, _, _, X, hlt, W.skip (by omega) (by omega), rfl⟩⟩
          refine ⟨_, rfl, rfl, _, rfl, iteF ?_⟩
          refine ⟨fun σ' H' => ∃ (e' : Ev) (t' : Addr) (y' : Int), σ' = [some (.ref d), some (.ref ct), some (.ref l), some (.int (m : Nat)), some (.int stp), some (.ref bD), some (.ref dD), some (.ref kD), some (.str (freshN kf)), v9, v10, some (.ref ws), some (.int (y')), some (.int (kf : Nat)), some (.ref fL), some (.ref wL), some (.ref lt), some (.int (0 + (i : Nat))), some (.int j), some (.int pl), some (.str who), some (.ref t'), some (.bl (!((famE gs evs).deaths.lookup who).isSome)), v23] ∧ RwX H H' ⟨d, c, ct, bD, dD, kD, ws, fL, wL⟩ n0 n1 n2 n3 B (famE gs evs).deaths Kd fs us evs ∧ H' lt = some (.tup (plV lp)) ∧ H' t' = some (.tup e'.row) ∧ Cnd n0 n1 n2 gs (famE gs evs) kf y' e' ∧ leP e'.pl lp = false ∧ y + j ≤ y' ∧ y' ≤ y + j + 1, ?_, ?_⟩
          · refine ⟨_, rfl, _, _, _, _, rfl, rfl, SqT.of ht, atI_nat (j := 1) rfl, _, rfl, .inl ⟨rfl, _, SqL.of X.wl⟩, _, rfl, _, _, _, _, rfl, rfl, SqT.of ht, atI_nat (j := 0) rfl, wL, wordsV, .str (Ev.w e), Ev.k e, .str (Ev.w e), rfl, rfl, SqL.of X.wl, rfl, rfl, wordsV_at e, (by show (Ev.w e == Ev.w e) = true; exact beq_self_eq_true _), wordsV_no e, _, rfl, _, rfl, _, _, _, _, rfl, rfl, SqT.of ht, row_last e, by show 3 ≤ sizeLine; decide, fun p1 hp1 => ⟨_, rfl, p1, lt, e.pl, lp, rfl, rfl, SqT.of upd_same, SqT.of (sNew hp1 _ _ hlt), _, rfl, ?_⟩⟩
            have S1 := sNew (o := .tup (plV e.pl)) hp1
            have X := X.same N S1
            have hlt := S1 _ _ hlt
            have ht := S1 _ _ ht
            refine ite2 (fun g => ?_) (fun g => ⟨e, t, y + j, rfl, X, hlt, ht, cn, by simpa using g, Int.le_refl _, by omega⟩)
            refine ⟨fun σ' H' => σ' = [some (.ref d), some (.ref ct), some (.ref l), some (.int (m : Nat)), some (.int stp), some (.ref bD), some (.ref dD), some (.ref kD), some (.str (freshN kf)), v9, v10, some (.ref ws), some (.int (y + j + 1)), some (.int (kf : Nat)), some (.ref fL), some (.ref wL), some (.ref lt), some (.int (0 + (i : Nat))), some (.int j), some (.int pl), some (.str who), some (.ref t), some (.bl (!((famE gs evs).deaths.lookup who).isSome)), v23] ∧ RwX H H' ⟨d, c, ct, bD, dD, kD, ws, fL, wL⟩ n0 n1 n2 n3 B (famE gs evs).deaths Kd fs us evs ∧ H' lt = some (.tup (plV lp)) ∧ H' t = some (.tup e.row), ⟨_, rfl, _, _, rfl, rfl, rfl, X, hlt, ht⟩, ?_⟩
            clear hp1 S1 X hlt ht
            rintro σ' H6 ⟨rfl, X, hlt, ht⟩
            refine ⟨fun σ' H' => (∀ z p n, e = .born z p n → deadW n1 ((famE gs evs).deaths.lookup p) (y + j + 1) = false) ∧ σ' = [some (.ref d), some (.ref ct), some (.ref l), some (.int (m : Nat)), some (.int stp), some (.ref bD), some (.ref dD), some (.ref kD), some (.str (freshN kf)), v9, v10, some (.ref ws), some (.int (y + j + 1)), some (.int (kf : Nat)), some (.ref fL), some (.ref wL), some (.ref lt), some (.int (0 + (i : Nat))), some (.int j), some (.int pl), some (.str who), some (.ref t), some (.bl (!((famE gs evs).deaths.lookup who).isSome)), v23] ∧ RwX H H' ⟨d, c, ct, bD, dD, kD, ws, fL, wL⟩ n0 n1 n2 n3 B (famE gs evs).deaths Kd fs us evs ∧ H' lt = some (.tup (plV lp)) ∧ H' t = some (.tup e.row), ?_, ?_⟩
            rotate_left
            · rintro σ' H7 ⟨hb, rfl, X, hlt, ht⟩
              refine ⟨_, rfl, _, rfl, t, _, rfl, SqT.of ht, row_nw1 e, fun q1 hq1 => ?_⟩
              rw [show cutV e.row none (some 1) = e.row.take 1 from cut_take e.row 1]
              have S1 := sNew (o := .tup (e.row.take 1)) hq1
              refine ⟨_, rfl, by show 1 ≤ sizeLine; decide, fun q2 hq2 => ?_⟩
              have S2 := sNew (o := .tup [.int (y + j + 1)]) hq2
              have l1 : (e.row.take 1).length = 1 := rfl
              have l4 := row_len e
              refine ⟨q1, q2, _, _, rfl, rfl, SqT.of (S2 _ _ upd_same), SqT.of upd_same, (fun z => by cases z), by show 1 + 1 ≤ sizeLine; decide, (fun z => by cases z), fun _ q3 hq3 => ?_⟩
              have S3 := sNew (o := .tup (e.row.take 1 ++ [.int (y + j + 1)])) hq3
              have S13 := (S1.trans S2).trans S3
              refine ⟨_, rfl, _, rfl, t, _, rfl, SqT.of (S13 _ _ ht), row_nw2 e, fun q4 hq4 => ?_⟩
              rw [show cutV e.row (some 2) none = e.row.drop 2 from cut_drop e.row 2]
              have S4 := sNew (o := .tup (e.row.drop 2)) hq4
              refine ⟨q3, q4, _, _, rfl, rfl, SqT.of (S4 _ _ upd_same), SqT.of upd_same, (fun z => by cases z), Nat.le_of_lt (small1000 (by rw [List.length_drop, List.length_append, l1]; show 1 + 1 + _ ≤ 1000; omega)), (fun z => absurd z (row_d2 e)), fun _ q5 hq5 => ?_⟩
              have S5 := sNew (o := .tup (e.row.take 1 ++ [.int (y + j + 1)] ++ e.row.drop 2)) hq5
              have SS := (S13.trans S4).trans S5
              have cb := cn.bump (y' := y + j + 1) (by omega) (fun p n e2 => hb _ p n e2)
              refine ⟨e.at (y + j + 1), q5, y + j + 1, rfl, X.same N SS, SS _ _ hlt, by rw [← Ev.row_cut]; exact upd_same, cb, leP_next ?_, by omega, Int.le_refl _⟩
              have := W.lpy
              show lp.1 < (e.at (y + j + 1)).y
              rw [Ev.at_y]
              omega
            refine ⟨_, rfl, _, _, _, _, rfl, rfl, SqT.of ht, atI_nat (j := 0) rfl, rfl, _, rfl, ?_⟩
            have go : (∀ z p n, e = .born z p n → deadW n1 ((famE gs evs).deaths.lookup p) (y + j + 1) = false) → _ := fun hb => And.intro hb (And.intro (rfl (a := [some (.ref d), some (.ref ct), some (.ref l), some (.int (m : Nat)), some (.int stp), some (.ref bD), some (.ref dD), some (.ref kD), some (.str (freshN kf)), v9, v10, some (.ref ws), some (.int (y + j + 1)), some (.int (kf : Nat)), some (.ref fL), some (.ref wL), some (.ref lt), some (.int (0 + (i : Nat))), some (.int j), some (.int pl), some (.str who), some (.ref t), some (.bl (!((famE gs evs).deaths.lookup who).isSome)), v23])) (And.intro X (And.intro hlt ht)))
            rcases born_or e with ⟨z, p, n, eb, hd⟩ | ⟨nb, hd⟩
            · rw [hd]
              refine iteT ⟨_, rfl, _, rfl, ?_⟩
              have pw : p = who := bo z p n eb
              refine ite2 (fun g4 => ?_) (fun g4 => ?_)
              · refine iteF (go fun z2 p2 n2 e2 => ?_)
                rw [bo z2 p2 n2 e2]
                cases ed : (famE gs evs).deaths.lookup who with
                | none => rfl
                | some dd => rw [ed] at g4; cases g4
              · obtain ⟨dd, ed⟩ := Option.isSome_iff_exists.mp (show ((famE gs evs).deaths.lookup who).isSome = true by simpa using g4)
                have dE := dgF (fn := V.int) who X.de
                rw [ed] at dE
                refine ⟨_, rfl, _, rfl, _, rfl, _, _, rfl, dE, _, rfl, _, _, _, _, rfl, rfl, SqT.of X.ct, atI_nat (j := 1) rfl, _, _, rfl, rfl, _, _, rfl, rfl, _, rfl, ?_⟩
                cases g5 : decide (y + j + 1 ≤ dd + n1) with
                | true =>
                  refine iteF (go fun z2 p2 n2 e2 => ?_)
                  rw [bo z2 p2 n2 e2, ed]
                  exact decide_eq_false (by have := of_decide_eq_true g5; omega)
                | false => exact iteT ⟨evs, B, Kd, fs, us, y + j + 1, kf, lp, lt, _, _, _, _, _, _, _, _, _, _, X, hlt, W.skip (by omega) (by omega), rfl⟩
            · rw [hd]
              exact iteF (iteF (go fun z2 p2 n2 e2 => absurd e2 (nb z2 p2 n2)))
          · rintro σ' H6 ⟨e', t', y', rfl, X', hlt', ht', cn', lg, y1, y2⟩
            clear X hlt ht
            have X := X'
            have hlt := hlt'
            have ht := ht'
            clear X' hlt' ht'
            have lw := X.pw.length
            have el := W.len
            refine ⟨_, rfl, .inl ⟨rfl, _, SqL.of X.ws⟩, _, rfl, ws, _, _, rfl, rfl, X.ws, small1000 (by omega), ?_⟩
            have hlt := (upd_ne (o := .lst (us ++ [.ref t'])) (ne_of hlt X.ws (fun z => nomatch z))).trans hlt
            have ht2 := (upd_ne (o := .lst (us ++ [.ref t'])) (ne_of ht X.ws (fun z => nomatch z))).trans ht
            have X := X.setW N ht
            have ht := ht2
            clear ht2
            refine ⟨fun σ' H' => ∃ lt2, σ' = [some (.ref d), some (.ref ct), some (.ref l), some (.int (m : Nat)), some (.int stp), some (.ref bD), some (.ref dD), some (.ref kD), some (.str (freshN kf)), v9, v10, some (.ref ws), some (.int (y')), some (.int (kf : Nat)), some (.ref fL), some (.ref wL), some (.ref lt2), some (.int (0 + (i : Nat))), some (.int j), some (.int pl), some (.str who), some (.ref t'), some (.bl (!((famE gs evs).deaths.lookup who).isSome)), v23] ∧ RwX H H' ⟨d, c, ct, bD, dD, kD, ws, fL, wL⟩ n0 n1 n2 n3 B (famE gs evs).deaths Kd fs (us ++ [.ref t']) (evs ++ [e']) ∧ H' lt2 = some (.tup (plV e'.pl)) ∧ H' t' = some (.tup e'.row), ?_, ?_⟩
            · refine ⟨_, rfl, _, _, _, _, rfl, rfl, SqT.of ht, atI_nat (j := 1) rfl, _, rfl, .inl ⟨rfl, _, SqL.of X.wl⟩, _, rfl, _, _, _, _, rfl, rfl, SqT.of ht, atI_nat (j := 0) rfl, wL, wordsV, .str (Ev.w e'), Ev.k e', .str (Ev.w e'), rfl, rfl, SqL.of X.wl, rfl, rfl, wordsV_at e', (by show (Ev.w e' == Ev.w e') = true; exact beq_self_eq_true _), wordsV_no e', _, rfl, _, rfl, _, _, _, _, rfl, rfl, SqT.of ht, row_last e', by show 3 ≤ sizeLine; decide, fun p1 hp1 => ?_⟩
              have S1 := sNew (o := .tup (plV e'.pl)) hp1
              exact ⟨p1, rfl, X.same N S1, upd_same, S1 _ _ ht⟩
            clear X hlt ht
            rintro σ' H7 ⟨lt2, rfl, X, hlt, ht⟩
            have W2 := (W.skip (y' := y') (by omega) (by omega)).step (by omega) W.len W.fk W.fl W.dl W.kl W.bl cn' lg
            have cy := cn'.y
            cases e' with
            | born z p n =>
              obtain rfl : z = y' := cy
              refine ⟨_, rfl, _, _, _, _, rfl, rfl, SqT.of ht, atI_nat (j := 0) rfl, rfl, _, rfl, ?_⟩
              rw [show decide (V.str (Ev.born z p n).w = V.str "born") = true from decide_eq_true rfl]
              refine iteT (iteT ?_)
              refine ⟨_, rfl, _, _, rfl, rfl, ?_⟩
              refine ⟨fun v H' => v = .str "unborn" ∧ RwX H H' ⟨d, c, ct, bD, dD, kD, ws, fL, wL⟩ n0 n1 n2 n3 B (famE gs evs).deaths Kd fs (us ++ [.ref t']) (evs ++ [Ev.born z p n]) ∧ H' lt2 = some (.tup (plV (Ev.pl (Ev.born z p n)))) ∧ H' t' = some (.tup (Ev.row (Ev.born z p n))), ?_, ?_⟩
              · refine ⟨_, rfl, _, _, _, _, rfl, rfl, SqT.of ht, atI_nat (j := 0) rfl, rfl, _, rfl, ?_⟩
                rw [show decide (V.str (Ev.born z p n).w = V.str "born") = true from decide_eq_true rfl]
                exact iteT ⟨rfl, X, hlt, ht⟩
              clear X hlt ht
              rintro v H8 ⟨rfl, X, hlt, ht⟩
              refine ⟨_, rfl, _, rfl, _, _, _, _, rfl, rfl, SqT.of ht, atI_nat (j := 3) rfl, kD, _, rfl, dps X.kd (put_dk V.str _ n _) (by rw [dk_len]; exact small1000 (by have := W.kl; omega)), ?_⟩
              have X1 := X.setK N (put Kd n "unborn")
              have fr : ∀ {b xs}, H8 b = some (.tup xs) → (upd H8 kD (.dK (dk V.str (put Kd n "unborn")))) b = some (.tup xs) := fun e => (upd_ne (ne_of e X.kd (fun z => nomatch z))).trans e
              have hlt1 := fr hlt
              have ht1 := fr ht
              refine ⟨_, rfl, _, rfl, _, rfl, _, _, _, _, rfl, rfl, SqT.of ht1, atI_nat (j := 3) rfl, bD, _, rfl, dps X1.b (put_dk V.int _ n _) (by rw [dk_len]; exact small1000 (by have := W.bl; omega)), ?_⟩
              have X2 := X1.setB N (put B n z)
              refine ⟨evs ++ [Ev.born z p n], _, _, _, us ++ [.ref t'], z, kf + 1, _, lt2, _, _, _, _, _, _, _, _, _, _, ?_, (upd_ne (ne_of hlt1 X1.b (fun z => nomatch z))).trans hlt1, W2, rfl⟩
              rw [famE_snoc]
              exact X2

            | wed z p n =>
              obtain rfl : z = y' := cy
              refine ⟨_, rfl, _, _, _, _, rfl, rfl, SqT.of ht, atI_nat (j := 0) rfl, rfl, _, rfl, ?_⟩
              rw [show decide (V.str (Ev.wed z p n).w = V.str "born") = false from decide_eq_false fun h => absurd (V.str.inj h) (by show ("wed" : Str) ≠ "born"; decide +kernel)]
              refine iteF ⟨_, rfl, _, _, _, _, rfl, rfl, SqT.of ht, atI_nat (j := 0) rfl, rfl, _, rfl, ?_⟩
              rw [show decide (V.str (Ev.wed z p n).w = V.str "wed") = true from decide_eq_true rfl]
              refine iteT ?_
              refine ⟨_, rfl, _, _, rfl, rfl, ?_⟩
              refine ⟨fun v H' => v = .str "mate" ∧ RwX H H' ⟨d, c, ct, bD, dD, kD, ws, fL, wL⟩ n0 n1 n2 n3 B (famE gs evs).deaths Kd fs (us ++ [.ref t']) (evs ++ [Ev.wed z p n]) ∧ H' lt2 = some (.tup (plV (Ev.pl (Ev.wed z p n)))) ∧ H' t' = some (.tup (Ev.row (Ev.wed z p n))), ?_, ?_⟩
              · refine ⟨_, rfl, _, _, _, _, rfl, rfl, SqT.of ht, atI_nat (j := 0) rfl, rfl, _, rfl, ?_⟩
                rw [show decide (V.str (Ev.wed z p n).w = V.str "born") = false from decide_eq_false fun h => absurd (V.str.inj h) (by show ("wed" : Str) ≠ "born"; decide +kernel)]
                exact iteF ⟨rfl, X, hlt, ht⟩
              clear X hlt ht
              rintro v H8 ⟨rfl, X, hlt, ht⟩
              refine ⟨_, rfl, _, rfl, _, _, _, _, rfl, rfl, SqT.of ht, atI_nat (j := 3) rfl, kD, _, rfl, dps X.kd (put_dk V.str _ n _) (by rw [dk_len]; exact small1000 (by have := W.kl; omega)), ?_⟩
              have X1 := X.setK N (put Kd n "mate")
              have fr : ∀ {b xs}, H8 b = some (.tup xs) → (upd H8 kD (.dK (dk V.str (put Kd n "mate")))) b = some (.tup xs) := fun e => (upd_ne (ne_of e X.kd (fun z => nomatch z))).trans e
              have hlt1 := fr hlt
              have ht1 := fr ht
              refine ⟨_, rfl, _, rfl, _, rfl, _, _, _, _, rfl, rfl, SqT.of ht1, atI_nat (j := 3) rfl, bD, _, rfl, dps X1.b (put_dk V.int _ n _) (by rw [dk_len]; exact small1000 (by have := W.bl; omega)), ?_⟩
              have X2 := X1.setB N (put B n z)
              refine ⟨evs ++ [Ev.wed z p n], _, _, _, us ++ [.ref t'], z, kf + 1, _, lt2, _, _, _, _, _, _, _, _, _, _, ?_, (upd_ne (ne_of hlt1 X1.b (fun z => nomatch z))).trans hlt1, W2, rfl⟩
              rw [famE_snoc]
              exact X2

            | happ z n =>
              obtain rfl : z = y' := cy
              refine ⟨_, rfl, _, _, _, _, rfl, rfl, SqT.of ht, atI_nat (j := 0) rfl, rfl, _, rfl, ?_⟩
              rw [show decide (V.str (Ev.happ z n).w = V.str "born") = false from decide_eq_false fun h => absurd (V.str.inj h) (by show ("happened" : Str) ≠ "born"; decide +kernel)]
              refine iteF ⟨_, rfl, _, _, _, _, rfl, rfl, SqT.of ht, atI_nat (j := 0) rfl, rfl, _, rfl, ?_⟩
              rw [show decide (V.str (Ev.happ z n).w = V.str "wed") = false from decide_eq_false fun h => absurd (V.str.inj h) (by show ("happened" : Str) ≠ "wed"; decide +kernel)]
              refine iteF ⟨_, rfl, _, _, _, _, rfl, rfl, SqT.of ht, atI_nat (j := 0) rfl, rfl, _, rfl, ?_⟩
              rw [show decide (V.str (Ev.happ z n).w = V.str "happened") = true from decide_eq_true rfl]
              refine iteT ⟨_, rfl, .inl ⟨rfl, _, SqL.of X.fl⟩, _, rfl, _, _, _, _, rfl, rfl, SqT.of ht, atI_nat (j := 2) rfl, fL, _, _, rfl, rfl, X.fl, small1000 (by rw [List.length_map]; have := W.fl; omega), ?_⟩
              refine ⟨evs ++ [Ev.happ z n], _, _, _, us ++ [.ref t'], z, kf, _, lt2, _, _, _, _, _, _, _, _, _, _, ?_, (upd_ne (ne_of hlt X.fl (fun z => nomatch z))).trans hlt, W2, rfl⟩
              rw [famE_snoc]
              exact X.setF N n
            | died z p =>
              obtain rfl : z = y' := cy
              refine ⟨_, rfl, _, _, _, _, rfl, rfl, SqT.of ht, atI_nat (j := 0) rfl, rfl, _, rfl, ?_⟩
              rw [show decide (V.str (Ev.died z p).w = V.str "born") = false from decide_eq_false fun h => absurd (V.str.inj h) (by show ("died" : Str) ≠ "born"; decide +kernel)]
              refine iteF ⟨_, rfl, _, _, _, _, rfl, rfl, SqT.of ht, atI_nat (j := 0) rfl, rfl, _, rfl, ?_⟩
              rw [show decide (V.str (Ev.died z p).w = V.str "wed") = false from decide_eq_false fun h => absurd (V.str.inj h) (by show ("died" : Str) ≠ "wed"; decide +kernel)]
              refine iteF ⟨_, rfl, _, _, _, _, rfl, rfl, SqT.of ht, atI_nat (j := 0) rfl, rfl, _, rfl, ?_⟩
              rw [show decide (V.str (Ev.died z p).w = V.str "happened") = false from decide_eq_false fun h => absurd (V.str.inj h) (by show ("died" : Str) ≠ "happened"; decide +kernel)]
              refine iteF ⟨_, rfl, _, rfl, _, rfl, _, _, _, _, rfl, rfl, SqT.of ht, atI_nat (j := 2) rfl, dD, _, rfl, dps X.de (put_dk V.int _ p _) (by rw [dk_len]; exact small1000 (by have := W.dl; omega)), ?_⟩
              refine ⟨evs ++ [Ev.died z p], _, _, _, us ++ [.ref t'], z, kf, _, lt2, _, _, _, _, _, _, _, _, _, _, ?_, (upd_ne (ne_of hlt X.de (fun z => nomatch z))).trans hlt, W2, rfl⟩
              rw [famE_snoc]
              exact X.setD N _
      · rintro σ H' ⟨evs, B, Kd, fs, us, y, kf, lp, lt, v8, v9, v10, v17, v18, v19, v20, v21, v22, v23, X, hlt, W, rfl⟩
        refine ⟨_, rfl, k ws us evs H' hrH X.ws X.pw W.ok W.len W.run (fun s hs => ?_) X.dr X.bu⟩
        rw [← W.key s] at hs
        obtain ⟨w, hw⟩ := Option.isSome_iff_exists.mp hs
        exact W.dom s w hw
theorem cal_rows (T : Txt P w K mg cl) : Cal P w K mg base CX0 2 "_law_rows" ["_law_draws", "_law_customs_here", "_law_lives_here", "_law_most", "_law_step"] spRows := by
  obtain ⟨f, fd, F, m⟩ := T.d_rows
  exact ⟨f, fd, ok_rows F T, m, F.kp, F.binds fun _ _ _ _ _ _ us hl => match us, hl with | [_, _, _, _, _], _ => rfl⟩
end
end My
set_option Elab.async false
set_option linter.all false
set_option maxRecDepth 100000
set_option maxHeartbeats 1000000
namespace My
open PySem L2 Dw
open C8 (pss_cut tCut)
open Wp
/-! spoilt rows -/
theorem ixN_of {n m : Nat} (h : m < n) : ixN n (m : Int) = some m := by
  unfold ixN
  rw [if_pos (by omega), if_pos (by omega)]
  simp
theorem nw_h1 (e : Ev) : ¬ (HT.sIx e.row.length 0 none = 0 ∧ HT.sIx e.row.length e.row.length (some 1) = e.row.length) := by
  cases e with
  | born y p n => exact (by decide : ¬ (HT.sIx 4 0 none = 0 ∧ HT.sIx 4 4 (some 1) = 4))
  | wed y p n => exact (by decide : ¬ (HT.sIx 4 0 none = 0 ∧ HT.sIx 4 4 (some 1) = 4))
  | happ y n => exact (by decide : ¬ (HT.sIx 3 0 none = 0 ∧ HT.sIx 3 3 (some 1) = 3))
  | died y n => exact (by decide : ¬ (HT.sIx 3 0 none = 0 ∧ HT.sIx 3 3 (some 1) = 3))
theorem nw_h2 (e : Ev) : ¬ (HT.sIx e.row.length 0 none = 0 ∧ HT.sIx e.row.length e.row.length (some 2) = e.row.length) := by
  cases e with
  | born y p n => exact (by decide : ¬ (HT.sIx 4 0 none = 0 ∧ HT.sIx 4 4 (some 2) = 4))
  | wed y p n => exact (by decide : ¬ (HT.sIx 4 0 none = 0 ∧ HT.sIx 4 4 (some 2) = 4))
  | happ y n => exact (by decide : ¬ (HT.sIx 3 0 none = 0 ∧ HT.sIx 3 3 (some 2) = 3))
  | died y n => exact (by decide : ¬ (HT.sIx 3 0 none = 0 ∧ HT.sIx 3 3 (some 2) = 3))
theorem nw_hm (e : Ev) : ¬ (HT.sIx e.row.length 0 none = 0 ∧ HT.sIx e.row.length e.row.length (some (-1)) = e.row.length) := by
  cases e with
  | born y p n => exact (by decide : ¬ (HT.sIx 4 0 none = 0 ∧ HT.sIx 4 4 (some (-1)) = 4))
  | wed y p n => exact (by decide : ¬ (HT.sIx 4 0 none = 0 ∧ HT.sIx 4 4 (some (-1)) = 4))
  | happ y n => exact (by decide : ¬ (HT.sIx 3 0 none = 0 ∧ HT.sIx 3 3 (some (-1)) = 3))
  | died y n => exact (by decide : ¬ (HT.sIx 3 0 none = 0 ∧ HT.sIx 3 3 (some (-1)) = 3))
theorem nw_l1 (e : Ev) : ¬ (HT.sIx e.row.length 0 (some 1) = 0 ∧ HT.sIx e.row.length e.row.length none = e.row.length) := by
  cases e with
  | born y p n => exact (by decide : ¬ (HT.sIx 4 0 (some 1) = 0 ∧ HT.sIx 4 4 none = 4))
  | wed y p n => exact (by decide : ¬ (HT.sIx 4 0 (some 1) = 0 ∧ HT.sIx 4 4 none = 4))
  | happ y n => exact (by decide : ¬ (HT.sIx 3 0 (some 1) = 0 ∧ HT.sIx 3 3 none = 3))
  | died y n => exact (by decide : ¬ (HT.sIx 3 0 (some 1) = 0 ∧ HT.sIx 3 3 none = 3))
theorem nw_l2 (e : Ev) : ¬ (HT.sIx e.row.length 0 (some 2) = 0 ∧ HT.sIx e.row.length e.row.length none = e.row.length) := by
  cases e with
  | born y p n => exact (by decide : ¬ (HT.sIx 4 0 (some 2) = 0 ∧ HT.sIx 4 4 none = 4))
  | wed y p n => exact (by decide : ¬ (HT.sIx 4 0 (some 2) = 0 ∧ HT.sIx 4 4 none = 4))
  | happ y n => exact (by decide : ¬ (HT.sIx 3 0 (some 2) = 0 ∧ HT.sIx 3 3 none = 3))
  | died y n => exact (by decide : ¬ (HT.sIx 3 0 (some 2) = 0 ∧ HT.sIx 3 3 none = 3))
theorem nw_l3 {e : Ev} (h : e.row.length = 4) : ¬ (HT.sIx e.row.length 0 (some 3) = 0 ∧ HT.sIx e.row.length e.row.length none = e.row.length) := by rw [h]; decide
theorem cutV_mem {xs : List V} {lo hi : Option Int} {x : V} (h : x ∈ cutV xs lo hi) : x ∈ xs := List.mem_of_mem_drop (List.mem_of_mem_take h)
theorem row_len3 (e : Ev) : 3 ≤ e.row.length := by cases e <;> (show 3 ≤ _; simp [Ev.row, Ev.tl])
theorem cut_ne (e : Ev) : cutV e.row none (some 1) ≠ [] ∧ cutV e.row none (some 2) ≠ [] ∧ cutV e.row none (some (-1)) ≠ [] ∧ cutV e.row (some 1) none ≠ [] ∧ cutV e.row (some 2) none ≠ [] := by
  cases e <;> exact ⟨fun z => (by cases z), fun z => (by cases z), fun z => (by cases z), fun z => (by cases z), fun z => (by cases z)⟩
theorem cut3_ne {e : Ev} (h : e.row.length = 4) : cutV e.row (some 3) none ≠ [] := by
  cases e with
  | born y p n => intro z; cases z
  | wed y p n => intro z; cases z
  | happ y n => cases h
  | died y n => cases h
theorem Paired.dropP {α β : Type} {F : α → β → Prop} : ∀ (m : Nat) {xs : List α} {ys : List β}, Paired F xs ys → Paired F (xs.drop m) (ys.drop m)
  | 0, _, _, h => h
  | m + 1, _, _, .nil => .nil
  | m + 1, _, _, .cons _ t => Paired.dropP m t
theorem Paired.setP {α β : Type} {F : α → β → Prop} {x : α} {y : β} (h : F x y) : ∀ (m : Nat) {xs : List α} {ys : List β}, Paired F xs ys → Paired F (xs.set m x) (ys.set m y)
  | _, _, _, .nil => .nil
  | 0, _, _, .cons _ t => .cons h t
  | m + 1, _, _, .cons a t => .cons a (Paired.setP h m t)
def SpM (H H' : Hp) (d c r : Addr) (n : Nat) : Prop := ∃ us rs, H' r = some (.lst us) ∧ Paired (TRd H') us rs ∧ (∀ x ∈ rs, RdOk x) ∧ rs.length ≤ n ∧ Dr H' d c ∧ But d H H'
theorem spSet {H H4 : Hp} {d c r : Addr} {vs : List V} {rs : List Rd} {n : Nat} {x : V} {y : Rd} (hr0 : H r = none) (hrd : r ≠ d) (hrc : r ≠ c) (h : H4 r = some (.lst vs)) (p : Paired (TRd H4) vs rs) (ok : ∀ x ∈ rs, RdOk x) (hl : rs.length ≤ n) (D4 : Dr H4 d c) (B4 : But d H H4) (tx : TRd H4 x y) (oy : RdOk y) (m : Nat) : SpM H (upd H4 r (.lst (vs.set m x))) d c r n := by
  refine ⟨_, _, upd_same, L2.Paired.mapP (Paired.setP tx m p) fun _ _ h' => h'.keep fun b xs e => (upd_ne (ne_of e h (fun z => nomatch z))).trans e, fun z hz => ?_, by rw [List.length_set]; exact hl, D4.upd (Ne.symm hrd) (Ne.symm hrc), fun b o e nb => (upd_ne (ne_of_none e hr0)).trans (B4 b o e nb)⟩
  rcases List.mem_or_eq_of_mem_set hz with hz | hz
  · exact ok z hz
  · rw [hz]; exact oy
theorem rd_new {e : Ev} {xs : List V} (ok : e.Ok) (hl : xs.length ≤ 6) (h : ∀ x ∈ xs, x ∈ e.row ∨ Sr x) : RdOk (.sq xs) := ⟨hl, fun x hx => (h x hx).elim (fun q => (row_ok ok).2 x q) id⟩
theorem sr_w {s : Str} (h1 : s.length ≤ 1000) (h2 : PyData.strOk s = true) : Sr (.str s) := ⟨h1, h2⟩
theorem sr_n {s : Str} (h : isN (.str s) = true) : Sr (.str s) := (row_ok (e := .died 1 s) ⟨by show (1 : Int) ≤ 1; decide, by show (1 : Int) ≤ 1000000000; decide, fun t ht => by rw [show t = s by simpa [Ev.tl] using ht]; exact h⟩).2 _ (by simp [Ev.row, Ev.tl])
theorem odd_year {m : Nat} (h : m < 6) : ∃ v, ([.int 0, .int (-3), .bl true, .non, .str "4", .int (10 ^ (9 : Int).toNat + 1)] : List V)[m]? = some v ∧ Sr v := by
  match m, h with
  | 0, _ => exact ⟨_, rfl, trivial⟩
  | 1, _ => exact ⟨_, rfl, trivial⟩
  | 2, _ => exact ⟨_, rfl, trivial⟩
  | 3, _ => exact ⟨_, rfl, trivial⟩
  | 4, _ => exact ⟨_, rfl, by decide +kernel, by decide +kernel⟩
  | 5, _ => exact ⟨_, rfl, trivial⟩
theorem odd_end {m : Nat} (h : m < 6) : ∃ v, ([.str "", .str "A", .int 5, .non, .str "abcdefghi", .str "a b"] : List V)[m]? = some v ∧ Sr v := by
  match m, h with
  | 0, _ => exact ⟨_, rfl, by decide +kernel, by decide +kernel⟩
  | 1, _ => exact ⟨_, rfl, by decide +kernel, by decide +kernel⟩
  | 2, _ => exact ⟨_, rfl, trivial⟩
  | 3, _ => exact ⟨_, rfl, trivial⟩
  | 4, _ => exact ⟨_, rfl, by decide +kernel, by decide +kernel⟩
  | 5, _ => exact ⟨_, rfl, by decide +kernel, by decide +kernel⟩
theorem odd_who {m : Nat} (h : m < 6) : ∃ s, ([.str "a", .str "b", .str "q", .str "r", .str "nobody", .str "s"] : List V)[m]? = some (.str s) ∧ Sr (.str s) := by
  match m, h with
  | 0, _ => exact ⟨_, rfl, by decide +kernel, by decide +kernel⟩
  | 1, _ => exact ⟨_, rfl, by decide +kernel, by decide +kernel⟩
  | 2, _ => exact ⟨_, rfl, by decide +kernel, by decide +kernel⟩
  | 3, _ => exact ⟨_, rfl, by decide +kernel, by decide +kernel⟩
  | 4, _ => exact ⟨_, rfl, by decide +kernel, by decide +kernel⟩
  | 5, _ => exact ⟨_, rfl, by decide +kernel, by decide +kernel⟩
theorem odd_last {s : Str} {m : Nat} (hs : Sr (.str s)) (h : m < 6) : ∃ v, ([.str "a", .str s, .str "q", .str "r", .str "war", .str "nobody"] : List V)[m]? = some v ∧ Sr v := by
  match m, h with
  | 0, _ => exact ⟨_, rfl, by decide +kernel, by decide +kernel⟩
  | 1, _ => exact ⟨_, rfl, hs⟩
  | 2, _ => exact ⟨_, rfl, by decide +kernel, by decide +kernel⟩
  | 3, _ => exact ⟨_, rfl, by decide +kernel, by decide +kernel⟩
  | 4, _ => exact ⟨_, rfl, by decide +kernel, by decide +kernel⟩
  | 5, _ => exact ⟨_, rfl, by decide +kernel, by decide +kernel⟩
theorem odd_word {m : Nat} (h : m < 4) : ∃ v, ([.str "born", .str "wed", .str "died", .str "happened"] : List V)[m]? = some v ∧ Sr v := by
  match m, h with
  | 0, _ => exact ⟨_, rfl, by decide +kernel, by decide +kernel⟩
  | 1, _ => exact ⟨_, rfl, by decide +kernel, by decide +kernel⟩
  | 2, _ => exact ⟨_, rfl, by decide +kernel, by decide +kernel⟩
  | 3, _ => exact ⟨_, rfl, by decide +kernel, by decide +kernel⟩
structure SpX (H H' : Hp) (d c R l : Addr) (ws lus : List V) (gs : List Gd) (evs : List Ev) : Prop where
  D : Dr H' d c
  B : But d H H'
  hR : H' R = some (.lst ws)
  hp : Paired (EvAt H') ws evs
  hl : H' l = some (.lst lus)
  hpl : Paired (TupAt H') lus (gs.map mkR)
theorem SpX.but {H H1 H2 : Hp} {d c R l : Addr} {ws lus : List V} {gs : List Gd} {evs : List Ev} (X : SpX H H1 d c R l ws lus gs evs) (D : Dr H2 d c) (B : But d H1 H2) : SpX H H2 d c R l ws lus gs evs :=
  ⟨D, X.B.trans B, butLst X.D B X.hR, evs_keep X.hp fun _ _ e => butTup X.D B e, butLst X.D B X.hl, L2.Paired.mapP X.hpl fun _ _ h => h.keep fun _ _ e => butTup X.D B e⟩
theorem SpX.same {H H1 H2 : Hp} {d c R l : Addr} {ws lus : List V} {gs : List Gd} {evs : List Ev} (X : SpX H H1 d c R l ws lus gs evs) (S : Same H1 H2) : SpX H H2 d c R l ws lus gs evs := X.but (X.D.same S) (But.of S)
theorem evs_trd {H : Hp} : ∀ {ws : List V} {evs : List Ev}, Paired (EvAt H) ws evs → Paired (TRd H) ws (evs.map rowR)
  | _, _, .nil => .nil
  | _, _, .cons h t => .cons h (evs_trd t)
theorem spCat {H H5 : Hp} {d c R l p : Addr} {ws lus mid : List V} {gs : List Gd} {evs : List Ev} {rm : List Rd} {a b n : Nat} (X : SpX H H5 d c R l ws lus gs evs) (eok : ∀ e ∈ evs, e.Ok) (h5 : H5 p = some (.lst (ws.take a ++ mid ++ ws.drop b))) (tm : Paired (TRd H5) mid rm) (okm : ∀ x ∈ rm, RdOk x) (hl : min a evs.length + rm.length + (evs.length - b) ≤ n) : SpM H H5 d c p n := by
  have q := evs_trd X.hp
  refine ⟨_, _, h5, Paired.appendP (Paired.appendP (Paired.takeP a q) tm) (Paired.dropP b q), fun x hx => ?_, ?_, X.D, X.B⟩
  · have ev : x ∈ evs.map rowR → RdOk x := fun h => by
      obtain ⟨e, he, rfl⟩ := List.mem_map.mp h
      exact row_ok (eok e he)
    rcases List.mem_append.mp hx with hx | hx
    · rcases List.mem_append.mp hx with hx | hx
      · exact ev (List.mem_of_mem_take hx)
      · exact okm x hx
    · exact ev (List.mem_of_mem_drop hx)
  · rw [List.length_append, List.length_append, List.length_take, List.length_drop, List.length_map]
    exact hl
theorem SpX.set {H H4 : Hp} {d c R l : Addr} {ws lus : List V} {gs : List Gd} {evs : List Ev} {x : V} {y : Rd} {n : Nat} (X : SpX H H4 d c R l ws lus gs evs) (nR : H R = none) (nd : R ≠ d) (nc : R ≠ c) (eok : ∀ e ∈ evs, e.Ok) (hn : evs.length ≤ n) (tx : TRd H4 x y) (oy : RdOk y) (m : Nat) : SpM H (upd H4 R (.lst (ws.set m x))) d c R n :=
  spSet nR nd nc X.hR (evs_trd X.hp) (fun z hz => by
    obtain ⟨e, he, rfl⟩ := List.mem_map.mp hz
    exact row_ok (eok e he)) (by rw [List.length_map]; exact hn) X.D X.B tx oy m
theorem SpX.fresh {H H5 : Hp} {d c R l p : Addr} {ws lus : List V} {gs : List Gd} {evs : List Ev} (X : SpX H H5 d c R l ws lus gs evs) (n : H5 p = none) : H p = none := by
  cases e : H p with
  | none => rfl
  | some o =>
    by_cases ed : p = d
    · obtain ⟨_, _, _, _, _, _, _, h1, _⟩ := X.D
      rw [ed, h1] at n
      cases n
    · rw [X.B p o e ed] at n
      cases n
theorem odd_tup {H : Hp} {t1 t2 t3 t4 : Addr} {y : Int} {s : Str} (hs : Sr (.str s)) (h1 : H t1 = some (.tup [.str "born", .int y, .str s, .str "zz"])) (h2 : H t2 = some (.tup [.str "wed", .int y, .str s, .str "zz"])) (h3 : H t3 = some (.tup [.str "died", .int y, .str s])) (h4 : H t4 = some (.tup [.str "happened", .int y, .str "war"])) {m : Nat} (h : m < 4) :
    ∃ v r, ([.ref t1, .ref t2, .ref t3, .ref t4] : List V)[m]? = some v ∧ TRd H v r ∧ RdOk r := by
  have w : ∀ {s : Str}, s.length ≤ 1000 ∧ PyData.strOk s = true → Sr (.str s) := id
  match m, h with
  | 0, _ => exact ⟨_, .sq _, rfl, ⟨t1, rfl, h1⟩, by show 4 ≤ 6; decide, by simp only [List.mem_cons, List.not_mem_nil, or_false, forall_eq_or_imp, forall_eq]; exact ⟨w (by decide +kernel), trivial, hs, w (by decide +kernel)⟩⟩
  | 1, _ => exact ⟨_, .sq _, rfl, ⟨t2, rfl, h2⟩, by show 4 ≤ 6; decide, by simp only [List.mem_cons, List.not_mem_nil, or_false, forall_eq_or_imp, forall_eq]; exact ⟨w (by decide +kernel), trivial, hs, w (by decide +kernel)⟩⟩
  | 2, _ => exact ⟨_, .sq _, rfl, ⟨t3, rfl, h3⟩, by show 3 ≤ 6; decide, by simp only [List.mem_cons, List.not_mem_nil, or_false, forall_eq_or_imp, forall_eq]; exact ⟨w (by decide +kernel), trivial, hs⟩⟩
  | 3, _ => exact ⟨_, .sq _, rfl, ⟨t4, rfl, h4⟩, by show 3 ≤ 6; decide, by simp only [List.mem_cons, List.not_mem_nil, or_false, forall_eq_or_imp, forall_eq]; exact ⟨w (by decide +kernel), trivial, w (by decide +kernel)⟩⟩
theorem odd_one {H : Hp} {a1 a3 a4 a7 : Addr} {e : Ev} (ok : e.Ok) (h1 : H a1 = some (.tup [])) (h3 : H a3 = some (.tup (e.row ++ [.int 1]))) (h4 : H a4 = some (.tup (cutV e.row none (some 2)))) (h7 : H a7 = some (.tup ([.str "grew"] ++ cutV e.row (some 1) none))) {m : Nat} (h : m < 7) :
    ∃ v r, ([.non, .str "born", .ref a1, .ref a3, .ref a4, .int 7, .ref a7] : List V)[m]? = some v ∧ TRd H v r ∧ RdOk r := by
  have l4 := row_len e
  match m, h with
  | 0, _ => exact ⟨_, .pl .non, rfl, rfl, trivial⟩
  | 1, _ => exact ⟨_, .pl (.str "born"), rfl, rfl, by decide +kernel, by decide +kernel⟩
  | 2, _ => exact ⟨_, .sq [], rfl, ⟨a1, rfl, h1⟩, by decide, fun x hx => by cases hx⟩
  | 3, _ =>
    refine ⟨_, .sq _, rfl, ⟨a3, rfl, h3⟩, rd_new ok (by rw [List.length_append]; show _ + 1 ≤ 6; omega) fun x hx => ?_⟩
    rcases List.mem_append.mp hx with hx | hx
    · exact .inl hx
    · rw [show x = .int 1 by simpa using hx]; exact .inr trivial
  | 4, _ => exact ⟨_, .sq _, rfl, ⟨a4, rfl, h4⟩, rd_new ok (Nat.le_trans (cutV_length _ _ _) (by omega)) fun x hx => .inl (cutV_mem hx)⟩
  | 5, _ => exact ⟨_, .pl (.int 7), rfl, rfl, trivial⟩
  | 6, _ =>
    refine ⟨_, .sq _, rfl, ⟨a7, rfl, h7⟩, rd_new ok (by rw [List.length_append]; have := cutV_length e.row (some 1) none; show 1 + _ ≤ 6; omega) fun x hx => ?_⟩
    rcases List.mem_append.mp hx with hx | hx
    · rw [show x = .str "grew" by simpa using hx]; exact .inr ⟨by decide +kernel, by decide +kernel⟩
    · exact .inl (cutV_mem hx)
theorem rd_mid {e : Ev} {lo hi : Option Int} {x : V} (ok : e.Ok) (hx : Sr x) : RdOk (.sq (cutV e.row none hi ++ [x])) ∧ RdOk (.sq ([x] ++ cutV e.row lo none)) := by
  have l4 := row_len e
  refine ⟨rd_new ok (by rw [List.length_append]; have := cutV_length e.row none hi; show _ + 1 ≤ 6; omega) fun y hy => ?_, rd_new ok (by rw [List.length_append]; have := cutV_length e.row lo none; show 1 + _ ≤ 6; omega) fun y hy => ?_⟩
  · rcases List.mem_append.mp hy with hy | hy
    · exact .inl (cutV_mem hy)
    · rw [show y = x by simpa using hy]; exact .inr hx
  · rcases List.mem_append.mp hy with hy | hy
    · rw [show y = x by simpa using hy]; exact .inr hx
    · exact .inl (cutV_mem hy)
theorem cutV_lo {xs : List V} {n : Nat} : (cutV xs (some (n : Int)) none).length = xs.length - n := by rw [cut_drop, List.length_drop]
theorem cutV_hi {xs : List V} {n : Nat} : (cutV xs none (some (n : Int))).length = min n xs.length := by rw [cut_take, List.length_take]
theorem rd_mid2 {e : Ev} {n m : Nat} {x : V} (ok : e.Ok) (hx : Sr x) (h : n ≤ 2) (hm : 2 ≤ m) : RdOk (.sq (cutV e.row none (some (n : Int)) ++ [x] ++ cutV e.row (some (m : Int)) none)) := by
  have l4 := row_len e
  refine rd_new ok (by rw [List.length_append, List.length_append, cutV_lo, cutV_hi]; show _ + 1 + _ ≤ 6; omega) fun y hy => ?_
  rcases List.mem_append.mp hy with hy | hy
  · rcases List.mem_append.mp hy with hy | hy
    · exact .inl (cutV_mem hy)
    · rw [show y = x by simpa using hy]; exact .inr hx
  · exact .inl (cutV_mem hy)
def dieT (H : Hp) : V → Option V
  | .ref b => match H b with
    | some (.tup (.str w :: _ :: z :: _)) => if w = "died" then some z else none
    | _ => none
  | _ => none
theorem dieT_row {H : Hp} {b : Addr} {e : Ev} (h : H b = some (.tup e.row)) : dieT H (.ref b) = if e.w = "died" then some (.str e.z) else none := by
  have q : dieT H (.ref b) = (match some (HO.tup e.row) with
    | some (.tup (.str w :: _ :: z :: _)) => if w = "died" then some z else none
    | _ => none) := by
    show (match H b with
      | some (.tup (.str w :: _ :: z :: _)) => if w = "died" then some z else none
      | _ => none) = _
    rw [h]
  rw [q]
  cases e with
  | born y p n => exact (if_neg (show ¬ ("born" : Str) = "died" by decide +kernel)).trans (if_neg (show ¬ ("born" : Str) = "died" by decide +kernel)).symm
  | wed y p n => exact (if_neg (show ¬ ("wed" : Str) = "died" by decide +kernel)).trans (if_neg (show ¬ ("wed" : Str) = "died" by decide +kernel)).symm
  | happ y n => exact (if_neg (show ¬ ("happened" : Str) = "died" by decide +kernel)).trans (if_neg (show ¬ ("happened" : Str) = "died" by decide +kernel)).symm
  | died y n => rfl
theorem die_ok {H : Hp} : ∀ {ws : List V} {evs : List Ev}, Paired (EvAt H) ws evs → (∀ e ∈ evs, e.Ok) → ∀ v ∈ ws.filterMap (dieT H), ∃ s, v = .str s ∧ Sr (.str s)
  | _, _, .nil, _, v, hv => by cases hv
  | _ :: _, e :: _, .cons h t, ok, v, hv => by
    obtain ⟨b, rfl, hb⟩ := h
    rw [List.filterMap_cons, dieT_row hb] at hv
    by_cases g : e.w = "died"
    · rw [if_pos g] at hv
      rcases List.mem_cons.mp hv with rfl | hv
      · refine ⟨_, rfl, sr_n ((ok e List.mem_cons_self).2.2 _ ?_)⟩
        cases e <;> simp [Ev.tl, Ev.z]
      · exact die_ok t (fun e he => ok e (List.mem_cons_of_mem _ he)) v hv
    · rw [if_neg g] at hv
      exact die_ok t (fun e he => ok e (List.mem_cons_of_mem _ he)) v hv
theorem die_len {H : Hp} {ws : List V} : (ws.filterMap (dieT H)).length ≤ ws.length := List.length_filterMap_le _ _
theorem odd_ext {H : Hp} {t1 t2 t3 : Addr} {y : Int} {s : Str} (hs : Sr (.str s)) (h1 : H t1 = some (.tup [.str "born", .int (y + 1), .str s, .str "zz"])) (h2 : H t2 = some (.tup [.str "wed", .int y, .str s, .str "zz"])) (h3 : H t3 = some (.tup [.str "died", .int (y + 1), .str s])) {m : Nat} (h : m < 3) :
    ∃ v r, ([.ref t1, .ref t2, .ref t3] : List V)[m]? = some v ∧ TRd H v r ∧ RdOk r := by
  have w : ∀ {s : Str}, s.length ≤ 1000 ∧ PyData.strOk s = true → Sr (.str s) := id
  match m, h with
  | 0, _ => exact ⟨_, .sq _, rfl, ⟨t1, rfl, h1⟩, by show 4 ≤ 6; decide, by simp only [List.mem_cons, List.not_mem_nil, or_false, forall_eq_or_imp, forall_eq]; exact ⟨w (by decide +kernel), trivial, hs, w (by decide +kernel)⟩⟩
  | 1, _ => exact ⟨_, .sq _, rfl, ⟨t2, rfl, h2⟩, by show 4 ≤ 6; decide, by simp only [List.mem_cons, List.not_mem_nil, or_false, forall_eq_or_imp, forall_eq]; exact ⟨w (by decide +kernel), trivial, hs, w (by decide +kernel)⟩⟩
  | 2, _ => exact ⟨_, .sq _, rfl, ⟨t3, rfl, h3⟩, by show 3 ≤ 6; decide, by simp only [List.mem_cons, List.not_mem_nil, or_false, forall_eq_or_imp, forall_eq]; exact ⟨w (by decide +kernel), trivial, hs⟩⟩
theorem row_z2 {e : Ev} (h : e.w = "died") : e.row[2]? = some (.str e.z) := by
  cases e with
  | born y p n => exact absurd h (by show ("born" : Str) ≠ "died"; decide +kernel)
  | wed y p n => exact absurd h (by show ("wed" : Str) ≠ "died"; decide +kernel)
  | happ y n => rfl
  | died y n => rfl
theorem sr_gd {n0 : Int} {gs : List Gd} {g : Gd} (L : LvOk n0 gs) (h : g ∈ gs) : Sr (.str g.1) := by
  have q : g.1 ∈ abc := by
    have : g.1 ∈ gs.map (·.1) := List.mem_map.mpr ⟨g, h, rfl⟩
    rw [L.nam] at this
    exact List.mem_of_mem_take this
  obtain ⟨n, hn⟩ := List.mem_iff_getElem?.mp q
  exact sr_n (abc_at n _ hn).1
theorem odd_nine {n0 : Int} {gs : List Gd} (L : LvOk n0 gs) {m : Nat} (h : m < gs.length + 4) : ∃ v, ((gs.map fun g => V.str g.1) ++ [.str "q", .str "r", .str "s", .str "nobody"])[m]? = some v ∧ Sr v := by
  obtain ⟨v, hv⟩ : ∃ v, ((gs.map fun g => V.str g.1) ++ [.str "q", .str "r", .str "s", .str "nobody"])[m]? = some v := ⟨_, List.getElem?_eq_getElem (by rw [List.length_append, List.length_map]; exact h)⟩
  refine ⟨v, hv, ?_⟩
  rcases List.mem_append.mp (List.mem_of_getElem? hv) with q | q
  · obtain ⟨g, hg, rfl⟩ := List.mem_map.mp q
    exact sr_gd L hg
  · rcases (show v = .str "q" ∨ v = .str "r" ∨ v = .str "s" ∨ v = .str "nobody" by simpa using q) with rfl | rfl | rfl | rfl
    · exact ⟨by decide +kernel, by decide +kernel⟩
    · exact ⟨by decide +kernel, by decide +kernel⟩
    · exact ⟨by decide +kernel, by decide +kernel⟩
    · exact ⟨by decide +kernel, by decide +kernel⟩
def spSpoil : Sp := fun vs H Q _ => ∃ (d c r l : Addr) (n0 : Int) (ws lus : List V) (gs : List Gd) (evs : List Ev), vs = [.ref d, .ref r, .ref l] ∧ Dr H d c ∧ H r = some (.lst ws) ∧ Paired (EvAt H) ws evs ∧ (∀ e ∈ evs, e.Ok) ∧ evs.length ≤ 30 ∧ H l = some (.lst lus) ∧ Paired (TupAt H) lus (gs.map mkR) ∧ LvOk n0 gs ∧
  ∀ (r' : Addr) (H' : Hp), H r' = none → SpM H H' d c r' (evs.length + 1) → Q (.ref r') H'
section
variable {P : Program} {w : World} {K : PySem.W.Frag} {mg : Str → Option Value} {base : Heap} {cl : String → Addr}
end
end My
set_option Elab.async false
set_option linter.all false
set_option maxRecDepth 100000
set_option maxHeartbeats 1000000
namespace My
open PySem L2 Dw
open C8 (pss_cut tCut)
open Wp
theorem sqlS {K : PySem.W.Frag} {H H' : Hp} (S : Same H H') {a : Addr} {xs : List V} (h : SqL K H a xs) : SqL K H' a xs := by
  rcases h with (h | ⟨o, h⟩) | h
  · exact .inl (.inl (S _ _ h))
  · exact .inl (.inr ⟨o, S _ _ h⟩)
  · exact .inr h
theorem sqtS {K : PySem.W.Frag} {H H' : Hp} (S : Same H H') {a : Addr} {xs : List V} (h : SqT K H a xs) : SqT K H' a xs := by
  rcases h with (h | ⟨o, h⟩) | h
  · exact .inl (.inl (S _ _ h))
  · exact .inl (.inr ⟨o, S _ _ h⟩)
  · exact .inr h
mutual
theorem dpS {K : PySem.W.Frag} {H H' : Hp} (S : Same H H') : ∀ {v : V} {d : PyData}, Dp K H v d → Dp K H' v d
  | _, _, .non => .non
  | _, _, .bl b => .bl b
  | _, _, .int i => .int i
  | _, _, .str x => .str x
  | _, _, .lst h r => .lst (sqlS S h) (dpSA S r)
  | _, _, .tup h r => .tup (sqtS S h) (dpSA S r)
theorem dpSA {K : PySem.W.Frag} {H H' : Hp} (S : Same H H') : ∀ {vs : List V} {ds : List PyData}, DpAll K H vs ds → DpAll K H' vs ds
  | _, _, .nil => .nil
  | _, _, .cons h r => .cons (dpS S h) (dpSA S r)
end
/-! two hundred rows -/
theorem dr_dict {H : Hp} {d c a : Addr} {L : List (Key × V)} (D : Dr H d c) (h : H a = some (.dK L)) (hl : L.length ≠ 6) : a ≠ d := by
  rintro rfl
  obtain ⟨_, _, _, _, _, _, _, h1, _⟩ := D
  rw [h] at h1
  have := HO.dK.inj (Option.some.inj h1)
  exact hl (by rw [this]; rfl)
theorem LiAt.but {C : Addr} {H H' : Hp} {p cu t d c : Addr} {us : List V} {gs : List Gd} (h : LiAt C H p cu t us gs) (D : Dr H d c) (B : But d H H') (hg : gs.length ≤ 5) : LiAt C H' p cu t us gs := by
  obtain ⟨⟨dx, ad, pd, h1, h2, h3⟩, h4, h5⟩ := h
  have D0 := D
  obtain ⟨_, _, _, _, _, _, _, hd, _⟩ := D0
  refine ⟨⟨dx, ad, pd, B _ _ h1 (ne_of h1 hd (fun z => nomatch z)), B _ _ h2 (dr_dict D h2 ?_), B _ _ h3 (dr_dict D h3 ?_)⟩, B _ _ h4 (ne_of h4 hd (fun z => nomatch z)), L2.Paired.mapP h5 fun _ _ z => z.keep fun b xs e => butTup D B e⟩
  · show (List.map _ _).length ≠ 6
    rw [List.length_map, List.length_map]; omega
  · show (List.map _ _).length ≠ 6
    rw [List.length_map, List.length_map]; omega
theorem cuBut {C : Addr} {H H' : Hp} {x d c' : Addr} {a b c e : V} (D : Dr H d c') (B : But d H H') (h : CuAt C H x a b c e) : CuAt C H' x a b c e := by
  obtain ⟨dx, h⟩ := h
  obtain ⟨_, _, _, _, _, _, _, hd, _⟩ := D
  exact ⟨dx, B _ _ h (ne_of h hd (fun z => nomatch z))⟩
structure MnX (CL CC : Addr) (H H' : Hp) (d c li cu t Dl : Addr) (us ws : List V) (gs : List Gd) (n0 n1 n2 : Int) (c3 : V) : Prop where
  D : Dr H' d c
  B : But d H H'
  L : LiAt CL H' li cu t us gs
  C : CuAt CC H' cu (.int n0) (.int n1) (.int n2) c3
  hg : gs.length ≤ 5
  hD : H' Dl = some (.lst ws)
  hp : Paired (EvAt H') ws (evsM 200)
section
variable {CL CC : Addr} {H H1 H2 : Hp} {d c li cu t Dl : Addr} {us ws : List V} {gs : List Gd} {n0 n1 n2 : Int} {c3 : V}
theorem MnX.but (X : MnX CL CC H H1 d c li cu t Dl us ws gs n0 n1 n2 c3) (D2 : Dr H2 d c) (B2 : But d H1 H2) : MnX CL CC H H2 d c li cu t Dl us ws gs n0 n1 n2 c3 :=
  ⟨D2, X.B.trans B2, X.L.but X.D B2 X.hg, cuBut X.D B2 X.C, X.hg, butLst X.D B2 X.hD, evs_keep X.hp fun _ _ e => butTup X.D B2 e⟩
theorem MnX.same (X : MnX CL CC H H1 d c li cu t Dl us ws gs n0 n1 n2 c3) (S : Same H1 H2) : MnX CL CC H H2 d c li cu t Dl us ws gs n0 n1 n2 c3 :=
  ⟨X.D.same S, X.B.trans (But.of S), X.L.same S, cuSame S X.C, X.hg, S _ _ X.hD, evs_keep X.hp fun _ _ e => S _ _ e⟩
theorem manyM_ok : ∀ x ∈ (evsM 200).map rowR, RdOk x := fun x hx => by
  obtain ⟨e, he, rfl⟩ := List.mem_map.mp hx
  obtain ⟨k, hk, rfl⟩ := List.mem_map.mp he
  exact row_ok (evM_ok (List.mem_range.mp hk))
theorem evsM_len : (evsM 200).length = 200 := by unfold evsM; rw [List.length_map, List.length_range]
theorem manyM_due {rx : Rd} {rs : List Rd} : runW n0 n1 n2 gs (fam0 gs) 0 ((evsM 200).map rowR ++ rx :: rs) = some ((200 : Nat), ("many" : Str)) := by
  rw [runW_app, (runM_ok 200 (Nat.le_refl _)).1, famOf_map]
  show runW n0 n1 n2 gs (famE gs (evsM 200)) _ (rx :: rs) = _
  have e : faultW n0 n1 n2 gs (famE gs (evsM 200)) rx = some ("many" : Str) := if_pos (by rw [(runM_ok (n0 := n0) (n1 := n1) (n2 := n2) (gs := gs) 200 (Nat.le_refl _)).2.1]; exact Nat.le_refl _)
  rw [runW_cons, e, List.length_map, evsM_len]
theorem cs_at {n : Nat} (h : n < 20) : cs20[n]? = some (cs20.getD n 0) := by
  have h : n < cs20.length := h
  rw [List.getD_eq_getElem?_getD, List.getElem?_eq_getElem h]
  rfl
theorem odd_mny {H : Hp} {t1 t2 t3 t4 : Addr} (h1 : H t1 = some (.tup [.str "happened", .int 300, .str "zz"])) (h2 : H t2 = some (.tup [.str "happened", .int 200, .str "aa"])) (h3 : H t3 = some (.tup [.str "died", .int 1, .str "nobody"])) (h4 : H t4 = some (.tup [.str "grew", .int 300, .str "zz"])) {m : Nat} (h : m < 4) :
    ∃ v r, ([.ref t1, .ref t2, .ref t3, .ref t4] : List V)[m]? = some v ∧ TRd H v r ∧ RdOk r := by
  have w : ∀ {s : Str}, s.length ≤ 1000 ∧ PyData.strOk s = true → Sr (.str s) := id
  match m, h with
  | 0, _ => exact ⟨_, .sq _, rfl, ⟨t1, rfl, h1⟩, by show 3 ≤ 6; decide, by simp only [List.mem_cons, List.not_mem_nil, or_false, forall_eq_or_imp, forall_eq]; exact ⟨w (by decide +kernel), trivial, w (by decide +kernel)⟩⟩
  | 1, _ => exact ⟨_, .sq _, rfl, ⟨t2, rfl, h2⟩, by show 3 ≤ 6; decide, by simp only [List.mem_cons, List.not_mem_nil, or_false, forall_eq_or_imp, forall_eq]; exact ⟨w (by decide +kernel), trivial, w (by decide +kernel)⟩⟩
  | 2, _ => exact ⟨_, .sq _, rfl, ⟨t3, rfl, h3⟩, by show 3 ≤ 6; decide, by simp only [List.mem_cons, List.not_mem_nil, or_false, forall_eq_or_imp, forall_eq]; exact ⟨w (by decide +kernel), trivial, w (by decide +kernel)⟩⟩
  | 3, _ => exact ⟨_, .sq _, rfl, ⟨t4, rfl, h4⟩, by show 3 ≤ 6; decide, by simp only [List.mem_cons, List.not_mem_nil, or_false, forall_eq_or_imp, forall_eq]; exact ⟨w (by decide +kernel), trivial, w (by decide +kernel)⟩⟩
end
def spMany (CC CL : Addr) : Sp := fun vs H Q _ => ∃ (d c li cu t : Addr) (us : List V) (gs : List Gd) (n0 n1 n2 : Int) (c3 : V), vs = [.ref d, .ref li] ∧ Dr H d c ∧ LiAt CL H li cu t us gs ∧ gs.length ≤ 5 ∧ CuAt CC H cu (.int n0) (.int n1) (.int n2) c3 ∧
  ∀ H', Dr H' d c → But d H H' → Q (.bl true) H'
section
variable {P : Program} {w : World} {K : PySem.W.Frag} {mg : Str → Option Value} {base : Heap} {cl : String → Addr}
end
end My
set_option Elab.async false
set_option linter.all false
set_option maxRecDepth 100000
set_option maxHeartbeats 1000000
namespace My
open PySem L2 Dw
open C8 (pss_cut tCut)
open Wp
/-! the law -/
structure LwX (CL CC : Addr) (H : Hp) (d c ct l li cu t : Addr) (lus us : List V) (gs : List Gd) (n0 n1 n2 n3 : Int) : Prop where
  D : Dr H d c
  ct : H ct = some (.tup [.int n0, .int n1, .int n2, .int n3])
  hl : H l = some (.lst lus)
  pl : Paired (TupAt H) lus (gs.map mkR)
  L : LiAt CL H li cu t us gs
  C : CuAt CC H cu (.int n0) (.int n1) (.int n2) (.int n3)
  ok : LvOk n0 gs
  h1 : 0 ≤ n1
section
variable {CL CC : Addr} {H H' : Hp} {d c ct l li cu t : Addr} {lus us : List V} {gs : List Gd} {n0 n1 n2 n3 : Int}
theorem LwX.but (X : LwX CL CC H d c ct l li cu t lus us gs n0 n1 n2 n3) (D : Dr H' d c) (B : But d H H') : LwX CL CC H' d c ct l li cu t lus us gs n0 n1 n2 n3 :=
  ⟨D, butTup X.D B X.ct, butLst X.D B X.hl, L2.Paired.mapP X.pl fun _ _ h => h.keep fun _ _ e => butTup X.D B e, X.L.but X.D B (by have := X.ok.thr; omega), cuBut X.D B X.C, X.ok, X.h1⟩
theorem LwX.same (X : LwX CL CC H d c ct l li cu t lus us gs n0 n1 n2 n3) (S : Same H H') : LwX CL CC H' d c ct l li cu t lus us gs n0 n1 n2 n3 := X.but (X.D.same S) (But.of S)
theorem LwX.hz (X : LwX CL CC H d c ct l li cu t lus us gs n0 n1 n2 n3) : gs.length ≤ 9 := by have := X.ok.thr; omega
end
theorem run_evs {n0 n1 n2 : Int} {gs : List Gd} : ∀ {rs : List Rd} {f : Fam} {i : Nat}, runW n0 n1 n2 gs f i rs = none → ∃ evs : List Ev, rs = evs.map rowR ∧ ∀ e ∈ evs, e.Ok
  | [], _, _, _ => ⟨[], rfl, fun e h => by cases h⟩
  | r :: rs, f, i, h => by
    rw [runW_cons] at h
    cases e : faultW n0 n1 n2 gs f r with
    | some s => rw [e] at h; cases h
    | none =>
      rw [e] at h
      obtain ⟨ev, rfl, evok⟩ := row_ev (many_of e).2
      obtain ⟨evs, rfl, ok⟩ := run_evs h
      exact ⟨ev :: evs, rfl, fun x hx => by
        rcases List.mem_cons.mp hx with rfl | hx
        · exact evok
        · exact ok x hx⟩
theorem trd_rds {H : Hp} : ∀ {ws : List V} {rs : List Rd}, Paired (TRd H) ws rs → Paired (RdAt H) ws rs
  | _, _, .nil => .nil
  | _, _, .cons h t => .cons h.rd (trd_rds t)
theorem trd_evs {H : Hp} : ∀ {ws : List V} {evs : List Ev}, Paired (TRd H) ws (evs.map rowR) → Paired (EvAt H) ws evs
  | _, [], h => by cases h; exact .nil
  | _, e :: evs, h => by
    cases h with
    | cons h t => exact .cons h (trd_evs t)
theorem trds_same {H H' : Hp} {ws : List V} {rs : List Rd} (h : Paired (TRd H) ws rs) (S : Same H H') : Paired (TRd H') ws rs := L2.Paired.mapP h fun _ _ h => h.keep fun _ _ e => S _ _ e
theorem dueV_same {H H' : Hp} {v : V} {o : Option (Nat × Str)} (h : DueV H v o) (S : Same H H') : DueV H' v o := by
  cases o with
  | none => exact h
  | some q =>
    obtain ⟨i, s⟩ := q
    obtain ⟨t, e, ht⟩ := h
    exact ⟨t, e, S _ _ ht⟩
theorem rd_ne {H : Hp} {D : Addr} {o : HO} {v : V} {y : Rd} (h : RdAt H v y) (n : v ≠ .ref D) : RdAt (upd H D o) v y := by
  cases y with
  | sq xs =>
    obtain ⟨b, rfl, hb⟩ := h
    have nb : b ≠ D := fun z => n (congrArg V.ref z)
    exact ⟨b, rfl, hb.imp (upd_ne nb).trans (upd_ne nb).trans⟩
  | pl x => exact h
def spLaw (K : PySem.W.Frag) : Sp := fun vs H Q _ => ∃ (a : Addr) (ns : List Int), vs = [.ref a] ∧ SqL K H a (ns.map V.int) ∧ ns.length ≤ 63 ∧ ∀ H', Q (.bl true) H'
section
variable {P : Program} {w : World} {K : PySem.W.Frag} {mg : Str → Option Value} {base : Heap} {cl : String → Addr}
end
end My
set_option Elab.async false
set_option linter.all false
set_option maxRecDepth 100000
set_option maxHeartbeats 1000000
namespace My
open PySem L2 Dw
open C8 (pss_cut tCut)
open Wp
def rowD (g : Gd) : PyData := sqD false ([V.str g.1, .int g.2.1, g.2.2].map vD)
def rowsD (gs : List Gd) : PyData := sqD false (gs.map rowD)
theorem rok_row {g : Gd} (h : Rok (mkR g)) : ∀ x ∈ ([V.str g.1, .int g.2.1, g.2.2] : List V), okV x = true := fun x hx => (h.2 x hx).ok
theorem dpAll_rows {K : PySem.W.Frag} {H : Hp} : ∀ {us : List V} {gs : List Gd}, Paired (TupAt H) us (gs.map mkR) → (∀ g ∈ gs, Rok (mkR g)) → DpAll K H us (gs.map rowD)
  | _, [], h, _ => by cases h; exact .nil
  | _, g :: gs, h, ok => by
    cases h with
    | cons a t =>
      obtain ⟨b, rfl, hb⟩ := tup0 a
      exact .cons (dp_tup (SqT.of hb) (dpvs fun x hx => okV.flat (rok_row (ok g List.mem_cons_self) x hx))) (dpAll_rows t fun g' h' => ok g' (List.mem_cons_of_mem _ h'))
theorem rows_shaped (l : Bool) {gs : List Gd} (ok : ∀ g ∈ gs, Rok (mkR g)) : SeqAt.shaped (sqD l (gs.map rowD)) = true := fls_shaped l fun d hd => by
  obtain ⟨g, hg, rfl⟩ := List.mem_map.mp hd
  exact fl_row false (rok_row (ok g hg))
theorem rows_self (l : Bool) (gs : List Gd) : PyData.eqv (sqD l (gs.map rowD)) (sqD l (gs.map rowD)) = true := sqD_self l fun d hd => by
  obtain ⟨g, _, rfl⟩ := List.mem_map.mp hd
  exact row_self false _
section
variable {P : Program} {w : World} {K : PySem.W.Frag} {mg : Str → Option Value} {base : Heap} {cl : String → Addr}
/-- as_tuple: a new tuple -/
def spTup (C : Addr) : Sp := fun vs H Q _ => ∃ (p : Addr) (a b c d : V), vs = [.ref p] ∧ CuAt C H p a b c d ∧ ∀ t, H t = none → Q (.ref t) (upd H t (.tup [a, b, c, d]))
theorem ok_as_tuple {f : Addr} {fd : FuncData} (F : Fun K "as_tuple" "Customs.as_tuple" s_Customs_as_tuple f fd) (T : Txt P w K mg cl) : FnOk P w K mg base CX0 1 f fd ["self"] (spTup (cl "Customs")) := by
  refine F.ok sc_Customs_as_tuple (fun vs H Q E h => ?_) (fun cdv A outer s H vs Q E hr h => ?_)
  · obtain ⟨p, a, b, c, d, rfl, _⟩ := h
    rfl
  · obtain ⟨p, a, b, c, d, rfl, ⟨dx, hp⟩, k⟩ := h
    refine ⟨_, (pss_one (ps_ret (pe_tup (pa_cons (pe_fld (pv 0) rfl) (pa_cons (pe_fld (pv 0) rfl) (pa_cons (pe_fld (pv 0) rfl) (pa_cons (pe_fld (pv 0) rfl) pa_nil))))))), ?_⟩
    refine ⟨_, rfl, p, _, dx, _, _, rfl, hp, T.cl_Customs, T.na_Customs _ (by decide), rfl, ?_⟩
    refine ⟨_, rfl, p, _, dx, _, _, rfl, hp, T.cl_Customs, T.na_Customs _ (by decide), rfl, ?_⟩
    refine ⟨_, rfl, p, _, dx, _, _, rfl, hp, T.cl_Customs, T.na_Customs _ (by decide), rfl, ?_⟩
    refine ⟨_, rfl, p, _, dx, _, _, rfl, hp, T.cl_Customs, T.na_Customs _ (by decide), rfl, ?_⟩
    exact ⟨by show 4 ≤ sizeLine; decide, k⟩
theorem cal_as_tuple (T : Txt P w K mg cl) : CalM P w K mg base CX0 1 (cl "Customs") "as_tuple" ["self"] (spTup (cl "Customs")) := by
  obtain ⟨f, fd, F, m⟩ := T.d_as_tuple
  exact ⟨f, fd, ok_as_tuple F T, m, F.binds fun _ _ _ _ _ _ us hl => match us, hl with | [_], _ => rfl⟩
/-- ==: with other customs of whole numbers, or with a plain value -/
def spEq (K : PySem.W.Frag) (C : Addr) : Sp := fun vs H Q _ => ∃ (p : Addr) (a b c d : Int) (o : V), vs = [.ref p, o] ∧ CuAt C H p (.int a) (.int b) (.int c) (.int d) ∧
  ((∃ q a' b' c' d', o = .ref q ∧ CuAt C H q (.int a') (.int b') (.int c') (.int d') ∧ ∀ H', Same H H' → Q (.bl (decide ([a, b, c, d] = [a', b', c', d']))) H') ∨ ((∃ n, Dm K H o n) ∧ Q (.bl false) H))
theorem ok_eq {f : Addr} {fd : FuncData} (F : Fun K "__eq__" "Customs.__eq__" s_Customs_eq f fd) (T : Txt P w K mg cl) : FnOk P w K mg base CX0 2 f fd ["self", "other"] (spEq K (cl "Customs")) := by
  refine F.ok sc_Customs_eq (fun vs H Q E h => ?_) (fun cdv A outer s H vs Q E hr h => ?_)
  · obtain ⟨p, a, b, c, d, o, rfl, _⟩ := h
    rfl
  · obtain ⟨p, a, b, c, d, o, rfl, hp, h⟩ := h
    have hu := hu_of hr
    have C_Customs_as_tuple : CalM P w K mg base CX0 1 (cl "Customs") "as_tuple" _ (spTup (cl "Customs")) := cal_as_tuple T
    refine ⟨_, (pss_one (ps_ret (pe_and (pe_callB call_isi (by rfl) T.n_isinstance (by decide +kernel) (pa_cons (pv 1) (pa_cons (pe_cls T.m_Customs) pa_nil))) (pe_one (pe_cmpR (op_eqD hr.units) (pe_mth0 T.cl_Customs C_Customs_as_tuple (hr.mono (by decide)) (pv 0)) (pe_mth0 T.cl_Customs C_Customs_as_tuple (hr.mono (by decide)) (pv 1)) (nomark _)))))), ?_⟩
    rcases h with ⟨q, a', b', c', d', rfl, hq, k⟩ | ⟨⟨n, hd⟩, k⟩
    · obtain ⟨dx, hp⟩ := hp
      obtain ⟨dy, hq⟩ := hq
      refine ⟨_, rfl, _, _, _, _, _, rfl, .own (cl "Customs"), .base (.ins hq T.cl_Customs T.y_Customs T.z1 T.z2 T.z3_Customs), T.k_Cu_Cu, _, rfl, iteT ?_⟩
      refine ⟨_, rfl, p, dx, _, rfl, hp, rfl, p, _, _, _, _, rfl, ⟨dx, hp⟩, fun t ht => ?_⟩
      have hq' : ∀ o, (upd H t o) q = some (.ins (cl "Customs") dy (cuF (.int a') (.int b') (.int c') (.int d'))) := fun o => by rw [upd_ne (ne_of_none hq ht)]; exact hq
      refine ⟨_, rfl, q, dy, _, rfl, hq' _, rfl, q, _, _, _, _, rfl, ⟨dy, hq' _⟩, fun u hu' => ?_⟩
      have ntu : t ≠ u := ne_of_none upd_same hu'
      refine eqD_tup (ns := [a, b, c, d]) (ms := [a', b', c', d']) (SqT.of (by rw [upd_ne ntu]; exact upd_same)) (SqT.of upd_same) ?_
      exact k _ fun x o e => by rw [upd_ne (ne_of_none (show (upd H t _) x = some o by rw [upd_ne (ne_of_none e ht)]; exact e) hu'), upd_ne (ne_of_none e ht)]; exact e
    · have kt : ∀ m, Dm K H o m → m ∈ ["NoneType", "bool", "int", "str", "list", "tuple"] := fun m x => by cases x <;> decide
      exact ⟨_, rfl, _, _, _, _, _, rfl, .own (cl "Customs"), hd.ty, T.k_in_Cu n (kt n hd), _, rfl, iteF k⟩
theorem cal_eq (T : Txt P w K mg cl) : CalM P w K mg base CX0 2 (cl "Customs") "__eq__" ["self", "other"] (spEq K (cl "Customs")) := by
  obtain ⟨f, fd, F, m⟩ := T.d_eq
  exact ⟨f, fd, ok_eq F T, m, F.binds fun _ _ _ _ _ _ us hl => match us, hl with | [_, _], _ => rfl⟩
end
theorem ownEq {K : PySem.W.Frag} {P : Program} {w : World} {mg : Str → Option Value} {cl : String → Addr} (T : Txt P w K mg cl) {H : Hp} {x y : Addr} {a b c d a' b' c' d' : Int} {Q : VK} (hx : CuAt (cl "Customs") H x (.int a) (.int b) (.int c) (.int d)) (hy : CuAt (cl "Customs") H y (.int a') (.int b') (.int c') (.int d'))
    (k : ∀ H', Same H H' → Q (.bl (decide ([a, b, c, d] = [a', b', c', d']))) H') : rOwn K (cl "Customs") (spEq K (cl "Customs")) (.ref x) (.ref y) H Q := by
  obtain ⟨dx, hx'⟩ := id hx
  obtain ⟨dy, hy'⟩ := id hy
  exact ⟨x, dx, _, _, rfl, hx', .base (.ins hy' T.cl_Customs T.y_Customs T.z1 T.z2 T.z3_Customs), T.nf2_Customs, x, a, b, c, d, _, rfl, hx, .inl ⟨y, a', b', c', d', rfl, hy, fun H' S => ⟨⟨_, rfl⟩, k H' S⟩⟩⟩
theorem ownNo {K : PySem.W.Frag} {P : Program} {w : World} {mg : Str → Option Value} {cl : String → Addr} (T : Txt P w K mg cl) {H : Hp} {x : Addr} {o : V} {n : String} {a b c d : Int} {Q : VK} (hx : CuAt (cl "Customs") H x (.int a) (.int b) (.int c) (.int d)) (ho : Dm K H o n)
    (k : Q (.bl false) H) : rOwn K (cl "Customs") (spEq K (cl "Customs")) (.ref x) o H Q := by
  obtain ⟨dx, hx'⟩ := id hx
  have kt : ∀ m, Dm K H o m → m ∈ ["NoneType", "bool", "int", "str", "list", "tuple"] := fun m x => by cases x <;> decide
  exact ⟨x, dx, _, _, rfl, hx', ho.ty, T.nf_Customs n (kt n ho), x, a, b, c, d, _, rfl, hx, .inr ⟨⟨n, ho⟩, ⟨_, rfl⟩, k⟩⟩
/-- an item of the tuple at v -/
def tupAt0 (H : Hp) (j : Nat) : V → Option V
  | .ref b => match H b with
    | some (.tup xs) => xs[j]?
    | _ => none
  | _ => none
/-- == of lives with the same rows, or with another thing -/
def spLiEq (K : PySem.W.Frag) (C CC : Addr) : Sp := fun vs H Q _ => ∃ (p cu t : Addr) (us : List V) (gs : List Gd) (o : V) (a b c d : Int), vs = [.ref p, o] ∧ LiAt C H p cu t us gs ∧ (∀ g ∈ gs, Rok (mkR g)) ∧ CuAt CC H cu (.int a) (.int b) (.int c) (.int d) ∧
  ((∃ q cu' t' us' a' b' c' d', o = .ref q ∧ LiAt C H q cu' t' us' gs ∧ CuAt CC H cu' (.int a') (.int b') (.int c') (.int d') ∧ ∀ H', Same H H' → Q (.bl (decide ([a, b, c, d] = [a', b', c', d']))) H') ∨ ((∃ n, Dm K H o n) ∧ Q (.bl false) H))
section
variable {P : Program} {w : World} {K : PySem.W.Frag} {mg : Str → Option Value} {base : Heap} {cl : String → Addr}
theorem ok_Lives_eq {f : Addr} {fd : FuncData} (F : Fun K "__eq__" "Lives.__eq__" s_Lives_eq f fd) (T : Txt P w K mg cl) : FnOk P w K mg base CX0 3 f fd ["self", "other"] (spLiEq K (cl "Lives") (cl "Customs")) := by
  refine F.ok sc_Lives_eq (fun vs H Q E h => ?_) (fun cdv A outer s H vs Q E hr h => ?_)
  · obtain ⟨p, cu, t, us, gs, o, a, b, c, d, rfl, _⟩ := h
    rfl
  · obtain ⟨p, cu, t, us, gs, o, a, b, c, d, rfl, L, ok, hc, h⟩ := h
    have C_Customs_eq : CalM P w K mg base CX0 2 (cl "Customs") "__eq__" _ (spEq K (cl "Customs")) := cal_eq T
    refine ⟨_, (pss_one (ps_ret (pe_and (pe_callB call_isi (by rfl) T.n_isinstance (by decide +kernel) (pa_cons (pv 1) (pa_cons (pe_cls T.m_Lives) pa_nil))) (pe_and (pe_cmpR (op_own C_Customs_eq (hr.mono (by decide))) (pe_fld (pv 0) rfl) (pe_fld (pv 1) rfl) (nomark _)) (pe_one (pe_cmpR (op_eqD hr.units) (pe_fld (pv 0) rfl) (pe_fld (pv 1) rfl) (nomark _))))))), ?_⟩
    obtain ⟨⟨dx, ad, pd, h1, h2, h3⟩, h4, h5⟩ := id L
    rcases h with ⟨q, cu', t', us', a', b', c', d', rfl, L', hc', k⟩ | ⟨⟨n, dn⟩, k⟩
    · obtain ⟨⟨dx', ad', pd', h1', h2', h3'⟩, h4', h5'⟩ := id L'
      refine ⟨_, rfl, _, _, _, _, _, rfl, .own (cl "Lives"), .base (.ins h1' T.cl_Lives T.y_Lives T.z1 T.z2 T.z3_Lives), T.k_Li_Li, _, rfl, iteT ?_⟩
      refine ⟨_, rfl, p, _, dx, _, _, rfl, h1, T.cl_Lives, T.na_Lives _ (by decide), rfl, _, rfl, q, _, dx', _, _, rfl, h1', T.cl_Lives, T.na_Lives _ (by decide), rfl, ownEq T hc hc' fun H1 S1 => ⟨_, rfl, ?_⟩⟩
      refine ite2 (fun g => ?_) (fun g => ?_)
      · refine ⟨_, rfl, p, _, dx, _, _, rfl, S1 _ _ h1, T.cl_Lives, T.na_Lives _ (by decide), rfl, _, rfl, q, _, dx', _, _, rfl, S1 _ _ h1', T.cl_Lives, T.na_Lives _ (by decide), rfl, ?_⟩
        refine ⟨rowsD gs, rowsD gs, dp_tup (SqT.of (S1 _ _ h4)) (dpAll_rows (L2.Paired.mapP h5 fun _ _ z => z.keep fun b xs e => S1 _ _ e) ok), dp_tup (SqT.of (S1 _ _ h4')) (dpAll_rows (L2.Paired.mapP h5' fun _ _ z => z.keep fun b xs e => S1 _ _ e) ok), rows_shaped false ok, rows_shaped false ok, ?_⟩
        have k := k H1 S1
        rw [g] at k
        rw [show PyData.eqv (rowsD gs) (rowsD gs) = true from rows_self false gs]
        exact k
      · have k := k H1 S1
        rw [show decide ([a, b, c, d] = [a', b', c', d']) = false from Bool.eq_false_iff.mpr g] at k
        exact k
    · have kt : ∀ m, Dm K H o m → m ∈ ["NoneType", "bool", "int", "str", "list", "tuple"] := fun m x => by cases x <;> decide
      exact ⟨_, rfl, _, _, _, _, _, rfl, .own (cl "Lives"), dn.ty, T.k_in_Li n (kt n dn), _, rfl, iteF k⟩
theorem cal_Lives_eq (T : Txt P w K mg cl) : CalM P w K mg base CX0 3 (cl "Lives") "__eq__" ["self", "other"] (spLiEq K (cl "Lives") (cl "Customs")) := by
  obtain ⟨f, fd, F, m⟩ := T.d_Lives_eq
  exact ⟨f, fd, ok_Lives_eq F T, m, F.binds fun _ _ _ _ _ _ us hl => match us, hl with | [_, _], _ => rfl⟩
theorem ownLi (T : Txt P w K mg cl) {H : Hp} {p q cu cu' t t' : Addr} {us us' : List V} {gs : List Gd} {a b c d a' b' c' d' : Int} {Q : VK} (L : LiAt (cl "Lives") H p cu t us gs) (L' : LiAt (cl "Lives") H q cu' t' us' gs) (ok : ∀ g ∈ gs, Rok (mkR g)) (hc : CuAt (cl "Customs") H cu (.int a) (.int b) (.int c) (.int d)) (hc' : CuAt (cl "Customs") H cu' (.int a') (.int b') (.int c') (.int d'))
    (k : ∀ H', Same H H' → Q (.bl (decide ([a, b, c, d] = [a', b', c', d']))) H') : rOwn K (cl "Lives") (spLiEq K (cl "Lives") (cl "Customs")) (.ref p) (.ref q) H Q := by
  obtain ⟨⟨dx, ad, pd, h1, h2, h3⟩, h4, h5⟩ := id L
  obtain ⟨⟨dx', ad', pd', h1', h2', h3'⟩, h4', h5'⟩ := id L'
  exact ⟨p, dx, _, _, rfl, h1, .base (.ins h1' T.cl_Lives T.y_Lives T.z1 T.z2 T.z3_Lives), T.nf2_Lives, p, cu, t, us, gs, _, a, b, c, d, rfl, L, ok, hc, .inl ⟨q, cu', t', us', a', b', c', d', rfl, L', hc', fun H' S => ⟨⟨_, rfl⟩, k H' S⟩⟩⟩
end
end My
set_option Elab.async false
set_option linter.all false
set_option maxRecDepth 100000
set_option maxHeartbeats 1000000
namespace My
open PySem L2 Dw
open C8 (pss_cut tCut)
open Wp
/-! what a record tells of a person -/
def hasP (f : Fam) : V → Bool
  | .str s => (f.parents.lookup s).isSome
  | _ => false
theorem hasP_str {f : Fam} {v : V} (h : hasP f v = true) : ∃ s, v = .str s ∧ (f.parents.lookup s).isSome = true := by
  cases v with
  | str s => exact ⟨s, rfl, h⟩
  | _ => cases h
def birthV (f : Fam) (s : Str) : V := ((f.births.lookup s).map V.int).getD .non
def deathI (f : Fam) (s : Str) : Int := (f.deaths.lookup s).getD 10000000000
def parentV (f : Fam) (s : Str) : V := (f.parents.lookup s).getD .non
def childN (f : Fam) (s : Str) : List Str := f.order.filter fun c => decide (parentV f c = .str s)
theorem deathI_V (f : Fam) (s : Str) : ((f.deaths.lookup s).map V.int).getD (.int 10000000000) = .int (deathI f s) := by
  unfold deathI
  cases f.deaths.lookup s <;> rfl
theorem wed_at {H : Hp} {s : Str} {wl : List (Str × Addr)} {ws : List (Str × List Str)} (h : Paired (WedR H) wl ws) : (∃ a ms, wl.lookup s = some a ∧ ws.lookup s = some ms ∧ H a = some (.lst (ms.map V.str))) ∨ (wl.lookup s = none ∧ ws.lookup s = none) := by
  obtain ⟨h1, h2⟩ := wed_look (l := s) h
  cases e : wl.lookup s with
  | none => exact .inr ⟨rfl, h2 e⟩
  | some a =>
    obtain ⟨ms, e1, e2⟩ := h1 a e
    exact .inl ⟨a, ms, rfl, e1, e2⟩
def spHasR (K : PySem.W.Frag) (C : Addr) : Sp := fun vs H Q _ => ∃ (r li cu tt : Addr) (us : List V) (A : RecA) (f : Fam) (evs : List Ev) (v : V) (n : String), vs = [.ref r, v] ∧ RecX C H r li cu tt us A f evs ∧ Dm K H v n ∧ Q (.bl (hasP f v)) H
def spRecQ (K : PySem.W.Frag) (C CN : Addr) (val : Fam → Str → V) : Sp := fun vs H Q E => ∃ (r li cu tt : Addr) (us : List V) (A : RecA) (f : Fam) (evs : List Ev) (v : V) (n : String), vs = [.ref r, v] ∧ RecX C H r li cu tt us A f evs ∧ Dm K H v n ∧ (hasP f v = false → ∀ e, H e = none → E (.ref CN) (some e) (upd H e (.xd [("name", v)]))) ∧ (∀ s, v = .str s → hasP f v = true → Q (val f s) H)
def spChild (K : PySem.W.Frag) (C CN : Addr) : Sp := fun vs H Q E => ∃ (r li cu tt : Addr) (us : List V) (A : RecA) (f : Fam) (evs : List Ev) (v : V) (n : String), vs = [.ref r, v] ∧ RecX C H r li cu tt us A f evs ∧ Dm K H v n ∧ (∀ c ∈ f.order, ∃ p, f.parents.lookup c = some p ∧ (p = .non ∨ ∃ q, p = .str q)) ∧ f.order.length ≤ 1000 ∧ (hasP f v = false → ∀ e, H e = none → E (.ref CN) (some e) (upd H e (.xd [("name", v)]))) ∧ (∀ s, v = .str s → hasP f v = true → ∀ t H', Same H H' → H' t = some (.tup ((childN f s).map V.str)) → Q (.ref t) H')
def spMates (K : PySem.W.Frag) (C CL CN : Addr) : Sp := fun vs H Q E => ∃ (r li cu tt : Addr) (us : List V) (A : RecA) (f : Fam) (evs : List Ev) (lt : Addr) (lus : List V) (gs : List Gd) (v : V) (n : String), vs = [.ref r, v] ∧ RecX C H r li cu tt us A f evs ∧ LiAt CL H li cu lt lus gs ∧ Dm K H v n ∧ (hasN gs v = false → ∀ e, H e = none → E (.ref CN) (some e) (upd H e (.xd [("name", v)]))) ∧ (∀ s, v = .str s → hasN gs v = true → ∀ t H', Same H H' → H' t = some (.tup (((f.weds.lookup s).getD []).map V.str)) → Q (.ref t) H')
def spMate (K : PySem.W.Frag) (C CL CN : Addr) : Sp := fun vs H Q E => ∃ (r li cu tt : Addr) (us : List V) (A : RecA) (f : Fam) (evs : List Ev) (lt : Addr) (lus : List V) (gs : List Gd) (v : V) (n : String), vs = [.ref r, v] ∧ RecX C H r li cu tt us A f evs ∧ LiAt CL H li cu lt lus gs ∧ Dm K H v n ∧ (hasN gs v = false → ∀ e, H e = none → E (.ref CN) (some e) (upd H e (.xd [("name", v)]))) ∧ (∀ s, v = .str s → hasN gs v = true → (∀ x ∈ (f.weds.lookup s).getD [], PyData.strOk x = true) ∧ ∀ H', Same H H' → Q ((((f.weds.lookup s).getD []).getLast?.map V.str).getD .non) H')
def spHapp (C : Addr) : Sp := fun vs H Q _ => ∃ (r li cu tt : Addr) (us : List V) (A : RecA) (f : Fam) (evs : List Ev) (s : Str), vs = [.ref r, .str s] ∧ RecX C H r li cu tt us A f evs ∧ Q (((f.facts.lookup s).map V.int).getD .non) H
section
variable {P : Program} {w : World} {K : PySem.W.Frag} {mg : Str → Option Value} {base : Heap} {cl : String → Addr}
theorem ok_Record_has {f : Addr} {fd : FuncData} (F : Fun K "has" "Record.has" s_Record_has f fd) (T : Txt P w K mg cl) : FnOk P w K mg base CX0 1 f fd ["self", "person"] (spHasR K (cl "Record")) := by
  refine F.ok sc_Record_has (fun vs H Q E h => ?_) (fun cdv A0 outer s H vs Q E hr h => ?_)
  · obtain ⟨r, li, cu, tt, us, A, f, evs, v, n, rfl, _⟩ := h
    rfl
  · obtain ⟨r, li, cu, tt, us, A, f, evs, v, n, rfl, X, dv, k⟩ := h
    have hu := hu_of hr
    refine ⟨_, (pss_one (ps_ret (pe_and (pe_callB call_isi (by rfl) T.n_isinstance (by decide +kernel) (pa_cons (pv 1) (pa_cons (pe_ty "str" T.n_str) pa_nil))) (pe_one (pe_cmp (pc_din hu (pv 1) (pe_fld (pv 0) rfl)) rfl))))), ?_⟩
    by_cases hs : ∃ s, v = .str s
    · obtain ⟨s, rfl⟩ := hs
      refine ⟨_, rfl, _, _, _, _, _, rfl, .ty "str", .base (.str s), kit_ty (by decide +kernel), true, rfl, iteT ?_⟩
      refine ⟨_, rfl, _, rfl, r, _, _, _, _, rfl, X.self, T.cl_Record, T.na_Record _ (by decide), rfl, A.pr, _, rfl, dgF s X.hp, ?_⟩
      rw [Option.isSome_map]
      exact k
    · have kk : PySem.W.kitOne K (.type n) (.type "str") = some false := by
        cases dv <;> first | exact kit_ty (by decide +kernel) | exact absurd ⟨_, rfl⟩ hs
      refine ⟨_, rfl, _, _, _, _, _, rfl, .ty "str", dv.ty, kk, false, rfl, iteF ?_⟩
      have e : hasP f v = false := by
        cases v with
        | str s => exact absurd ⟨_, rfl⟩ hs
        | _ => rfl
      rw [e] at k
      exact k
theorem cal_Record_has (T : Txt P w K mg cl) : CalM P w K mg base CX0 1 (cl "Record") "has" ["self", "person"] (spHasR K (cl "Record")) := by
  obtain ⟨f, fd, F, m⟩ := T.d_Record_has
  exact ⟨f, fd, ok_Record_has F T, m, F.binds fun _ _ _ _ _ _ us hl => match us, hl with | [_, _], _ => rfl⟩
end
end My
set_option Elab.async false
set_option linter.all false
set_option maxRecDepth 100000
set_option maxHeartbeats 1000000
namespace My
open PySem L2 Dw
open C8 (pss_cut tCut)
open Wp
def fChild (f : Fam) (s : Str) : V → Option V
  | .str c => if parentV f c = .str s then some (.str c) else none
  | _ => none
theorem child_map (f : Fam) (s : Str) : ∀ xs : List Str, (xs.map V.str).filterMap (fChild f s) = (xs.filter fun c => decide (parentV f c = .str s)).map V.str
  | [] => rfl
  | c :: xs => by
    have ih := child_map f s xs
    have q : fChild f s (.str c) = if parentV f c = .str s then some (V.str c) else none := rfl
    by_cases e : parentV f c = .str s
    · rw [List.map_cons, List.filterMap_cons, List.filter_cons, q, if_pos e, if_pos (decide_eq_true e), List.map_cons, ih]
    · rw [List.map_cons, List.filterMap_cons, List.filter_cons, q, if_neg e, if_neg (by rw [decide_eq_false e]; decide), ih]
def spLast (C CL CN : Addr) : Sp := fun vs H Q E => ∃ (r m li cu tt lt : Addr) (us : List V) (A : RecA) (f : Fam) (evs : List Ev) (lus : List V) (gs : List Gd) (xs : List Str), vs = [.ref r, .ref m] ∧ RecX C H r li cu tt us A f evs ∧ LiAt CL H li cu lt lus gs ∧ (H m = some (.lst (xs.map V.str)) ∨ H m = some (.tup (xs.map V.str))) ∧ xs ≠ [] ∧ (∀ s ∈ xs, s.length ≤ 1000) ∧ xs.length ≤ 1000 ∧
  (∀ s, xs.find? (fun s => !hasN gs (.str s)) = some s → ∀ e, H e = none → E (.ref CN) (some e) (upd H e (.xd [("name", .str s)]))) ∧
  (xs.find? (fun s => !hasN gs (.str s)) = none → ∀ k H', Same H H' → k ∈ xs.map (deathI f) → (∀ y ∈ xs.map (deathI f), y ≤ k) → Q (.int k) H')
theorem find_of {α : Type} {p : α → Bool} : ∀ {xs : List α} {i : Nat} {x : α}, xs[i]? = some x → (∀ y ∈ xs.take i, p y = false) → p x = true → xs.find? p = some x
  | y :: xs, 0, x, h, _, hx => by
    rw [show y = x by simpa using h, List.find?_cons, hx]
  | y :: xs, i + 1, x, h, hb, hx => by
    rw [List.find?_cons, hb y (by simp)]
    exact find_of (by simpa using h) (fun z hz => hb z (by simp [hz])) hx
section
variable {P : Program} {w : World} {K : PySem.W.Frag} {mg : Str → Option Value} {base : Heap} {cl : String → Addr}
end
end My
set_option Elab.async false
set_option linter.all false
set_option maxRecDepth 100000
set_option maxHeartbeats 1000000
namespace My
open PySem L2 Dw
open C8 (pss_cut tCut)
open Wp
/-- what a function of rows tells of the i-th thing of a tuple of rows -/
def evT (H : Hp) (p : Ev → Option V) : V → Option V
  | .ref b => match H b with
    | some (.tup xs) => p (evOf (.sq xs))
    | _ => none
  | _ => none
theorem evT_at {H : Hp} {p : Ev → Option V} {b : Addr} {e : Ev} (h : H b = some (.tup e.row)) : evT H p (.ref b) = p e := by
  show (match H b with
    | some (.tup xs) => p (evOf (.sq xs))
    | _ => none) = p e
  rw [h]
  show p (evOf (.sq e.row)) = p e
  rw [evOf_row]
theorem evT_map {H : Hp} {p : Ev → Option V} : ∀ {us : List V} {evs : List Ev}, Paired (EvAt H) us evs → us.filterMap (evT H p) = evs.filterMap p
  | _, _, .nil => rfl
  | _ :: _, e :: _, .cons h t => by
    obtain ⟨b, rfl, hb⟩ := h
    have ih := evT_map (p := p) t
    cases q : p e with
    | none => rw [List.filterMap_cons_none (by rw [evT_at hb, q]), List.filterMap_cons_none q, ih]
    | some x => rw [List.filterMap_cons_some (by rw [evT_at hb, q]), List.filterMap_cons_some q, ih]
def bornS : Ev → Option V
  | .born _ _ n => some (.str n)
  | _ => none
theorem born_sel (e : Ev) : (e.w = "born" ∧ ∃ n, bornS e = some (.str n) ∧ e.row[3]? = some (.str n)) ∨ (e.w ≠ "born" ∧ bornS e = none) := by
  cases e with
  | born y p n => exact .inl ⟨rfl, n, rfl, rfl⟩
  | wed y p n => exact .inr ⟨by show ("wed" : Str) ≠ "born"; decide +kernel, rfl⟩
  | happ y n => exact .inr ⟨by show ("happened" : Str) ≠ "born"; decide +kernel, rfl⟩
  | died y n => exact .inr ⟨by show ("died" : Str) ≠ "born"; decide +kernel, rfl⟩
def endY (evs : List Ev) : Int := (evs.getLast?.map Ev.y).getD 0
def spEndR (C : Addr) : Sp := fun vs H Q _ => ∃ (r li cu tt : Addr) (us : List V) (A : RecA) (f : Fam) (evs : List Ev), vs = [.ref r] ∧ RecX C H r li cu tt us A f evs ∧ (∀ e ∈ evs, e.Ok) ∧ ∀ H', Same H H' → Q (.int (endY evs)) H'
def spUnb (C : Addr) : Sp := fun vs H Q _ => ∃ (r li cu tt : Addr) (us : List V) (A : RecA) (f : Fam) (evs : List Ev), vs = [.ref r] ∧ RecX C H r li cu tt us A f evs ∧ evs.length ≤ 1000 ∧ ∀ t H', Same H H' → H' t = some (.tup (evs.filterMap bornS)) → Q (.ref t) H'
def spLenR (C : Addr) : Sp := fun vs H Q _ => ∃ (r li cu tt : Addr) (us : List V) (A : RecA) (f : Fam) (evs : List Ev), vs = [.ref r] ∧ RecX C H r li cu tt us A f evs ∧ Q (.int evs.length) H
def spReEq (K : PySem.W.Frag) (C CL CC : Addr) : Sp := fun vs H Q _ => ∃ (r li cu tt : Addr) (us : List V) (A : RecA) (f : Fam) (evs : List Ev) (lt : Addr) (lus : List V) (gs : List Gd) (o : V) (a b c d : Int), vs = [.ref r, o] ∧ RecX C H r li cu tt us A f evs ∧ (∀ e ∈ evs, e.Ok) ∧ LiAt CL H li cu lt lus gs ∧ (∀ g ∈ gs, Rok (mkR g)) ∧ CuAt CC H cu (.int a) (.int b) (.int c) (.int d) ∧
  ((∃ (q li' cu' tt' lt' : Addr) (us' : List V) (A' : RecA) (f' : Fam) (evs' : List Ev) (lus' : List V) (a' b' c' d' : Int), o = .ref q ∧ RecX C H q li' cu' tt' us' A' f' evs' ∧ (∀ e ∈ evs', e.Ok) ∧ LiAt CL H li' cu' lt' lus' gs ∧ CuAt CC H cu' (.int a') (.int b') (.int c') (.int d') ∧
    ∀ H', Same H H' → Q (.bl (decide ([a, b, c, d] = [a', b', c', d']) && PyData.eqv (rowsDE evs) (rowsDE evs'))) H') ∨ ((∃ n, Dm K H o n) ∧ Q (.bl false) H))
theorem eqv_nilT (evs : List Ev) : PyData.eqv (rowsDE evs) (sqD false []) = evs.isEmpty := by
  cases evs <;> simp [rowsDE, sqD, PyData.eqv, PyData.eqvAll]
section
variable {P : Program} {w : World} {K : PySem.W.Frag} {mg : Str → Option Value} {base : Heap} {cl : String → Addr}
theorem ok_Record_unborn {f : Addr} {fd : FuncData} (F : Fun K "unborn" "Record.unborn" s_Record_unborn f fd) (T : Txt P w K mg cl) : FnOk P w K mg base CX0 1 f fd ["self"] (spUnb (cl "Record")) := by
  refine F.ok sc_Record_unborn (fun vs H Q E h => ?_) (fun cdv A0 outer s H vs Q E hr h => ?_)
  · obtain ⟨r, li, cu, tt, us, A, f, evs, rfl, _⟩ := h
    rfl
  · obtain ⟨r, li, cu, tt, us, A, f, evs, rfl, X, hle, k⟩ := h
    have hu := hu_of hr
    refine ⟨_, (pss_one (ps_ret (pe_callTy call_tuple_of (by rfl) T.n_tuple (by decide +kernel) (pa_cons (pe_lc (own := [("row", 1)]) (g := gName 1)  rfl sc_Record_unborn.nd (pi_tup (pe_fld (pv 0) rfl)) (blkOk_by (own := [("row", 1)]) (N := ["self", "row"]) (sc := defScope s_Record_unborn) (by decide +kernel)) (fun _ _ _ _ _ => pg_name (i := 1) sc_Record_unborn.nd rfl (Or.inl rfl)) (fun _ _ _ _ _ => pts_one (pt_cmpR op_eq (pe_ix (ix_tupK (K := K) rfl) (pv 1) pe_int (fun _ _ => rfl)) pe_str (nomark _))) (fun _ _ _ _ _ => (pe_ix (ix_tupK (K := K) rfl) (pv 1) pe_int (fun _ _ => rfl)))) pa_nil)))), ?_⟩
    have lu := X.each.length
    have hz : us.length < sizeLine := small1000 (by omega)
    refine ⟨_, rfl, r, _, _, _, _, rfl, X.self, T.cl_Record, T.na_Record _ (by decide), rfl, tt, rfl, ⟨_, SqT.of X.rows⟩, fun D nD => lc_tup (K := K) (a := tt) (xs := us) (PvF H D us (evT H bornS)) rfl (fun i H' _ q => by rw [q]; exact SqT.of (by rw [upd_ne (ne_of_none X.rows nD)]; exact X.rows)) ?_ ?_⟩
    · rintro i x H' hx rfl
      obtain ⟨e, he, b, rfl, hb⟩ := Paired.at X.each hx
      have hbD : SqT K (upd H D (.lst ((us.take i).filterMap (evT H bornS)))) b e.row := SqT.of (by rw [upd_ne (ne_of_none hb nD)]; exact hb)
      refine ⟨rfl, _, rfl, _, _, _, _, rfl, rfl, hbD, atI_nat (j := 0) rfl, rfl, _, rfl, ?_⟩
      rcases born_sel e with ⟨hw, n, h1, h2⟩ | ⟨hw, h1⟩
      · rw [show decide (V.str e.w = V.str "born") = true from decide_eq_true (congrArg V.str hw)]
        exact iteT ⟨_, rfl, _, _, _, _, rfl, rfl, hbD, atI_nat (j := 3) h2, fm_put hx (by rw [evT_at hb, h1]) hz⟩
      · rw [show decide (V.str e.w = V.str "born") = false from decide_eq_false fun z => hw (V.str.inj z)]
        exact iteF (fm_skip hx (by rw [evT_at hb, h1]))
    · intro H' q
      obtain rfl := fm_end q
      rw [evT_map X.each]
      exact ⟨D, _, rfl, .inl ⟨SqL.of upd_same, fun t nt => k t _ ((sNew nD).trans (sNew nt)) upd_same⟩⟩
theorem cal_Record_unborn (T : Txt P w K mg cl) : CalP P w K mg base 1 (cl "Record") "unborn" (spUnb (cl "Record")) := by
  obtain ⟨p, g, fd, hp, F⟩ := T.d_Record_unborn
  exact ⟨p, g, fd, ok_Record_unborn F T, hp, F.binds fun _ _ _ _ _ _ us hl => match us, hl with | [_], _ => rfl⟩
theorem ok_Record_len {f : Addr} {fd : FuncData} (F : Fun K "__len__" "Record.__len__" s_Record_len f fd) (T : Txt P w K mg cl) : FnOk P w K mg base CX0 1 f fd ["self"] (spLenR (cl "Record")) := by
  refine F.ok sc_Record_len (fun vs H Q E h => ?_) (fun cdv A0 outer s H vs Q E hr h => ?_)
  · obtain ⟨r, li, cu, tt, us, A, f, evs, rfl, _⟩ := h
    rfl
  · obtain ⟨r, li, cu, tt, us, A, f, evs, rfl, X, k⟩ := h
    have hu := hu_of hr
    refine ⟨_, (pss_one (ps_ret (pe_callB call_len_seq (by rfl) T.n_len PySem.boot_len (pa_cons (pe_fld (pv 0) rfl) pa_nil)))), ?_⟩
    rw [← X.each.length] at k
    exact ⟨_, rfl, r, _, _, _, _, rfl, X.self, T.cl_Record, T.na_Record _ (by decide), rfl, tt, us, rfl, .inr (SqT.of X.rows), k⟩
theorem cal_Record_len (T : Txt P w K mg cl) : CalM P w K mg base CX0 1 (cl "Record") "__len__" ["self"] (spLenR (cl "Record")) := by
  obtain ⟨f, fd, F, m⟩ := T.d_Record_len
  exact ⟨f, fd, ok_Record_len F T, m, F.binds fun _ _ _ _ _ _ us hl => match us, hl with | [_], _ => rfl⟩
theorem ok_Record_iter {f : Addr} {fd : FuncData} (F : Fun K "__iter__" "Record.__iter__" s_Record_iter f fd) (T : Txt P w K mg cl) : FnN P w K mg base CX0 1 f fd ["self"] (spItT K (cl "Record") "rows") := by
  refine F.okN sc_Record_iter (fun n vs H Q E h => ?_) (fun cdv A outer s H vs Q E hr h => ?_)
  · obtain ⟨a, dx, t, fs, zs, rfl, _⟩ := h
    rfl
  · obtain ⟨a, dx, t, fs, zs, rfl, h1, h2, h3, k⟩ := h
    refine ⟨_, (pss_one (ps_ret (pe_callB call_iterT (by rfl) T.n_iter (by decide +kernel) (pa_cons (pe_fld (pv 0) rfl) pa_nil)))), ?_⟩
    exact ⟨_, rfl, a, _, dx, _, _, rfl, h1, T.cl_Record, T.na_Record _ (by decide), h2, t, zs, rfl, h3, k⟩
theorem cal_Record_iter (T : Txt P w K mg cl) : CalI P w K mg base 1 (cl "Record") "rows" := by
  obtain ⟨f, fd, F, m⟩ := T.d_Record_iter
  exact ⟨f, fd, ok_Record_iter F T, m, F.binds fun _ _ _ _ _ _ us hl => match us, hl with | [_], _ => rfl⟩
theorem ok_Record_eq {f : Addr} {fd : FuncData} (F : Fun K "__eq__" "Record.__eq__" s_Record_eq f fd) (T : Txt P w K mg cl) : FnOk P w K mg base CX0 4 f fd ["self", "other"] (spReEq K (cl "Record") (cl "Lives") (cl "Customs")) := by
  refine F.ok sc_Record_eq (fun vs H Q E h => ?_) (fun cdv A0 outer s H vs Q E hr h => ?_)
  · obtain ⟨r, li, cu, tt, us, A, f, evs, lt, lus, gs, o, a, b, c, d, rfl, _⟩ := h
    rfl
  · obtain ⟨r, li, cu, tt, us, A, f, evs, lt, lus, gs, o, a, b, c, d, rfl, X, eok, L, rok, hc, h⟩ := h
    have hu := hu_of hr
    have C_Lives_eq : CalM P w K mg base CX0 3 (cl "Lives") "__eq__" _ (spLiEq K (cl "Lives") (cl "Customs")) := cal_Lives_eq T
    refine ⟨_, (pss_one (ps_ret (pe_and (pe_callB call_isi (by rfl) T.n_isinstance (by decide +kernel) (pa_cons (pv 1) (pa_cons (pe_cls T.m_Record) pa_nil))) (pe_and (pe_cmpR (op_own C_Lives_eq (hr.mono (by decide))) (pe_fld (pv 0) rfl) (pe_fld (pv 1) rfl) (nomark _)) (pe_one (pe_cmpR (op_eqD hr.units) (pe_fld (pv 0) rfl) (pe_fld (pv 1) rfl) (nomark _))))))), ?_⟩
    rcases h with ⟨q, li', cu', tt', lt', us', A', f', evs', lus', a', b', c', d', rfl, X', eok', L', hc', k⟩ | ⟨⟨n, dn⟩, k⟩
    · refine ⟨_, rfl, _, _, _, _, _, rfl, .own (cl "Record"), .base (.ins X'.self T.cl_Record T.y_Record T.z1 T.z2 T.z3_Record), T.k_Re_Re, _, rfl, iteT ?_⟩
      refine ⟨_, rfl, r, _, _, _, _, rfl, X.self, T.cl_Record, T.na_Record _ (by decide), rfl, _, rfl, q, _, _, _, _, rfl, X'.self, T.cl_Record, T.na_Record _ (by decide), rfl, ownLi T L L' rok hc hc' fun H1 S1 => ⟨_, rfl, ?_⟩⟩
      have X := X.same S1
      have X' := X'.same S1
      refine ite2 (fun g => ?_) (fun g => ?_)
      · refine ⟨_, rfl, r, _, _, _, _, rfl, X.self, T.cl_Record, T.na_Record _ (by decide), rfl, _, rfl, q, _, _, _, _, rfl, X'.self, T.cl_Record, T.na_Record _ (by decide), rfl, rowsDE evs, rowsDE evs', rowsDE_dp X.rows X.each eok, rowsDE_dp X'.rows X'.each eok', fls_shaped false (evs_fl eok), fls_shaped false (evs_fl eok'), ?_⟩
        have k := k H1 S1
        rw [g, Bool.true_and] at k
        exact k
      · have k := k H1 S1
        rw [show decide ([a, b, c, d] = [a', b', c', d']) = false from Bool.eq_false_iff.mpr g, Bool.false_and] at k
        exact k
    · have kt : ∀ m, Dm K H o m → m ∈ ["NoneType", "bool", "int", "str", "list", "tuple"] := fun m x => by cases x <;> decide
      exact ⟨_, rfl, _, _, _, _, _, rfl, .own (cl "Record"), dn.ty, T.k_in_Re n (kt n dn), _, rfl, iteF k⟩
theorem cal_Record_eq (T : Txt P w K mg cl) : CalM P w K mg base CX0 4 (cl "Record") "__eq__" ["self", "other"] (spReEq K (cl "Record") (cl "Lives") (cl "Customs")) := by
  obtain ⟨f, fd, F, m⟩ := T.d_Record_eq
  exact ⟨f, fd, ok_Record_eq F T, m, F.binds fun _ _ _ _ _ _ us hl => match us, hl with | [_, _], _ => rfl⟩
theorem ownRe (T : Txt P w K mg cl) {H : Hp} {r q li li' cu cu' tt tt' lt lt' : Addr} {us us' lus lus' : List V} {A A' : RecA} {f f' : Fam} {evs evs' : List Ev} {gs : List Gd} {a b c d a' b' c' d' : Int} {Q : VK} (X : RecX (cl "Record") H r li cu tt us A f evs) (X' : RecX (cl "Record") H q li' cu' tt' us' A' f' evs') (eok : ∀ e ∈ evs, e.Ok) (eok' : ∀ e ∈ evs', e.Ok)
    (L : LiAt (cl "Lives") H li cu lt lus gs) (L' : LiAt (cl "Lives") H li' cu' lt' lus' gs) (rok : ∀ g ∈ gs, Rok (mkR g)) (hc : CuAt (cl "Customs") H cu (.int a) (.int b) (.int c) (.int d)) (hc' : CuAt (cl "Customs") H cu' (.int a') (.int b') (.int c') (.int d'))
    (k : ∀ H', Same H H' → Q (.bl (decide ([a, b, c, d] = [a', b', c', d']) && PyData.eqv (rowsDE evs) (rowsDE evs'))) H') : rOwn K (cl "Record") (spReEq K (cl "Record") (cl "Lives") (cl "Customs")) (.ref r) (.ref q) H Q :=
  ⟨r, _, _, _, rfl, X.self, .base (.ins X'.self T.cl_Record T.y_Record T.z1 T.z2 T.z3_Record), T.nf2_Record, r, li, cu, tt, us, A, f, evs, lt, lus, gs, _, a, b, c, d, rfl, X, eok, L, rok, hc, .inl ⟨q, li', cu', tt', lt', us', A', f', evs', lus', a', b', c', d', rfl, X', eok', L', hc', fun H' S => ⟨⟨_, rfl⟩, k H' S⟩⟩⟩
theorem ownReN (T : Txt P w K mg cl) {H : Hp} {r li cu tt lt : Addr} {us lus : List V} {A : RecA} {f : Fam} {evs : List Ev} {gs : List Gd} {a b c d : Int} {o : V} {n : String} {Q : VK} (X : RecX (cl "Record") H r li cu tt us A f evs) (eok : ∀ e ∈ evs, e.Ok)
    (L : LiAt (cl "Lives") H li cu lt lus gs) (rok : ∀ g ∈ gs, Rok (mkR g)) (hc : CuAt (cl "Customs") H cu (.int a) (.int b) (.int c) (.int d)) (ho : Dm K H o n)
    (k : Q (.bl false) H) : rOwn K (cl "Record") (spReEq K (cl "Record") (cl "Lives") (cl "Customs")) (.ref r) o H Q := by
  have kt : ∀ m, Dm K H o m → m ∈ ["NoneType", "bool", "int", "str", "list", "tuple"] := fun m x => by cases x <;> decide
  exact ⟨r, _, _, _, rfl, X.self, ho.ty, T.nf_Record n (kt n ho), r, li, cu, tt, us, A, f, evs, lt, lus, gs, _, a, b, c, d, rfl, X, eok, L, rok, hc, .inr ⟨⟨n, ho⟩, ⟨_, rfl⟩, k⟩⟩
end
end My
set_option Elab.async false
set_option linter.all false
set_option maxRecDepth 100000
set_option maxHeartbeats 1000000
namespace My
open PySem L2 Dw
open C8 (pss_cut tCut)
open Wp
set_option pp.maxSteps 600
section
variable {P : Program} {w : World} {K : PySem.W.Frag} {mg : Str → Option Value} {base : Heap} {cl : String → Addr}
theorem ok_told {f : Addr} {fd : FuncData} (F : Fun K "_law_told" "_law_told" s_told f fd) (T : Txt P w K mg cl) : FnOk P w K mg base CX0 8 f fd ["_law_lives_here", "_law_rows_here"] (spToldR (cl "Customs") (cl "Lives")) := by
  refine F.ok sc_told (fun vs H Q E h => ?_) (fun cdv A outer s H vs Q E hr h => ?_)
  · obtain ⟨li, cu, t, r, us, ws, gs, n0, n1, n2, c3, rs, rfl, _⟩ := h
    rfl
  · obtain ⟨li, cu, t, r, us, ws, gs, n0, n1, n2, c3, rs, rfl, L, hz, hc, hrr, hpw, rok, hlr, k⟩ := h
    have I_Record : CalC P w K mg base (L2.CX P w) 5 (cl "Record") _ (spRec K (cl "Record") (cl "Customs") (cl "Lives") (cl "BadRecord")) := cal_Record_init T
    refine ⟨_, (pss_cut (ps_try_as (i := 2) (Wout := fun _ _ _ _ => False) rfl rfl sc_told.nd rfl rfl ⟨rfl, by decide, Or.inl T.m_BadRecord⟩ takes0
            (fun W pn xe tk po => (pss_one (ps_expr (pe_mkS I_Record T.m_Record (hr.mono (by decide)) (fun σ => passAt tk σ) (pa_cons (pv 0) (pa_cons (pv 1) pa_nil))))))
            (fun a oe cls d pn hz hf => (pss_one (ps_ret (pe_tup (pa_cons (pe_xf (T.x_BadRecord).xf T.xf_BadRecord_index hz hf (pv 2)) (pa_cons (pe_xf (T.x_BadRecord).xf T.xf_BadRecord_what hz hf (pv 2)) pa_nil)))))))
        (pss_one (ps_ret pe_non))), ?_⟩
    refine ⟨fun σ' H' => Same H H' ∧ runW n0 n1 n2 gs (fam0 gs) 0 rs = none ∧ σ' = [some (.ref li), some (.ref r), none], ?_, ?_⟩
    · refine ⟨_, rfl, _, rfl, mkRec L hz hc ⟨r, ws, rfl, .inl hrr, hpw, rok, hlr⟩ (fun i s H2 e hd S2 he => ?_) (fun evs x tt ts A H2 h1 h2 h3 S2 X => ?_)⟩
      · refine ⟨true, T.is_BadRecord, fun _ a0 _ => ?_, fun q => Bool.noConfusion q⟩
        refine ⟨_, rfl, rfl, rfl, e, _, _, rfl, upd_same, rfl, _, rfl, rfl, rfl, e, _, _, rfl, upd_same, rfl, by show 2 ≤ sizeLine; decide, fun t ht => ?_⟩
        refine k _ _ (S2.trans ((sNew he).trans (sNew ht))) ?_
        rw [hd]
        exact ⟨t, rfl, upd_same⟩
      · exact ⟨S2, h3, rfl⟩
    · rintro σ' H2 ⟨S2, hn, rfl⟩
      exact k _ _ S2 (by rw [hn]; exact rfl)
theorem cal_told (T : Txt P w K mg cl) : Cal P w K mg base CX0 8 "_law_told" ["_law_lives_here", "_law_rows_here"] (spToldR (cl "Customs") (cl "Lives")) := by
  obtain ⟨f, fd, F, m⟩ := T.d_told
  exact ⟨f, fd, ok_told F T, m, F.kp, F.binds fun _ _ _ _ _ _ us hl => match us, hl with | [_, _], _ => rfl⟩
end
end My
set_option Elab.async false
set_option linter.all false
set_option maxRecDepth 100000
set_option maxHeartbeats 1000000
namespace My
open PySem L2 Dw
open C8 (pss_cut tCut)
open Wp
set_option pp.maxSteps 600
def rowsDL (evs : List Ev) : PyData := sqD true (evs.map evD)
theorem rowsDL_dp {K : PySem.W.Frag} {H : Hp} {t : Addr} {us : List V} {evs : List Ev} (h : H t = some (.lst us)) (p : Paired (EvAt H) us evs) (ok : ∀ e ∈ evs, e.Ok) : Dp K H (.ref t) (rowsDL evs) := dp_lst (SqL.of h) (evs_dp p ok)
theorem rowsDL_self (evs : List Ev) : PyData.eqv (rowsDL evs) (rowsDL evs) = true := sqD_self true fun d hd => by
  obtain ⟨e, _, rfl⟩ := List.mem_map.mp hd
  exact row_self false _
theorem eqv_nilL (evs : List Ev) : PyData.eqv (rowsDL evs) (sqD true []) = evs.isEmpty := by
  cases evs <;> simp [rowsDL, sqD, PyData.eqv, PyData.eqvAll]
theorem pErase {α β : Type} {F : α → β → Prop} : ∀ {xs : List α} {ys : List β} (i : Nat), Paired F xs ys → Paired F (xs.eraseIdx i) (ys.eraseIdx i)
  | _, _, _, .nil => .nil
  | _, _, 0, .cons _ t => t
  | _, _, i + 1, .cons a t => .cons a (pErase i t)
theorem erase_perm {α : Type} : ∀ {xs : List α} {i : Nat} {x : α}, xs[i]? = some x → (x :: xs.eraseIdx i).Perm xs
  | [], _, _, h => by cases h
  | y :: xs, 0, x, h => by
    cases h
    exact List.Perm.refl _
  | y :: xs, i + 1, x, h => by
    have h : xs[i]? = some x := h
    show (x :: y :: xs.eraseIdx i).Perm (y :: xs)
    exact (List.Perm.swap _ _ _).trans ((erase_perm h).cons y)
def spShuf : Sp := fun vs H Q _ => ∃ (d c R : Addr) (ws : List V) (evs : List Ev), vs = [.ref d, .ref R] ∧ Dr H d c ∧ H R = some (.lst ws) ∧ Paired (EvAt H) ws evs ∧ (∀ e ∈ evs, e.Ok) ∧ evs.length ≤ 900 ∧ ∀ l ws2 evs2 H', evs2.Perm evs → H l = none → H' l = some (.lst ws2) → Paired (EvAt H') ws2 evs2 → Dr H' d c → But d H H' → Q (.ref l) H'
section
variable {P : Program} {w : World} {K : PySem.W.Frag} {mg : Str → Option Value} {base : Heap} {cl : String → Addr}
theorem ok_shuffled {f : Addr} {fd : FuncData} (F : Fun K "_law_shuffled" "_law_shuffled" s_shuffled f fd) (T : Txt P w K mg cl) : FnOk P w K mg base CX0 2 f fd ["_law_draws", "_law_rows_here"] spShuf := by
  refine F.ok sc_shuffled (fun vs H Q E h => ?_) (fun cdv A outer s H vs Q E hr h => ?_)
  · obtain ⟨d, c, R, ws, evs, rfl, _⟩ := h
    rfl
  · obtain ⟨d, c, R, ws, evs, rfl, D, hR, hp, eok, le, k⟩ := h
    have C_next : Cal P w K mg base CX0 1 "_law_next" _ spNext := cal_next T
    refine ⟨_, (pss_cons (ps_set (i := 1) sc_shuffled.nd rfl (Or.inl rfl) (pe_callTy call_list_of (by rfl) T.n_list (by decide +kernel) (pa_cons (pv 1) pa_nil)))
        (pss_cons (ps_set (i := 2) sc_shuffled.nd rfl (Or.inl rfl) (pe_lst pa_nil))
        (pss_cons (ps_while PassesOwn.never (pt_cmpR (op_neD hr.units) (pv 1) (pe_lst pa_nil) (nomark _))
          (pss_one (ps_expr (pe_app1 (by exact (pv 2)) (by exact (pa_cons (pe_pop1 (by exact (pv 1)) (by exact (pa_cons (pe_cal C_next (hr.mono (by decide)) (pa_cons (pv 0) (pa_cons (pe_callB call_len_seq (by rfl) T.n_len PySem.boot_len (pa_cons (pv 1) pa_nil)) pa_nil))) pa_nil))) pa_nil))))))
        (pss_one (ps_ret (pv 2)))))), ?_⟩
    refine ⟨_, rfl, R, _, rfl, .inl (SqL.of hR), fun l nl => ?_⟩
    refine ⟨by show 0 ≤ sizeLine; exact Nat.zero_le _, fun o no => ?_⟩
    have S1 := (sNew (o := .lst ws) nl).trans (sNew (o := .lst []) no)
    have nlo : l ≠ o := fun e => by rw [← e, upd_same] at no; cases no
    have no' : H o = none := by
      cases e : H o with
      | none => rfl
      | some u => rw [sNew nl _ _ e] at no; cases no
    have hd0 : ∃ u, H d = some u := by
      obtain ⟨_, ns, nx, dg, rs, sd, tn, h1, h2, _⟩ := D
      exact ⟨_, h1⟩
    have hc0 : ∃ u, H c = some u := by
      obtain ⟨_, ns, nx, dg, rs, sd, tn, h1, h2, _⟩ := D
      exact ⟨_, h2⟩
    obtain ⟨ud, hd0⟩ := hd0
    obtain ⟨uc, hc0⟩ := hc0
    refine ⟨fun m σ H' => ∃ (xs ys : List V) (ex ey : List Ev), But d H H' ∧ Dr H' d c ∧ H' l = some (.lst xs) ∧ H' o = some (.lst ys) ∧ Paired (EvAt H') xs ex ∧ Paired (EvAt H') ys ey ∧ (ey ++ ex).Perm evs ∧ m = ex.length ∧ σ = [some (.ref d), some (.ref l), some (.ref o)], ⟨evs.length, ws, [], evs, [], But.of S1, D.same S1, (upd_ne nlo).trans upd_same, upd_same, L2.Paired.mapP hp fun _ _ z => EvAt.keep z fun _ _ => S1 _ _, .nil, List.Perm.refl _, rfl, rfl⟩, ?_⟩
    rintro m σ H' ⟨xs, ys, ex, ey, B, D', hl, ho, px, py, pm, rfl, rfl⟩
    have hlx : ex.length ≤ 900 := by
      have := pm.length_eq
      rw [List.length_append] at this
      omega
    have eox : ∀ e ∈ ex, e.Ok := fun e he => eok e (pm.mem_iff.mp (List.mem_append_right _ he))
    have ee := evs_fl eox
    refine ⟨_, rfl, by show 0 ≤ sizeLine; exact Nat.zero_le _, fun q nq => ?_⟩
    have S2 := sNew (o := .lst []) nq
    have B := B.trans (But.of S2)
    have D' := D'.same S2
    have hl := S2 _ _ hl
    have ho := S2 _ _ ho
    have px := L2.Paired.mapP px fun _ _ z => EvAt.keep z fun _ _ => S2 _ _
    have py := L2.Paired.mapP py fun _ _ z => EvAt.keep z fun _ _ => S2 _ _
    refine ⟨_, _, rowsDL_dp hl px eox, dp_lst (SqL.of upd_same) .nil, fls_shaped true ee, row_shaped (xs := []) true (by simp), _, rfl, ?_⟩
    rw [eqv_nilL]
    generalize upd H' q (.lst []) = H2 at B D' hl ho px py
    clear S2 nq ee
    by_cases hx : ex = []
    · subst hx
      rw [List.append_nil] at pm
      exact iteF ⟨_, rfl, k o ys ey H2 pm no' ho py D' B⟩
    · have l1 : 1 ≤ ex.length := by
        cases ex with
        | nil => exact absurd rfl hx
        | cons _ _ => exact Nat.succ_le_succ (Nat.zero_le _)
      have ie : ex.isEmpty = false := by
        cases ex with
        | nil => exact absurd rfl hx
        | cons _ _ => rfl
      rw [ie]
      have lx := px.length
      refine iteT ⟨fun σ' H' => ∃ m', m' < ex.length ∧ ∃ (xs ys : List V) (ex ey : List Ev), But d H H' ∧ Dr H' d c ∧ H' l = some (.lst xs) ∧ H' o = some (.lst ys) ∧ Paired (EvAt H') xs ex ∧ Paired (EvAt H') ys ey ∧ (ey ++ ex).Perm evs ∧ m' = ex.length ∧ σ' = [some (.ref d), some (.ref l), some (.ref o)], fun _ _ h => h, ?_⟩
      refine ⟨_, rfl, .inl ⟨rfl, _, SqL.of ho⟩, _, rfl, .inl ⟨rfl, _, SqL.of hl⟩, _, rfl, _, rfl, l, _, rfl, .inl (SqL.of hl), d, c, _, rfl, D', by omega, by omega, fun j H3 j0 j1 D3 B3 => ?_⟩
      have hl3 := butLst D' B3 hl
      have ho3 := butLst D' B3 ho
      have px3 := evs_keep px fun _ _ e => butTup D' B3 e
      have py3 := evs_keep py fun _ _ e => butTup D' B3 e
      obtain ⟨jn, rfl⟩ : ∃ jn : Nat, j = (jn : Int) := ⟨j.toNat, by omega⟩
      have hj : jn < xs.length := by omega
      obtain ⟨y, hy⟩ : ∃ y, xs[jn]? = some y := ⟨_, List.getElem?_eq_getElem hj⟩
      obtain ⟨e0, he0, hve⟩ := Paired.at px3 hy
      refine ⟨l, xs, _, jn, y, rfl, rfl, hl3, by omega, by omega, ?_, hy, ?_⟩
      · rw [seqIndex_of (by omega) (by omega)]; rfl
      have ndl : ∀ {b u}, H b = some u → b ≠ l := fun e => ne_of_none e nl
      have ndo : ∀ {b u}, H b = some u → b ≠ o := fun e => ne_of_none e no'
      have tl : ∀ {b us}, H3 b = some (.tup us) → (upd H3 l (.lst (xs.eraseIdx jn))) b = some (.tup us) := fun e => (upd_ne (ne_of e hl3 (fun z => nomatch z))).trans e
      have ho4 : (upd H3 l (.lst (xs.eraseIdx jn))) o = some (.lst ys) := (upd_ne (Ne.symm nlo)).trans ho3
      have tl2 : ∀ {b us}, (upd H3 l (.lst (xs.eraseIdx jn))) b = some (.tup us) → (upd (upd H3 l (.lst (xs.eraseIdx jn))) o (.lst (ys ++ [y]))) b = some (.tup us) := fun e => (upd_ne (ne_of e ho4 (fun z => nomatch z))).trans e
      have ly := py.length
      have hly : ey.length + ex.length ≤ 900 := by
        have := pm.length_eq
        rw [List.length_append] at this
        omega
      refine ⟨o, ys, y, rfl, rfl, ho4, small1000 (by omega), ?_⟩
      have e1 := erase_perm he0
      refine ⟨(ex.eraseIdx jn).length, ?_, xs.eraseIdx jn, ys ++ [y], ex.eraseIdx jn, ey ++ [e0], ?_, ?_, ?_, upd_same, ?_, ?_, ?_, rfl, rfl⟩
      · have := e1.length_eq
        rw [List.length_cons] at this
        omega
      · exact fun b u e n => (upd_ne (ndo e)).trans ((upd_ne (ndl e)).trans ((B.trans B3) b u e n))
      · exact (D3.upd (ndl hd0) (ndl hc0)).upd (ndo hd0) (ndo hc0)
      · exact (upd_ne nlo).trans upd_same
      · exact evs_keep (pErase jn px3) fun _ _ e => tl2 (tl e)
      · exact evs_keep (Paired.appendP py3 (.cons hve .nil)) fun _ _ e => tl2 (tl e)
      · rw [List.append_assoc]
        exact (List.Perm.append_left ey e1).trans pm
theorem cal_shuffled (T : Txt P w K mg cl) : Cal P w K mg base CX0 2 "_law_shuffled" ["_law_draws", "_law_rows_here"] spShuf := by
  obtain ⟨f, fd, F, m⟩ := T.d_shuffled
  exact ⟨f, fd, ok_shuffled F T, m, F.kp, F.binds fun _ _ _ _ _ _ us hl => match us, hl with | [_, _], _ => rfl⟩
end
end My
set_option Elab.async false
set_option linter.all false
set_option maxRecDepth 100000
set_option maxHeartbeats 1000000
namespace My
open PySem L2 Dw
open C8 (pss_cut tCut)
open Wp
set_option pp.maxSteps 600
open PyProof.Rows (lex_self lex_diff itemOrd lexLt)
/-! rows in order -/
theorem leP_ltK (p q : K3) : leP p q = !ltK q p := by
  obtain ⟨a, b, c⟩ := p
  obtain ⟨x, y, z⟩ := q
  unfold leP ltK codeK
  show (if a = x then if b = y then (if c = z then true else !decide (z.cps.toList < c.cps.toList)) else decide (b ≤ y) else decide (a ≤ x)) = _
  by_cases h1 : a = x
  · subst h1
    rw [if_pos rfl, lex_self]
    by_cases h2 : b = y
    · subst h2
      rw [if_pos rfl, lex_self]
      by_cases h3 : c = z
      · subst h3
        rw [if_pos rfl, lex_self]
        rfl
      · rw [if_neg h3, lex_diff]
        · rfl
        · intro e
          have e : z.cps.toList = c.cps.toList := Sum.inr.inj e
          exact h3 (PySem.Str.ext' (Array.ext' e.symm))
    · rw [if_neg h2, lex_diff (fun e => h2 (Sum.inl.inj e).symm)]
      show decide (b ≤ y) = !decide (y < b)
      rw [← decide_not]
      exact decide_eq_decide.mpr ⟨fun h => Int.not_lt.mpr h, fun h => Int.not_lt.mp h⟩
  · rw [if_neg h1, lex_diff (fun e => h1 (Sum.inl.inj e).symm)]
    show decide (a ≤ x) = !decide (x < a)
    rw [← decide_not]
    exact decide_eq_decide.mpr ⟨fun h => Int.not_lt.mpr h, fun h => Int.not_lt.mp h⟩
theorem ltK_trans {p q r : K3} (h1 : ltK p q = true) (h2 : ltK q r = true) : ltK p r = true := PyProof.Rows.lex_trans (O := itemOrd) _ _ _ h1 h2
theorem ltK_asym {p q : K3} (h1 : ltK p q = true) : ltK q p = false := (swo_K (fun p : K3 => p)).asym p q h1
abbrev Inc (evs : List Ev) : Prop := evs.Pairwise fun a b => ltK a.pl b.pl = true
abbrev Sor (evs : List Ev) : Prop := evs.Pairwise fun a b => ltK b.pl a.pl = false
theorem inc_run {n0 n1 n2 : Int} {gs : List Gd} : ∀ {evs : List Ev} {f : Fam} {i : Nat}, runW n0 n1 n2 gs f i (evs.map rowR) = none → (∀ q, f.last = some q → ∀ e ∈ evs, ltK q e.pl = true) ∧ Inc evs
  | [], _, _, _ => ⟨fun _ _ e he => (by cases he), List.Pairwise.nil⟩
  | e :: es, f, i, h => by
    rw [List.map_cons, runW_cons] at h
    cases ef : faultW n0 n1 n2 gs f (rowR e) with
    | some w => rw [ef] at h; cases h
    | none =>
      rw [ef] at h
      rw [show evOf (rowR e) = e from evOf_row e] at h
      obtain ⟨h1, h2⟩ := inc_run h
      have h1 := h1 e.pl rfl
      refine ⟨fun q hq x hx => ?_, List.pairwise_cons.mpr ⟨h1, h2⟩⟩
      have lt : ltK q e.pl = true := by
        unfold faultW at ef
        split at ef
        · cases ef
        split at ef
        · cases ef
        split at ef
        · cases ef
        rename_i hl
        rw [hq, show evOf (rowR e) = e from evOf_row e] at hl
        have hl : ¬ leP e.pl q = true := hl
        rw [leP_ltK] at hl
        cases e2 : ltK q e.pl with
        | true => rfl
        | false => rw [e2] at hl; exact absurd rfl hl
      rcases List.mem_cons.mp hx with rfl | hx
      · exact lt
      · exact ltK_trans lt (h1 x hx)
/-- a sorted rearrangement of rows in strict order is these rows -/
theorem inc_uniq : ∀ {as bs : List Ev}, Inc bs → Sor as → as.Perm bs → as = bs
  | [], bs, _, _, p => (List.Perm.eq_nil p.symm).symm
  | a :: as, [], _, _, p => by
    have := p.length_eq
    cases this
  | a :: as, b :: bs, hi, hs, p => by
    have hb := List.pairwise_cons.mp hi
    have ha := List.pairwise_cons.mp hs
    have e : a = b := by
      rcases List.mem_cons.mp (p.mem_iff.mp (List.mem_cons_self (a := a) (l := as))) with e | h
      · exact e
      · rcases List.mem_cons.mp (p.mem_iff.mpr (List.mem_cons_self (a := b) (l := bs))) with e | h'
        · exact e.symm
        · have h1 := hb.1 a h
          have h2 := ha.1 b h'
          rw [h1] at h2
          cases h2
    subst e
    rw [inc_uniq hb.2 ha.2 p.cons_inv]
theorem Inc.sor {evs : List Ev} (h : Inc evs) : Sor evs := h.imp fun h => ltK_asym h
/-! rows as data -/
theorem vD_inj {x y : V} (hx : (∃ i, x = .int i) ∨ ∃ s, x = .str s) (hy : (∃ i, y = .int i) ∨ ∃ s, y = .str s) (h : PyData.eqv (vD x) (vD y) = true) : x = y := by
  rcases hx with ⟨i, rfl⟩ | ⟨s, rfl⟩ <;> rcases hy with ⟨j, rfl⟩ | ⟨t, rfl⟩ <;> simp [vD, PyData.eqv] at h
  · rw [h]
  · rw [h]
theorem vDs_inj : ∀ {xs ys : List V}, (∀ x ∈ xs, (∃ i, x = .int i) ∨ ∃ s, x = .str s) → (∀ x ∈ ys, (∃ i, x = .int i) ∨ ∃ s, x = .str s) → PyData.eqvAll (xs.map vD) (ys.map vD) = true → xs = ys
  | [], [], _, _, _ => rfl
  | [], _ :: _, _, _, h => by simp [PyData.eqvAll] at h
  | _ :: _, [], _, _, h => by simp [PyData.eqvAll] at h
  | x :: xs, y :: ys, hx, hy, h => by
    have h : PyData.eqv (vD x) (vD y) = true ∧ PyData.eqvAll (xs.map vD) (ys.map vD) = true := by simpa [PyData.eqvAll] using h
    rw [vD_inj (hx x List.mem_cons_self) (hy y List.mem_cons_self) h.1, vDs_inj (fun z hz => hx z (List.mem_cons_of_mem _ hz)) (fun z hz => hy z (List.mem_cons_of_mem _ hz)) h.2]
theorem row_is (e : Ev) : ∀ x ∈ e.row, (∃ i, x = .int i) ∨ ∃ s, x = .str s := fun x hx => by
  rcases List.mem_cons.mp hx with rfl | hx
  · exact .inr ⟨_, rfl⟩
  rcases List.mem_cons.mp hx with rfl | hx
  · exact .inl ⟨_, rfl⟩
  · obtain ⟨s, _, rfl⟩ := List.mem_map.mp hx
    exact .inr ⟨_, rfl⟩
theorem evD_inj {a b : Ev} (h : PyData.eqv (evD a) (evD b) = true) : a = b := by
  have h : PyData.eqvAll (a.row.map vD) (b.row.map vD) = true := by simpa [evD, sqD, PyData.eqv] using h
  have e := vDs_inj (row_is a) (row_is b) h
  have := congrArg (fun r => evOf (.sq r)) e
  rw [show evOf (.sq a.row) = a from evOf_row a, show evOf (.sq b.row) = b from evOf_row b] at this
  exact this
theorem evDs_inj : ∀ {as bs : List Ev}, PyData.eqvAll (as.map evD) (bs.map evD) = true → as = bs
  | [], [], _ => rfl
  | [], _ :: _, h => by simp [PyData.eqvAll] at h
  | _ :: _, [], h => by simp [PyData.eqvAll] at h
  | x :: xs, y :: ys, h => by
    have h : PyData.eqv (evD x) (evD y) = true ∧ PyData.eqvAll (xs.map evD) (ys.map evD) = true := by simpa [PyData.eqvAll] using h
    rw [evD_inj h.1, evDs_inj h.2]
theorem rowsDL_eq {as bs : List Ev} : PyData.eqv (rowsDL as) (rowsDL bs) = decide (as = bs) := by
  cases e : PyData.eqv (rowsDL as) (rowsDL bs) with
  | true =>
    have h : PyData.eqvAll (as.map evD) (bs.map evD) = true := by simpa [rowsDL, sqD, PyData.eqv] using e
    exact (decide_eq_true (evDs_inj h)).symm
  | false =>
    refine (decide_eq_false fun h => ?_).symm
    subst h
    rw [rowsDL_self] at e
    cases e
theorem rowsDE_eq {as bs : List Ev} : PyData.eqv (rowsDE as) (rowsDE bs) = decide (as = bs) := by
  cases e : PyData.eqv (rowsDE as) (rowsDE bs) with
  | true =>
    have h : PyData.eqvAll (as.map evD) (bs.map evD) = true := by simpa [rowsDE, sqD, PyData.eqv] using e
    exact (decide_eq_true (evDs_inj h)).symm
  | false =>
    refine (decide_eq_false fun h => ?_).symm
    subst h
    rw [rowsDE_self] at e
    cases e
/-! what stands at a value -/
def evV (H : Hp) : V → Ev
  | .ref b => match H b with
    | some (.tup xs) => evOf (.sq xs)
    | _ => .happ 0 ""
  | _ => .happ 0 ""
theorem evV_at {H : Hp} {v : V} {e : Ev} (h : EvAt H v e) : evV H v = e := by
  obtain ⟨b, rfl, hb⟩ := h
  show (match H b with
    | some (.tup xs) => evOf (.sq xs)
    | _ => .happ 0 "") = e
  rw [hb]
  exact evOf_row e
theorem evV_map {H : Hp} : ∀ {ws : List V} {evs : List Ev}, Paired (EvAt H) ws evs → ws.map (evV H) = evs
  | _, _, .nil => rfl
  | _, _, .cons h t => by rw [List.map_cons, evV_at h, evV_map t]
theorem evV_all {H : Hp} : ∀ {ws : List V} {evs : List Ev}, Paired (EvAt H) ws evs → ∀ v ∈ ws, EvAt H v (evV H v)
  | _, _, .nil, v, hv => by cases hv
  | _, _, .cons h t, v, hv => by
    rcases List.mem_cons.mp hv with rfl | hv
    · rw [evV_at h]; exact h
    · exact evV_all t v hv
theorem evV_pair {H : Hp} : ∀ {zs : List V}, (∀ v ∈ zs, EvAt H v (evV H v)) → Paired (EvAt H) zs (zs.map (evV H))
  | [], _ => .nil
  | z :: zs, h => .cons (h z List.mem_cons_self) (evV_pair fun v hv => h v (List.mem_cons_of_mem _ hv))
/-- what sorted(ws, key=place) gives -/
theorem sorted_evs {H : Hp} {ws zs : List V} {evs : List Ev} (p : Paired (EvAt H) ws evs) (h1 : SrtO.Srtd (fun x y => ltK (evV H x).pl (evV H y).pl) zs) (h2 : SrtO.Stb (fun x y => ltK (evV H x).pl (evV H y).pl) zs ws) :
    Paired (EvAt H) zs (zs.map (evV H)) ∧ Sor (zs.map (evV H)) ∧ (zs.map (evV H)).Perm evs := by
  refine ⟨evV_pair fun v hv => evV_all p v (h2.perm.mem_iff.mp hv), List.pairwise_map.mpr h1, ?_⟩
  have := h2.perm.map (evV H)
  rw [evV_map p] at this
  exact this
theorem inc_turned {as bs : List Ev} {x y : Ev} (h : Inc (as ++ x :: y :: bs)) : ¬ Inc (as ++ y :: x :: bs) := fun h' => by
  have h1 := (List.pairwise_append.mp h).2.1
  have h2 := (List.pairwise_append.mp h').2.1
  have a := (List.pairwise_cons.mp h1).1 y List.mem_cons_self
  have b := (List.pairwise_cons.mp h2).1 x List.mem_cons_self
  rw [ltK_asym a] at b
  cases b
/-- a row put in: the others are as they were -/
theorem inc_erase {as bs evs : List Ev} {e : Ev} (h : Inc (as ++ e :: bs)) (hi : Inc evs) (p : (as ++ e :: bs).Perm (evs ++ [e])) : as ++ bs = evs := by
  have hs : Inc (as ++ bs) := by
    obtain ⟨h1, h2, h3⟩ := List.pairwise_append.mp h
    refine List.pairwise_append.mpr ⟨h1, (List.pairwise_cons.mp h2).2, fun a ha b hb => h3 a ha b (List.mem_cons_of_mem _ hb)⟩
  refine inc_uniq hi hs.sor ?_
  have p1 : (e :: (as ++ bs)).Perm (as ++ e :: bs) := List.perm_middle.symm
  have p2 : (evs ++ [e]).Perm (e :: evs) := List.perm_append_singleton e evs
  exact ((p1.trans p).trans p2).cons_inv
end My
set_option Elab.async false
set_option linter.all false
set_option maxRecDepth 100000
set_option maxHeartbeats 1000000
namespace My
open PySem L2 Dw
open C8 (pss_cut tCut)
open Wp
/-! what is true of the persons of rows -/
structure FamS (f : Fam) : Prop where
  plp : ∀ c p, f.parents.lookup c = some p → p = .non ∨ ∃ q, p = .str q
  ord : ∀ c ∈ f.order, (f.parents.lookup c).isSome = true
  nam : ∀ c ∈ f.order, isN (.str c) = true
  dth : ∀ c d, f.deaths.lookup c = some d → d ≤ 1000000000
theorem good_gs {n0 : Int} {gs : List Gd} (L : LvOk n0 gs) : ∀ g ∈ gs, isN (.str g.1) = true ∧ (g.2.2 = .non ∨ ∃ s, g.2.2 = .str s) := by
  obtain ⟨gs', e, h, _⟩ := dueGo_good L.due
  obtain rfl := map_mkR e
  exact fun g hg => ⟨(h g hg).1, (h g hg).2.2⟩
theorem famS0 : ∀ (n : Nat) (gs : List Gd), gs.length = n → (∀ g ∈ gs, isN (.str g.1) = true ∧ (g.2.2 = .non ∨ ∃ s, g.2.2 = .str s)) → FamS (fam0 gs) := fun n => by
  induction n with
  | zero =>
    intro gs h _
    cases gs with
    | cons _ _ => cases h
    | nil => exact ⟨fun c p h => (by cases h), fun c h => (by cases h), fun c h => (by cases h), fun c d h => (by cases h)⟩
  | succ n ih =>
    intro gs h ok
    rcases List.eq_nil_or_concat gs with rfl | ⟨es, g, rfl⟩
    · cases h
    · rw [List.concat_eq_append] at *
      rw [List.length_append] at h
      have q := ih es (by simpa using h) fun g hg => ok g (List.mem_append_left _ hg)
      have o := ok g (by simp)
      rw [fam0_step]
      refine ⟨fun c p hc => ?_, fun c hc => ?_, fun c hc => ?_, q.dth⟩
      · have hc : (put (fam0 es).parents g.1 g.2.2).lookup c = some p := hc
        rw [look_put] at hc
        split at hc
        · obtain rfl := Option.some.inj hc
          exact o.2
        · exact q.plp c p hc
      · show ((put (fam0 es).parents g.1 g.2.2).lookup c).isSome = true
        rw [look_put]
        split
        · rfl
        · rename_i ne
          rcases List.mem_append.mp (show c ∈ (fam0 es).order ++ [g.1] from hc) with hc | hc
          · exact q.ord c hc
          · exact absurd (by simpa using hc) ne
      · rcases List.mem_append.mp (show c ∈ (fam0 es).order ++ [g.1] from hc) with hc | hc
        · exact q.nam c hc
        · rw [show c = g.1 by simpa using hc]; exact o.1
theorem FamS.add {f : Fam} (q : FamS f) {e : Ev} (ok : e.Ok) : FamS (f.add e) := by
  have pp : ∀ {n : Str} {v : V}, (v = .non ∨ ∃ s, v = .str s) → isN (.str n) = true → (∀ c p, (put f.parents n v).lookup c = some p → p = .non ∨ ∃ q, p = .str q) ∧ (∀ c ∈ f.order ++ [n], ((put f.parents n v).lookup c).isSome = true) ∧ (∀ c ∈ f.order ++ [n], isN (.str c) = true) := fun {n v} hv hn => by
    refine ⟨fun c p hc => ?_, fun c hc => ?_, fun c hc => ?_⟩
    · rw [look_put] at hc
      split at hc
      · obtain rfl := Option.some.inj hc
        exact hv
      · exact q.plp c p hc
    · rw [look_put]
      split
      · rfl
      · rename_i ne
        rcases List.mem_append.mp hc with hc | hc
        · exact q.ord c hc
        · exact absurd (by simpa using hc) ne
    · rcases List.mem_append.mp hc with hc | hc
      · exact q.nam c hc
      · rw [show c = n by simpa using hc]; exact hn
  cases e with
  | born y p n =>
    obtain ⟨h1, h2, h3⟩ := pp (n := n) (v := .str p) (.inr ⟨p, rfl⟩) (ok.2.2 n (by simp [Ev.tl]))
    exact ⟨h1, h2, h3, q.dth⟩
  | wed y l n =>
    obtain ⟨h1, h2, h3⟩ := pp (n := n) (v := .non) (.inl rfl) (ok.2.2 n (by simp [Ev.tl]))
    exact ⟨h1, h2, h3, q.dth⟩
  | happ y n => exact ⟨q.plp, q.ord, q.nam, q.dth⟩
  | died y p =>
    refine ⟨q.plp, q.ord, q.nam, fun c d hc => ?_⟩
    have hc : (put f.deaths p y).lookup c = some d := hc
    rw [look_put] at hc
    split at hc
    · obtain rfl := Option.some.inj hc
      exact ok.2.1
    · exact q.dth c d hc
theorem famS_E {n0 : Int} {gs : List Gd} (L : LvOk n0 gs) : ∀ (n : Nat) (evs : List Ev), evs.length = n → (∀ e ∈ evs, e.Ok) → FamS (famE gs evs) := fun n => by
  induction n with
  | zero =>
    intro evs h _
    cases evs with
    | cons _ _ => cases h
    | nil => exact famS0 _ gs rfl (good_gs L)
  | succ n ih =>
    intro evs h ok
    rcases List.eq_nil_or_concat evs with rfl | ⟨es, e, rfl⟩
    · cases h
    · rw [List.concat_eq_append] at *
      rw [List.length_append] at h
      rw [famE_snoc]
      exact (ih es (by simpa using h) fun x hx => ok x (List.mem_append_left _ hx)).add (ok e (by simp))
theorem order_len {gs : List Gd} : ∀ (n : Nat) (evs : List Ev), evs.length = n → (famE gs evs).order.length ≤ gs.length + n := fun n => by
  have q0 : ∀ (m : Nat) (gs : List Gd), gs.length = m → (fam0 gs).order.length ≤ m := fun m => by
    induction m with
    | zero =>
      intro gs h
      cases gs with
      | cons _ _ => cases h
      | nil => exact Nat.le_refl _
    | succ m ih =>
      intro gs h
      rcases List.eq_nil_or_concat gs with rfl | ⟨es, g, rfl⟩
      · cases h
      · rw [List.concat_eq_append] at *
        rw [List.length_append] at h
        rw [fam0_step]
        show ((fam0 es).order ++ [g.1]).length ≤ _
        rw [List.length_append]
        exact Nat.succ_le_succ (ih es (by simpa using h))
  induction n with
  | zero =>
    intro evs h
    cases evs with
    | cons _ _ => cases h
    | nil => exact q0 _ gs rfl
  | succ n ih =>
    intro evs h
    rcases List.eq_nil_or_concat evs with rfl | ⟨es, e, rfl⟩
    · cases h
    · rw [List.concat_eq_append] at *
      rw [List.length_append] at h
      rw [famE_snoc]
      have q := ih es (by simpa using h)
      cases e with
      | born y p m => show ((famE gs es).order ++ [m]).length ≤ _; rw [List.length_append]; show _ + 1 ≤ _; omega
      | wed y p m => show ((famE gs es).order ++ [m]).length ≤ _; rw [List.length_append]; show _ + 1 ≤ _; omega
      | happ y m => exact Nat.le_succ_of_le q
      | died y p => exact Nat.le_succ_of_le q
def wedS (l : Str) : Ev → Option V
  | .wed _ l' n => if l' = l then some (.str n) else none
  | _ => none
theorem weds_sel {gs : List Gd} {l : Str} : ∀ (n : Nat) (evs : List Ev), evs.length = n → (((famE gs evs).weds.lookup l).getD []).map V.str = evs.filterMap (wedS l) := fun n => by
  induction n with
  | zero =>
    intro evs h
    cases evs with
    | cons _ _ => cases h
    | nil =>
      show (((fam0 gs).weds.lookup l).getD []).map V.str = []
      rw [(fam0_many gs).2.2.1]
      rfl
  | succ n ih =>
    intro evs h
    rcases List.eq_nil_or_concat evs with rfl | ⟨es, e, rfl⟩
    · cases h
    · rw [List.concat_eq_append] at *
      rw [List.length_append] at h
      have q := ih es (by simpa using h)
      rw [famE_snoc, List.filterMap_append]
      cases e with
      | wed y l' m =>
        show (((put (famE gs es).weds l' ((((famE gs es).weds.lookup l').getD []) ++ [m])).lookup l).getD []).map V.str = _
        rw [look_put]
        by_cases e : l = l'
        · subst e
          rw [if_pos rfl]
          show ((((famE gs es).weds.lookup l).getD []) ++ [m]).map V.str = _
          rw [List.map_append, q]
          show _ = _ ++ List.filterMap (wedS l) [.wed y l m]
          rw [List.filterMap_cons_some (show wedS l (.wed y l m) = some (.str m) from if_pos rfl)]
          rfl
        · rw [if_neg e, q, List.filterMap_cons_none (show wedS l (.wed y l' m) = none from if_neg (Ne.symm e)), List.filterMap_nil, List.append_nil]
      | born y p m => rw [List.filterMap_cons_none (show wedS l (.born y p m) = none from rfl), List.filterMap_nil, List.append_nil]; exact q
      | happ y m => rw [List.filterMap_cons_none (show wedS l (.happ y m) = none from rfl), List.filterMap_nil, List.append_nil]; exact q
      | died y p => rw [List.filterMap_cons_none (show wedS l (.died y p) = none from rfl), List.filterMap_nil, List.append_nil]; exact q
theorem wed_sel (l : Str) (e : Ev) : (e.w = "wed" ∧ ∃ l' n, e.row[2]? = some (.str l') ∧ e.row[3]? = some (.str n) ∧ wedS l e = if l' = l then some (.str n) else none) ∨ (e.w ≠ "wed" ∧ wedS l e = none) := by
  cases e with
  | wed y p n => exact .inl ⟨rfl, p, n, rfl, rfl, rfl⟩
  | born y p n => exact .inr ⟨by show ("born" : Str) ≠ "wed"; decide +kernel, rfl⟩
  | happ y n => exact .inr ⟨by show ("happened" : Str) ≠ "wed"; decide +kernel, rfl⟩
  | died y n => exact .inr ⟨by show ("died" : Str) ≠ "wed"; decide +kernel, rfl⟩
theorem sel_ok {p : Ev → Option V} (hp : ∀ e v, p e = some v → ∃ s ∈ e.tl, v = .str s) {evs : List Ev} (ok : ∀ e ∈ evs, e.Ok) : ∀ v ∈ evs.filterMap p, okV v = true := fun v hv => by
  obtain ⟨e, he, h⟩ := List.mem_filterMap.mp hv
  obtain ⟨s, hs, rfl⟩ := hp e v h
  exact (sr_n ((ok e he).2.2 s hs)).2
theorem bornS_tl (e : Ev) (v : V) (h : bornS e = some v) : ∃ s ∈ e.tl, v = .str s := by
  cases e with
  | born y p n => exact ⟨n, by simp [Ev.tl], (Option.some.inj h).symm⟩
  | _ => cases h
theorem wedS_tl (l : Str) (e : Ev) (v : V) (h : wedS l e = some v) : ∃ s ∈ e.tl, v = .str s := by
  cases e with
  | wed y p n =>
    have h : (if p = l then some (V.str n) else none) = some v := h
    split at h
    · exact ⟨n, by simp [Ev.tl], (Option.some.inj h).symm⟩
    · cases h
  | _ => cases h
/-- the facts that the law itself has of rows -/
structure FcV (H : Hp) (A : FcA) (f : Fam) : Prop where
  hb : H A.b = some (.dK (dk V.int f.births))
  hd : H A.d = some (.dK (dk V.int f.deaths))
  hp : H A.pr = some (.dK (dk id f.parents))
  hf : H A.fc = some (.dK (dk V.int f.facts))
  ho : H A.od = some (.lst (f.order.map V.str))
theorem FcV.same {H H' : Hp} {A : FcA} {f : Fam} (X : FcV H A f) (S : Same H H') : FcV H' A f := ⟨S _ _ X.hb, S _ _ X.hd, S _ _ X.hp, S _ _ X.hf, S _ _ X.ho⟩
theorem FacX.v {H0 H : Hp} {A : FcA} {gs : List Gd} {evs : List Ev} {n : Nat} (X : FacX H0 H A (famP gs evs) n) : FcV H A (famE gs evs) := by
  rw [famE_P gs evs.length evs rfl]
  exact ⟨X.hb, X.hd, X.hp, X.hf, X.ho⟩
end My
set_option Elab.async false
set_option linter.all false
set_option maxRecDepth 100000
set_option maxHeartbeats 1000000
namespace My
open PySem L2 Dw
open C8 (pss_cut tCut)
open Wp
set_option pp.maxSteps 600
theorem rows_inj : ∀ {as bs : List Ev}, as.map rowR = bs.map rowR → as = bs
  | [], [], _ => rfl
  | [], _ :: _, h => by cases h
  | _ :: _, [], h => by cases h
  | a :: as, b :: bs, h => by
    rw [List.map_cons, List.map_cons] at h
    injection h with h1 h2
    have e := congrArg evOf h1
    rw [show evOf (rowR a) = a from evOf_row a, show evOf (rowR b) = b from evOf_row b] at e
    rw [e, rows_inj h2]
theorem dk_int_ne {H : Hp} {d c a : Addr} {L : List (Str × Int)} (D : Dr H d c) (h : H a = some (.dK (dk V.int L))) : a ≠ d := by
  rintro rfl
  obtain ⟨_, _, _, _, _, _, _, h1, _⟩ := D
  rw [h] at h1
  have e := HO.dK.inj (Option.some.inj h1)
  cases L with
  | nil => cases e
  | cons q L =>
    have e1 : some ((.inr q.1 : Key), V.int q.2) = some ((.inr "cells" : Key), V.ref c) := congrArg List.head? e
    have e2 := congrArg Prod.snd (Option.some.inj e1)
    cases e2
theorem dk_ref_ne {H : Hp} {d c a : Addr} {L : List (Str × Addr)} (D : Dr H d c) (h : H a = some (.dK (dk V.ref L))) : a ≠ d := by
  rintro rfl
  obtain ⟨_, _, nx, _, _, _, _, h1, _⟩ := D
  rw [h] at h1
  have e := HO.dK.inj (Option.some.inj h1)
  match L, e with
  | [], e => cases e
  | [q], e => exact absurd (congrArg List.length e) (by show ¬ 1 = 6; decide)
  | q :: q2 :: L, e =>
    have e1 : some ((.inr q2.1 : Key), V.ref q2.2) = some ((.inr "next" : Key), V.int nx) := congrArg (fun l => l[1]?) e
    have e2 := congrArg Prod.snd (Option.some.inj e1)
    cases e2
theorem dk_id_ne {H : Hp} {d c a : Addr} {L : List (Str × V)} (D : Dr H d c) (h : H a = some (.dK (dk id L))) (p : ∀ c p, L.lookup c = some p → p = .non ∨ ∃ q, p = .str q) : a ≠ d := by
  rintro rfl
  obtain ⟨_, _, nx, _, _, _, _, h1, _⟩ := D
  rw [h] at h1
  have e := HO.dK.inj (Option.some.inj h1)
  cases L with
  | nil => cases e
  | cons q L =>
    have e1 : some ((.inr q.1 : Key), q.2) = some ((.inr "cells" : Key), V.ref c) := congrArg List.head? e
    have e2 : q.2 = V.ref c := congrArg Prod.snd (Option.some.inj e1)
    rcases p q.1 q.2 (by obtain ⟨a, b⟩ := q; simp [List.lookup]) with h | ⟨s, h⟩ <;> (rw [h] at e2; cases e2)
theorem RecX.but {C : Addr} {H H' : Hp} {p li cu t d c : Addr} {us : List V} {A : RecA} {f : Fam} {evs : List Ev} (X : RecX C H p li cu t us A f evs) (fs : FamS f) (D : Dr H d c) (B : But d H H') : RecX C H' p li cu t us A f evs := by
  have D0 := D
  obtain ⟨_, _, _, _, _, _, _, hd, _⟩ := D0
  exact ⟨B _ _ X.self (ne_of X.self hd (fun z => nomatch z)), butTup D B X.rows, evs_keep X.each fun _ _ e => butTup D B e, B _ _ X.hb (dk_int_ne D X.hb), B _ _ X.hd (dk_int_ne D X.hd), B _ _ X.hp (dk_id_ne D X.hp fs.plp), B _ _ X.hw (dk_ref_ne D X.hw), B _ _ X.hf (dk_int_ne D X.hf), butTup D B X.ho, L2.Paired.mapP X.we fun _ _ h => ⟨h.1, butLst D B h.2⟩⟩
theorem eqvAll_len : ∀ {as bs : List PyData}, PyData.eqvAll as bs = true → as.length = bs.length
  | [], [], _ => rfl
  | [], _ :: _, h => by simp [PyData.eqvAll] at h
  | _ :: _, [], h => by simp [PyData.eqvAll] at h
  | a :: as, b :: bs, h => by
    have h : PyData.eqvAll as bs = true := by
      simp [PyData.eqvAll] at h
      exact h.2
    rw [List.length_cons, List.length_cons, eqvAll_len h]
theorem ne_no (v : V) : ¬ (!decide (v = v)) = true := by simp
theorem DueV.same {H H' : Hp} {v : V} {o : Option (Nat × Str)} (h : DueV H v o) (S : Same H H') : DueV H' v o := by
  cases o with
  | none => exact h
  | some q =>
    obtain ⟨i, s⟩ := q
    obtain ⟨t, e, ht⟩ := h
    exact ⟨t, e, S _ _ ht⟩
theorem roks {evs : List Ev} (ok : ∀ e ∈ evs, e.Ok) : ∀ x ∈ evs.map rowR, RdOk x := fun x hx => by
  obtain ⟨e, he, rfl⟩ := List.mem_map.mp hx
  exact row_ok (ok e he)
theorem evs_same {H H' : Hp} {ws : List V} {evs : List Ev} (p : Paired (EvAt H) ws evs) (S : Same H H') : Paired (EvAt H') ws evs := evs_keep p fun _ _ e => S _ _ e
/-- sorted(ws, key=_law_place): what is asked of the items -/
theorem rS1 {H : Hp} {ws : List V} {evs : List Ev} (p : Paired (EvAt H) ws evs) : ∀ y ∈ ws, ∃ t, y = V.ref t := fun y hy => by
  obtain ⟨b, e, _⟩ := evV_all p y hy
  exact ⟨b, e⟩
theorem rS2 {H : Hp} {ws : List V} {evs : List Ev} (p : Paired (EvAt H) ws evs) : ∀ y ∈ ws, ∀ H1, Same H H1 → spPlaceL [y] H1 (fun v H2 => Same H1 H2 ∧ ∃ t, v = .ref t ∧ H2 t = some (.tup (plV (evV H y).pl))) E0 := fun y hy H1 S => by
  obtain ⟨b, e, hb⟩ := evV_all p y hy
  exact ⟨b, evV H y, by rw [e], .inr (S _ _ hb), fun t H' S' ht => ⟨S', t, rfl, ht⟩⟩
theorem drop_mid {α : Type} (x : α) (bs : List α) : ∀ as : List α, (as ++ x :: bs).drop (as.length + 1) = bs
  | [] => rfl
  | _ :: as => drop_mid x bs as
theorem slA {K : PySem.W.Frag} {H : Hp} {a : Addr} {xs : List V} {lo hi : Option Int} {Q : VK} (h : H a = some (.tup xs)) (k : ∀ b H', Same H H' → H' b = some (.tup (cutV xs lo hi)) → Q (.ref b) H') : rSlA K (.ref a) lo hi H Q :=
  ⟨a, xs, rfl, SqT.of h, fun ⟨h1, h2⟩ => k a H (Same.refl H) (by
    rw [h]
    unfold cutV
    rw [h1, h2, List.drop_zero, Nat.sub_zero, List.take_length]), fun _ p np => k p _ (sNew np) upd_same⟩
theorem caA {K : PySem.W.Frag} {H : Hp} {a b : Addr} {xs ys : List V} {Q : VK} (h : H a = some (.tup xs)) (h2 : H b = some (.tup ys)) (hz : xs.length + ys.length ≤ sizeLine) (k : ∀ b H', Same H H' → H' b = some (.tup (xs ++ ys)) → Q (.ref b) H') : rCatA K (.ref a) (.ref b) H Q :=
  ⟨a, b, xs, ys, rfl, rfl, SqT.of h, SqT.of h2, hz, fun e => k b H (Same.refl H) (by rw [h2, e]; rfl), fun _ e => k a H (Same.refl H) (by rw [h, e, List.append_nil]), fun _ _ p np => k p _ (sNew np) upd_same⟩
/-- the law's frame behind the record -/
structure QX (C CL CC : Addr) (H : Hp) (d c ct l li cu t : Addr) (lus us : List V) (gs : List Gd) (n0 n1 n2 n3 : Int) (r tt R : Addr) (ts ws : List V) (A : RecA) (evs : List Ev) : Prop where
  W : LwX CL CC H d c ct l li cu t lus us gs n0 n1 n2 n3
  X : RecX C H r li cu tt ts A (famE gs evs) evs
  R : H R = some (.lst ws)
  pr : Paired (EvAt H) ws evs
  eok : ∀ e ∈ evs, e.Ok
  le : evs.length ≤ 12
  run : runW n0 n1 n2 gs (fam0 gs) 0 (evs.map rowR) = none
section
variable {C CL CC : Addr} {H H' : Hp} {d c ct l li cu t r tt R : Addr} {lus us ts ws : List V} {gs : List Gd} {n0 n1 n2 n3 : Int} {A : RecA} {evs : List Ev}
theorem QX.fs (h : QX C CL CC H d c ct l li cu t lus us gs n0 n1 n2 n3 r tt R ts ws A evs) : FamS (famE gs evs) := famS_E h.W.ok _ evs rfl h.eok
theorem QX.inc (h : QX C CL CC H d c ct l li cu t lus us gs n0 n1 n2 n3 r tt R ts ws A evs) : Inc evs := (inc_run h.run).2
theorem QX.same (h : QX C CL CC H d c ct l li cu t lus us gs n0 n1 n2 n3 r tt R ts ws A evs) (S : Same H H') : QX C CL CC H' d c ct l li cu t lus us gs n0 n1 n2 n3 r tt R ts ws A evs :=
  ⟨h.W.same S, h.X.same S, S _ _ h.R, evs_same h.pr S, h.eok, h.le, h.run⟩
theorem QX.but (h : QX C CL CC H d c ct l li cu t lus us gs n0 n1 n2 n3 r tt R ts ws A evs) (D : Dr H' d c) (B : But d H H') : QX C CL CC H' d c ct l li cu t lus us gs n0 n1 n2 n3 r tt R ts ws A evs :=
  ⟨h.W.but D B, h.X.but h.fs h.W.D B, butLst h.W.D B h.R, evs_keep h.pr fun _ _ e => butTup h.W.D B e, h.eok, h.le, h.run⟩
end
theorem ord_mono : ∀ (evs : List Ev) (f : Fam), f.order.length ≤ (evs.foldl (fun f e => f.add e) f).order.length
  | [], _ => Nat.le_refl _
  | e :: es, f => by
    refine Nat.le_trans ?_ (ord_mono es (f.add e))
    cases e with
    | born y p n => show _ ≤ (f.order ++ [n]).length; rw [List.length_append]; omega
    | wed y l n => show _ ≤ (f.order ++ [n]).length; rw [List.length_append]; omega
    | happ y n => exact Nat.le_refl _
    | died y p => exact Nat.le_refl _
theorem ord_gs : ∀ (gs : List Gd) (f : Fam), f.order.length + gs.length ≤ (gs.foldl (fun f g => { f with births := put f.births g.1 (-g.2.1), parents := put f.parents g.1 g.2.2, order := f.order ++ [g.1] }) f).order.length
  | [], _ => Nat.le_refl _
  | g :: gs, f => by
    refine Nat.le_trans ?_ (ord_gs gs _)
    show _ ≤ (f.order ++ [g.1]).length + gs.length
    rw [List.length_append, List.length_cons, List.length_singleton]
    omega
theorem ord_ge (gs : List Gd) (evs : List Ev) : gs.length ≤ (famE gs evs).order.length := by
  have h := ord_gs gs {}
  rw [show ({} : Fam).order.length = 0 from rfl, Nat.zero_add] at h
  exact Nat.le_trans h (ord_mono evs (fam0 gs))
/-- a row behind itself is out of order -/
theorem twice_run {n0 n1 n2 : Int} {gs : List Gd} {evs : List Ev} {i : Nat} {e : Ev} (run : runW n0 n1 n2 gs (fam0 gs) 0 (evs.map rowR) = none) (he : evs[i]? = some e) (ok : e.Ok) (le : evs.length ≤ 100) (rest : List Ev) :
    runW n0 n1 n2 gs (fam0 gs) 0 ((evs.take (i + 1) ++ e :: rest).map rowR) = some (i + 1, ("order" : Str)) := by
  have tk : evs.take (i + 1) = evs.take i ++ [e] := take_snoc he
  have hi : i < evs.length := (List.getElem?_eq_some_iff.mp he).1
  have hr : runW n0 n1 n2 gs (fam0 gs) 0 ((evs.take (i + 1)).map rowR) = none := by
    rw [List.map_take]
    exact runW_pre fun j s h => by rw [run] at h; cases h
  have len : (evs.take (i + 1)).length = i + 1 := by rw [List.length_take]; omega
  rw [List.map_append, runW_app, hr, famOf_map]
  show runW n0 n1 n2 gs (famE gs (evs.take (i + 1))) (0 + ((evs.take (i + 1)).map rowR).length) ((e :: rest).map rowR) = _
  rw [List.length_map, len, List.map_cons, runW_cons]
  have f : faultW n0 n1 n2 gs (famE gs (evs.take (i + 1))) (rowR e) = some ("order" : Str) := by
    unfold faultW
    rw [if_neg (by rw [many_E, len]; omega), if_neg (by rw [show isRowB (rowR e) = true from isRow_ev ok]; decide), show evOf (rowR e) = e from evOf_row e, if_pos]
    have : (famE gs (evs.take (i + 1))).last = some e.pl := by rw [tk, famE_snoc]; rfl
    rw [this]
    show leP e.pl e.pl = true
    rw [leP_ltK, (swo_K (fun p : K3 => p)).refl]
    rfl
  rw [f, Nat.zero_add]
end My
set_option Elab.async false
set_option linter.all false
set_option maxRecDepth 100000
set_option maxHeartbeats 1000000
namespace My
open PySem L2 Dw
open C8 (pss_cut tCut)
open Wp
set_option pp.maxSteps 600
section
variable {P : Program} {w : World} {K : PySem.W.Frag} {mg : Str → Option Value} {base : Heap} {cl : String → Addr}
theorem ok_law {f : Addr} {fd : FuncData} (F : Fun K "law" "law" s_law f fd) (T : Txt P w K mg cl) : FnOk P w K mg base CX0 9 f fd ["_law_script"] (spLaw K) := by
  refine F.ok sc_law (fun vs H Q E h => ?_) (fun cdv A0 outer s H vs Q E hr h => ?_)
  · obtain ⟨a, ns, rfl, _⟩ := h
    rfl
  · obtain ⟨a, ns, rfl, hS, hlen, k⟩ := h
    have C_next : Cal P w K mg base CX0 1 "_law_next" _ spNext := cal_next T
    have C_digits : Cal P w K mg base CX0 1 "_law_digits" _ (spDigits K) := cal_digits T
    have C_customs : Cal P w K mg base CX0 2 "_law_customs" _ spCus := cal_customs T
    have C_lives : Cal P w K mg base CX0 2 "_law_lives" _ spLives := cal_lives T
    have C_made : Cal P w K mg base CX0 6 "_law_made" _ (spMade (cl "Lives") (cl "Customs")) := cal_made T
    have C_rows : Cal P w K mg base CX0 2 "_law_rows" _ spRows := cal_rows T
    have C_shuffled : Cal P w K mg base CX0 2 "_law_shuffled" _ spShuf := cal_shuffled T
    have C_place : Cal P w K mg base CX0 1 "_law_place" _ spPlaceL := cal_place T
    have C_fault : Cal P w K mg base CX0 3 "_law_fault" _ spLF := cal_lfault T
    have C_told : Cal P w K mg base CX0 8 "_law_told" _ (spToldR (cl "Customs") (cl "Lives")) := cal_told T
    have C_record_fault : Cal P w K mg base CX0 4 "record_fault" _ (spRecF (cl "Customs") (cl "Lives")) := cal_record_fault T
    have C_Record_eq : CalM P w K mg base CX0 4 (cl "Record") "__eq__" _ (spReEq K (cl "Record") (cl "Lives") (cl "Customs")) := cal_Record_eq T
    have I_Record : CalC P w K mg base (L2.CX P w) 5 (cl "Record") _ (spRec K (cl "Record") (cl "Customs") (cl "Lives") (cl "BadRecord")) := cal_Record_init T
    have hu := hu_of hr
    refine ⟨_, (pss_cons (ps_set (i := 1) sc_law.nd rfl (Or.inl rfl) (pe_cal C_digits (hr.mono (by decide)) (pa_cons (pv 0) (pa_cons pe_int pa_nil))))
        (pss_cons (ps_set (i := 2) sc_law.nd rfl (Or.inl rfl) (pe_cal C_customs (hr.mono (by decide)) (pa_cons (pv 1) pa_nil)))
        (pss_cons (ps_set (i := 3) sc_law.nd rfl (Or.inl rfl) (pe_cal C_lives (hr.mono (by decide)) (pa_cons (pv 1) (pa_cons (pv 2) pa_nil))))
        (pss_cons (ps_set (i := 4) sc_law.nd rfl (Or.inl rfl) (pe_cal C_made (hr.mono (by decide)) (pa_cons (pv 2) (pa_cons (pv 3) pa_nil))))
        (pss_cons (ps_set (i := 5) sc_law.nd rfl (Or.inl rfl) (pe_cal C_rows (hr.mono (by decide)) (pa_cons (pv 1) (pa_cons (pv 2) (pa_cons (pv 3) (pa_cons (pe_op op_add pe_int (pe_cal C_next (hr.mono (by decide)) (pa_cons (pv 1) (pa_cons pe_int pa_nil)))) (pa_cons pe_int pa_nil)))))))
        (pss_cons (ps_set (i := 6) sc_law.nd rfl (Or.inl rfl) (pe_cal C_shuffled (hr.mono (by decide)) (pa_cons (pv 1) (pa_cons (pv 5) pa_nil))))
        (pss_cons (ps_set (i := 7) sc_law.nd rfl (Or.inl rfl) (pe_mk I_Record T.m_Record (hr.mono (by decide))  (pa_cons (pv 4) (pa_cons (pe_sortK C_place (hr.mono (by decide)) (pa_cons (pv 6) pa_nil) T.n_sorted) pa_nil))))
        (pss_cut (ps_if (PW.pt (pw_or (pt_cmpR (op_neD hr.units) (pe_fld (pv 7) rfl) (pe_callTy call_tuple_of (by rfl) T.n_tuple (by decide +kernel) (pa_cons (pv 5) pa_nil)) (nomark _)) (pw_or1 (pt_cmpR op_notBl (pe_cmpR (op_own C_Record_eq (hr.mono (by decide))) (pv 7) (pe_mk I_Record T.m_Record (hr.mono (by decide))  (pa_cons (pv 4) (pa_cons (pv 5) pa_nil))) (nomark _)) pe_bl (nomark _)))))
          (pss_one (ps_ret pe_bl)) pss_nil)
        (pss_cut (ps_set (i := 8) sc_law.nd rfl (Or.inl rfl) (pe_cal C_fault (hr.mono (by decide)) (pa_cons (pv 2) (pa_cons (pv 3) (pa_cons (pv 6) pa_nil)))))
        (pss_cut (ps_if (PW.pt (pw_or (pt_cmpR (op_neD hr.units) (pe_cal C_told (hr.mono (by decide)) (pa_cons (pv 4) (pa_cons (pv 6) pa_nil))) (pv 8) (nomark _)) (pw_or1 (pt_cmpR op_ne (pe_cmpR (op_neD hr.units) (pv 6) (pv 5) (nomark _)) (pe_cmpR op_notN (pv 8) pe_non (nomark _)) (nomark _)))))
          (pss_one (ps_ret pe_bl)) pss_nil)
        (pss_cut (ps_for PassesOwn.never rfl (pi_range1 rfl T.n_range (pa_cons (pe_op op_sub (pe_callB call_len_seq (by rfl) T.n_len PySem.boot_len (pa_cons (pv 5) pa_nil)) pe_int) pa_nil)) (pg_name (i := 9) sc_law.nd rfl (Or.inl rfl))
          (pss_cons (ps_set (i := 10) sc_law.nd rfl (Or.inl rfl) (pe_op op_cat (pe_op op_cat (pe_slice sl_list (pv 5) po_none (po_some (pv 9))) (pe_lst (pa_cons (pe_ix ix_list (pv 5) (pe_op op_add (pv 9) pe_int) (fun _ _ => rfl)) (pa_cons (pe_ix ix_list (pv 5) (pv 9) (fun _ _ => rfl)) pa_nil)))) (pe_slice sl_list (pv 5) (po_some (pe_op op_add (pv 9) pe_int)) po_none)))
            (pss_cons (ps_set (i := 11) sc_law.nd rfl (Or.inl rfl) (pe_cal C_told (hr.mono (by decide)) (pa_cons (pv 4) (pa_cons (pv 10) pa_nil))))
            (pss_one (ps_if (PW.pt (pw_or (pt_cmpR op_isN (pv 11) pe_non (nomark _)) (pw_or1 (pt_cmpR (op_neD hr.units) (pv 11) (pe_cal C_fault (hr.mono (by decide)) (pa_cons (pv 2) (pa_cons (pv 3) (pa_cons (pv 10) pa_nil)))) (nomark _)))))
              (pss_one (ps_ret pe_bl)) pss_nil)))))
        (pss_cut (ps_for PassesOwn.never rfl (pi_range1 rfl T.n_range (pa_cons (pe_callB call_len_seq (by rfl) T.n_len PySem.boot_len (pa_cons (pv 5) pa_nil)) pa_nil)) (pg_name (i := 9) sc_law.nd rfl (Or.inl rfl))
          (pss_one (ps_if (pt_cmpR (op_neD hr.units) (pe_cal C_told (hr.mono (by decide)) (pa_cons (pv 4) (pa_cons (pe_op op_cat (pe_slice sl_list (pv 5) po_none (po_some (pe_op op_add (pv 9) pe_int))) (pe_slice sl_list (pv 5) (po_some (pv 9)) po_none)) pa_nil))) (pe_tup (pa_cons (pe_op op_add (pv 9) pe_int) (pa_cons pe_str pa_nil))) (nomark _))
              (pss_one (ps_ret pe_bl)) pss_nil)))
        (pss_cons (ps_set (i := 12) sc_law.nd rfl (Or.inl rfl) (pe_op op_add pe_int (pe_cal C_next (hr.mono (by decide)) (pa_cons (pv 1) (pa_cons pe_int pa_nil)))))
        (pss_cons (ps_set (i := 13) sc_law.nd rfl (Or.inl rfl) (pe_fld (pv 7) rfl))
        (pss_cons (ps_set (i := 14) sc_law.nd rfl (Or.inl rfl) (pe_ix ix_tup (pv 13) (pe_cal C_next (hr.mono (by decide)) (pa_cons (pv 1) (pa_cons (pe_callB call_len_seq (by rfl) T.n_len PySem.boot_len (pa_cons (pv 13) pa_nil)) pa_nil))) (fun _ _ => rfl)))
        (pss_cons (ps_set (i := 15) sc_law.nd rfl (Or.inl rfl) (pe_ix ix_list (pe_lst (pa_cons (pe_tup (pa_cons pe_str (pa_cons (pv 12) (pa_cons (pv 14) (pa_cons pe_str pa_nil))))) (pa_cons (pe_tup (pa_cons pe_str (pa_cons (pv 12) (pa_cons (pv 14) (pa_cons pe_str pa_nil))))) (pa_cons (pe_tup (pa_cons pe_str (pa_cons (pv 12) (pa_cons pe_str pa_nil)))) (pa_cons (pe_tup (pa_cons pe_str (pa_cons (pv 12) (pa_cons (pv 14) pa_nil)))) pa_nil))))) (pe_cal C_next (hr.mono (by decide)) (pa_cons (pv 1) (pa_cons pe_int pa_nil))) (fun _ _ => rfl)))
        (pss_cons (ps_set (i := 16) sc_law.nd rfl (Or.inl rfl) (pe_sortK C_place (hr.mono (by decide)) (pa_cons (pe_op op_cat (pv 5) (pe_lst (pa_cons (pv 15) pa_nil))) pa_nil) T.n_sorted))
        (pss_cut (ps_set (i := 8) sc_law.nd rfl (Or.inl rfl) (pe_cal C_fault (hr.mono (by decide)) (pa_cons (pv 2) (pa_cons (pv 3) (pa_cons (pv 16) pa_nil)))))
        (pss_cut (ps_if (PW.pt (pw_or (pt_cmpR (op_neD hr.units) (pe_cal C_record_fault (hr.mono (by decide)) (pa_cons (pv 4) (pa_cons (pv 16) pa_nil))) (pv 8) (nomark _)) (pw_or1 (pt_cmpR (op_neD hr.units) (pe_cal C_told (hr.mono (by decide)) (pa_cons (pv 4) (pa_cons (pv 16) pa_nil))) (pv 8) (nomark _)))))
          (pss_one (ps_ret pe_bl)) pss_nil)
        (pss_cons (ps_if (pt_cmpR op_isN (pv 8) pe_non (nomark _))
          (pss_cons (ps_set (i := 9) sc_law.nd rfl (Or.inl rfl) (pe_ixD (hr.mono (Nat.zero_le _)) (by exact (pv 16)) (by exact (pa_cons (pv 15) pa_nil))))
            (pss_cons (ps_set (i := 17) sc_law.nd rfl (Or.inl rfl) (pe_mk I_Record T.m_Record (hr.mono (by decide))  (pa_cons (pv 4) (pa_cons (pv 16) pa_nil))))
            (pss_one (ps_ret (pe_and (pe_cmpR (op_eqD hr.units) (pe_op op_catA (pe_slice sl_tupA (pe_fld (pv 17) rfl) po_none (po_some (pv 9))) (pe_slice sl_tupA (pe_fld (pv 17) rfl) (po_some (pe_op op_add (pv 9) pe_int)) po_none)) (pe_fld (pv 7) rfl) (nomark _)) (pe_one (pe_cmpR op_isBl (pe_cmpR (op_own C_Record_eq (hr.mono (by decide))) (pv 17) (pv 7) (nomark _)) pe_bl (nomark _)))))))) pss_nil)
        (pss_one (ps_ret (pe_cmpR (op_eqD hr.units) (pe_fld (pv 7) rfl) (pe_callTy call_tuple_of (by rfl) T.n_tuple (by decide +kernel) (pa_cons (pv 5) pa_nil)) (nomark _)))))))))))))))))))))))), ?_⟩
    refine ⟨_, rfl, a, ns, _, rfl, hS, hlen, fun d c H1 nd nc D1 S1 => ?_⟩
    refine ⟨_, rfl, d, c, rfl, D1, fun n0 n1 n2 n3 ct H2 a0 b0 a1 b1 a2 b2 a3 b3 hct D2 B2 => ?_⟩
    refine ⟨_, rfl, _, rfl, d, c, ct, n0, _, rfl, D2, hct, fun l lus gs H3 nl hl hpl L3 D3 B3 => ?_⟩
    have hct3 := butTup D2 B3 hct
    have cuN : cuWord (.int n0) (.int n1) (.int n2) (.int n3) = none := cuWord_ok ⟨by omega, by omega⟩ ⟨by omega, by omega⟩ ⟨by omega, by omega⟩ ⟨by omega, by omega⟩
    refine ⟨_, rfl, _, rfl, ct, l, lus, gs, n0, n1, n2, n3, rfl, ⟨hct3, cuN⟩, hl, hpl, (fun x hx => by obtain ⟨g, hg, rfl⟩ := List.mem_map.mp hx; exact L3.rok g hg), L3.dueW, fun li cu t us H4 S4 LL CC => ?_⟩
    have W : LwX (cl "Lives") (cl "Customs") H4 d c ct l li cu t lus us gs n0 n1 n2 n3 := ⟨D3.same S4, S4 _ _ hct3, S4 _ _ hl, L2.Paired.mapP hpl fun _ _ h => h.keep fun _ _ => S4 _ _, LL, CC, L3, a1⟩
    clear D1 S1 D2 B2 hct nl hl hpl D3 B3 hct3 S4 LL CC
    refine ⟨_, rfl, _, rfl, _, rfl, _, rfl, d, c, _, rfl, W.D, by decide, by decide, fun j H6 j0 j1 D6 B6 => ⟨_, _, rfl, rfl, ?_⟩⟩
    obtain ⟨jn, rfl⟩ : ∃ jn : Nat, j = (jn : Int) := ⟨j.toNat, by omega⟩
    have W := W.but D6 B6
    refine ⟨d, c, ct, l, n0, n1, n2, n3, lus, gs, 2 + jn, 4, rfl, by decide, by decide, W.D, W.ct, W.hl, W.pl, W.ok, by omega, fun R ws evs H7 nR hR pr eok hle run _ D7 B7 => ?_⟩
    have W := W.but D7 B7
    have le : evs.length ≤ 12 := by omega
    clear D6 B6 D7 B7
    refine ⟨_, rfl, _, rfl, d, c, R, ws, evs, rfl, W.D, hR, pr, eok, by omega, fun M ws2 ev2 H8 pm nM hM pr2 D8 B8 => ?_⟩
    have hR := butLst W.D B8 hR
    have pr := evs_keep pr fun _ _ e => butTup W.D B8 e
    have W := W.but D8 B8
    have eok2 : ∀ e ∈ ev2, e.Ok := fun e he => eok e (pm.mem_iff.mp he)
    have le2 : ev2.length ≤ 12 := by rw [pm.length_eq]; exact le
    clear D8 B8 nR nM
    refine ⟨_, rfl, _, rfl, M, ws2, fun v => (evV H8 v).pl, rfl, SqL.of hM, rS1 pr2, rS2 pr2, fun H9 zs q S9 nq hs1 hs2 => ?_⟩
    obtain ⟨pz, so, pmz⟩ := sorted_evs pr2 hs1 hs2
    have pz := evs_same pz S9
    clear hs1 hs2
    generalize zs.map (evV H8) = ez at pz so pmz
    have inc := (inc_run run).2
    obtain rfl : evs = ez := (inc_uniq inc so (pmz.trans pm)).symm
    have S9 := S9.trans (sNew (o := .lst zs) nq)
    have hq : (upd H9 q (.lst zs)) q = some (.lst zs) := upd_same
    have pz := evs_same pz (sNew (o := .lst zs) nq)
    generalize upd H9 q (.lst zs) = H9 at S9 hq pz
    have W := W.same S9
    refine mkRec W.L W.hz W.C (rs := evs.map rowR) ⟨q, zs, rfl, .inl hq, evs_rd pz, roks eok, by rw [List.length_map]; omega⟩ (fun i s H2 e z _ _ => by rw [run] at z; cases z) (fun evs' r tt ts A H10 h1 _ _ S10 X => ?_)
    obtain rfl := rows_inj h1
    have S8 := S9.trans S10
    have Z : QX (cl "Record") (cl "Lives") (cl "Customs") H10 d c ct l li cu t lus us gs n0 n1 n2 n3 r tt R ts ws A evs := ⟨W.same S10, X, S8 _ _ hR, evs_same pr S8, eok, le, run⟩
    have hM := S8 _ _ hM
    have pr2 := evs_same pr2 S8
    clear hq pz W X S8 S9 S10 hR pr eok le run h1
    refine ⟨fun σ' H' => QX (cl "Record") (cl "Lives") (cl "Customs") H' d c ct l li cu t lus us gs n0 n1 n2 n3 r tt R ts ws A evs ∧ H' M = some (.lst ws2) ∧ Paired (EvAt H') ws2 ev2 ∧ σ' = [some (.ref a), some (.ref d), some (.ref ct), some (.ref l), some (.ref li), some (.ref R), some (.ref M), some (.ref r), none, none, none, none, none, none, none, none, none, none], ?_, ?_⟩
    · have ee := evs_fl Z.eok
      have le := Z.le
      refine ⟨_, rfl, r, _, _, _, _, rfl, Z.X.self, T.cl_Record, T.na_Record _ (by decide), rfl, _, rfl, R, _, rfl, .inl ⟨SqL.of Z.R, fun t1 nt1 => ?_⟩⟩
      have S1 := sNew (o := .tup ws) nt1
      have Z := Z.same S1
      refine ⟨_, _, rowsDE_dp Z.X.rows Z.X.each Z.eok, rowsDE_dp upd_same Z.pr Z.eok, fls_shaped false ee, fls_shaped false ee, _, rfl, ?_⟩
      rw [rowsDE_self]
      generalize upd H10 t1 (.tup ws) = H11 at Z S1
      refine iteF ?_
      refine ⟨_, rfl, _, rfl, _, rfl, mkRec Z.W.L Z.W.hz Z.W.C (rs := evs.map rowR) ⟨R, ws, rfl, .inl Z.R, evs_rd Z.pr, roks Z.eok, by rw [List.length_map]; omega⟩ (fun i s H2 e z _ _ => by rw [Z.run] at z; cases z) (fun evs' r2 tt2 ts2 A2 H12 h1 _ _ S2 X2 => ?_)⟩
      obtain rfl := rows_inj h1
      have Z := Z.same S2
      refine ownRe T Z.X X2 Z.eok Z.eok Z.W.L Z.W.L Z.W.ok.rok Z.W.C Z.W.C fun H13 S3 => ⟨_, _, rfl, rfl, ?_⟩
      rw [decide_eq_true (rfl : [n0, n1, n2, n3] = [n0, n1, n2, n3]), rowsDE_self]
      have S := S1.trans (S2.trans S3)
      exact ⟨_, rfl, iteF ⟨Z.same S3, S _ _ hM, evs_same pr2 S, rfl⟩⟩
    clear Z hM pr2
    rintro σ' H10 ⟨Z, hM, pr2, rfl⟩
    have wd : ∀ i s, runW n0 n1 n2 gs (fam0 gs) 0 (ev2.map rowR) = some (i, s) → PyData.strOk s = true := fun i s h => runW_word h
    refine ⟨fun σ' H' => QX (cl "Record") (cl "Lives") (cl "Customs") H' d c ct l li cu t lus us gs n0 n1 n2 n3 r tt R ts ws A evs ∧ H' M = some (.lst ws2) ∧ Paired (EvAt H') ws2 ev2 ∧ ∃ v8 : V, DueV H' v8 (runW n0 n1 n2 gs (fam0 gs) 0 (ev2.map rowR)) ∧ σ' = [some (.ref a), some (.ref d), some (.ref ct), some (.ref l), some (.ref li), some (.ref R), some (.ref M), some (.ref r), some v8, none, none, none, none, none, none, none, none, none], ?_, ?_⟩
    · refine ⟨_, rfl, _, rfl, _, rfl, ct, l, M, lus, ws2, gs, ev2.map rowR, n0, n1, n2, n3, rfl, Z.W.ct, Z.W.h1, Z.W.hl, Z.W.pl, Z.W.hz, hM, evs_trd pr2, roks eok2, by rw [List.length_map]; omega, fun v H' S hv => ?_⟩
      exact ⟨Z.same S, S _ _ hM, evs_same pr2 S, v, hv, rfl⟩
    clear Z hM pr2
    rintro σ' H10 ⟨Z, hM, pr2, v8, hv8, rfl⟩
    refine ⟨fun σ' H' => QX (cl "Record") (cl "Lives") (cl "Customs") H' d c ct l li cu t lus us gs n0 n1 n2 n3 r tt R ts ws A evs ∧ σ' = [some (.ref a), some (.ref d), some (.ref ct), some (.ref l), some (.ref li), some (.ref R), some (.ref M), some (.ref r), some v8, none, none, none, none, none, none, none, none, none], ?_, ?_⟩
    · refine ⟨_, rfl, _, rfl, li, cu, t, M, us, ws2, gs, n0, n1, n2, .int n3, ev2.map rowR, rfl, Z.W.L, Z.W.hz, Z.W.C, hM, evs_rd pr2, roks eok2, by rw [List.length_map]; omega, fun v H11 S hv => ?_⟩
      have hv8 := hv8.same S
      have Z := Z.same S
      have hM := S _ _ hM
      have pr2 := evs_same pr2 S
      obtain ⟨a1, a2, a3⟩ := due_datR (K := K) wd hv
      obtain ⟨b1, b2, b3⟩ := due_datR (K := K) wd hv8
      refine ⟨_, rfl, _, _, a1, b1, a2, b2, _, rfl, ?_⟩
      rw [a3]
      refine iteF ?_
      have key : (!PyData.eqv (rowsDL ev2) (rowsDL evs)) = !decide (v8 = V.non) := by
        rw [rowsDL_eq]
        by_cases e : ev2 = evs
        · rw [decide_eq_true e]
          have hv8 := hv8
          rw [e, Z.run] at hv8
          have hv8 : v8 = .non := hv8
          rw [decide_eq_true hv8]
        · rw [decide_eq_false e]
          cases er : runW n0 n1 n2 gs (fam0 gs) 0 (ev2.map rowR) with
          | none => exact absurd (inc_uniq Z.inc (inc_run er).2.sor pm) e
          | some q =>
            obtain ⟨i, s⟩ := q
            rw [er] at hv8
            obtain ⟨t8, e8, _⟩ := hv8
            rw [e8]
            rfl
      have ee := evs_fl Z.eok
      have ee2 := evs_fl eok2
      refine ⟨_, rfl, _, rfl, _, _, rowsDL_dp hM pr2 eok2, rowsDL_dp Z.R Z.pr Z.eok, fls_shaped true ee2, fls_shaped true ee, _, rfl, rfl, ?_⟩
      rw [key]
      exact ⟨rfl, _, rfl, ite2 (fun g => absurd g (ne_no _)) (fun _ => ⟨Z, rfl⟩)⟩
    clear Z hM pr2 hv8 wd
    rintro σ' H10 ⟨Z, rfl⟩
    refine ⟨fun σ' H' => QX (cl "Record") (cl "Lives") (cl "Customs") H' d c ct l li cu t lus us gs n0 n1 n2 n3 r tt R ts ws A evs ∧ ∃ v9 v10 v11, σ' = [some (.ref a), some (.ref d), some (.ref ct), some (.ref l), some (.ref li), some (.ref R), some (.ref M), some (.ref r), some v8, v9, v10, v11, none, none, none, none, none, none], ?_, ?_⟩
    · have le := Z.le
      have lw := Z.pr.length
      refine ⟨_, rfl, R, ws, rfl, .inl (SqL.of Z.R), _, _, rfl, rfl, _, rfl, by omega, by omega, for_range (n := ((ws.length : Int) - 1).toNat) (fun i σ H' => QX (cl "Record") (cl "Lives") (cl "Customs") H' d c ct l li cu t lus us gs n0 n1 n2 n3 r tt R ts ws A evs ∧ ∃ v9 v10 v11, σ = [some (.ref a), some (.ref d), some (.ref ct), some (.ref l), some (.ref li), some (.ref R), some (.ref M), some (.ref r), some v8, v9, v10, v11, none, none, none, none, none, none]) ⟨Z, _, _, _, rfl⟩ ?_ ?_⟩
      · clear Z
        rintro i σ H11 hi ⟨Z, v9, v10, v11, rfl⟩
        have hi1 : i + 1 < ws.length := by omega
        obtain ⟨x0, hx0⟩ : ∃ v, ws[i]? = some v := ⟨_, List.getElem?_eq_getElem (by omega)⟩
        obtain ⟨x1, hx1⟩ : ∃ v, ws[i + 1]? = some v := ⟨_, List.getElem?_eq_getElem hi1⟩
        obtain ⟨e0, he0, hv0⟩ := Paired.at Z.pr hx0
        obtain ⟨e1, he1, hv1⟩ := Paired.at Z.pr hx1
        have ca : cutV ws none (some (0 + (i : Int))) = ws.take i := by rw [Int.zero_add]; exact cut_take ws i
        have cd : cutV ws (some (0 + (i : Int) + 2)) none = ws.drop (i + 2) := by rw [show (0 + (i : Int) + 2) = ((i + 2 : Nat) : Int) from by omega]; exact cut_drop ws (i + 2)
        refine ⟨_, rfl, _, rfl, _, rfl, R, _, rfl, SqL.of Z.R, fun l1 nl1 => ?_⟩
        rw [ca]
        have S1 := sNew (o := .lst (ws.take i)) nl1
        have h1 : (upd H11 l1 (.lst (ws.take i))) l1 = some (.lst (ws.take i)) := upd_same
        generalize upd H11 l1 (.lst (ws.take i)) = H12 at S1 h1
        refine ⟨_, rfl, _, rfl, _, _, rfl, rfl, R, _, _, _, rfl, rfl, SqL.of (S1 _ _ Z.R), at_of (by omega) hx1, ?_⟩
        refine ⟨_, rfl, _, rfl, R, _, _, _, rfl, rfl, SqL.of (S1 _ _ Z.R), at_of (Int.zero_add _) hx0, by show 2 ≤ sizeLine; decide, fun q nq => ?_⟩
        have S2 := S1.trans (sNew (o := .lst [x1, x0]) nq)
        refine ⟨l1, q, _, _, rfl, rfl, sNew nq _ _ h1, upd_same, Nat.le_of_lt (small1000 (by rw [List.length_take]; show _ + 2 ≤ _; omega)), fun l3 nl3 => ?_⟩
        have S3 := S2.trans (sNew (o := .lst (ws.take i ++ [x1, x0])) nl3)
        have h3 : (upd (upd H12 q (.lst [x1, x0])) l3 (.lst (ws.take i ++ [x1, x0]))) l3 = some (.lst (ws.take i ++ [x1, x0])) := upd_same
        generalize upd (upd H12 q (.lst [x1, x0])) l3 (.lst (ws.take i ++ [x1, x0])) = H13 at S3 h3
        refine ⟨_, rfl, _, rfl, _, _, rfl, rfl, _, rfl, R, _, rfl, SqL.of (S3 _ _ Z.R), fun l4 nl4 => ?_⟩
        rw [cd]
        have S4 := S3.trans (sNew (o := .lst (ws.drop (i + 2))) nl4)
        refine ⟨l3, l4, _, _, rfl, rfl, sNew nl4 _ _ h3, upd_same, Nat.le_of_lt (small1000 (by rw [List.length_append, List.length_take, List.length_drop]; show _ + 2 + _ ≤ _; omega)), fun l5 nl5 => ?_⟩
        have S5 := S4.trans (sNew (o := .lst (ws.take i ++ [x1, x0] ++ ws.drop (i + 2))) nl5)
        have h5 : (upd (upd H13 l4 (.lst (ws.drop (i + 2)))) l5 (.lst (ws.take i ++ [x1, x0] ++ ws.drop (i + 2)))) l5 = some (.lst (ws.take i ++ [x1, x0] ++ ws.drop (i + 2))) := upd_same
        generalize upd (upd H13 l4 (.lst (ws.drop (i + 2)))) l5 (.lst (ws.take i ++ [x1, x0] ++ ws.drop (i + 2))) = H14 at S5 h5
        have Z := Z.same S5
        have al := evV_all Z.pr
        have pz : Paired (EvAt H14) (ws.take i ++ [x1, x0] ++ ws.drop (i + 2)) (evs.take i ++ [e1, e0] ++ evs.drop (i + 2)) := by
          have q := evV_pair (H := H14) (zs := ws.take i ++ [x1, x0] ++ ws.drop (i + 2)) fun v hv => by
            refine al v ?_
            rcases List.mem_append.mp hv with hv | hv
            · rcases List.mem_append.mp hv with hv | hv
              · exact List.mem_of_mem_take hv
              · simp only [List.mem_cons, List.not_mem_nil, or_false] at hv
                rcases hv with rfl | rfl
                · exact List.mem_of_getElem? hx1
                · exact List.mem_of_getElem? hx0
            · exact List.mem_of_mem_drop hv
          rw [List.map_append, List.map_append, List.map_take, List.map_drop, evV_map Z.pr] at q
          rw [show [x1, x0].map (evV H14) = [e1, e0] from by
            show [evV H14 x1, evV H14 x0] = _
            rw [evV_at (EvAt.keep hv1 fun _ _ e => S5 _ _ e), evV_at (EvAt.keep hv0 fun _ _ e => S5 _ _ e)]] at q
          exact q
        have esp : evs = evs.take i ++ e0 :: e1 :: evs.drop (i + 2) := by
          have a1 := List.getElem?_eq_some_iff.mp he0
          have a2 := List.getElem?_eq_some_iff.mp he1
          obtain ⟨a1, rfl⟩ := a1
          obtain ⟨a2, rfl⟩ := a2
          rw [List.getElem_cons_drop, List.getElem_cons_drop, List.take_append_drop]
        have ninc : ¬ Inc (evs.take i ++ [e1, e0] ++ evs.drop (i + 2)) := by
          have q := Z.inc
          rw [esp] at q
          rw [List.append_assoc]
          exact inc_turned q
        have eokt : ∀ e ∈ evs.take i ++ [e1, e0] ++ evs.drop (i + 2), e.Ok := fun e he => by
          rcases List.mem_append.mp he with he | he
          · rcases List.mem_append.mp he with he | he
            · exact Z.eok e (List.mem_of_mem_take he)
            · simp only [List.mem_cons, List.not_mem_nil, or_false] at he
              rcases he with rfl | rfl
              · exact Z.eok _ (List.mem_of_getElem? he1)
              · exact Z.eok _ (List.mem_of_getElem? he0)
          · exact Z.eok e (List.mem_of_mem_drop he)
        have ltt : (evs.take i ++ [e1, e0] ++ evs.drop (i + 2)).length ≤ 30 := by
          rw [List.length_append, List.length_append, List.length_take, List.length_drop]
          show _ + 2 + _ ≤ _
          omega
        generalize evs.take i ++ [e1, e0] ++ evs.drop (i + 2) = et at pz ninc eokt ltt
        generalize ws.take i ++ [x1, x0] ++ ws.drop (i + 2) = wt at h5 pz
        clear S1 S2 S3 S4 S5 h1 h3 nl1 nl3 nl4 nl5 nq al hv0 hv1
        have wd : ∀ i s, runW n0 n1 n2 gs (fam0 gs) 0 (et.map rowR) = some (i, s) → PyData.strOk s = true := fun i s h => runW_word h
        refine ⟨_, rfl, _, rfl, li, cu, t, l5, us, wt, gs, n0, n1, n2, .int n3, et.map rowR, rfl, Z.W.L, Z.W.hz, Z.W.C, h5, evs_rd pz, roks eokt, by rw [List.length_map]; omega, fun v H15 S hv => ?_⟩
        have Z := Z.same S
        have h5 := S _ _ h5
        have pz := evs_same pz S
        have vn : v ≠ .non := by
          cases er : runW n0 n1 n2 gs (fam0 gs) 0 (et.map rowR) with
          | none => exact absurd (inc_run er).2 ninc
          | some q =>
            obtain ⟨i, s⟩ := q
            rw [er] at hv
            obtain ⟨t8, e8, _⟩ := hv
            rw [e8]
            exact fun z => by cases z
        refine ⟨_, rfl, rfl, _, rfl, ?_⟩
        rw [decide_eq_false vn]
        refine iteF ?_
        refine ⟨_, rfl, _, rfl, _, rfl, _, rfl, ct, l, l5, lus, wt, gs, et.map rowR, n0, n1, n2, n3, rfl, Z.W.ct, Z.W.h1, Z.W.hl, Z.W.pl, Z.W.hz, h5, evs_trd pz, roks eokt, by rw [List.length_map]; omega, fun v2 H16 S hv2 => ?_⟩
        obtain ⟨a1, a2, a3⟩ := due_datR (K := K) wd (hv.same S)
        obtain ⟨b1, b2, b3⟩ := due_datR (K := K) wd hv2
        refine ⟨_, _, a1, b1, a2, b2, _, rfl, ?_⟩
        rw [a3]
        exact iteF ⟨Z.same S, _, _, _, rfl⟩
      · rintro σ H11 ⟨Z, v9, v10, v11, rfl⟩
        exact ⟨Z, _, _, _, rfl⟩
    clear Z
    rintro σ' H10 ⟨Z, v9, v10, v11, rfl⟩
    refine ⟨fun σ' H' => QX (cl "Record") (cl "Lives") (cl "Customs") H' d c ct l li cu t lus us gs n0 n1 n2 n3 r tt R ts ws A evs ∧ ∃ v9, σ' = [some (.ref a), some (.ref d), some (.ref ct), some (.ref l), some (.ref li), some (.ref R), some (.ref M), some (.ref r), some v8, v9, v10, v11, none, none, none, none, none, none], ?_, ?_⟩
    · have le := Z.le
      have lw := Z.pr.length
      refine ⟨_, rfl, R, ws, rfl, .inl (SqL.of Z.R), _, rfl, by omega, by omega, for_range (n := ws.length) (fun i σ H' => QX (cl "Record") (cl "Lives") (cl "Customs") H' d c ct l li cu t lus us gs n0 n1 n2 n3 r tt R ts ws A evs ∧ ∃ v9, σ = [some (.ref a), some (.ref d), some (.ref ct), some (.ref l), some (.ref li), some (.ref R), some (.ref M), some (.ref r), some v8, v9, v10, v11, none, none, none, none, none, none]) ⟨Z, _, rfl⟩ ?_ ?_⟩
      · clear Z
        rintro i σ H11 hi ⟨Z, v9, rfl⟩
        obtain ⟨x0, hx0⟩ : ∃ v, ws[i]? = some v := ⟨_, List.getElem?_eq_getElem hi⟩
        obtain ⟨e0, he0, hv0⟩ := Paired.at Z.pr hx0
        have ca : cutV ws none (some (0 + (i : Int) + 1)) = ws.take (i + 1) := by rw [show (0 + (i : Int) + 1) = ((i + 1 : Nat) : Int) from by omega]; exact cut_take ws (i + 1)
        have cd : cutV ws (some (0 + (i : Int))) none = ws.drop i := by rw [Int.zero_add]; exact cut_drop ws i
        refine ⟨_, rfl, _, rfl, _, rfl, _, _, rfl, rfl, _, rfl, R, _, rfl, SqL.of Z.R, fun l1 nl1 => ?_⟩
        rw [ca]
        have S1 := sNew (o := .lst (ws.take (i + 1))) nl1
        have h1 : (upd H11 l1 (.lst (ws.take (i + 1)))) l1 = some (.lst (ws.take (i + 1))) := upd_same
        generalize upd H11 l1 (.lst (ws.take (i + 1))) = H12 at S1 h1
        refine ⟨_, rfl, _, rfl, _, rfl, R, _, rfl, SqL.of (S1 _ _ Z.R), fun l4 nl4 => ?_⟩
        rw [cd]
        have S4 := S1.trans (sNew (o := .lst (ws.drop i)) nl4)
        refine ⟨l1, l4, _, _, rfl, rfl, sNew nl4 _ _ h1, upd_same, Nat.le_of_lt (small1000 (by rw [List.length_take, List.length_drop]; omega)), fun l5 nl5 => ?_⟩
        have S5 := S4.trans (sNew (o := .lst (ws.take (i + 1) ++ ws.drop i)) nl5)
        have h5 : (upd (upd H12 l4 (.lst (ws.drop i))) l5 (.lst (ws.take (i + 1) ++ ws.drop i))) l5 = some (.lst (ws.take (i + 1) ++ ws.drop i)) := upd_same
        generalize upd (upd H12 l4 (.lst (ws.drop i))) l5 (.lst (ws.take (i + 1) ++ ws.drop i)) = H14 at S5 h5
        have Z := Z.same S5
        have al := evV_all Z.pr
        have pz : Paired (EvAt H14) (ws.take (i + 1) ++ ws.drop i) (evs.take (i + 1) ++ evs.drop i) := by
          have q := evV_pair (H := H14) (zs := ws.take (i + 1) ++ ws.drop i) fun v hv => by
            refine al v ?_
            rcases List.mem_append.mp hv with hv | hv
            · exact List.mem_of_mem_take hv
            · exact List.mem_of_mem_drop hv
          rw [List.map_append, List.map_take, List.map_drop, evV_map Z.pr] at q
          exact q
        have eokt : ∀ e ∈ evs.take (i + 1) ++ evs.drop i, e.Ok := fun e he => by
          rcases List.mem_append.mp he with he | he
          · exact Z.eok e (List.mem_of_mem_take he)
          · exact Z.eok e (List.mem_of_mem_drop he)
        have ltt : (evs.take (i + 1) ++ evs.drop i).length ≤ 30 := by
          rw [List.length_append, List.length_take, List.length_drop]
          omega
        have er : runW n0 n1 n2 gs (fam0 gs) 0 ((evs.take (i + 1) ++ evs.drop i).map rowR) = some (i + 1, ("order" : Str)) := by
          have d : evs.drop i = e0 :: evs.drop (i + 1) := by
            obtain ⟨a1, rfl⟩ := List.getElem?_eq_some_iff.mp he0
            rw [List.getElem_cons_drop]
          rw [d]
          exact twice_run Z.run he0 (Z.eok _ (List.mem_of_getElem? he0)) (by omega) _
        generalize evs.take (i + 1) ++ evs.drop i = et at pz eokt ltt er
        generalize ws.take (i + 1) ++ ws.drop i = wt at h5 pz
        clear S1 S4 S5 h1 nl1 nl4 nl5 al hv0
        refine ⟨li, cu, t, l5, us, wt, gs, n0, n1, n2, .int n3, et.map rowR, rfl, Z.W.L, Z.W.hz, Z.W.C, h5, evs_rd pz, roks eokt, by rw [List.length_map]; omega, fun v H15 S hv => ?_⟩
        rw [er] at hv
        have Z := Z.same S
        refine ⟨_, rfl, _, _, rfl, rfl, by show 2 ≤ sizeLine; decide, fun q nq => ?_⟩
        have Sq := sNew (o := .tup [.int (0 + (i : Int) + 1), .str "order"]) nq
        have hv2 : DueV (upd H15 q (.tup [.int (0 + (i : Int) + 1), .str "order"])) (.ref q) (some (i + 1, ("order" : Str))) := ⟨q, rfl, by rw [upd_same, show (0 + (i : Int) + 1) = ((i + 1 : Nat) : Int) from by omega]⟩
        have wd : ∀ j s, (some (i + 1, ("order" : Str)) : Option (Nat × Str)) = some (j, s) → PyData.strOk s = true := fun j s h => by cases h; decide +kernel
        obtain ⟨a1, a2, a3⟩ := due_datR (K := K) wd (hv.same Sq)
        obtain ⟨b1, b2, b3⟩ := due_datR (K := K) wd hv2
        refine ⟨_, _, a1, b1, a2, b2, _, rfl, ?_⟩
        rw [a3]
        exact iteF ⟨Z.same Sq, _, rfl⟩
      · rintro σ H11 ⟨Z, v9, rfl⟩
        exact ⟨Z, _, rfl⟩
    clear Z
    rintro σ' H10 ⟨Z, v9, rfl⟩
    refine ⟨_, rfl, d, c, _, rfl, Z.W.D, by decide, by decide, fun y0 H11 f0 f1 D11 B11 => ⟨_, _, rfl, rfl, ?_⟩⟩
    have Z := Z.but D11 B11
    clear D11 B11
    refine ⟨_, rfl, r, _, _, _, _, rfl, Z.X.self, T.cl_Record, T.na_Record _ (by decide), rfl, ?_⟩
    have fs := Z.fs
    have le := Z.le
    have o1 : 1 ≤ (famE gs evs).order.length := Nat.le_trans Z.W.ok.one (ord_ge gs evs)
    have o2 : (famE gs evs).order.length ≤ 1000 := by
      have := order_len (gs := gs) _ evs rfl
      have := Z.W.ok.thr
      omega
    refine ⟨_, rfl, _, rfl, _, rfl, A.ps, _, rfl, .inr (SqT.of Z.X.ho), d, c, _, rfl, Z.W.D, by rw [List.length_map]; omega, by rw [List.length_map]; omega, fun j H12 j0 j1 D12 B12 => ?_⟩
    rw [List.length_map] at j1
    have Z := Z.but D12 B12
    clear D12 B12
    obtain ⟨jn, rfl⟩ : ∃ jn : Nat, j = (jn : Int) := ⟨j.toNat, by omega⟩
    obtain ⟨who, hwho⟩ : ∃ v, (famE gs evs).order[jn]? = some v := ⟨_, List.getElem?_eq_getElem (by omega)⟩
    have nwho := fs.nam who (List.mem_of_getElem? hwho)
    refine ⟨A.ps, _, _, _, rfl, rfl, SqT.of Z.X.ho, atI_nat (j := jn) (by rw [List.getElem?_map, hwho]; rfl), ?_⟩
    have yl : 1 ≤ 1 + y0 ∧ 1 + y0 ≤ 1000000000 := by omega
    refine ⟨_, rfl, _, rfl, by show 4 ≤ sizeLine; decide, fun q1 nq1 => ?_⟩
    have S1 := sNew (o := .tup [.str "born", .int (1 + y0), .str who, .str "zz"]) nq1
    have g1 : (upd H12 q1 (.tup [.str "born", .int (1 + y0), .str who, .str "zz"])) q1 = some (.tup [.str "born", .int (1 + y0), .str who, .str "zz"]) := upd_same
    generalize upd H12 q1 (.tup [.str "born", .int (1 + y0), .str who, .str "zz"]) = G1 at S1 g1
    refine ⟨_, rfl, _, rfl, by show 4 ≤ sizeLine; decide, fun q2 nq2 => ?_⟩
    have S2 := sNew (o := .tup [.str "wed", .int (1 + y0), .str who, .str "zz"]) nq2
    have g2 : (upd G1 q2 (.tup [.str "wed", .int (1 + y0), .str who, .str "zz"])) q2 = some (.tup [.str "wed", .int (1 + y0), .str who, .str "zz"]) := upd_same
    generalize upd G1 q2 (.tup [.str "wed", .int (1 + y0), .str who, .str "zz"]) = G2 at S2 g2
    refine ⟨_, rfl, by show 3 ≤ sizeLine; decide, fun q3 nq3 => ?_⟩
    have S3 := sNew (o := .tup [.str "happened", .int (1 + y0), .str "frost"]) nq3
    have g3 : (upd G2 q3 (.tup [.str "happened", .int (1 + y0), .str "frost"])) q3 = some (.tup [.str "happened", .int (1 + y0), .str "frost"]) := upd_same
    generalize upd G2 q3 (.tup [.str "happened", .int (1 + y0), .str "frost"]) = G3 at S3 g3
    refine ⟨_, rfl, _, rfl, by show 3 ≤ sizeLine; decide, fun q4 nq4 => ?_⟩
    have S4 := sNew (o := .tup [.str "died", .int (1 + y0), .str who]) nq4
    have g4 : (upd G3 q4 (.tup [.str "died", .int (1 + y0), .str who])) q4 = some (.tup [.str "died", .int (1 + y0), .str who]) := upd_same
    generalize upd G3 q4 (.tup [.str "died", .int (1 + y0), .str who]) = G4 at S4 g4
    refine ⟨by show 4 ≤ sizeLine; decide, fun q5 nq5 => ?_⟩
    have S5 := sNew (o := .lst [.ref q1, .ref q2, .ref q3, .ref q4]) nq5
    have g5 : (upd G4 q5 (.lst [.ref q1, .ref q2, .ref q3, .ref q4])) q5 = some (.lst [.ref q1, .ref q2, .ref q3, .ref q4]) := upd_same
    generalize upd G4 q5 (.lst [.ref q1, .ref q2, .ref q3, .ref q4]) = G5 at S5 g5
    have pq : Paired (EvAt G5) [.ref q1, .ref q2, .ref q3, .ref q4] [.born (1 + y0) who "zz", .wed (1 + y0) who "zz", .happ (1 + y0) "frost", .died (1 + y0) who] :=
      .cons ⟨_, rfl, S5 _ _ (S4 _ _ (S3 _ _ (S2 _ _ g1)))⟩ (.cons ⟨_, rfl, S5 _ _ (S4 _ _ (S3 _ _ g2))⟩ (.cons ⟨_, rfl, S5 _ _ (S4 _ _ g3)⟩ (.cons ⟨_, rfl, S5 _ _ g4⟩ .nil)))
    have okq : ∀ e ∈ ([.born (1 + y0) who "zz", .wed (1 + y0) who "zz", .happ (1 + y0) "frost", .died (1 + y0) who] : List Ev), e.Ok := fun e he => by
      have zz : isN (.str "zz") = true := by decide +kernel
      have fr : isN (.str "frost") = true := by decide +kernel
      simp only [List.mem_cons, List.not_mem_nil, or_false] at he
      rcases he with rfl | rfl | rfl | rfl
      · exact ⟨yl.1, yl.2, fun s hs => by rcases (show s = who ∨ s = "zz" by simpa [Ev.tl] using hs) with rfl | rfl <;> assumption⟩
      · exact ⟨yl.1, yl.2, fun s hs => by rcases (show s = who ∨ s = "zz" by simpa [Ev.tl] using hs) with rfl | rfl <;> assumption⟩
      · exact ⟨yl.1, yl.2, fun s hs => by rw [show s = "frost" by simpa [Ev.tl] using hs]; exact fr⟩
      · exact ⟨yl.1, yl.2, fun s hs => by rw [show s = who by simpa [Ev.tl] using hs]; exact nwho⟩
    have Z := Z.same (S1.trans (S2.trans (S3.trans (S4.trans S5))))
    clear S1 S2 S3 S4 S5 g1 g2 g3 g4 nq1 nq2 nq3 nq4 nq5
    refine ⟨_, rfl, d, c, _, rfl, Z.W.D, by decide, by decide, fun k0 H13 k1 k2 D13 B13 => ?_⟩
    have g5 := butLst Z.W.D B13 g5
    have pq := evs_keep pq fun _ _ e => butTup Z.W.D B13 e
    have Z := Z.but D13 B13
    clear D13 B13
    obtain ⟨kn, rfl⟩ : ∃ kn : Nat, k0 = (kn : Int) := ⟨k0.toNat, by omega⟩
    obtain ⟨xr, hxr⟩ : ∃ v, ([.ref q1, .ref q2, .ref q3, .ref q4] : List V)[kn]? = some v := ⟨_, List.getElem?_eq_getElem (by show kn < 4; omega)⟩
    obtain ⟨er, her, hver⟩ := Paired.at pq hxr
    have okr := okq er (List.mem_of_getElem? her)
    refine ⟨q5, _, _, _, rfl, rfl, SqL.of g5, atI_nat (j := kn) hxr, ?_⟩
    obtain ⟨qr, rfl, hqr⟩ := hver
    clear g5 pq okq hxr her
    refine ⟨_, rfl, _, rfl, by show 1 ≤ sizeLine; decide, fun p1 np1 => ?_⟩
    have Sp := sNew (o := .lst [.ref qr]) np1
    have Z := Z.same Sp
    have hqr := Sp _ _ hqr
    have lw := Z.pr.length
    refine ⟨R, p1, _, _, rfl, rfl, Z.R, upd_same, Nat.le_of_lt (small1000 (by rw [lw]; show _ + 1 ≤ _; omega)), fun l1 nl1 => ?_⟩
    have Sl := sNew (o := .lst (ws ++ [.ref qr])) nl1
    have h1 : (upd (upd H13 p1 (.lst [.ref qr])) l1 (.lst (ws ++ [.ref qr]))) l1 = some (.lst (ws ++ [.ref qr])) := upd_same
    generalize upd (upd H13 p1 (.lst [.ref qr])) l1 (.lst (ws ++ [.ref qr])) = H14 at Sl h1
    have Z := Z.same Sl
    have hqr := Sl _ _ hqr
    have pl : Paired (EvAt H14) (ws ++ [.ref qr]) (evs ++ [er]) := Z.pr.snoc ⟨qr, rfl, hqr⟩
    clear Sp Sl np1 nl1
    refine ⟨l1, _, fun v => (evV H14 v).pl, rfl, SqL.of h1, rS1 pl, rS2 pl, fun H15 zs L S15 nL hs1 hs2 => ?_⟩
    obtain ⟨pz, so, pmz⟩ := sorted_evs pl hs1 hs2
    have S15 := S15.trans (sNew (o := .lst zs) nL)
    have pz := evs_same pz S15
    have hL : (upd H15 L (.lst zs)) L = some (.lst zs) := upd_same
    have Z := Z.same S15
    have hqr := S15 _ _ hqr
    generalize upd H15 L (.lst zs) = H16 at S15 pz hL Z hqr
    generalize zs.map (evV H14) = ez at pz so pmz
    clear hs1 hs2 S15 pl h1 nL
    have okz : ∀ e ∈ ez, e.Ok := fun e he => by
      rcases List.mem_append.mp (pmz.mem_iff.mp he) with he | he
      · exact Z.eok e he
      · rw [List.mem_singleton.mp he]; exact okr
    have lz : ez.length ≤ 20 := by
      have := pmz.length_eq
      rw [List.length_append, List.length_singleton] at this
      omega
    have wd : ∀ i s, runW n0 n1 n2 gs (fam0 gs) 0 (ez.map rowR) = some (i, s) → PyData.strOk s = true := fun i s h => runW_word h
    have LR : ∀ {H'}, Same H16 H' → H' L = some (.lst zs) ∧ Paired (EvAt H') zs ez ∧ H' qr = some (.tup er.row) := fun S => ⟨S _ _ hL, evs_same pz S, S _ _ hqr⟩
    refine ⟨fun σ' H' => Same H16 H' ∧ ∃ v8 : V, DueV H' v8 (runW n0 n1 n2 gs (fam0 gs) 0 (ez.map rowR)) ∧ ∃ v12 v13 v14, σ' = [some (.ref a), some (.ref d), some (.ref ct), some (.ref l), some (.ref li), some (.ref R), some (.ref M), some (.ref r), some v8, v9, v10, v11, v12, v13, v14, some (.ref qr), some (.ref L), none], ?_, ?_⟩
    · refine ⟨_, rfl, _, rfl, _, rfl, ct, l, L, lus, zs, gs, ez.map rowR, n0, n1, n2, n3, rfl, Z.W.ct, Z.W.h1, Z.W.hl, Z.W.pl, Z.W.hz, hL, evs_trd pz, roks okz, by rw [List.length_map]; omega, fun v H' S hv => ?_⟩
      exact ⟨S, v, hv, _, _, _, rfl⟩
    rintro σ' H17 ⟨S17, v8, hv8, v12, v13, v14, rfl⟩
    refine ⟨fun σ' H' => Same H16 H' ∧ DueV H' v8 (runW n0 n1 n2 gs (fam0 gs) 0 (ez.map rowR)) ∧ σ' = [some (.ref a), some (.ref d), some (.ref ct), some (.ref l), some (.ref li), some (.ref R), some (.ref M), some (.ref r), some v8, v9, v10, v11, v12, v13, v14, some (.ref qr), some (.ref L), none], ?_, ?_⟩
    · have Z1 := Z.same S17
      obtain ⟨hL1, pz1, _⟩ := LR S17
      refine ⟨_, rfl, _, rfl, li, cu, t, us, gs, n0, n1, n2, .int n3, .ref L, ez.map rowR, rfl, Z1.W.L, Z1.W.hz, Z1.W.C, ⟨L, zs, rfl, .inl hL1, evs_rd pz1, roks okz, by rw [List.length_map]; omega⟩, fun v H18 S18 hv => ?_⟩
      obtain ⟨a1, a2, a3⟩ := due_datR (K := K) wd hv
      obtain ⟨b1, b2, b3⟩ := due_datR (K := K) wd (hv8.same S18)
      refine ⟨_, rfl, _, _, a1, b1, a2, b2, _, rfl, ?_⟩
      rw [a3]
      refine iteF ?_
      have S18 := S17.trans S18
      have Z1 := Z.same S18
      obtain ⟨hL1, pz1, _⟩ := LR S18
      have hv8 := hv8.same (by assumption : Same H17 H18)
      refine ⟨_, rfl, _, rfl, li, cu, t, L, us, zs, gs, n0, n1, n2, .int n3, ez.map rowR, rfl, Z1.W.L, Z1.W.hz, Z1.W.C, hL1, evs_rd pz1, roks okz, by rw [List.length_map]; omega, fun v H19 S19 hv => ?_⟩
      have hv8 := hv8.same S19
      obtain ⟨a1, a2, a3⟩ := due_datR (K := K) wd hv
      obtain ⟨b1, b2, b3⟩ := due_datR (K := K) wd hv8
      refine ⟨_, rfl, _, _, a1, b1, a2, b2, _, rfl, ?_⟩
      rw [a3]
      exact iteF ⟨S18.trans S19, hv8, rfl⟩
    clear hv8
    rintro σ' H17 ⟨S17, hv8, rfl⟩
    have Z := Z.same S17
    obtain ⟨hL, pz, hqr⟩ := LR S17
    clear LR S17
    cases er0 : runW n0 n1 n2 gs (fam0 gs) 0 (ez.map rowR) with
    | some w0 =>
      obtain ⟨i, s⟩ := w0
      rw [er0] at hv8
      obtain ⟨t8, rfl, _⟩ := hv8
      refine ⟨_, rfl, rfl, _, rfl, iteF ?_⟩
      have ee := evs_fl Z.eok
      refine ⟨_, rfl, r, _, _, _, _, rfl, Z.X.self, T.cl_Record, T.na_Record _ (by decide), rfl, _, rfl, R, _, rfl, .inl ⟨SqL.of Z.R, fun t1 nt1 => ?_⟩⟩
      have S1 := sNew (o := .tup ws) nt1
      have Z := Z.same S1
      refine ⟨_, _, rowsDE_dp Z.X.rows Z.X.each Z.eok, rowsDE_dp upd_same Z.pr Z.eok, fls_shaped false ee, fls_shaped false ee, ?_⟩
      rw [rowsDE_self]
      exact k _
    | none =>
      rw [er0] at hv8
      obtain rfl : v8 = .non := hv8
      refine ⟨_, rfl, rfl, _, rfl, iteT ?_⟩
      have incz := (inc_run er0).2
      have erm : er ∈ ez := pmz.mem_iff.mpr (List.mem_append_right _ List.mem_cons_self)
      obtain ⟨as, bs, esp⟩ := List.append_of_mem erm
      have eab : as ++ bs = evs := inc_erase (by rw [← esp]; exact incz) Z.inc (by rw [← esp]; exact pmz)
      have eez := evs_fl okz
      have okrow := ev_okV okr
      have hj : (ez.map evD)[as.length]? = some (evD er) := by rw [esp, List.map_append, List.map_cons, List.getElem?_append_right (by rw [List.length_map]; exact Nat.le_refl _), List.length_map, Nat.sub_self]; rfl
      have hno : ∀ (m : Nat) (z : PyData), m < as.length → (ez.map evD)[m]? = some z → PyData.eqv z (evD er) = false := fun m z hm hz => by
        rw [esp, List.map_append, List.getElem?_append_left (by rw [List.length_map]; exact hm), List.getElem?_map] at hz
        cases e : as[m]? with
        | none => rw [e] at hz; cases hz
        | some x =>
          rw [e] at hz
          obtain rfl : evD x = z := Option.some.inj hz
          cases q : PyData.eqv (evD x) (evD er) with
          | false => rfl
          | true =>
            have hx := evD_inj q
            subst hx
            rw [esp] at incz
            have h3 := (List.pairwise_append.mp incz).2.2 _ (List.mem_of_getElem? e) _ List.mem_cons_self
            rw [(swo_K (fun p : K3 => p)).refl] at h3
            cases h3
      refine ⟨_, rfl, .inl ⟨rfl, _, SqL.of hL⟩, _, rfl, L, _, evD er, ez.map evD, as.length, evD er, rfl, rfl, rowsDL_dp hL pz okz, dp_tup (SqT.of hqr) (dpvs fun x hx => okV.flat (okrow x hx)), fls_shaped true eez, row_shaped false okrow, hj, row_self false _, hno, ?_⟩
      refine ⟨_, rfl, _, rfl, mkRec Z.W.L Z.W.hz Z.W.C (rs := ez.map rowR) ⟨L, zs, rfl, .inl hL, evs_rd pz, roks okz, by rw [List.length_map]; omega⟩ (fun i s H2 e z _ _ => by rw [er0] at z; cases z) (fun evs' r3 tt3 ts3 A3 H18 h1 _ _ S18 X3 => ?_)⟩
      obtain rfl := rows_inj h1
      have Z := Z.same S18
      have l3 := X3.each.length
      have c1 : cutV ts3 none (some (as.length : Int)) = ts3.take as.length := cut_take ts3 as.length
      have c2 : cutV ts3 (some ((as.length : Int) + 1)) none = ts3.drop (as.length + 1) := cut_drop ts3 (as.length + 1)
      refine ⟨_, rfl, r3, _, _, _, _, rfl, X3.self, T.cl_Record, T.na_Record _ (by decide), rfl, _, rfl, _, rfl, ?_⟩
      refine slA (K := K) X3.rows fun b1 H19 S19 hb1 => ?_
      have X3 := X3.same S19
      have Z := Z.same S19
      rw [c1] at hb1
      refine ⟨_, rfl, r3, _, _, _, _, rfl, X3.self, T.cl_Record, T.na_Record _ (by decide), rfl, _, rfl, _, _, rfl, rfl, _, rfl, ?_⟩
      unfold tNoPart
      refine slA (K := K) X3.rows fun b2 H20 S20 hb2 => ?_
      have X3 := X3.same S20
      have Z := Z.same S20
      have hb1 := S20 _ _ hb1
      rw [c2] at hb2
      refine caA (K := K) hb1 hb2 (Nat.le_of_lt (small1000 (by rw [List.length_take, List.length_drop]; omega))) fun b3 H21 S21 hb3 => ?_
      have X3 := X3.same S21
      have Z := Z.same S21
      have pab : Paired (EvAt H21) (ts3.take as.length ++ ts3.drop (as.length + 1)) evs := by
        have q := evV_pair (H := H21) (zs := ts3.take as.length ++ ts3.drop (as.length + 1)) fun v hv => by
          refine evV_all X3.each v ?_
          rcases List.mem_append.mp hv with hv | hv
          · exact List.mem_of_mem_take hv
          · exact List.mem_of_mem_drop hv
        rw [List.map_append, List.map_take, List.map_drop, evV_map X3.each, esp, List.take_left, drop_mid, eab] at q
        exact q
      have ee := evs_fl Z.eok
      refine ⟨_, rfl, r, _, _, _, _, rfl, Z.X.self, T.cl_Record, T.na_Record _ (by decide), rfl, _, _, rowsDE_dp hb3 pab Z.eok, rowsDE_dp Z.X.rows Z.X.each Z.eok, fls_shaped false ee, fls_shaped false ee, _, rfl, ?_⟩
      rw [rowsDE_self]
      refine iteT ?_
      have lz1 : ez ≠ evs := fun e => by
        have := pmz.length_eq
        rw [e, List.length_append, List.length_singleton] at this
        omega
      refine ⟨_, rfl, _, rfl, ownRe T X3 Z.X okz Z.eok Z.W.L Z.W.L Z.W.ok.rok Z.W.C Z.W.C fun H22 S22 => ⟨_, _, rfl, rfl, ?_⟩⟩
      rw [rowsDE_eq, decide_eq_false lz1, Bool.and_false]
      exact k _
theorem cal_law (T : Txt P w K mg cl) : Cal P w K mg base CX0 9 "law" ["_law_script"] (spLaw K) := by
  obtain ⟨f, fd, F, m⟩ := T.d_law
  exact ⟨f, fd, ok_law F T, m, F.kp, F.binds fun _ _ _ _ _ _ us hl => match us, hl with | [_], _ => rfl⟩
end
end My
set_option Elab.async false
set_option linter.all false
set_option maxRecDepth 100000
set_option maxHeartbeats 8000000
namespace My
open PySem L2 Dw He
theorem txt_mk {P : Program} {w : World} {K : PySem.W.Frag} {h : Heap} {mg : Str → Option Value} (X : K.In h) (G : h.Ns mainGlobals mg) (hP : P.main.file = lawFile) (c0 : HeM.SaysM lawFile faL fnL iniL prpL tsL exB w K) (stop : (P.main.scope.names.lookup ("super" : Str)).isSome = false) : Txt P w K mg (fun s => ga K (Str.ofString s)) := by
  have cS : HeM.SaysM P.main.file faL fnL iniL prpL tsL exB w K := by rw [hP]; exact c0
  have hz : HeM.zB K = true := cS.ex_at (L := exL) 0 rfl
  have opq : PySem.W.nsIn K cStatics "thirdparty.any" = some none := eqO_ok (cS.ex_at (L := exL) 1 rfl)
  exact {
    n_len := He.free_ok X G (cS.d.fact 0 (f := .free "len") rfl)
    n_int := He.free_ok X G (cS.d.fact 1 (f := .free "int") rfl)
    n_str := He.free_ok X G (cS.d.fact 2 (f := .free "str") rfl)
    n_bool := He.free_ok X G (cS.d.fact 3 (f := .free "bool") rfl)
    n_list := He.free_ok X G (cS.d.fact 4 (f := .free "list") rfl)
    n_tuple := He.free_ok X G (cS.d.fact 5 (f := .free "tuple") rfl)
    n_isinstance := He.free_ok X G (cS.d.fact 6 (f := .free "isinstance") rfl)
    n_range := He.free_ok X G (cS.d.fact 7 (f := .free "range") rfl)
    n_all := He.free_ok X G (cS.d.fact 8 (f := .free "all") rfl)
    n_ValueError := He.free_ok X G (cS.d.fact 9 (f := .free "ValueError") rfl)
    n_super := He.free_ok X G (cS.d.fact 10 (f := .free "super") rfl)
    n_max := He.free_ok X G (cS.d.fact 11 (f := .free "max") rfl)
    n_min := He.free_ok X G (cS.d.fact 12 (f := .free "min") rfl)
    n_sorted := He.free_ok X G (cS.d.fact 13 (f := .free "sorted") rfl)
    n_iter := He.free_ok X G (cS.d.fact 14 (f := .free "iter") rfl)
    n_enumerate := He.free_ok X G (cS.d.fact 15 (f := .free "enumerate") rfl)
    n_property := He.free_ok X G (cS.d.fact 16 (f := .free "property") rfl)
    c_LETTERS := (let ⟨_, h⟩ := He.str_ok X G (cS.d.fact 17 (f := .str "LETTERS" "abcdefghijklmnopqrstuvwxyz") rfl); ⟨_, h, ⟨_, rfl⟩⟩)
    c_MOST := (let ⟨_, h⟩ := He.int_ok X G (cS.d.fact 18 (f := .int "MOST" (1000000)) rfl); ⟨_, h, ⟨_, rfl⟩⟩)
    c_WIDEST := (let ⟨_, h⟩ := He.int_ok X G (cS.d.fact 19 (f := .int "WIDEST" (1000)) rfl); ⟨_, h, ⟨_, rfl⟩⟩)
    c_MOST_LIVES := (let ⟨_, h⟩ := He.int_ok X G (cS.d.fact 20 (f := .int "MOST_LIVES" (6)) rfl); ⟨_, h, ⟨_, rfl⟩⟩)
    c_MOST_YEAR := (let ⟨_, h⟩ := He.int_ok X G (cS.d.fact 21 (f := .int "MOST_YEAR" (1000000000)) rfl); ⟨_, h, ⟨_, rfl⟩⟩)
    c_MOST_ROWS := (let ⟨_, h⟩ := He.int_ok X G (cS.d.fact 22 (f := .int "MOST_ROWS" (200)) rfl); ⟨_, h, ⟨_, rfl⟩⟩)
    c_KINDS := ⟨_, (He.glo_ok X G (cS.d.fact 23 (f := .glo "KINDS") rfl)), rfl⟩
    tt_KINDS := tyB_ok (cS.ex_at (L := exL) 2 rfl)
    tu_KINDS := fun H => He.tupB_ok (cS.ex_at (L := exL) 3 rfl) H
    c_LENGTHS := ⟨_, (He.glo_ok X G (cS.d.fact 24 (f := .glo "LENGTHS") rfl)), rfl⟩
    wd_LENGTHS := wd_of (cS.tab 0 (t := ("LENGTHS", ["born", "wed", "happened", "died"])) rfl) (cS.ex_at (L := exL) 4 rfl)
    m_DeedError := (He.glo_ok X G (cS.d.fact 25 (f := .glo "DeedError") rfl))
    m_BadCustoms := (He.glo_ok X G (cS.d.fact 26 (f := .glo "BadCustoms") rfl))
    m_BadLives := (He.glo_ok X G (cS.d.fact 27 (f := .glo "BadLives") rfl))
    m_BadRecord := (He.glo_ok X G (cS.d.fact 28 (f := .glo "BadRecord") rfl))
    m_NoLife := (He.glo_ok X G (cS.d.fact 29 (f := .glo "NoLife") rfl))
    m_NoPerson := (He.glo_ok X G (cS.d.fact 30 (f := .glo "NoPerson") rfl))
    m_Customs := (He.glo_ok X G (cS.d.fact 31 (f := .glo "Customs") rfl))
    m_Lives := (He.glo_ok X G (cS.d.fact 32 (f := .glo "Lives") rfl))
    m_Family := (He.glo_ok X G (cS.d.fact 33 (f := .glo "Family") rfl))
    m_Record := (He.glo_ok X G (cS.d.fact 34 (f := .glo "Record") rfl))
    e_BadCustoms := PySem.ErrL.makes1 (HeM.SaysM.ini cS 0 (d := d_ini_BadCustoms) opq stop rfl) (w_BadCustoms P w) (HeM.SaysM.ox cS 0 (d := d_ini_BadCustoms) rfl).kC (HeM.SaysM.ox cS 0 (d := d_ini_BadCustoms) rfl).exC (HeM.SaysM.ox cS 0 (d := d_ini_BadCustoms) rfl).tyC (eqO_ok (cS.ex_at (L := exL) 5 rfl)) (by decide) (by decide) (He.free_ok X G (cS.d.fact 10 (f := .free "super") rfl)) (He.free_ok X G (cS.d.fact 2 (f := .free "str") rfl)) (fun _ _ _ _ _ _ _ _ _ => rfl)
    e_BadLives := PySem.ErrL.makes2 (HeM.SaysM.ini cS 1 (d := d_ini_BadLives) opq stop rfl) (w_BadLives P w) (HeM.SaysM.ox cS 1 (d := d_ini_BadLives) rfl).kC (HeM.SaysM.ox cS 1 (d := d_ini_BadLives) rfl).exC (HeM.SaysM.ox cS 1 (d := d_ini_BadLives) rfl).tyC (eqO_ok (cS.ex_at (L := exL) 6 rfl)) (eqO_ok (cS.ex_at (L := exL) 7 rfl)) (by decide) (by decide) (by decide) (by decide) (by decide) (He.free_ok X G (cS.d.fact 10 (f := .free "super") rfl)) (He.free_ok X G (cS.d.fact 2 (f := .free "str") rfl)) (fun _ _ _ _ _ _ _ _ _ _ => rfl)
    e_BadRecord := PySem.ErrL.makes2 (HeM.SaysM.ini cS 2 (d := d_ini_BadRecord) opq stop rfl) (w_BadRecord P w) (HeM.SaysM.ox cS 2 (d := d_ini_BadRecord) rfl).kC (HeM.SaysM.ox cS 2 (d := d_ini_BadRecord) rfl).exC (HeM.SaysM.ox cS 2 (d := d_ini_BadRecord) rfl).tyC (eqO_ok (cS.ex_at (L := exL) 8 rfl)) (eqO_ok (cS.ex_at (L := exL) 9 rfl)) (by decide) (by decide) (by decide) (by decide) (by decide) (He.free_ok X G (cS.d.fact 10 (f := .free "super") rfl)) (He.free_ok X G (cS.d.fact 2 (f := .free "str") rfl)) (fun _ _ _ _ _ _ _ _ _ _ => rfl)
    e_NoLife := PySem.ErrL.makes1 (HeM.SaysM.ini cS 3 (d := d_ini_NoLife) opq stop rfl) (w_NoLife P w) (HeM.SaysM.ox cS 3 (d := d_ini_NoLife) rfl).kC (HeM.SaysM.ox cS 3 (d := d_ini_NoLife) rfl).exC (HeM.SaysM.ox cS 3 (d := d_ini_NoLife) rfl).tyC (eqO_ok (cS.ex_at (L := exL) 10 rfl)) (by decide) (by decide) (He.free_ok X G (cS.d.fact 10 (f := .free "super") rfl)) (He.free_ok X G (cS.d.fact 2 (f := .free "str") rfl)) (fun _ _ _ _ _ _ _ _ _ => rfl)
    e_NoPerson := PySem.ErrL.makes1 (HeM.SaysM.ini cS 4 (d := d_ini_NoPerson) opq stop rfl) (w_NoPerson P w) (HeM.SaysM.ox cS 4 (d := d_ini_NoPerson) rfl).kC (HeM.SaysM.ox cS 4 (d := d_ini_NoPerson) rfl).exC (HeM.SaysM.ox cS 4 (d := d_ini_NoPerson) rfl).tyC (eqO_ok (cS.ex_at (L := exL) 11 rfl)) (by decide) (by decide) (He.free_ok X G (cS.d.fact 10 (f := .free "super") rfl)) (He.free_ok X G (cS.d.fact 2 (f := .free "str") rfl)) (fun _ _ _ _ _ _ _ _ _ => rfl)
    x_NoLife := HeM.xcB_ok (cS.ex_at (L := exL) 12 rfl) hz
    x_NoPerson := HeM.xcB_ok (cS.ex_at (L := exL) 13 rfl) hz
    xf_NoLife_name := eqO_ok (cS.ex_at (L := exL) 10 rfl)
    xf_NoPerson_name := eqO_ok (cS.ex_at (L := exL) 11 rfl)
    is_NoLife := of_decide_eq_true (cS.ex_at (L := exL) 14 rfl)
    is_NoPerson := of_decide_eq_true (cS.ex_at (L := exL) 15 rfl)
    cl_Customs := He.cls_ok (cS.d.fact 35 (f := .cls "Customs") rfl)
    na_Customs := (fun f hf => eqO_ok (List.all_eq_true.mp (cS.ex_at (L := exL) 16 rfl) f hf))
    y_Customs := eqO_ok (cS.ex_at (L := exL) 17 rfl)
    z3_Customs := of_decide_eq_true (cS.ex_at (L := exL) 18 rfl)
    cl_Lives := He.cls_ok (cS.d.fact 36 (f := .cls "Lives") rfl)
    na_Lives := (fun f hf => eqO_ok (List.all_eq_true.mp (cS.ex_at (L := exL) 19 rfl) f hf))
    y_Lives := eqO_ok (cS.ex_at (L := exL) 20 rfl)
    z3_Lives := of_decide_eq_true (cS.ex_at (L := exL) 21 rfl)
    cl_Family := He.cls_ok (cS.d.fact 37 (f := .cls "Family") rfl)
    na_Family := (fun f hf => eqO_ok (List.all_eq_true.mp (cS.ex_at (L := exL) 22 rfl) f hf))
    y_Family := eqO_ok (cS.ex_at (L := exL) 23 rfl)
    z3_Family := of_decide_eq_true (cS.ex_at (L := exL) 24 rfl)
    cl_Record := He.cls_ok (cS.d.fact 38 (f := .cls "Record") rfl)
    na_Record := (fun f hf => eqO_ok (List.all_eq_true.mp (cS.ex_at (L := exL) 25 rfl) f hf))
    y_Record := eqO_ok (cS.ex_at (L := exL) 26 rfl)
    z3_Record := of_decide_eq_true (cS.ex_at (L := exL) 27 rfl)
    k_in_Cu := (fun n hn => of_decide_eq_true (List.all_eq_true.mp (cS.ex_at (L := exL) 28 rfl) n hn))
    nf_Customs := (fun n hn => List.all_eq_true.mp (cS.ex_at (L := exL) 29 rfl) n hn)
    nf2_Customs := (cS.ex_at (L := exL) 30 rfl)
    k_Cu_Cu := of_decide_eq_true (cS.ex_at (L := exL) 31 rfl)
    k_in_Li := (fun n hn => of_decide_eq_true (List.all_eq_true.mp (cS.ex_at (L := exL) 32 rfl) n hn))
    nf_Lives := (fun n hn => List.all_eq_true.mp (cS.ex_at (L := exL) 33 rfl) n hn)
    nf2_Lives := (cS.ex_at (L := exL) 34 rfl)
    k_Li_Li := of_decide_eq_true (cS.ex_at (L := exL) 35 rfl)
    k_in_Re := (fun n hn => of_decide_eq_true (List.all_eq_true.mp (cS.ex_at (L := exL) 36 rfl) n hn))
    nf_Record := (fun n hn => List.all_eq_true.mp (cS.ex_at (L := exL) 37 rfl) n hn)
    nf2_Record := (cS.ex_at (L := exL) 38 rfl)
    k_Re_Re := of_decide_eq_true (cS.ex_at (L := exL) 39 rfl)
    i_Customs := (let ⟨fd, F⟩ := cS.d.def_ 0 (d := ⟨("Customs", some "__init__"), "__init__", "Customs.__init__", defArgs s_Customs_init, defBody s_Customs_init, defScope s_Customs_init, [.int 1], [("years_after", .int 1), ("wed_age", .int 0), ("limit", .int 21)]⟩) rfl; ⟨_, fd, F, He.mkr_ok (cS.d.fact 39 (f := .mkr "Customs") rfl)⟩)
    i_Lives := (let ⟨fd, F⟩ := cS.d.def_ 1 (d := ⟨("Lives", some "__init__"), "__init__", "Lives.__init__", defArgs s_Lives_init, defBody s_Lives_init, defScope s_Lives_init, [], []⟩) rfl; ⟨_, fd, fun_of F, He.mkr_ok (cS.d.fact 40 (f := .mkr "Lives") rfl)⟩)
    i_Family := (let ⟨fd, F⟩ := cS.d.def_ 2 (d := ⟨("Family", some "__init__"), "__init__", "Family.__init__", defArgs s_Family_init, defBody s_Family_init, defScope s_Family_init, [], []⟩) rfl; ⟨_, fd, fun_of F, He.mkr_ok (cS.d.fact 41 (f := .mkr "Family") rfl)⟩)
    i_Record := (let ⟨fd, F⟩ := HeM.SaysM.var cS 0 (d := ⟨("Record", some "__init__"), "__init__", "Record.__init__", defArgs s_Record_init, defBody s_Record_init, defScope s_Record_init, [], []⟩) (st := s_Record_init) rfl rfl rfl rfl; ⟨_, fd, F, He.mkr_ok (cS.d.fact 42 (f := .mkr "Record") rfl)⟩)
    d_as_tuple := (let ⟨fd, F⟩ := cS.d.def_ 3 (d := ⟨("Customs", some "as_tuple"), "as_tuple", "Customs.as_tuple", defArgs s_Customs_as_tuple, defBody s_Customs_as_tuple, defScope s_Customs_as_tuple, [], []⟩) rfl; ⟨_, fd, fun_of F, He.meth_ok (cS.d.fact 43 (f := .meth "Customs" "as_tuple") rfl)⟩)
    d_eq := (let ⟨fd, F⟩ := cS.d.def_ 4 (d := ⟨("Customs", some "__eq__"), "__eq__", "Customs.__eq__", defArgs s_Customs_eq, defBody s_Customs_eq, defScope s_Customs_eq, [], []⟩) rfl; ⟨_, fd, fun_of F, He.meth_ok (cS.d.fact 44 (f := .meth "Customs" "__eq__") rfl)⟩)
    d_Lives_has := (let ⟨fd, F⟩ := cS.d.def_ 5 (d := ⟨("Lives", some "has"), "has", "Lives.has", defArgs s_Lives_has, defBody s_Lives_has, defScope s_Lives_has, [], []⟩) rfl; ⟨_, fd, fun_of F, He.meth_ok (cS.d.fact 45 (f := .meth "Lives" "has") rfl)⟩)
    d_Lives_eq := (let ⟨fd, F⟩ := cS.d.def_ 6 (d := ⟨("Lives", some "__eq__"), "__eq__", "Lives.__eq__", defArgs s_Lives_eq, defBody s_Lives_eq, defScope s_Lives_eq, [], []⟩) rfl; ⟨_, fd, fun_of F, He.meth_ok (cS.d.fact 46 (f := .meth "Lives" "__eq__") rfl)⟩)
    d_Family_fault := (let ⟨fd, F⟩ := cS.d.def_ 7 (d := ⟨("Family", some "fault"), "fault", "Family.fault", defArgs s_Family_fault, defBody s_Family_fault, defScope s_Family_fault, [], []⟩) rfl; ⟨_, fd, fun_of F, He.meth_ok (cS.d.fact 47 (f := .meth "Family" "fault") rfl)⟩)
    d_Family_born_fault := (let ⟨fd, F⟩ := cS.d.def_ 8 (d := ⟨("Family", some "born_fault"), "born_fault", "Family.born_fault", defArgs s_Family_born_fault, defBody s_Family_born_fault, defScope s_Family_born_fault, [], []⟩) rfl; ⟨_, fd, fun_of F, He.meth_ok (cS.d.fact 48 (f := .meth "Family" "born_fault") rfl)⟩)
    d_Family_wed_fault := (let ⟨fd, F⟩ := cS.d.def_ 9 (d := ⟨("Family", some "wed_fault"), "wed_fault", "Family.wed_fault", defArgs s_Family_wed_fault, defBody s_Family_wed_fault, defScope s_Family_wed_fault, [], []⟩) rfl; ⟨_, fd, fun_of F, He.meth_ok (cS.d.fact 49 (f := .meth "Family" "wed_fault") rfl)⟩)
    d_Family_add := (let ⟨fd, F⟩ := cS.d.def_ 10 (d := ⟨("Family", some "add"), "add", "Family.add", defArgs s_Family_add, defBody s_Family_add, defScope s_Family_add, [], []⟩) rfl; ⟨_, fd, fun_of F, He.meth_ok (cS.d.fact 50 (f := .meth "Family" "add") rfl)⟩)
    d_Record_end := (let ⟨hp, fd, F⟩ := HeM.SaysM.prp cS 0 (d := ⟨("Record", some "end"), "end", "Record.end", defArgs s_Record_end, defBody s_Record_end, defScope s_Record_end, [], []⟩) (st := s_Record_end) rfl rfl rfl rfl; ⟨_, _, fd, hp, F⟩)
    d_Record_unborn := (let ⟨hp, fd, F⟩ := HeM.SaysM.prp cS 1 (d := ⟨("Record", some "unborn"), "unborn", "Record.unborn", defArgs s_Record_unborn, defBody s_Record_unborn, defScope s_Record_unborn, [], []⟩) (st := s_Record_unborn) rfl rfl rfl rfl; ⟨_, _, fd, hp, F⟩)
    d_Record_has := (let ⟨fd, F⟩ := cS.d.def_ 11 (d := ⟨("Record", some "has"), "has", "Record.has", defArgs s_Record_has, defBody s_Record_has, defScope s_Record_has, [], []⟩) rfl; ⟨_, fd, fun_of F, He.meth_ok (cS.d.fact 51 (f := .meth "Record" "has") rfl)⟩)
    d_Record_birth := (let ⟨fd, F⟩ := cS.d.def_ 12 (d := ⟨("Record", some "birth"), "birth", "Record.birth", defArgs s_Record_birth, defBody s_Record_birth, defScope s_Record_birth, [], []⟩) rfl; ⟨_, fd, fun_of F, He.meth_ok (cS.d.fact 52 (f := .meth "Record" "birth") rfl)⟩)
    d_Record_death := (let ⟨fd, F⟩ := cS.d.def_ 13 (d := ⟨("Record", some "death"), "death", "Record.death", defArgs s_Record_death, defBody s_Record_death, defScope s_Record_death, [], []⟩) rfl; ⟨_, fd, fun_of F, He.meth_ok (cS.d.fact 53 (f := .meth "Record" "death") rfl)⟩)
    d_Record_is_alive := (let ⟨fd, F⟩ := cS.d.def_ 14 (d := ⟨("Record", some "is_alive"), "is_alive", "Record.is_alive", defArgs s_Record_is_alive, defBody s_Record_is_alive, defScope s_Record_is_alive, [], []⟩) rfl; ⟨_, fd, fun_of F, He.meth_ok (cS.d.fact 54 (f := .meth "Record" "is_alive") rfl)⟩)
    d_Record_parent := (let ⟨fd, F⟩ := cS.d.def_ 15 (d := ⟨("Record", some "parent"), "parent", "Record.parent", defArgs s_Record_parent, defBody s_Record_parent, defScope s_Record_parent, [], []⟩) rfl; ⟨_, fd, fun_of F, He.meth_ok (cS.d.fact 55 (f := .meth "Record" "parent") rfl)⟩)
    d_Record_children := (let ⟨fd, F⟩ := cS.d.def_ 16 (d := ⟨("Record", some "children"), "children", "Record.children", defArgs s_Record_children, defBody s_Record_children, defScope s_Record_children, [], []⟩) rfl; ⟨_, fd, fun_of F, He.meth_ok (cS.d.fact 56 (f := .meth "Record" "children") rfl)⟩)
    d_Record_mates := (let ⟨fd, F⟩ := cS.d.def_ 17 (d := ⟨("Record", some "mates"), "mates", "Record.mates", defArgs s_Record_mates, defBody s_Record_mates, defScope s_Record_mates, [], []⟩) rfl; ⟨_, fd, fun_of F, He.meth_ok (cS.d.fact 57 (f := .meth "Record" "mates") rfl)⟩)
    d_Record_mate := (let ⟨fd, F⟩ := cS.d.def_ 18 (d := ⟨("Record", some "mate"), "mate", "Record.mate", defArgs s_Record_mate, defBody s_Record_mate, defScope s_Record_mate, [], []⟩) rfl; ⟨_, fd, fun_of F, He.meth_ok (cS.d.fact 58 (f := .meth "Record" "mate") rfl)⟩)
    d_Record_happened := (let ⟨fd, F⟩ := cS.d.def_ 19 (d := ⟨("Record", some "happened"), "happened", "Record.happened", defArgs s_Record_happened, defBody s_Record_happened, defScope s_Record_happened, [], []⟩) rfl; ⟨_, fd, fun_of F, He.meth_ok (cS.d.fact 59 (f := .meth "Record" "happened") rfl)⟩)
    d_Record_last_death := (let ⟨fd, F⟩ := cS.d.def_ 20 (d := ⟨("Record", some "last_death"), "last_death", "Record.last_death", defArgs s_Record_last_death, defBody s_Record_last_death, defScope s_Record_last_death, [], []⟩) rfl; ⟨_, fd, fun_of F, He.meth_ok (cS.d.fact 60 (f := .meth "Record" "last_death") rfl)⟩)
    d_Record_eq := (let ⟨fd, F⟩ := cS.d.def_ 21 (d := ⟨("Record", some "__eq__"), "__eq__", "Record.__eq__", defArgs s_Record_eq, defBody s_Record_eq, defScope s_Record_eq, [], []⟩) rfl; ⟨_, fd, fun_of F, He.meth_ok (cS.d.fact 61 (f := .meth "Record" "__eq__") rfl)⟩)
    d_Record_len := (let ⟨fd, F⟩ := cS.d.def_ 22 (d := ⟨("Record", some "__len__"), "__len__", "Record.__len__", defArgs s_Record_len, defBody s_Record_len, defScope s_Record_len, [], []⟩) rfl; ⟨_, fd, fun_of F, He.meth_ok (cS.d.fact 62 (f := .meth "Record" "__len__") rfl)⟩)
    d_Record_iter := (let ⟨fd, F⟩ := cS.d.def_ 23 (d := ⟨("Record", some "__iter__"), "__iter__", "Record.__iter__", defArgs s_Record_iter, defBody s_Record_iter, defScope s_Record_iter, [], []⟩) rfl; ⟨_, fd, fun_of F, He.meth_ok (cS.d.fact 63 (f := .meth "Record" "__iter__") rfl)⟩)
    d_is_whole := (let ⟨fd, F⟩ := cS.d.def_ 24 (d := ⟨("is_whole", none), "is_whole", "is_whole", defArgs s_is_whole, defBody s_is_whole, defScope s_is_whole, [], []⟩) rfl; ⟨_, fd, fun_of F, (He.glo_ok X G (cS.d.fact 64 (f := .glo "is_whole") rfl))⟩)
    d_is_name := (let ⟨fd, F⟩ := cS.d.def_ 25 (d := ⟨("is_name", none), "is_name", "is_name", defArgs s_is_name, defBody s_is_name, defScope s_is_name, [], []⟩) rfl; ⟨_, fd, fun_of F, (He.glo_ok X G (cS.d.fact 65 (f := .glo "is_name") rfl))⟩)
    d_is_row := (let ⟨fd, F⟩ := cS.d.def_ 26 (d := ⟨("is_row", none), "is_row", "is_row", defArgs s_is_row, defBody s_is_row, defScope s_is_row, [], []⟩) rfl; ⟨_, fd, fun_of F, (He.glo_ok X G (cS.d.fact 66 (f := .glo "is_row") rfl))⟩)
    d_row_place := (let ⟨fd, F⟩ := cS.d.def_ 27 (d := ⟨("row_place", none), "row_place", "row_place", defArgs s_row_place, defBody s_row_place, defScope s_row_place, [], []⟩) rfl; ⟨_, fd, fun_of F, (He.glo_ok X G (cS.d.fact 67 (f := .glo "row_place") rfl))⟩)
    d_row_fault := (let ⟨fd, F⟩ := cS.d.def_ 28 (d := ⟨("row_fault", none), "row_fault", "row_fault", defArgs s_row_fault, defBody s_row_fault, defScope s_row_fault, [], []⟩) rfl; ⟨_, fd, fun_of F, (He.glo_ok X G (cS.d.fact 68 (f := .glo "row_fault") rfl))⟩)
    d_record_fault := (let ⟨fd, F⟩ := cS.d.def_ 29 (d := ⟨("record_fault", none), "record_fault", "record_fault", defArgs s_record_fault, defBody s_record_fault, defScope s_record_fault, [], []⟩) rfl; ⟨_, fd, fun_of F, (He.glo_ok X G (cS.d.fact 69 (f := .glo "record_fault") rfl))⟩)
    d_facts := (let ⟨fd, F⟩ := cS.d.def_ 30 (d := ⟨("_law_facts", none), "_law_facts", "_law_facts", defArgs s_facts, defBody s_facts, defScope s_facts, [], []⟩) rfl; ⟨_, fd, fun_of F, (He.glo_ok X G (cS.d.fact 70 (f := .glo "_law_facts") rfl))⟩)
    d_digits := (let ⟨fd, F⟩ := cS.d.def_ 31 (d := ⟨("_law_digits", none), "_law_digits", "_law_digits", defArgs s_digits, defBody s_digits, defScope s_digits, [], []⟩) rfl; ⟨_, fd, fun_of F, (He.glo_ok X G (cS.d.fact 71 (f := .glo "_law_digits") rfl))⟩)
    d_next := (let ⟨fd, F⟩ := cS.d.def_ 32 (d := ⟨("_law_next", none), "_law_next", "_law_next", defArgs s_next, defBody s_next, defScope s_next, [], []⟩) rfl; ⟨_, fd, fun_of F, (He.glo_ok X G (cS.d.fact 72 (f := .glo "_law_next") rfl))⟩)
    d_lives := (let ⟨fd, F⟩ := cS.d.def_ 33 (d := ⟨("_law_lives", none), "_law_lives", "_law_lives", defArgs s_lives, defBody s_lives, defScope s_lives, [], []⟩) rfl; ⟨_, fd, fun_of F, (He.glo_ok X G (cS.d.fact 73 (f := .glo "_law_lives") rfl))⟩)
    d_rows := (let ⟨fd, F⟩ := cS.d.def_ 34 (d := ⟨("_law_rows", none), "_law_rows", "_law_rows", defArgs s_rows, defBody s_rows, defScope s_rows, [], []⟩) rfl; ⟨_, fd, fun_of F, (He.glo_ok X G (cS.d.fact 74 (f := .glo "_law_rows") rfl))⟩)
    d_customs := (let ⟨fd, F⟩ := cS.d.def_ 35 (d := ⟨("_law_customs", none), "_law_customs", "_law_customs", defArgs s_customs, defBody s_customs, defScope s_customs, [], []⟩) rfl; ⟨_, fd, fun_of F, (He.glo_ok X G (cS.d.fact 75 (f := .glo "_law_customs") rfl))⟩)
    d_made := (let ⟨fd, F⟩ := cS.d.def_ 36 (d := ⟨("_law_made", none), "_law_made", "_law_made", defArgs s_made, defBody s_made, defScope s_made, [], []⟩) rfl; ⟨_, fd, fun_of F, (He.glo_ok X G (cS.d.fact 76 (f := .glo "_law_made") rfl))⟩)
    d_place := (let ⟨fd, F⟩ := cS.d.def_ 37 (d := ⟨("_law_place", none), "_law_place", "_law_place", defArgs s_place, defBody s_place, defScope s_place, [], []⟩) rfl; ⟨_, fd, fun_of F, (He.glo_ok X G (cS.d.fact 77 (f := .glo "_law_place") rfl))⟩)
    d_parts_ok := (let ⟨fd, F⟩ := cS.d.def_ 38 (d := ⟨("_law_parts_ok", none), "_law_parts_ok", "_law_parts_ok", defArgs s_parts_ok, defBody s_parts_ok, defScope s_parts_ok, [], []⟩) rfl; ⟨_, fd, fun_of F, (He.glo_ok X G (cS.d.fact 78 (f := .glo "_law_parts_ok") rfl))⟩)
    d_L_row_fault := (let ⟨fd, F⟩ := cS.d.def_ 39 (d := ⟨("_law_row_fault", none), "_law_row_fault", "_law_row_fault", defArgs s_L_row_fault, defBody s_L_row_fault, defScope s_L_row_fault, [], []⟩) rfl; ⟨_, fd, fun_of F, (He.glo_ok X G (cS.d.fact 79 (f := .glo "_law_row_fault") rfl))⟩)
    d_fault := (let ⟨fd, F⟩ := cS.d.def_ 40 (d := ⟨("_law_fault", none), "_law_fault", "_law_fault", defArgs s_fault, defBody s_fault, defScope s_fault, [], []⟩) rfl; ⟨_, fd, fun_of F, (He.glo_ok X G (cS.d.fact 80 (f := .glo "_law_fault") rfl))⟩)
    d_shuffled := (let ⟨fd, F⟩ := cS.d.def_ 41 (d := ⟨("_law_shuffled", none), "_law_shuffled", "_law_shuffled", defArgs s_shuffled, defBody s_shuffled, defScope s_shuffled, [], []⟩) rfl; ⟨_, fd, fun_of F, (He.glo_ok X G (cS.d.fact 81 (f := .glo "_law_shuffled") rfl))⟩)
    d_told := (let ⟨fd, F⟩ := cS.d.def_ 42 (d := ⟨("_law_told", none), "_law_told", "_law_told", defArgs s_told, defBody s_told, defScope s_told, [], []⟩) rfl; ⟨_, fd, fun_of F, (He.glo_ok X G (cS.d.fact 82 (f := .glo "_law_told") rfl))⟩)
    d_law := (let ⟨fd, F⟩ := cS.d.def_ 43 (d := ⟨("law", none), "law", "law", defArgs s_law, defBody s_law, defScope s_law, [], []⟩) rfl; ⟨_, fd, fun_of F, (He.glo_ok X G (cS.d.fact 83 (f := .glo "law") rfl))⟩)
    x_BadRecord := HeM.xcB_ok (cS.ex_at (L := exL) 40 rfl) hz
    xf_BadRecord_index := eqO_ok (cS.ex_at (L := exL) 8 rfl)
    xf_BadRecord_what := eqO_ok (cS.ex_at (L := exL) 9 rfl)
    is_BadRecord := of_decide_eq_true (cS.ex_at (L := exL) 41 rfl)
    z1 := eqO_ok (ba hz).1
    z2 := of_decide_eq_true (ba hz).2 }
theorem law_end {w : World} {K : PySem.W.Frag} {h : Heap} {mg : Str → Option Value} {fa : Addr} (X : K.In h) (G : h.Ns mainGlobals mg) (hfa : mg ("law" : Str) = some (.ref fa)) (c : HeM.SaysM lawFile faL fnL iniL prpL tsL exB w K) :
    ∃ fd : FuncData, (∀ (s : Shared) (v : Value), BindsTo s fd ⟨[v], []⟩ [("_law_script", v)]) ∧ ∀ base : Heap, K.In base → base.Ns mainGlobals mg → FnOk Rw.prog w K mg base CX0 9 fa fd ["_law_script"] (spLaw K) := by
  have T : Txt Rw.prog w K mg (fun s => ga K (Str.ofString s)) := txt_mk X G rfl c (by decide +kernel)
  obtain ⟨f, fd, F, m⟩ := T.d_law
  have e := hfa.symm.trans m
  cases e
  exact ⟨fd, fun s v => Fun.bindsA1 F (fun _ _ _ _ _ _ us hl => match us, hl with | [_], _ => rfl) s v, fun base _ _ => ok_law F T⟩
end My
open PySem PySem.W PySem.Calls PyProof.Rows
set_option maxHeartbeats 0 in
theorem PySem.Challenge.cw_lastlife_k06_whole_facts_have_one_order_holds : PySem.Challenge.rw_lastlife_k06_whole_facts_have_one_order.Holds := by
  w_on; o_law
  refine HandSHeadRun.head_any (r := My.Rw) (q := view My.Rw.prog [46]) (H := My.hkM) (ob := My.obM) (M := 12000) (loose := My.looseL) (d := HandSHeadRun.topDef My.Rw.prog 46) (kwd := []) My.obM_eq
    (by kernel_rfl) (fun s => by kernel_rfl) My.runM (by kernel_rfl) (by kernel_rfl) (by kernel_rfl) (by rfl) (by first | assumption | decide +kernel) (by decide +kernel) ⟨rfl, rfl, rfl, rfl, rfl, by decide +kernel⟩ ?hw ?hc
  case hw => w_witness2
  case hc =>
    refine L2.walk_ofE (l := PySem.Challenge.rw_lastlife_k06_whole_facts_have_one_order) (n := 63) (k := 9) (x := "_law_script") (CX := L2.CX0) rfl (by decide) (by kernel_rfl) ⟨rfl, by decide, by decide⟩ ?F (fun _ _ _ _ z => z)
    intro w mg fa h Y G hmg0
    obtain ⟨K, KX, c⟩ := Y
    have hmg : mg ("law" : PySem.Str) = some (.ref fa) := by
      have e : (HandSHeadRun.topDef My.Rw.prog 46).name = ("law" : PySem.Str) := by kernel_rfl
      rw [← e]
      exact hmg0
    obtain ⟨fd, hb, hF⟩ := My.law_end (w := w) KX G hmg c
    exact ⟨K, fd, My.spLaw K, KX, hb, fun H a ns hl _ hS => ⟨a, ns, rfl, hS, hl, fun _ => rfl⟩, hF⟩
