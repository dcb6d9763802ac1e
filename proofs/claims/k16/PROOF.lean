import PyProof.Rows.All
import Wide.All
import OpenK.AllK
import Wide.FinOn
import HandS.ForMost
import HandS.ForExc
import HandS.MakeKwOnly
import HandS.ExcOwn
import HandS.Codes
import HandS.IsInst
import HandS.Style
import HandS.Flow
import HandS.ExcInit
import KE.KExcSuper
import HandS.ExcIs
import HandS.ExcField
import HandS.ClsMeth
import HandS.ExcValue
import HandS.Base
import HandS.Call
import HandS.Exc
import HandS.List
import KE.KSuper
import KE.KStateDown
import HandS.Ends
import HandS.More
import HandS.Words
import HandS.WordsExc
import HandS.Defaults
import HandS.Head0
import HandS.Head1
import HandS.Head2
import HandS.HeadEnd
import HandS.HeadHook1
import HandS.HeadHook2
import HandS.HeadHook3
import HandS.Property
import HandS.OwnEq
import KE.KOwnIter
import HandS.IterVal
import PyProof.InstSpecial
import HandS.Walk
import KE.GoesEnum
import HandS.TupLe
import HandS.TupAny
import HandS.SetKeys
import HandS.Strs
import HandS.Text
import HandS.Deep
import HandS.Star
import HandS.SlotsOwn
import HandS.Iter
import HandS.FStr
import KE.KFmtOwn
import PySem.Challenge.RW_lastlife_k16_takers_and_conditions_made
import PyProof.Rows.CallKwBuiltin
import HandS.SortKw
set_option Elab.async false
set_option linter.all false
set_option maxRecDepth 100000
set_option maxHeartbeats 4000000
/-! the draws: an object of six entries -/
namespace Dw
open PySem L2
/-- the entries of the draws -/
def drK (c : Addr) (nx dg rs sd tn : Int) : List (Key × V) :=
  [(.inr "cells", .ref c), (.inr "next", .int nx), (.inr "digits", .int dg), (.inr "rest", .int rs), (.inr "seed", .int sd), (.inr "turn", .int tn)]
section
variable {c : Addr} {nx dg rs sd tn y : Int}
theorem g_cells : valV (drK c nx dg rs sd tn) (.inr "cells") = some (.ref c) := rfl
theorem g_next : valV (drK c nx dg rs sd tn) (.inr "next") = some (.int nx) := rfl
theorem g_digits : valV (drK c nx dg rs sd tn) (.inr "digits") = some (.int dg) := rfl
theorem g_rest : valV (drK c nx dg rs sd tn) (.inr "rest") = some (.int rs) := rfl
theorem g_seed : valV (drK c nx dg rs sd tn) (.inr "seed") = some (.int sd) := rfl
theorem g_turn : valV (drK c nx dg rs sd tn) (.inr "turn") = some (.int tn) := rfl
theorem p_next : putK (drK c nx dg rs sd tn) (.inr "next") (.int y) = drK c y dg rs sd tn := rfl
theorem p_digits : putK (drK c nx dg rs sd tn) (.inr "digits") (.int y) = drK c nx y rs sd tn := rfl
theorem p_rest : putK (drK c nx dg rs sd tn) (.inr "rest") (.int y) = drK c nx dg y sd tn := rfl
theorem p_seed : putK (drK c nx dg rs sd tn) (.inr "seed") (.int y) = drK c nx dg rs y tn := rfl
theorem p_turn : putK (drK c nx dg rs sd tn) (.inr "turn") (.int y) = drK c nx dg rs sd y := rfl
end
/-- the draws at d, their cells at c -/
def Dr (H : Hp) (d c : Addr) : Prop := d ≠ c ∧ ∃ (ns : List Int) (nx dg rs sd tn : Int), H d = some (.dK (drK c nx dg rs sd tn)) ∧ H c = some (.lst (ns.map V.int)) ∧ ns.length ≤ 63 ∧ 0 ≤ nx
theorem Dr.keep {H H' : Hp} {d c : Addr} (x : Dr H d c) (kd : ∀ o, H d = some o → H' d = some o) (kc : ∀ o, H c = some o → H' c = some o) : Dr H' d c := by
  obtain ⟨n, ns, nx, dg, rs, sd, tn, h1, h2, h3, h4⟩ := x
  exact ⟨n, ns, nx, dg, rs, sd, tn, kd _ h1, kc _ h2, h3, h4⟩
theorem Dr.same {H H' : Hp} {d c : Addr} (x : Dr H d c) (k : Same H H') : Dr H' d c := x.keep (k d) (k c)
theorem Dr.upd {H : Hp} {d c a : Addr} {o : HO} (x : Dr H d c) (h1 : d ≠ a) (h2 : c ≠ a) : Dr (upd H a o) d c := x.keep (fun o e => by rw [upd_ne h1]; exact e) (fun o e => by rw [upd_ne h2]; exact e)
theorem Dr.new {H : Hp} {d c a : Addr} {o : HO} (x : Dr H d c) (h : H a = none) : Dr (L2.upd H a o) d c := by
  obtain ⟨n, ns, nx, dg, rs, sd, tn, h1, h2, h3, h4⟩ := id x
  exact x.upd (ne_of_none h1 h) (ne_of_none h2 h)
theorem Dr.ne {H : Hp} {d c a : Addr} (x : Dr H d c) (h : H a = none) : d ≠ a ∧ c ≠ a := by
  obtain ⟨n, ns, nx, dg, rs, sd, tn, h1, h2, h3, h4⟩ := id x
  exact ⟨ne_of_none h1 h, ne_of_none h2 h⟩
/-- all but the object at d is as it was -/
def But (d : Addr) (H H' : Hp) : Prop := ∀ b o, H b = some o → b ≠ d → H' b = some o
theorem But.refl (d : Addr) (H : Hp) : But d H H := fun _ _ h _ => h
theorem But.trans {d : Addr} {H H1 H2 : Hp} (a : But d H H1) (b : But d H1 H2) : But d H H2 := fun c o h n => b c o (a c o h n) n
theorem But.of {d : Addr} {H H1 : Hp} (a : Same H H1) : But d H H1 := fun c o h _ => a c o h
theorem But.upd (d : Addr) (H : Hp) (o : HO) : But d H (L2.upd H d o) := fun c u h n => by rw [upd_ne n]; exact h
theorem But.free {d a : Addr} {H H1 : Hp} (x : But d H H1) (hd : ∀ o, H1 d = some o → True) (h : H1 a = none) (n : a ≠ d) : H a = none := by
  cases e : H a with
  | none => rfl
  | some o => rw [x a o e n] at h; cases h
/-- a draw: a number from 0 to many - 1; nothing but the draws changes -/
def spNext : Sp := fun vs H Q _ => ∃ (d c : Addr) (many : Int), vs = [.ref d, .int many] ∧ Dr H d c ∧ 1 ≤ many ∧ many < 1073741824 ∧
  ∀ (k : Int) (H' : Hp), 0 ≤ k → k < many → Dr H' d c → But d H H' → Q (.int k) H'
/-- the draws of a script -/
def spDigits (K : PySem.W.Frag) : Sp := fun vs H Q _ => ∃ (a : Addr) (ns : List Int) (many : V), vs = [.ref a, many] ∧ SqL K H a (ns.map V.int) ∧ ns.length ≤ 63 ∧
  ∀ (d c : Addr) (H' : Hp), H d = none → H c = none → Dr H' d c → Same H H' → Q (.ref d) H'
theorem dgs {H : Hp} {a : Addr} {kvs : List (Key × V)} {x : Str} {v : V} (e : H a = some (.dK kvs)) (h : valV kvs (.inr x) = some v) : DGet H a (.str x) (some v) := by
  have q := DGet.k (k := .inr x) e
  rw [h] at q
  exact q
theorem dps {H : Hp} {a : Addr} {kvs kvs' : List (Key × V)} {x : Str} {v : V} (e : H a = some (.dK kvs)) (h : putK kvs (.inr x) v = kvs') (hl : kvs.length < sizeLine) : DPut H a (.str x) v (upd H a (.dK kvs')) := by
  have q := DPut.k (k := .inr x) (v := v) e hl
  rw [h] at q
  exact q
theorem dpu {H : Hp} {a : Addr} {kvs kvs' : List (Key × V)} {x : Str} {v : V} (h : putK kvs (.inr x) v = kvs') (hl : kvs.length < sizeLine) : DPut (upd H a (.dK kvs)) a (.str x) v (upd H a (.dK kvs')) := by
  have q := dps (H := upd H a (.dK kvs)) (a := a) upd_same h hl
  rw [upd_upd] at q
  exact q
theorem dr_len {c : Addr} {nx dg rs sd tn : Int} : (drK c nx dg rs sd tn).length < sizeLine := by show 6 < sizeLine; decide
end Dw
set_option Elab.async false
set_option linter.all false
set_option maxRecDepth 100000
set_option maxHeartbeats 4000000
/-! new instances and methods whose error is wished for at the caller's slots -/
namespace L2
open PySem PySem.Spec PyProof.Rows
/-- C(..), C(.., k = v, ..), o.m(..): what is raised is wished for at σ -/
def tMakeS (C : Addr) (sp : Sp) (dvs : List V) (E : St → XK) (t : TA) : TE := fun σ H Q => t σ H fun vs H1 => ∀ x dx, H1 x = none → H1 dx = none → dx ≠ x →
  sp (.ref x :: (vs ++ dvs)) (upd (upd H1 dx (.own x)) x (.ins C dx [])) (fun v H2 => v = .non ∧ Q (.ref x) H2) (E σ)
def tMakeKS (C : Addr) (n m : Nat) (sp : Sp) (gV : List V → List V → List V) (E : St → XK) (t tk : TA) : TE := fun σ H Q => t σ H fun vs H1 => tk σ H1 fun zs H2 => vs.length = n ∧ zs.length = m ∧ ∀ x dx, H2 x = none → H2 dx = none → dx ≠ x →
  sp (gV (.ref x :: vs) zs) (upd (upd H2 dx (.own x)) x (.ins C dx [])) (fun v H3 => v = .non ∧ Q (.ref x) H3) (E σ)
def tMethSA (C : Addr) (m : Str) (sp : Sp) (dvs : List V) (E : St → XK) (ta : TE) (t : TA) : TE := fun σ H Q => ta σ H fun x H1 => ∃ a dx fs, x = .ref a ∧ H1 a = some (.ins C dx fs) ∧ fs.lookup m = none ∧
  t σ H1 fun vs H2 => sp (x :: (vs ++ dvs)) H2 Q (E σ)
section
variable {X : Cx} {CX : CXT} {k n : Nat} {f C : Addr} {fd : FuncData} {ps ks : List Str} {sp : Sp} {E : St → XK} {x m : Str} {p pos apos : Pos} {e o : Expr} {es : List Expr} {kws : List Keyword} {ta : TE} {t tk : TA} {ds : List Value} {dvs : List V} {g : List Value → List Value → List Value} {gV : List V → List V → List V}
theorem mk_back {pins : List (Addr × Obj)} {σ : St} {H : Hp} {s s' : Shared} {Q : VK} {r : Result} {E1 : XK} {a : Addr} (hx : PassesAt CX X σ E1) (I2 : Inv X pins σ H s)
    (hq : CR CX X.stack X.prog X.w H s (fun v H3 => v = .non ∧ Q (.ref a) H3) E1 r s') :
    PySem.W.InitBack a (fun r s' => match r with | .ok (.ret u) => EP X pins σ Q u s' | .ok _ => False | .error e => X.xe e s') r s' := by
  cases r with
  | error e => exact hx pins H s e s' I2 hq
  | ok fl =>
    cases fl with
    | ret u =>
      obtain ⟨v, H', I3, rv, ev, q3⟩ := I2.after hq
      subst ev
      exact ⟨rv, V.ref a, H', I3, rfl, q3⟩
    | next => exact hq.elim
    | brk => exact hq.elim
    | cont => exact hq.elim
theorem run_makeS {pins : List (Addr × Obj)} {σ : St} {H : Hp} {s : Shared} {Q : VK} {us : List Value} {vs : List V} (M : Mk X.K C f) (F : FnOk X.prog X.w X.K X.mg X.base CX k f fd ps sp) (hr : Room (k + 1) X.A) (hb : Binds X.K fd ps ds) (hd : Vals dvs ds)
    (hx : PassesAt CX X σ (E σ)) (I : Inv X pins σ H s) (r : Vals vs us)
    (h : ∀ x dx, H x = none → H dx = none → dx ≠ x → sp (.ref x :: (vs ++ dvs)) (upd (upd H dx (.own x)) x (.ins C dx [])) (fun v H2 => v = .non ∧ Q (.ref x) H2) (E σ)) :
    wpAny (model X.prog X.w) X.A (call (.ref C) us) (EP X pins σ Q) X.xe s := by
  have q0 := h (s.heap.objs.size + 1) s.heap.objs.size (I.hok.fresh (Nat.le_succ _)) (I.hok.fresh (Nat.le_refl _)) (Nat.ne_of_lt (Nat.lt_succ_self _))
  have J := Inv.made (C := C) I
  have rr : Vals (V.ref (s.heap.objs.size + 1) :: (vs ++ dvs)) (Value.ref (s.heap.objs.size + 1) :: (us ++ ds)) := .cons rfl (r.append hd)
  have hl : (Value.ref (s.heap.objs.size + 1) :: us ++ ds).length = ps.length := (rr.length.symm.trans (F.len _ _ _ _ q0))
  exact wpAny_call (make_map (f := f) I.kIn M.makes M.init (beq_iff_eq.mp M.fn) (codeAny_mono (F.run _ X.stack _ _ ⟨Value.ref (s.heap.objs.size + 1) :: us, []⟩ (Value.ref (s.heap.objs.size + 1) :: (us ++ ds)) _ _ (E σ) (hr.make C us [])
    (J.env0.make C us []) (hb _ (Value.ref (s.heap.objs.size + 1) :: us) J.kIn hl) rr q0) fun r s' q => mk_back hx J q))
theorem run_makeKS {pins : List (Addr × Obj)} {σ : St} {H : Hp} {s : Shared} {Q : VK} {us ws : List Value} {vs zs : List V} (M : Mk X.K C f) (F : FnOk X.prog X.w X.K X.mg X.base CX k f fd ps sp) (hr : Room (k + 1) X.A) (hb : KBn X.K fd ps (n + 1) ks g gV) (hx : PassesAt CX X σ (E σ))
    (I : Inv X pins σ H s) (r : Vals vs us) (rz : Vals zs ws) (l1 : vs.length = n) (l2 : zs.length = ks.length)
    (h : ∀ x dx, H x = none → H dx = none → dx ≠ x → sp (gV (.ref x :: vs) zs) (upd (upd H dx (.own x)) x (.ins C dx [])) (fun v H2 => v = .non ∧ Q (.ref x) H2) (E σ)) :
    wpAny (model X.prog X.w) X.A (call (.ref C) us (ks.zip ws)) (EP X pins σ Q) X.xe s := by
  have q0 := h (s.heap.objs.size + 1) s.heap.objs.size (I.hok.fresh (Nat.le_succ _)) (I.hok.fresh (Nat.le_refl _)) (Nat.ne_of_lt (Nat.lt_succ_self _))
  have J := Inv.made (C := C) I
  have rr := hb.rel (show Vals (V.ref (s.heap.objs.size + 1) :: vs) (Value.ref (s.heap.objs.size + 1) :: us) from .cons rfl r) rz
  have n1 : (Value.ref (s.heap.objs.size + 1) :: us).length = n + 1 := congrArg Nat.succ (r.length.symm.trans l1)
  exact wpAny_call (make_map (f := f) I.kIn M.makes M.init (beq_iff_eq.mp M.fn) (codeAny_mono (F.run _ X.stack _ _ ⟨Value.ref (s.heap.objs.size + 1) :: us, ks.zip ws⟩ (g (Value.ref (s.heap.objs.size + 1) :: us) ws) _ _ (E σ) (hr.make C us (ks.zip ws))
    (J.env0.make C us (ks.zip ws)) (hb.to _ (Value.ref (s.heap.objs.size + 1) :: us) ws J.kIn n1 (rz.length.symm.trans l2)) rr q0) fun r s' q => mk_back hx J q))
/-- C(e, ..) -/
theorem pe_makeS (M : Mk X.K C f) (F : FnOk X.prog X.w X.K X.mg X.base CX k f fd ps sp) (hr : Room (k + 1) X.A) (hg : Gl X x) (hm : X.mg x = some (.ref C)) (hb : Binds X.K fd ps ds) (hd : Vals dvs ds) (hx : ∀ σ, PassesAt CX X σ (E σ)) (ha : PA X (e :: es) t)
    (hdb : (x == ("__debug__" : Str)) = false := by decide) (he : starEach (e :: es) X.env = (false, eval e X.env) :: starEach es X.env := by rfl) (hpl : (backTo pos (starEach es X.env)).any (·.1) = false := by rfl) :
    PE X (.Call (.Name x p) (e :: es) [] pos) (tMakeS C sp dvs E t) := ⟨fun pins s σ H Q I h =>
  wpAny_Call_Name_kw (ld_glob I hg hm (PySem.W.callWith_K (h₀ := X.base) I.ok.mod.kin M.kp (thn (ha.run pos pins s σ H _ I h) fun us s1 ⟨vs, H1, I1, r, q⟩ => ⟨I1.kIn, run_makeS M F hr hb hd (hx σ) I1 r q⟩) he hpl) hdb)⟩
/-- C(e, .., k = v, ..) -/
theorem pe_makeKS (M : Mk X.K C f) (F : FnOk X.prog X.w X.K X.mg X.base CX k f fd ps sp) (hr : Room (k + 1) X.A) (hg : Gl X x) (hm : X.mg x = some (.ref C)) (hb : KBn X.K fd ps (n + 1) ks g gV) (hx : ∀ σ, PassesAt CX X σ (E σ)) (ha : PA X (e :: es) t) (hkw : PK X kws tk)
    (hall : (backToKw pos (keywordEach kws X.env)).all (·.1.isSome) = true := by rfl) (hks : (backToKw pos (keywordEach kws X.env)).filterMap (·.1) = ks := by rfl) (hdb : (x == ("__debug__" : Str)) = false := by decide)
    (he : starEach (e :: es) X.env = (false, eval e X.env) :: starEach es X.env := by rfl) (hpl : ((backTo pos (starEach (e :: es) X.env)).any (·.1) || (backToKw pos (keywordEach kws X.env)).any (·.1.isNone)) = false := by rfl) :
    PE X (.Call (.Name x p) (e :: es) kws pos) (tMakeKS C n ks.length sp gV E t tk) := ⟨fun pins s σ H Q I h =>
  wpAny_Call_Name_kw (ld_glob I hg hm (PySem.W.callWith_KW (h₀ := X.base) I.ok.mod.kin M.kp hall (thn (ha.run pos pins s σ H _ I h) fun us s1 ⟨vs, H1, I1, r, q⟩ =>
    thn (hkw.run pos pins s1 σ H1 _ I1 q) fun ws s2 ⟨zs, H2, I2, rz, l1, l2, q2⟩ => ⟨I2.kIn, by rw [hks]; exact run_makeKS M F hr hb (hx σ) I2 r rz l1 l2 q2⟩) hpl he) hdb)⟩
/-- o.m(e, ..) -/
theorem pe_methSA {pl : Sem Bool} (ho : PE X o ta) (c : Cls X.K C) (hm : Meth X.K C m f) (F : FnOk X.prog X.w X.K X.mg X.base CX k f fd ps sp) (hr : Room k X.A) (hb : Binds X.K fd ps []) (hx : ∀ σ, PassesAt CX X σ (E σ)) (ha : PA X (e :: es) t)
    (hst : starEach (e :: es) X.env = (false, eval e X.env) :: starEach es X.env := by rfl) (hpl : (backTo pos (starEach es X.env)).any (·.1) = false := by rfl)
    (ht : eval (.Call (.Attribute o m apos) (e :: es) [] pos) X.env = (do
      let v0 ← eval o X.env
      standAt apos.atName
      let (f1, first) ← holding [v0] (getMethod v0 m pl)
      callWith pos f1 first (backTo pos (starEach (e :: es) X.env)) (backToKw pos (keywordEach [] X.env))) := by rfl) :
    PE X (.Call (.Attribute o m apos) (e :: es) [] pos) (tMethSA C m sp [] E ta t) := by
  refine ⟨fun pins s σ H Q I h => PySem.W.methodCall_KW (pl := pl) (thn (ho.run pins s σ H _ I h) fun u s1 hh => ?_) ht⟩
  obtain ⟨x, H1, I1, rx, a, dx, fs, ex, ea, l, q⟩ := hh
  subst ex
  obtain rfl : u = Value.ref a := rx
  refine getmeth_ok I1 ea c hm l (PySem.W.callWith_K (first := [.ref a]) (h₀ := X.base) I.ok.mod.kin hm.kp (thn (ha.run pos pins s1 σ H1 _ I1 q) fun us s2 hh2 => ?_) hst hpl)
  obtain ⟨vs, H2, I2, r, q2⟩ := hh2
  rw [List.append_nil] at q2
  exact ⟨I2.kIn, run_fnS (us := .ref a :: us) (vs := .ref a :: vs) F hr hb (hx σ) I2 (.cons rfl r) q2⟩
end
end L2
set_option Elab.async false
set_option linter.all false
set_option maxRecDepth 100000
set_option maxHeartbeats 4000000
namespace L2
open PySem PySem.Spec PyProof.Rows
/-- a def of the text that keeps sp, as its callers need it -/
def Cal (P : Program) (w : World) (K : PySem.W.Frag) (mg : Str → Option Value) (base : Heap) (CX : CXT) (k : Nat) (x : Str) (ps : List Str) (sp : Sp) : Prop :=
  ∃ (f : Addr) (fd : FuncData), FnOk P w K mg base CX k f fd ps sp ∧ mg x = some (.ref f) ∧ PySem.W.keepIn K (.ref f) = true ∧ Binds K fd ps []
/-- a method of the class at C that keeps sp -/
def CalM (P : Program) (w : World) (K : PySem.W.Frag) (mg : Str → Option Value) (base : Heap) (CX : CXT) (k : Nat) (C : Addr) (m : Str) (ps : List Str) (sp : Sp) : Prop :=
  ∃ (f : Addr) (fd : FuncData), FnOk P w K mg base CX k f fd ps sp ∧ Meth K C m f ∧ Binds K fd ps []
/-- the class at C makes its instances by sp -/
def CalC (P : Program) (w : World) (K : PySem.W.Frag) (mg : Str → Option Value) (base : Heap) (CX : CXT) (k : Nat) (C : Addr) (ps : List Str) (sp : Sp) : Prop :=
  ∃ (f : Addr) (fd : FuncData), FnOk P w K mg base CX k f fd ps sp ∧ Mk K C f ∧ Binds K fd ps []
/-- where a def stands -/
def Def (K : PySem.W.Frag) (mg : Str → Option Value) (x : Str) (st : Stmt) : Prop := ∃ (f : Addr) (fd : FuncData), Fun K x x st f fd ∧ mg x = some (.ref f)
def DefM (K : PySem.W.Frag) (C : Addr) (m qual : Str) (st : Stmt) : Prop := ∃ (f : Addr) (fd : FuncData), Fun K m qual st f fd ∧ Meth K C m f
def DefC (K : PySem.W.Frag) (C : Addr) (qual : Str) (st : Stmt) : Prop := ∃ (f : Addr) (fd : FuncData), Fun K "__init__" qual st f fd ∧ Mk K C f
section
variable {X : Cx} {CX : CXT} {k : Nat} {ps : List Str} {sp : Sp} {x : Str} {p pos apos : Pos} {e o : Expr} {es : List Expr} {t : TA} {ta : TE} {v : V} {C : Addr} {m : Str}
theorem pe_cal (c : Cal X.prog X.w X.K X.mg X.base CX k x ps sp) (hr : Room k X.A) (ha : PA X (e :: es) t) (hx : Passes CX X E0 := by first | exact pass0 | exact passL) (hg : Gl X x := by rfl) (hdb : (x == ("__debug__" : Str)) = false := by decide) (he : starEach (e :: es) X.env = (false, eval e X.env) :: starEach es X.env := by rfl)
    (hpl : (backTo pos (starEach es X.env)).any (·.1) = false := by rfl) : PE X (.Call (.Name x p) (e :: es) [] pos) (tCall sp [] E0 t) := by
  obtain ⟨f, fd, h1, h2, h3, h4⟩ := c
  exact pe_call h1 hr hg h2 h3 h4 .nil hx ha hdb he hpl
theorem pe_cal0 (c : Cal X.prog X.w X.K X.mg X.base CX k x ps sp) (hr : Room k X.A) (hx : Passes CX X E0 := by first | exact pass0 | exact passL) (hg : Gl X x := by rfl) (hdb : (x == ("__debug__" : Str)) = false := by decide) : PE X (.Call (.Name x p) [] [] pos) (tCall sp [] E0 tNil) := by
  obtain ⟨f, fd, h1, h2, h3, h4⟩ := c
  exact pe_call0 h1 hr hg h2 h3 h4 .nil hx hdb
/-- f(e, ..) within a try: what it raises is wished for at the slots -/
theorem pe_calS {E : St → XK} (c : Cal X.prog X.w X.K X.mg X.base CX k x ps sp) (hr : Room k X.A) (hx : ∀ σ, PassesAt CX X σ (E σ)) (ha : PA X (e :: es) t) (hg : Gl X x := by rfl) (hdb : (x == ("__debug__" : Str)) = false := by decide) (he : starEach (e :: es) X.env = (false, eval e X.env) :: starEach es X.env := by rfl)
    (hpl : (backTo pos (starEach es X.env)).any (·.1) = false := by rfl) : PE X (.Call (.Name x p) (e :: es) [] pos) (tCallS sp E t) := by
  obtain ⟨f, fd, h1, h2, h3, h4⟩ := c
  exact pe_callS h1 hr hg h2 h3 h4 hx ha hdb he hpl
/-- C(e, ..) -/
theorem pe_mk (c : CalC X.prog X.w X.K X.mg X.base CX k C ps sp) (hm : X.mg x = some (.ref C)) (hr : Room (k + 1) X.A) (ha : PA X (e :: es) t) (hx : Passes CX X E0 := by first | exact pass0 | exact passL) (hg : Gl X x := by rfl) (hdb : (x == ("__debug__" : Str)) = false := by decide) (he : starEach (e :: es) X.env = (false, eval e X.env) :: starEach es X.env := by rfl)
    (hpl : (backTo pos (starEach es X.env)).any (·.1) = false := by rfl) : PE X (.Call (.Name x p) (e :: es) [] pos) (tMake C sp [] E0 t) := by
  obtain ⟨f, fd, h1, h2, h4⟩ := c
  exact pe_make h2 h1 hr hg hm h4 .nil hx ha hdb he hpl
theorem pe_mkS {E : St → XK} (c : CalC X.prog X.w X.K X.mg X.base CX k C ps sp) (hm : X.mg x = some (.ref C)) (hr : Room (k + 1) X.A) (hx : ∀ σ, PassesAt CX X σ (E σ)) (ha : PA X (e :: es) t) (hg : Gl X x := by rfl) (hdb : (x == ("__debug__" : Str)) = false := by decide) (he : starEach (e :: es) X.env = (false, eval e X.env) :: starEach es X.env := by rfl)
    (hpl : (backTo pos (starEach es X.env)).any (·.1) = false := by rfl) : PE X (.Call (.Name x p) (e :: es) [] pos) (tMakeS C sp [] E t) := by
  obtain ⟨f, fd, h1, h2, h4⟩ := c
  exact pe_makeS h2 h1 hr hg hm h4 .nil hx ha hdb he hpl
/-- o.m(e, ..), o.m() -/
theorem pe_mth {pl : Sem Bool} (cl : Cls X.K C) (c : CalM X.prog X.w X.K X.mg X.base CX k C m ps sp) (hr : Room k X.A) (ho : PE X o ta) (ha : PA X (e :: es) t) (hx : Passes CX X E0 := by first | exact pass0 | exact passL) (hst : starEach (e :: es) X.env = (false, eval e X.env) :: starEach es X.env := by rfl) (hpl : (backTo pos (starEach es X.env)).any (·.1) = false := by rfl)
    (ht : eval (.Call (.Attribute o m apos) (e :: es) [] pos) X.env = (do
      let v0 ← eval o X.env
      standAt apos.atName
      let (f1, first) ← holding [v0] (getMethod v0 m pl)
      callWith pos f1 first (backTo pos (starEach (e :: es) X.env)) (backToKw pos (keywordEach [] X.env))) := by rfl) : PE X (.Call (.Attribute o m apos) (e :: es) [] pos) (tMeth C m sp [] E0 ta t) := by
  obtain ⟨f, fd, h1, h2, h4⟩ := c
  exact pe_meth ho cl h2 h1 hr h4 .nil hx ha hst hpl ht
theorem pe_mth0 {pl : Sem Bool} (cl : Cls X.K C) (c : CalM X.prog X.w X.K X.mg X.base CX k C m ps sp) (hr : Room k X.A) (ho : PE X o ta) (hx : Passes CX X E0 := by first | exact pass0 | exact passL)
    (ht : eval (.Call (.Attribute o m apos) [] [] pos) X.env = (do
      let v0 ← eval o X.env
      standAt apos.atName
      let (f1, first) ← holding [v0] (getMethod v0 m pl)
      callWith pos f1 first (backTo pos (starEach [] X.env)) (backToKw pos (keywordEach [] X.env))) := by rfl) : PE X (.Call (.Attribute o m apos) [] [] pos) (tMeth C m sp [] E0 ta tNil) := by
  obtain ⟨f, fd, h1, h2, h4⟩ := c
  exact pe_meth0 ho cl h2 h1 hr h4 .nil hx ht
theorem pe_mthS {pl : Sem Bool} {E : St → XK} (cl : Cls X.K C) (c : CalM X.prog X.w X.K X.mg X.base CX k C m ps sp) (hr : Room k X.A) (ho : PE X o ta) (hx : ∀ σ, PassesAt CX X σ (E σ)) (ha : PA X (e :: es) t) (hst : starEach (e :: es) X.env = (false, eval e X.env) :: starEach es X.env := by rfl) (hpl : (backTo pos (starEach es X.env)).any (·.1) = false := by rfl)
    (ht : eval (.Call (.Attribute o m apos) (e :: es) [] pos) X.env = (do
      let v0 ← eval o X.env
      standAt apos.atName
      let (f1, first) ← holding [v0] (getMethod v0 m pl)
      callWith pos f1 first (backTo pos (starEach (e :: es) X.env)) (backToKw pos (keywordEach [] X.env))) := by rfl) : PE X (.Call (.Attribute o m apos) (e :: es) [] pos) (tMethSA C m sp [] E ta t) := by
  obtain ⟨f, fd, h1, h2, h4⟩ := c
  exact pe_methSA ho cl h2 h1 hr h4 hx ha hst hpl ht
end
/-- a module's constant -/
theorem pe_gl {X : Cx} {x : Str} {pos : Pos} {v : V} (h : ∃ u, X.mg x = some u ∧ RelV v u) (hg : Gl X x := by rfl) (hdb : (x == ("__debug__" : Str)) = false := by decide) : PE X (.Name x pos) (tC v) := by
  obtain ⟨u, hm, r⟩ := h
  exact pe_glob hg hm r hdb
/-- a built-in class as a value -/
theorem pe_ty {X : Cx} {x : Str} {pos : Pos} (n : String) (hm : X.mg x = none) (hg : Gl X x := by rfl) (hv : bootBuiltins x = some (.type n) := by decide +kernel) (hn : x ≠ "__name__" := by decide) (hd : (x == ("__debug__" : Str)) = false := by decide) : PE X (.Name x pos) (tC (.ty n)) :=
  pe_bltn hg hm hv rfl hn hd
/-- an own class as a value -/
theorem pe_cls {X : Cx} {x : Str} {pos : Pos} {C : Addr} (hm : X.mg x = some (.ref C)) (hg : Gl X x := by rfl) (hd : (x == ("__debug__" : Str)) = false := by decide) : PE X (.Name x pos) (tC (.ref C)) := pe_glob hg hm rfl hd
/-- a plain value and the name of its type -/
inductive Dm (K : PySem.W.Frag) (H : Hp) : V → String → Prop where
  | non : Dm K H .non "NoneType"
  | bl (b : Bool) : Dm K H (.bl b) "bool"
  | int (i : Int) : Dm K H (.int i) "int"
  | str (x : Str) (h : x.length ≤ sizeLine) : Dm K H (.str x) "str"
  | lst {a : Addr} {xs : List V} (e : H a = some (.lst xs)) : Dm K H (.ref a) "list"
  | tup {a : Addr} {xs : List V} (e : H a = some (.tup xs)) : Dm K H (.ref a) "tuple"
section
variable {K : PySem.W.Frag} {H H' : Hp} {v : V} {n : String}
theorem Dm.mono (d : Dm K H v n) (k : ∀ a o, v = .ref a → H a = some o → (∃ o', H' a = some o' ∧ ((∃ xs ys, o = .lst xs ∧ o' = .lst ys) ∨ o' = o))) : Dm K H' v n := by
  cases d with
  | non => exact .non
  | bl b => exact .bl b
  | int i => exact .int i
  | str x h => exact .str x h
  | lst e =>
    obtain ⟨o', h1, h2⟩ := k _ _ rfl e
    rcases h2 with ⟨xs, ys, _, h3⟩ | h3
    · subst h3; exact .lst h1
    · subst h3; exact .lst h1
  | tup e =>
    obtain ⟨o', h1, h2⟩ := k _ _ rfl e
    rcases h2 with ⟨xs, ys, h3, _⟩ | h3
    · cases h3
    · subst h3; exact .tup h1
theorem Dm.same (d : Dm K H v n) (k : Same H H') : Dm K H' v n := d.mono fun a o _ e => ⟨o, k a o e, .inr rfl⟩
theorem Dm.ty (d : Dm K H v n) : TyX K H v (.type n) := by
  cases d with
  | non => exact .base .non
  | bl b => exact .base (.bl b)
  | int i => exact .base (.int i)
  | str x h => exact .base (.str x)
  | lst e => exact .base (.lst e)
  | tup e => exact .base (.tup e)
end
theorem sNew {H : Hp} {p : Addr} {o : HO} (h : H p = none) : Same H (upd H p o) := fun b u e => by rw [upd_ne (ne_of_none e h)]; exact e
/-! the same rules, the written part named -/
section
variable {X : Cx} {K : PySem.W.Frag}
theorem ix_listK (h : X.K = K) : IxR X (rIxL K) := h ▸ ix_list
theorem ix_tupK (h : X.K = K) : IxR X (rIxT K) := h ▸ ix_tup
theorem call_isiK' (h : X.K = K) : CallR X (.builtin "isinstance") (rIsi K) := h ▸ call_isi
theorem call_isiTK (h : X.K = K) : CallR X (.builtin "isinstance") (rIsiT K) := h ▸ call_isiT
theorem sl_listK (h : X.K = K) : SlR X (rSlL K) := h ▸ sl_list
end
/-- a comprehension over a text -/
theorem lc_str {x : Str} {g : TG} {tt : TT} {te : TE} {vs : List Nat} {σ : St} {H1 : Hp} {D : Addr} {Qd : Hp → Prop} (Pv : Nat → Hp → Prop) (h0 : Pv 0 (upd H1 D (.lst [])))
    (hs : ∀ i c H, x.cps[i]? = some c → Pv i H → g (.str ⟨#[c]⟩) (wipe σ vs) H fun σ2 H2 => wipe σ2 vs = wipe σ vs ∧ tt σ2 H2 fun b H3 =>
      if b = true then te σ2 H3 fun y H4 => ∃ acc, H4 D = some (.lst acc) ∧ acc.length < sizeLine ∧ Pv (i + 1) (upd H4 D (.lst (acc ++ [y]))) else Pv (i + 1) H3) (hd : ∀ H, Pv x.cps.size H → Qd H) :
    ∃ W : Nat → Nat → Hp → Prop, (∃ m, W 0 m (upd H1 D (.lst []))) ∧ ∀ i m H, W i m H →
      ((Its x).stop i H ∧ Qd H) ∨ ((Its x).go i H ∧ ∃ Nx : Hp → Prop, (∀ H', Nx H' → ∃ m', m' < m ∧ W (i + 1) m' H') ∧ ∀ y H', (Its x).yld i H y H' → g y (wipe σ vs) H' fun σ2 H2 => wipe σ2 vs = wipe σ vs ∧ tt σ2 H2 fun b H3 =>
        if b = true then te σ2 H3 fun y H4 => ∃ acc, H4 D = some (.lst acc) ∧ acc.length < sizeLine ∧ Nx (upd H4 D (.lst (acc ++ [y]))) else Nx H3) := by
  refine ⟨fun i m H => m = x.cps.size - i ∧ i ≤ x.cps.size ∧ Pv i H, ⟨x.cps.size, by simp, Nat.zero_le _, h0⟩, ?_⟩
  rintro i m H ⟨rfl, hi, p⟩
  by_cases hlt : i < x.cps.size
  · refine .inr ⟨hlt, Pv (i + 1), fun H' p' => ⟨x.cps.size - (i + 1), by omega, rfl, by omega, p'⟩, ?_⟩
    rintro y H' ⟨rfl, c, hc, rfl⟩
    exact hs i c H' hc p
  · have e : i = x.cps.size := by omega
    subst e
    exact .inl ⟨Nat.le_refl _, hd H p⟩
/-- a for over a text -/
theorem for_strT {x : Str} {g : TG} {tb : TS} {D : Ends} {σ : St} {H : Hp} (Pv : Nat → St → Hp → Prop) (h0 : Pv 0 σ H)
    (hs : ∀ i c σ H, x.cps[i]? = some c → Pv i σ H → g (.str ⟨#[c]⟩) σ H fun σ2 H2 => tb { D with nx := Pv (i + 1), ct := Pv (i + 1), bk := D.nx } σ2 H2) (hd : ∀ σ H, Pv x.cps.size σ H → D.nx σ H) :
    ∃ W : Nat → Nat → St → Hp → Prop, (∃ m, W 0 m σ H) ∧ ∀ i m σ H, W i m σ H →
      ((Its x).stop i H ∧ D.nx σ H) ∨ ((Its x).go i H ∧ ∃ N : St → Hp → Prop, (∀ σ' H', N σ' H' → ∃ m', m' < m ∧ W (i + 1) m' σ' H') ∧ ∀ y H', (Its x).yld i H y H' → g y σ H' fun σ2 H2 => tb { D with nx := N, ct := N, bk := D.nx } σ2 H2) := by
  refine ⟨fun i m σ H => m = x.cps.size - i ∧ i ≤ x.cps.size ∧ Pv i σ H, ⟨x.cps.size, by simp, Nat.zero_le _, h0⟩, ?_⟩
  rintro i m σ H ⟨rfl, hi, p⟩
  by_cases hlt : i < x.cps.size
  · refine .inr ⟨hlt, Pv (i + 1), fun σ' H' p' => ⟨x.cps.size - (i + 1), by omega, rfl, by omega, p'⟩, ?_⟩
    rintro y H' ⟨rfl, c, hc, rfl⟩
    exact hs i c σ H' hc p
  · have e : i = x.cps.size := by omega
    subst e
    exact .inl ⟨Nat.le_refl _, hd σ H p⟩
end L2
set_option Elab.async false
set_option linter.all false
set_option maxRecDepth 100000
set_option maxHeartbeats 4000000
namespace PySem
namespace ErrL
open PySem.W PySem.Calls PyProof.Rows PySem.HandSPX
/-! own errors whose first row calls the base's maker through super() -/
def supS (args : List Expr) (a1 a2 a3 a4 a5 : Pos) : Stmt :=
  .Expr (.Call (.Attribute (.Call (.Name "super" a1) [] [] a2) "__init__" a3) args [] a4) a5
def stoS (f : Str) (q1 q2 q3 q4 : Pos) : Stmt :=
  .Assign [.Attribute (.Name "self" q1) f q2] (.Name f q3) q4
/-- the facts about an error class at C whose maker stands at fI -/
structure SupC (prog : Program) (K : Frag) (C fI : Addr) (qual : Str) (params : Arguments) (body : List Stmt) (scope : Scope) : Prop where
  cls : ∃ nm q N bs bm sn sub ab col dd k0 k1 k2 k3 k5, K.lookup C = some (excClassObj nm q C N bs bm true sn sub ab col dd k0 k1 k2 k3 k5 "ValueError.__new__") ∧ refsVE bm = true
  fn : ∃ (oc : Value) (od : Option Addr) (kV doc pm : Value) (an : Option Addr) (cda : Addr) (ct : Value) (osl : Array (Option Value)) (cc : Addr) (vs : Array Value) (file : Str) (tf : Tok) (ccl : Value) (cdd : Option Addr) (ccs : Array (Option Value)) (cl : Value) (cld : Option Addr) (csl : Array (Option Value)),
    K.lookup fI = some ⟨oc, od, .func (ksFn "__init__" qual params body scope .none kV doc pm an (.ref cda) ct cc), osl⟩ ∧ codeIn K (.ref cda) qual = true ∧
    K.lookup cda = some ⟨ccl, cdd, .fields vs, ccs⟩ ∧ vs[2]? = some (.str file tf) ∧ ((prog.main.file : Str) == file) = true ∧
    K.lookup cc = some ⟨cl, cld, .cell (some (.ref C)), csl⟩
  self1 : mroIn K C (.ref C) = some true
  isVE : subIn K (.ref C) (.type "ValueError") = some true
  opq : nsIn K cStatics "thirdparty.any" = some none
  sup : ks_superIn K C C "__init__" = some (some (.builtin "ValueError.__init__"))
  sa : findIn K (.ref C) "__setattr__" = some (some (.builtin "object.__setattr__"))
  iC : findIn K (.ref C) "__init__" = some (some (.ref fI))
  tC : typeIn K (.ref fI) = some (.type "function")
  top : (prog.main.scope.names.lookup ("super" : Str)).isSome = false
/-- a method-wrapper of ValueError.__init__, bound to x, called -/
theorem call_mw {prog : Program} {w : World} {A : Around} {E : Value → Shared → Prop} {h : Heap} {g : Array GenState} {d : Drawn} {t : Nat} {os : OsState}
    {nm q : Str} {C N : Addr} {bs bm : List Value} {hdct : Bool} {sn : List Str} {sub : List Value} {ab : Bool} {col : Option Bool} {dd : Option Addr} {k0 k1 k2 k3 k5 : Option Value}
    {u e t0 : Addr} {rest : List Value} {Q : Value → Shared → Prop}
    (hC : h.get? C = some (excClassObj nm q C N bs bm hdct sn sub ab col dd k0 k1 k2 k3 k5 "ValueError.__new__")) (he : h.get? e = some (excO C t0)) (hu : h.get? u = some (kxs_mw "ValueError.__init__" e)) (hrest : rest.length ≤ sizeLine)
    (hq : ∀ h' t1, (∀ b o, b ≠ e → h.get? b = some o → h'.get? b = some o) → h'.get? e = some (excO C t1) → Q .none ⟨h', g, d, t, os⟩) :
    wpAny (model prog w) A (call (.ref u) rest) Q E ⟨h, g, d, t, os⟩ := by
  refine wpAny_call (codeAny_of_tree ?_)
  show wpAny _ A.in1 (callAny (.ref u) ⟨rest, []⟩) _ _ _
  simp only [callAny]
  refine wpAny_bind (wpAny_load hu ?_)
  refine KFB.if_so (by rfl) ?_
  refine wpAny_bind (check_bound_init F.excBase_ValueError.toExcCallFacts hC he rfl ?_)
  refine wpAny_bind (wpAny_pure (wpAny_pure ?_))
  refine ⟨plainId_quiet F.excBase_ValueError.init.plain _, codeAny_builtin F.excBase_ValueError.initEntry ?_⟩
  wp_walk
  refine hq _ h.objs.size (fun b o hb ho => ?_) ?_
  · rw [Heap.get?_update_other _ _ (Ne.symm hb)]
    exact Heap.get?_push_of_some _ ho
  · rw [Heap.get?_update_self _ (Heap.get?_push_of_some _ he) rfl]
    rfl

/-- what stands behind super().__init__(..): the exception has new args, all else is kept -/
theorem sup_first {prog : Program} {w : World} {A : Around} {E : Value → Shared → Prop} {K : Frag} {C fI : Addr} {qual : Str} {body : List Stmt} {scope : Scope} {mg mb : Str → Option Value}
    {ar : Arg} {x t0 L cda cc : Addr} {m : Str → Option Value} {e0 : Expr} {es : List Expr} {a1 a2 a3 a4 a5 : Pos} {s : Shared} {Q : Flow → Shared → Prop} {fd : FuncData} {oc ccl cl : Value} {od cdd cld : Option Addr} {osl ccs csl : Array (Option Value)} {vs : Array Value} {file : Str} {tf : Tok}
    {nm q : Str} {N : Addr} {bs bm : List Value} {sn : List Str} {sub : List Value} {ab : Bool} {col : Option Bool} {dd : Option Addr} {k0 k1 k2 k3 k5 : Option Value}
    (hC : K.lookup C = some (excClassObj nm q C N bs bm true sn sub ab col dd k0 k1 k2 k3 k5 "ValueError.__new__"))
    (X : K.In s.heap) (hg : s.heap.Ns mainGlobals mg) (hb : s.heap.Ns builtinsNs mb) (hbt : ∀ y : Str, y ≠ "__name__" → mb y = bootBuiltins y) (hsu : mg "super" = none)
    (hf : K.lookup fI = some ⟨oc, od, .func fd, osl⟩) (hp : (fd.params.posonlyargs ++ fd.params.args).head? = some ar)
    (hcode : K.lookup cda = some ⟨ccl, cdd, .fields vs, ccs⟩) (hvs : vs[2]? = some (.str file tf)) (hfile : ((prog.main.file : Str) == file) = true) (hcell : K.lookup cc = some ⟨cl, cld, .cell (some (.ref C)), csl⟩)
    (self1 : mroIn K C (.ref C) = some true) (isVE : subIn K (.ref C) (.type "ValueError") = some true) (opq : nsIn K cStatics "thirdparty.any" = some none) (sup : ks_superIn K C C "__init__" = some (some (.builtin "ValueError.__init__")))
    (htop : (prog.main.scope.names.lookup ("super" : Str)).isSome = false)
    (hns : s.heap.Ns L m) (hv : m ar.arg = some (.ref x)) (hx : s.heap.get? x = some (excO C t0))
    (hks : scope.names.lookup ("super" : Str) = some .globalImplicit) (hkc : scope.names.lookup ("__class__" : Str) = some .free) (hka : scope.names.lookup ar.arg = some .local) (hk : scope.kind = .function)
    (hargs : ∀ (s1 : Shared) (Q1 : List Value → Shared → Prop), s1.heap.Ns L m → s1.heap.Ns mainGlobals mg → s1.heap.Ns builtinsNs mb → (∀ us tk, us.length ≤ 10 → Q1 us { s1 with toks := tk }) →
      wpAny (model prog w) A (spliced (backTo a4 (starEach (e0 :: es) (ksEnv qual scope L fI (.ref cda) cc)))) Q1 E s1)
    (he : starEach (e0 :: es) (ksEnv qual scope L fI (.ref cda) cc) = (false, eval e0 (ksEnv qual scope L fI (.ref cda) cc)) :: starEach es (ksEnv qual scope L fI (.ref cda) cc))
    (hpl : (backTo a4 (starEach es (ksEnv qual scope L fI (.ref cda) cc))).any (·.1) = false)
    (hi : interactive (ksEnv qual scope L fI (.ref cda) cc) = false) {pl : Sem Bool}
    (hev : eval (.Call (.Attribute (.Call (.Name "super" a1) [] [] a2) "__init__" a3) (e0 :: es) [] a4) (ksEnv qual scope L fI (.ref cda) cc) = (do
      let ov ← attributeBase (.Call (.Name "super" a1) [] [] a2) "__init__" (ksEnv qual scope L fI (.ref cda) cc) (eval (.Call (.Name "super" a1) [] [] a2) (ksEnv qual scope L fI (.ref cda) cc))
      standAt a3.atName
      let (f, first) ← holding [ov] (getMethod ov "__init__" pl)
      callWith a4 f first (backTo a4 (starEach (e0 :: es) (ksEnv qual scope L fI (.ref cda) cc))) []))
    (hsw : swapsWith (.Call (.Attribute (.Call (.Name "super" a1) [] [] a2) "__init__" a3) (e0 :: es) [] a4) none a5.line (ksEnv qual scope L fI (.ref cda) cc) = pure false)
    (h : ∀ h' tk t1, (∀ b o, b ≠ x → s.heap.get? b = some o → h'.get? b = some o) → h'.get? x = some (excO C t1) → Q .next { s with heap := h', toks := tk }) :
    _root_.PySem.wpAt (model prog w) A (.func body (ksEnv qual scope L fI (.ref cda) cc)) (exec (supS (e0 :: es) a1 a2 a3 a4 a5) (ksEnv qual scope L fI (.ref cda) cc)) Q E s := by
  have hCc : clsIn K C = some { name := nm, bases := bs, mro := .ref C :: bm, ns := N, qualname := q, hasDict := true, slotNames := sn, subclasses := sub, abstract := ab, collection := col, hasDel := false } := by unfold clsIn; rw [hC] <;> rfl
  obtain ⟨hh, g, d, t, os⟩ := s
  have hCh := X _ _ hC
  have xC : x ≠ C := by
    rintro rfl
    rw [hCh] at hx
    cases hx
  unfold supS
  refine ks_wpAt_Expr_any (ks_wpAt_MethodCall ?_ hev) hi hsw
  refine ks_wpAt_super_base (env := ksEnv qual scope L fI (.ref cda) cc) hks hkc (by decide) rfl (X _ _ hf) rfl hp rfl (X _ _ hcode) rfl hvs hfile htop ?_
  refine ks_loadName_global hk hks (loadGlobal_builtin (env := ksEnv qual scope L fI (.ref cda) cc) hg hsu hb ((hbt _ (by decide +kernel)).trans (show bootBuiltins ("super" : Str) = some (.type "super") by decide +kernel)) ⟨rfl, ?_⟩)
  refine wpAny_loadName_free hk hkc rfl ⟨_, X _ _ hcell, rfl⟩ ?_
  refine wpAny_loadName_local hk hka hns hv ?_
  refine ks_wpAny_isType_cls hCh rfl ⟨rfl, ?_⟩
  refine ks_wpAny_call_super hCh rfl hx rfl (fun c e => ?_) (looks_mroIn X self1) (fun h1 e1 k1 => ?_)
  · cases e
  have X1 : K.In h1 := X.keeps k1
  have hx1 := k1 _ _ hx
  have hI : Looks (model prog w) h1 (isInstance (.ref x) (.type "ValueError")) true := (InstAt.type (od := none) ⟨hx1, rfl, rfl, trivial⟩).andThen (looks_subIn X1 isVE)
  have hsu2 := sup
  unfold ks_superIn at hsu2
  rw [hCc] at hsu2
  refine kxs_getMethod kxs_ValueError e1 (looks_opaque X1 opq) (l₀ := .ref C :: bm) ?_ rfl X1 hsu2 hI xC (by decide) ?_
  · exact fun A Q E s k q => wpAny_bind ((looks_clsIn X1 hCc) A _ E s k (wpAny_pure q))
  have k2 : ∀ b o, h1.get? b = some o → (h1.push (kxs_mw "ValueError.__init__" x)).get? b = some o := fun b o e => Heap.get?_push_of_some _ e
  have k12 : ∀ b o, hh.get? b = some o → (h1.push (kxs_mw "ValueError.__init__" x)).get? b = some o := fun b o e => k2 b o (k1 b o e)
  have mwn : (h1.push (kxs_mw "ValueError.__init__" x)).get? h1.objs.size = some (kxs_mw "ValueError.__init__" x) := Heap.get?_push_at rfl rfl
  rw [he]
  refine kxs_callWith (i := "ValueError.__init__") (x := x) (by show (false || (backTo a4 (starEach es (ksEnv qual scope L fI (.ref cda) cc))).any (·.1)) = false; rw [hpl]; rfl) ?_
  refine evalArgs_plain ?_
  have ha := hargs ⟨h1.push (kxs_mw "ValueError.__init__" x), g, d, t + 1, os⟩ (fun vs s₁ => KxsAt "ValueError.__init__" h1.objs.size x s₁.heap ∧ wpAny (model prog w) A (call (.ref h1.objs.size) ([] ++ vs)) (fun _ => Q .next) E s₁) (hns.keeps k12) (hg.keeps k12) (hb.keeps k12) (fun us tk hl => ?_)
  · rw [he] at ha
    exact ha
  refine ⟨mwn, ?_⟩
  refine call_mw ((X.keeps k12) _ _ hC) (k12 _ _ hx) mwn (Nat.le_trans hl (by rw [sizeLine_eq]; decide)) fun h' t1 k e => ?_
  exact h h' tk t1 (fun b o hb e => k b o hb (k12 b o e)) e

/-- what the text of the maker says: everything that hangs on its written scope -/
structure SupW (prog : Program) (w : World) (params : Arguments) (scope : Scope) (qual : Str) (fs : List Str) (ok : List Value → Prop) (e0 : Expr) (es : List Expr) (a1 a2 a3 a4 a5 : Pos) : Prop where
  hk : scope.kind = .function
  co : scope.isCoroutine = false
  gen : scope.isGenerator = false
  ks : scope.names.lookup ("super" : Str) = some .globalImplicit
  kc : scope.names.lookup ("__class__" : Str) = some .free
  kse : scope.names.lookup ("self" : Str) = some .local
  kf : ∀ f ∈ fs, scope.names.lookup f = some .local
  cell : ∀ y ∈ scope.names, y.2 ≠ .cell
  par : ∃ p, (params.posonlyargs ++ params.args).head? = some p ∧ p.arg = "self"
  hi : ∀ (L fI : Addr) (cd : Value) (cc : Addr), interactive (ksEnv qual scope L fI cd cc) = false
  hev : ∀ (L fI : Addr) (cd : Value) (cc : Addr), ∃ pl : Sem Bool, eval (.Call (.Attribute (.Call (.Name "super" a1) [] [] a2) "__init__" a3) (e0 :: es) [] a4) (ksEnv qual scope L fI cd cc) = (do
      let ov ← attributeBase (.Call (.Name "super" a1) [] [] a2) "__init__" (ksEnv qual scope L fI cd cc) (eval (.Call (.Name "super" a1) [] [] a2) (ksEnv qual scope L fI cd cc))
      standAt a3.atName
      let (f, first) ← holding [ov] (getMethod ov "__init__" pl)
      callWith a4 f first (backTo a4 (starEach (e0 :: es) (ksEnv qual scope L fI cd cc))) [])
  hsw : ∀ (L fI : Addr) (cd : Value) (cc : Addr), swapsWith (.Call (.Attribute (.Call (.Name "super" a1) [] [] a2) "__init__" a3) (e0 :: es) [] a4) none a5.line (ksEnv qual scope L fI cd cc) = pure false
  hst : ∀ (L fI : Addr) (cd : Value) (cc : Addr) (f : Str) (q1 q2 q3 q4 : Pos), swapsWith (.Name f q3) (some (.Attribute (.Name "self" q1) f q2)) q4.line (ksEnv qual scope L fI cd cc) = pure false
  he : ∀ (L fI : Addr) (cd : Value) (cc : Addr), starEach (e0 :: es) (ksEnv qual scope L fI cd cc) = (false, eval e0 (ksEnv qual scope L fI cd cc)) :: starEach es (ksEnv qual scope L fI cd cc)
  hpl : ∀ (L fI : Addr) (cd : Value) (cc : Addr), (backTo a4 (starEach es (ksEnv qual scope L fI cd cc))).any (·.1) = false
  hargs : ∀ (L fI : Addr) (cd : Value) (cc : Addr) (A : Around) (E : Value → Shared → Prop) (us : List Value) (s1 : Shared) (mg mb m : Str → Option Value) (Q1 : List Value → Shared → Prop), ok us → (∀ (i : Nat) (f : Str), fs[i]? = some f → m f = us[i]?) → us.length = fs.length → mg "str" = none → s1.heap.Ns L m → s1.heap.Ns mainGlobals mg → s1.heap.Ns builtinsNs mb →
      (∀ y : Str, y ≠ "__name__" → mb y = bootBuiltins y) → (∀ ws tk, ws.length ≤ 10 → Q1 ws { s1 with toks := tk }) →
      wpAny (model prog w) A (spliced (backTo a4 (starEach (e0 :: es) (ksEnv qual scope L fI cd cc)))) Q1 E s1
/-- what a maker leaves of a fresh exception at x: its dict holds the map -/
structure InitEnd (h h' : Heap) (x C dx : Addr) (mA : Str → Option Value) : Prop where
  keep : ∀ b o, b ≠ x → h.get? b = some o → h'.get? b = some o
  obj : ∃ t1, h'.get? x = some { cls := .ref C, dict := some dx, data := .fields #[.ref t1, .none, .none, .none, .bool false, .none] }
  dbig : h.objs.size ≤ dx
  dne : dx ≠ x
  ns : h'.Ns1 dx mA
theorem ldS {M : Model} {s : Shared} {env : Env} {m : Str → Option Value} {x : Str} {pos : Pos} {v : Value} {Q : Value → Shared → Prop} {A : Around} {E : Value → Shared → Prop} (hk : env.scope.kind = .function) (hl : env.kindOf x = some .local) (hn : s.heap.Ns env.locals m) (hv : m x = some v) (h : Q v s)
    (hd : (x == ("__debug__" : Str)) = false) : wpAny M A (eval (.Name x pos) env) Q E s := wpAny_Name (wpAny_loadName_local hk hl hn hv h) hd
section
variable {prog : Program} {w : World} {A : Around} {E : Value → Shared → Prop} {K : Frag} {C fI : Addr} {qual : Str} {params : Arguments} {body : List Stmt} {scope : Scope} {mg mb : Str → Option Value} {x t0 : Addr} {s : Shared} {R : Result → Shared → Prop}
    {f f1 f2 : Str} {ok : List Value → Prop} {e0 : Expr} {es : List Expr} {a1 a2 a3 a4 a5 q1 q2 q3 q4 r1 r2 r3 r4 : Pos}
theorem kin_but {h h' : Heap} (X : K.In h) (hx : K.lookup x = none) (k : ∀ b o, b ≠ x → h.get? b = some o → h'.get? b = some o) : K.In h' := fun a o e => k a o (fun z => by rw [z, hx] at e; cases e) (X a o e)
theorem ns_but {h h' : Heap} {L : Addr} {m : Str → Option Value} (n : L ≠ x) (hn : h.Ns L m) (k : ∀ b o, b ≠ x → h.get? b = some o → h'.get? b = some o) : h'.Ns L m := by
  obtain ⟨o, es, ep, ho, r⟩ := hn
  exact ⟨o, es, ep, k _ _ n ho, r⟩
/-- one field -/
theorem sup_init1 (T : SupC prog K C fI qual params [supS (e0 :: es) a1 a2 a3 a4 a5, stoS f q1 q2 q3 q4] scope) (W : SupW prog w params scope qual [f] ok e0 es a1 a2 a3 a4 a5) (hnf : findIn K (.ref C) f = some none) (hfd : (f == ("__debug__" : Str)) = false) (hfs : f ≠ "self") {v : Value} (hok : ok [v])
    (hb : ∀ (kV doc pm : Value) (an : Option Addr) (cdv ct : Value) (cc : Addr), bindArgs (ksFn "__init__" qual params [supS (e0 :: es) a1 a2 a3 a4 a5, stoS f q1 q2 q3 q4] scope .none kV doc pm an cdv ct cc) ⟨[.ref x, v], []⟩ = pure [(("self" : Str), Value.ref x), (f, v)])
    (X : K.In s.heap) (hlim : s.heap.NoLimit) (hg : s.heap.Ns mainGlobals mg) (hbn : s.heap.Ns builtinsNs mb) (hbt : ∀ y : Str, y ≠ "__name__" → mb y = bootBuiltins y) (hsu : mg "super" = none) (hstr : mg "str" = none)
    (hx : s.heap.get? x = some (excO C t0)) (hnx : K.lookup x = none) (hroom : A.depth < recursionLimit)
    (hq : ∀ h' tk dx, InitEnd s.heap h' x C dx (fun y => if y = f then some v else none) → R (.ok (.ret .none)) { s with heap := h', toks := tk }) :
    codeAny (model prog w) A (.call (.ref fI) ⟨[.ref x, v], []⟩) R s := by
  obtain ⟨nm, q, N, bs, bm, sn, sub, ab, col, dd, k0, k1, k2, k3, k5, hC, hbm⟩ := T.cls
  obtain ⟨oc, od, kV, doc, pm, an, cda, ct, osl, cc, vs, file, tf, ccl, cdd, ccs, cl, cld, csl, hf, hcd, hcode, hvs, hfile, hcell⟩ := T.fn
  obtain ⟨par, hp, hps⟩ := W.par
  have hcl : clsIn K C = some { name := nm, bases := bs, mro := .ref C :: bm, ns := N, qualname := q, hasDict := true, slotNames := sn, subclasses := sub, abstract := ab, collection := col, hasDel := false } := by unfold clsIn; rw [hC] <;> rfl
  refine ks_codeAny_call_defAt (fd := ksFn "__init__" qual params [supS (e0 :: es) a1 a2 a3 a4 a5, stoS f q1 q2 q3 q4] scope .none kV doc pm an (.ref cda) ct cc) (binds := [(("self" : Str), Value.ref x), (f, v)]) hroom (X _ _ hf) rfl hlim (codeRec_of X hcd) rfl (BindsTo.of_eq (hb ..)) W.cell ?_ (fun h₁ hn k₁ => ?_) W.co W.gen W.hk
  · intro y hy
    rcases List.mem_cons.mp hy with rfl | hy
    · exact W.kse
    · rcases List.mem_cons.mp hy with rfl | hy
      · exact W.kf f (List.mem_cons_self)
      · cases hy
  have hmf : (fun y => List.lookup y (List.reverse [(("self" : Str), Value.ref x), (f, v)])) f = some v := by
    show List.lookup f [(f, v), (("self" : Str), Value.ref x)] = some v
    simp [List.lookup]
  have hms : (fun y => List.lookup y (List.reverse [(("self" : Str), Value.ref x), (f, v)])) ("self" : Str) = some (Value.ref x) := by
    show List.lookup ("self" : Str) [(f, v), (("self" : Str), Value.ref x)] = some (.ref x)
    have e : (("self" : Str) == f) = false := by simpa using Ne.symm hfs
    simp [List.lookup, e]
  have X₁ : K.In h₁ := X.keeps k₁
  obtain ⟨pl, hev⟩ := W.hev s.heap.objs.size fI (.ref cda) cc
  show _root_.PySem.wpAt _ _ (.func _ (ksEnv qual scope s.heap.objs.size fI (.ref cda) cc)) (execs _ (ksEnv qual scope s.heap.objs.size fI (.ref cda) cc)) _ _ _
  refine ks_wpAt_execs_cons (sup_first hC X₁ (hg.keeps k₁) (hbn.keeps k₁) hbt hsu hf hp hcode hvs hfile hcell T.self1 T.isVE T.opq T.sup T.top hn (by rw [hps]; exact hms) (k₁ _ _ hx) W.ks W.kc (by rw [hps]; exact W.kse) W.hk ?_ (W.he ..) (W.hpl ..) (W.hi ..) hev (W.hsw ..) ?_)
  · intro s1 Q1 g1 g2 g3 g4
    refine W.hargs _ _ _ _ _ _ [v] s1 mg mb _ Q1 hok (fun i f' e => ?_) rfl hstr g1 g2 g3 hbt g4
    match i, e with
    | 0, e => cases e; exact hmf
  intro h₂ tk₂ t₁ k₂ hx₂
  refine wpAt_of_wpAny ?_
  have n₂ : s.heap.objs.size ≠ x := Nat.ne_of_gt (Heap.lt_size hx)
  have k12 : ∀ b o, b ≠ x → s.heap.get? b = some o → h₂.get? b = some o := fun b o hb e => k₂ b o hb (k₁ b o e)
  have X₂ : K.In h₂ := kin_but X₁ hnx k₂
  have hn₂ : h₂.Ns s.heap.objs.size _ := ns_but n₂ hn k₂
  show wpAny _ _ (execs _ _) _ _ _
  refine wpAny_execs_cons (plainObj_wpAny_Assign_Attribute ?_ (W.hst ..))
  refine ldS W.hk (W.kf f (List.mem_cons_self)) hn₂ hmf (ldS W.hk W.kse hn₂ hms ?_ (by decide)) hfd
  refine set_plain X₂ (ox := excO C t₁) (od := none) ⟨hx₂, rfl, rfl, trivial⟩ T.sa ?_
  refine exc_osa X₂ hx₂ hcl (show refsVE (.ref C :: bm) = true from hbm) rfl hnf (fun h₃ tk₃ dx k₃ dn dne hx₃ hn₃ => ?_)
  show wpAny _ _ (execs _ _) _ _ _
  refine wpAny_execs_nil (hq h₃ tk₃ dx ⟨fun b o hb e => k₃ b o hb (k12 b o hb e), ⟨_, hx₃⟩, ?_, dne, hn₃⟩)
  exact Nat.le_of_lt (Nat.lt_of_lt_of_le hn₂.lt dn)
/-- two fields -/
theorem sup_init2 (T : SupC prog K C fI qual params [supS (e0 :: es) a1 a2 a3 a4 a5, stoS f1 q1 q2 q3 q4, stoS f2 r1 r2 r3 r4] scope) (W : SupW prog w params scope qual [f1, f2] ok e0 es a1 a2 a3 a4 a5)
    (hnf1 : findIn K (.ref C) f1 = some none) (hnf2 : findIn K (.ref C) f2 = some none) (hfd1 : (f1 == ("__debug__" : Str)) = false) (hfd2 : (f2 == ("__debug__" : Str)) = false) (hfs1 : f1 ≠ "self") (hfs2 : f2 ≠ "self") (h12 : f1 ≠ f2) {v1 v2 : Value} (hok : ok [v1, v2])
    (hb : ∀ (kV doc pm : Value) (an : Option Addr) (cdv ct : Value) (cc : Addr), bindArgs (ksFn "__init__" qual params [supS (e0 :: es) a1 a2 a3 a4 a5, stoS f1 q1 q2 q3 q4, stoS f2 r1 r2 r3 r4] scope .none kV doc pm an cdv ct cc) ⟨[.ref x, v1, v2], []⟩ = pure [(("self" : Str), Value.ref x), (f1, v1), (f2, v2)])
    (X : K.In s.heap) (hlim : s.heap.NoLimit) (hg : s.heap.Ns mainGlobals mg) (hbn : s.heap.Ns builtinsNs mb) (hbt : ∀ y : Str, y ≠ "__name__" → mb y = bootBuiltins y) (hsu : mg "super" = none) (hstr : mg "str" = none)
    (hx : s.heap.get? x = some (excO C t0)) (hnx : K.lookup x = none) (hroom : A.depth < recursionLimit)
    (hq : ∀ h' tk dx, InitEnd s.heap h' x C dx (fun y => if y = f2 then some v2 else if y = f1 then some v1 else none) → R (.ok (.ret .none)) { s with heap := h', toks := tk }) :
    codeAny (model prog w) A (.call (.ref fI) ⟨[.ref x, v1, v2], []⟩) R s := by
  obtain ⟨nm, q, N, bs, bm, sn, sub, ab, col, dd, k0, k1, k2, k3, k5, hC, hbm⟩ := T.cls
  obtain ⟨oc, od, kV, doc, pm, an, cda, ct, osl, cc, vs, file, tf, ccl, cdd, ccs, cl, cld, csl, hf, hcd, hcode, hvs, hfile, hcell⟩ := T.fn
  obtain ⟨par, hp, hps⟩ := W.par
  have hcl : clsIn K C = some { name := nm, bases := bs, mro := .ref C :: bm, ns := N, qualname := q, hasDict := true, slotNames := sn, subclasses := sub, abstract := ab, collection := col, hasDel := false } := by unfold clsIn; rw [hC] <;> rfl
  have kf1 := W.kf f1 (List.mem_cons_self)
  have kf2 := W.kf f2 (List.mem_cons_of_mem _ (List.mem_cons_self))
  refine ks_codeAny_call_defAt (fd := ksFn "__init__" qual params [supS (e0 :: es) a1 a2 a3 a4 a5, stoS f1 q1 q2 q3 q4, stoS f2 r1 r2 r3 r4] scope .none kV doc pm an (.ref cda) ct cc) (binds := [(("self" : Str), Value.ref x), (f1, v1), (f2, v2)]) hroom (X _ _ hf) rfl hlim (codeRec_of X hcd) rfl (BindsTo.of_eq (hb ..)) W.cell ?_ (fun h₁ hn k₁ => ?_) W.co W.gen W.hk
  · intro y hy
    rcases List.mem_cons.mp hy with rfl | hy
    · exact W.kse
    rcases List.mem_cons.mp hy with rfl | hy
    · exact kf1
    rcases List.mem_cons.mp hy with rfl | hy
    · exact kf2
    · cases hy
  have e12 : (f1 == f2) = false := by simpa using h12
  have es1 : (("self" : Str) == f1) = false := by simpa using Ne.symm hfs1
  have es2 : (("self" : Str) == f2) = false := by simpa using Ne.symm hfs2
  have hmf1 : (fun y => List.lookup y (List.reverse [(("self" : Str), Value.ref x), (f1, v1), (f2, v2)])) f1 = some v1 := by
    show List.lookup f1 [(f2, v2), (f1, v1), (("self" : Str), Value.ref x)] = some v1
    simp [List.lookup, e12]
  have hmf2 : (fun y => List.lookup y (List.reverse [(("self" : Str), Value.ref x), (f1, v1), (f2, v2)])) f2 = some v2 := by
    show List.lookup f2 [(f2, v2), (f1, v1), (("self" : Str), Value.ref x)] = some v2
    simp [List.lookup]
  have hms : (fun y => List.lookup y (List.reverse [(("self" : Str), Value.ref x), (f1, v1), (f2, v2)])) ("self" : Str) = some (Value.ref x) := by
    show List.lookup ("self" : Str) [(f2, v2), (f1, v1), (("self" : Str), Value.ref x)] = some (.ref x)
    simp [List.lookup, es1, es2]
  have X₁ : K.In h₁ := X.keeps k₁
  obtain ⟨pl, hev⟩ := W.hev s.heap.objs.size fI (.ref cda) cc
  show _root_.PySem.wpAt _ _ (.func _ (ksEnv qual scope s.heap.objs.size fI (.ref cda) cc)) (execs _ (ksEnv qual scope s.heap.objs.size fI (.ref cda) cc)) _ _ _
  refine ks_wpAt_execs_cons (sup_first hC X₁ (hg.keeps k₁) (hbn.keeps k₁) hbt hsu hf hp hcode hvs hfile hcell T.self1 T.isVE T.opq T.sup T.top hn (by rw [hps]; exact hms) (k₁ _ _ hx) W.ks W.kc (by rw [hps]; exact W.kse) W.hk ?_ (W.he ..) (W.hpl ..) (W.hi ..) hev (W.hsw ..) ?_)
  · intro s1 Q1 g1 g2 g3 g4
    refine W.hargs _ _ _ _ _ _ [v1, v2] s1 mg mb _ Q1 hok (fun i f' e => ?_) rfl hstr g1 g2 g3 hbt g4
    match i, e with
    | 0, e => cases e; exact hmf1
    | 1, e => cases e; exact hmf2
  intro h₂ tk₂ t₁ k₂ hx₂
  refine wpAt_of_wpAny ?_
  have n₂ : s.heap.objs.size ≠ x := Nat.ne_of_gt (Heap.lt_size hx)
  have k12 : ∀ b o, b ≠ x → s.heap.get? b = some o → h₂.get? b = some o := fun b o hb e => k₂ b o hb (k₁ b o e)
  have X₂ : K.In h₂ := kin_but X₁ hnx k₂
  have hn₂ : h₂.Ns s.heap.objs.size _ := ns_but n₂ hn k₂
  show wpAny _ _ (execs _ _) _ _ _
  refine wpAny_execs_cons (plainObj_wpAny_Assign_Attribute ?_ (W.hst ..))
  refine ldS W.hk kf1 hn₂ hmf1 (ldS W.hk W.kse hn₂ hms ?_ (by decide)) hfd1
  refine set_plain X₂ (ox := excO C t₁) (od := none) ⟨hx₂, rfl, rfl, trivial⟩ T.sa ?_
  refine exc_osa X₂ hx₂ hcl (show refsVE (.ref C :: bm) = true from hbm) rfl hnf1 (fun h₃ tk₃ dx k₃ dn dne hx₃ hn₃ => ?_)
  have X₃ : K.In h₃ := kin_but X₂ hnx k₃
  have hLd : s.heap.objs.size ≠ dx := Nat.ne_of_lt (Nat.lt_of_lt_of_le hn₂.lt dn)
  have hn₃' : h₃.Ns s.heap.objs.size _ := ns_but n₂ hn₂ k₃
  obtain ⟨od3, ho3⟩ : ∃ o, h₃.get? dx = some o := by
    obtain ⟨o, _, _, e, _⟩ := hn₃
    exact ⟨o, e⟩
  show wpAny _ _ (execs _ _) _ _ _
  refine wpAny_execs_cons (plainObj_wpAny_Assign_Attribute ?_ (W.hst ..))
  refine ldS W.hk kf2 hn₃' hmf2 (ldS W.hk W.kse hn₃' hms ?_ (by decide)) hfd2
  refine set_plain X₃ (ox := { cls := .ref C, dict := some dx, data := .fields #[.ref t₁, .none, .none, .none, .bool false, .none] }) (od := some od3) ⟨hx₃, rfl, rfl, ho3⟩ T.sa ?_
  refine PySem.OEX.osa_old X₃ hx₃ hn₃ (nl := [f1]) (fun y hy => ?_) (by show 1 ≤ 1000; decide) hcl (show refsVE (.ref C :: bm) = true from hbm) rfl hnf2 (fun h₄ tk₄ k₄ hn₄ => ?_)
  · by_cases e : y = f1
    · rw [e]; exact List.mem_cons_self
    · exact absurd (if_neg e) hy
  show wpAny _ _ (execs _ _) _ _ _
  have hbig : s.heap.objs.size ≤ dx := Nat.le_of_lt (Nat.lt_of_lt_of_le hn₂.lt dn)
  refine wpAny_execs_nil (hq h₄ tk₄ dx ⟨fun b o hb e => k₄ b o (Nat.ne_of_lt (Nat.lt_of_lt_of_le (Heap.lt_size e) hbig)) (k₃ b o hb (k12 b o hb e)), ⟨_, k₄ _ _ (Ne.symm dne) hx₃⟩, hbig, dne, hn₄⟩)
end
/-- an error that is made -/
structure Made (h h' : Heap) (e C d : Addr) (mA : Str → Option Value) : Prop where
  keep : ∀ b o, h.get? b = some o → h'.get? b = some o
  new : h.objs.size ≤ e
  obj : ∃ t1 : Addr, h'.get? e = some { cls := .ref C, dict := some d, data := .fields #[.ref t1, .none, .none, .none, .bool false, .none] }
  dbig : h.objs.size ≤ d
  dne : d ≠ e
  ns : h'.Ns1 d mA
/-- the class at C makes errors of these fields -/
structure Makes (prog : Program) (w : World) (K : Frag) (mg : Str → Option Value) (C : Addr) (fs : List Str) (ok : List Value → Prop) : Prop where
  kC : keepIn K (.ref C) = true
  exC : subIn K (.ref C) (.type "BaseException") = some true
  tyC : typeIn K (.ref C) = some (.type "type")
  run : ∀ (A : Around) (s : Shared) (us : List Value) (mb : Str → Option Value) (R : Result → Shared → Prop), us.length = fs.length → ok us → K.In s.heap → s.heap.NoLimit → s.heap.Ns mainGlobals mg → s.heap.Ns builtinsNs mb → (∀ y : Str, y ≠ "__name__" → mb y = bootBuiltins y) →
    A.depth + 1 < recursionLimit → (∀ h' tk e d mA, (∀ f : Str, mA f = (fs.zip us).lookup f) → Made s.heap h' e C d mA → R (.ok (.ret (.ref e))) { s with heap := h', toks := tk }) → codeAny (model prog w) A (.call (.ref C) ⟨us, []⟩) R s
/-- from the maker to the class -/
theorem made_of {prog : Program} {w : World} {A : Around} {K : Frag} {C fI : Addr} {s : Shared} {us : List Value} {mA : Str → Option Value} {R : Result → Shared → Prop} {nm q : Str} {N : Addr} {bs bm : List Value} {sn : List Str} {sub : List Value} {ab : Bool} {col : Option Bool} {dd : Option Addr} {k0 k1 k2 k3 k5 : Option Value}
    (hC : K.lookup C = some (excClassObj nm q C N bs bm true sn sub ab col dd k0 k1 k2 k3 k5 "ValueError.__new__")) (hbm : refsVE bm = true) (iC : findIn K (.ref C) "__init__" = some (some (.ref fI))) (tC : typeIn K (.ref fI) = some (.type "function")) (hus : us.length ≤ 10)
    (X : K.In s.heap) (hlim : s.heap.NoLimit)
    (hin : ∀ (A' : Around) (s' : Shared) (x t0 : Addr) (R' : Result → Shared → Prop), A'.depth = A.depth + 1 → (∀ b o, s.heap.get? b = some o → s'.heap.get? b = some o) → s'.heap.get? x = some (excO C t0) → K.lookup x = none →
      (∀ h' tk dx, InitEnd s'.heap h' x C dx mA → R' (.ok (.ret .none)) { s' with heap := h', toks := tk }) → codeAny (model prog w) A' (.call (.ref fI) ⟨.ref x :: us, []⟩) R' s')
    (hq : ∀ h' tk e d, Made s.heap h' e C d mA → R (.ok (.ret (.ref e))) { s with heap := h', toks := tk }) :
    codeAny (model prog w) A (.call (.ref C) ⟨us, []⟩) R s := by
  obtain ⟨hp, g, dr, tk, os⟩ := s
  have k : ∀ b o, hp.get? b = some o → ((hp.push (kdv_tup us)).push (excO C hp.objs.size)).get? b = some o := fun b o e => Heap.get?_push_of_some _ (Heap.get?_push_of_some _ e)
  have hget : ((hp.push (kdv_tup us)).push (excO C hp.objs.size)).get? (hp.objs.size + 1) = some (excO C hp.objs.size) := by heap_get
  have hnx : K.lookup (hp.objs.size + 1) = none := by
    cases e : K.lookup (hp.objs.size + 1) with
    | none => rfl
    | some o =>
      have z : hp.get? (hp.objs.size + 1) = some o := X _ _ e
      exact absurd (Nat.lt_of_succ_lt (Heap.lt_size z)) (Nat.lt_irrefl _)
  refine call_own F.excBase_ValueError (fun X => refsVE_contains X bm hbm) (X _ _ hC) (looks_findIn X iC) (fun self => bind_fn X self tC) (Nat.le_trans hus (by rw [sizeLine_eq]; decide)) ?_
  refine hin (A.under (.builtin "type.__call__" ⟨.ref C :: us, []⟩)) ⟨(hp.push (kdv_tup us)).push (excO C hp.objs.size), g, dr, tk, os⟩ (hp.objs.size + 1) hp.objs.size _ rfl k hget hnx fun h' tk' dx ⟨k', hx, dn, dne, hns⟩ => ?_
  have old : ∀ b o, hp.get? b = some o → h'.get? b = some o := fun b o e => k' b o (Nat.ne_of_lt (Nat.lt_succ_of_lt (Heap.lt_size e))) (k b o e)
  have z : hp.objs.size + 1 + 1 ≤ dx := by
    first
      | (simpa only [Heap.size_push] using dn)
      | exact dn
      | (have q := dn; rw [Heap.size_push, Heap.size_push] at q; exact q)
  obtain ⟨t1, hx⟩ := hx
  exact ⟨rfl, hq h' tk' (hp.objs.size + 1) dx ⟨old, Nat.le_succ _, ⟨t1, hx⟩, Nat.le_trans (Nat.le_trans (Nat.le_succ _) (Nat.le_succ _)) z, dne, hns⟩⟩
section
variable {prog : Program} {w : World} {K : Frag} {C fI : Addr} {qual : Str} {params : Arguments} {scope : Scope} {mg : Str → Option Value} {f f1 f2 : Str} {ok : List Value → Prop} {e0 : Expr} {es : List Expr} {a1 a2 a3 a4 a5 q1 q2 q3 q4 r1 r2 r3 r4 : Pos}
theorem makes1 (T : SupC prog K C fI qual params [supS (e0 :: es) a1 a2 a3 a4 a5, stoS f q1 q2 q3 q4] scope) (W : SupW prog w params scope qual [f] ok e0 es a1 a2 a3 a4 a5) (kC : keepIn K (.ref C) = true) (exC : subIn K (.ref C) (.type "BaseException") = some true) (tyC : typeIn K (.ref C) = some (.type "type"))
    (hnf : findIn K (.ref C) f = some none) (hfd : (f == ("__debug__" : Str)) = false) (hfs : f ≠ "self") (hsu : mg "super" = none) (hstr : mg "str" = none)
    (hb : ∀ (x : Addr) (v : Value) (kV doc pm : Value) (an : Option Addr) (cdv ct : Value) (cc : Addr), bindArgs (ksFn "__init__" qual params [supS (e0 :: es) a1 a2 a3 a4 a5, stoS f q1 q2 q3 q4] scope .none kV doc pm an cdv ct cc) ⟨[.ref x, v], []⟩ = pure [(("self" : Str), Value.ref x), (f, v)]) :
    Makes prog w K mg C [f] ok where
  kC := kC
  exC := exC
  tyC := tyC
  run := fun A s us mb R hl hok X hlim hg hbn hbt hroom hq => by
    obtain ⟨nm, q, N, bs, bm, sn, sub, ab, col, dd, k0, k1, k2, k3, k5, hC, hbm⟩ := T.cls
    match us, hl with
    | [v], _ =>
      refine made_of (mA := fun y => if y = f then some v else none) hC hbm T.iC T.tC (by show 1 ≤ 10; decide) X hlim (fun A' s' x t0 R' hd k hx hnx h' => ?_) fun h' tk e d M => hq h' tk e d _ (fun g => ?_) M
      · exact sup_init1 T W hnf hfd hfs hok (hb x v) (X.keeps k) (hlim.keeps k) (hg.keeps k) (hbn.keeps k) hbt hsu hstr hx hnx (by rw [hd]; exact hroom) h'
      · by_cases e : g = f
        · subst e; simp [List.zip]
        · have e2 : (g == f) = false := by simpa using e
          simp [List.zip, List.lookup, e, e2]
theorem makes2 (T : SupC prog K C fI qual params [supS (e0 :: es) a1 a2 a3 a4 a5, stoS f1 q1 q2 q3 q4, stoS f2 r1 r2 r3 r4] scope) (W : SupW prog w params scope qual [f1, f2] ok e0 es a1 a2 a3 a4 a5) (kC : keepIn K (.ref C) = true) (exC : subIn K (.ref C) (.type "BaseException") = some true) (tyC : typeIn K (.ref C) = some (.type "type"))
    (hnf1 : findIn K (.ref C) f1 = some none) (hnf2 : findIn K (.ref C) f2 = some none) (hfd1 : (f1 == ("__debug__" : Str)) = false) (hfd2 : (f2 == ("__debug__" : Str)) = false) (hfs1 : f1 ≠ "self") (hfs2 : f2 ≠ "self") (h12 : f1 ≠ f2) (hsu : mg "super" = none) (hstr : mg "str" = none)
    (hb : ∀ (x : Addr) (v1 v2 : Value) (kV doc pm : Value) (an : Option Addr) (cdv ct : Value) (cc : Addr), bindArgs (ksFn "__init__" qual params [supS (e0 :: es) a1 a2 a3 a4 a5, stoS f1 q1 q2 q3 q4, stoS f2 r1 r2 r3 r4] scope .none kV doc pm an cdv ct cc) ⟨[.ref x, v1, v2], []⟩ = pure [(("self" : Str), Value.ref x), (f1, v1), (f2, v2)]) :
    Makes prog w K mg C [f1, f2] ok where
  kC := kC
  exC := exC
  tyC := tyC
  run := fun A s us mb R hl hok X hlim hg hbn hbt hroom hq => by
    obtain ⟨nm, q, N, bs, bm, sn, sub, ab, col, dd, k0, k1, k2, k3, k5, hC, hbm⟩ := T.cls
    match us, hl with
    | [v1, v2], _ =>
      refine made_of (mA := fun y => if y = f2 then some v2 else if y = f1 then some v1 else none) hC hbm T.iC T.tC (by show 2 ≤ 10; decide) X hlim (fun A' s' x t0 R' hd k hx hnx h' => ?_) fun h' tk e d M => hq h' tk e d _ (fun g => ?_) M
      · exact sup_init2 T W hnf1 hnf2 hfd1 hfd2 hfs1 hfs2 h12 hok (hb x v1 v2) (X.keeps k) (hlim.keeps k) (hg.keeps k) (hbn.keeps k) hbt hsu hstr hx hnx (by rw [hd]; exact hroom) h'
      · by_cases e : g = f2
        · subst e
          have e2 : (g == f1) = false := by simpa using Ne.symm h12
          simp [List.zip, List.lookup, e2]
        · have e2 : (g == f2) = false := by simpa using e
          by_cases e1 : g = f1
          · subst e1; simp [List.zip, List.lookup, e]
          · have e3 : (g == f1) = false := by simpa using e1
            simp [List.zip, List.lookup, e, e1, e2, e3]
end
end ErrL
end PySem

namespace L2
open PySem PySem.Spec PyProof.Rows
theorem relO_zip : ∀ {fs : List Str} {vs : List V} {us : List Value}, Vals vs us → ∀ f, RelO (List.lookup f (fs.zip vs)) (List.lookup f (fs.zip us))
  | [], vs, us, r, f => by simp [List.zip, RelO]
  | g :: fs, [], _, .nil, f => by simp [List.zip, RelO]
  | g :: fs, v :: vs, u :: us, .cons rv r, f => by
    by_cases e : f = g
    · subst e
      have q : RelO (some v) (some u) := rv
      simpa [List.zip, List.lookup] using q
    · have e2 : (f == g) = false := by simpa using e
      have ih := relO_zip (fs := fs) r f
      simpa [List.zip, List.lookup, e2] using ih
section
variable {X : Cx} {C : Addr} {fs : List Str} {ok : List Value → Prop}
/-- X(e, ..): a new error; okV says that the values may be written into its args -/
def tMkErr (C : Addr) (fs : List Str) (okV : List V → Prop) (ta : TA) : St → Hp → XK → Prop := fun σ H Q => ta σ H fun vs H1 => vs.length = fs.length ∧ okV vs ∧ ∀ d, H1 d = none → Q (.ref C) (some d) (upd H1 d (.xd (fs.zip vs)))
theorem pmk_err {x : Str} {e : Expr} {es : List Expr} {ta : TA} {p pos : Pos} {k : Nat} {okV : List V → Prop} (T : PySem.ErrL.Makes X.prog X.w X.K X.mg C fs ok) (hok : ∀ vs us, Vals vs us → okV vs → ok us) (gC : X.mg x = some (.ref C)) (hr : Room k X.A) (ha : PA X (e :: es) ta) (hg : Gl X x := by rfl)
    (hdb : (x == ("__debug__" : Str)) = false := by decide) (he : starEach (e :: es) X.env = (false, eval e X.env) :: starEach es X.env := by rfl) (hpl : (backTo pos (starEach es X.env)).any (·.1) = false := by rfl) :
    PMk X (.Call (.Name x p) (e :: es) [] pos) (tMkErr C fs okV ta) := by
  intro pins s σ H Q I h
  refine wpAny_Call_Name_kw (ld_glob I hg gC ?_ hdb)
  refine PySem.W.callWith_K (h₀ := X.base) I.ok.mod.kin T.kC (thn (ha.run pos pins s σ H _ I h) fun us s1 hh => ?_) he hpl
  obtain ⟨vs, H1, I1, r1, hl, hov, q1⟩ := hh
  refine ⟨I1.kIn, ?_⟩
  show wpAny _ _ (call (.ref C) us) _ _ _
  obtain ⟨mb, hmb, hbt⟩ := I1.mod.blt
  have hlim := I1.nolimit
  have hgl := I1.mod.glob.keeps I1.bk
  have hbl := hmb.keeps I1.bk
  have kin := I1.kIn
  obtain ⟨hp, g, dr, tk, os⟩ := s1
  refine wpAny_call (T.run _ _ us mb _ (by rw [← hl]; exact (Vals.length r1).symm) (hok vs us r1 hov) kin hlim hgl hbl hbt (by have := hr.dp; omega) fun h' tk' e d mA hmA M => ?_)
  show MkP X pins σ Q (.ref e) ⟨h', g, dr, tk', os⟩
  obtain ⟨t1, hoe⟩ := M.obj
  have hns := M.ns
  obtain ⟨G', g1, g2⟩ := restrict h' fun b => decide (b ≠ e)
  have gk : ∀ b, b ≠ e → G'.get? b = h'.get? b := fun b hb => g1 b (decide_eq_true hb)
  have ge : G'.get? e = none := g2 e (by simp)
  have old : ∀ b o, hp.get? b = some o → G'.get? b = some o := fun b o q => (gk b (Nat.ne_of_lt (Nat.lt_of_lt_of_le (Heap.lt_size q) M.new))).trans (M.keep b o q)
  have ob : ObjOk X.prog X.w (upd H1 d (.xd (fs.zip vs))) G' d (.xd (fs.zip vs)) :=
    ⟨_, hns.at (fun o q => (gk d M.dne).trans q), fun f => by rw [hmA]; exact relO_zip r1 f⟩
  have J : Inv X pins σ (upd H1 d (.xd (fs.zip vs))) ⟨G', g, dr, tk', os⟩ := I1.laid (t' := tk') old M.dbig ob
  refine ⟨e, _, _, ⟨G', g, dr, tk', os⟩, _, .ref C, some d, rfl, J, fun b o q => ?_, ge, hoe, ⟨rfl, rfl⟩, rfl, rfl, ?_, rfl, I1.bare, raises_own T.exC T.tyC, q1 d (I1.hok.fresh M.dbig)⟩
  · by_cases hb : b = e
    · have q' : G'.get? b = some o := q
      rw [hb, ge] at q'; cases q'
    · exact (gk b hb).symm.trans q
  · rw [upd_ne (Ne.symm M.dne)]
    exact I1.hok.fresh M.new
/-- raise X(e, ..) -/
def tRaiseErr (C : Addr) (fs : List Str) (okV : List V → Prop) (W : WX) (ta : TA) : TS := fun _ σ H => tMkErr C fs okV ta σ H fun cls d H' => W cls d σ H'
theorem ps_raiseErr {W : WX} {x : Str} {e : Expr} {es : List Expr} {ta : TA} {p pos pos2 : Pos} {k : Nat} {okV : List V → Prop} (hc : X.calm = true) (T : PySem.ErrL.Makes X.prog X.w X.K X.mg C fs ok) (hok : ∀ vs us, Vals vs us → okV vs → ok us) (gC : X.mg x = some (.ref C)) (hr : Room k X.A) (tk : Takes X W) (ha : PA X (e :: es) ta) (hg : Gl X x := by rfl)
    (hdb : (x == ("__debug__" : Str)) = false := by decide) (he : starEach (e :: es) X.env = (false, eval e X.env) :: starEach es X.env := by rfl) (hpl : (backTo pos (starEach es X.env)).any (·.1) = false := by rfl) :
    PS X (.Raise (some (.Call (.Name x p) (e :: es) [] pos)) none pos2) (tRaiseErr C fs okV W ta) := ps_raise hc tk (pmk_err T hok gC hr ha hg hdb he hpl)
end
end L2
set_option Elab.async false
set_option linter.all false
set_option maxRecDepth 100000
set_option maxHeartbeats 4000000
namespace PySem
namespace ErrL
open PySem.W PySem.Calls PyProof.Rows PySem.HandSPX
section
variable {prog : Program} {w : World} {params : Arguments} {scope : Scope} {qual : Str} {f f1 f2 : Str} {a1 a2 a3 a4 a5 p0 p1 p2 p3 : Pos} {j0 : Nat} {z : Str}
theorem args_c (hk : scope.kind = .function) (L fI : Addr) (cd : Value) (cc : Addr) (A : Around) (E : Value → Shared → Prop) (s1 : Shared) (Q1 : List Value → Shared → Prop) (h : ∀ (ws : List Value) tk, ws.length ≤ 10 → Q1 ws { s1 with toks := tk }) :
    wpAny (model prog w) A (spliced (backTo a4 (starEach [.Constant (.str z) j0 p0] (ksEnv qual scope L fI cd cc)))) Q1 E s1 := by
  show wpAny _ _ (spliced [(false, eval (.Constant (.str z) j0 p0) (ksEnv qual scope L fI cd cc))]) _ _ _
  exact spliced_cons (wpAny_Constant_str (spliced_nil (h _ _ (by show 1 ≤ 10; decide))))
theorem args_cn (hk : scope.kind = .function) (kf : scope.names.lookup f = some .local) (hfd : (f == ("__debug__" : Str)) = false) (L fI : Addr) (cd : Value) (cc : Addr) (A : Around) (E : Value → Shared → Prop) (v : Value) (s1 : Shared) (m : Str → Option Value) (Q1 : List Value → Shared → Prop)
    (hm : m f = some v) (hn : s1.heap.Ns L m) (h : ∀ (ws : List Value) tk, ws.length ≤ 10 → Q1 ws { s1 with toks := tk }) :
    wpAny (model prog w) A (spliced (backTo a4 (starEach [.Constant (.str z) j0 p0, .Name f p1] (ksEnv qual scope L fI cd cc)))) Q1 E s1 := by
  show wpAny _ _ (spliced [(false, eval (.Constant (.str z) j0 p0) (ksEnv qual scope L fI cd cc)), (false, eval (.Name f p1) (ksEnv qual scope L fI cd cc))]) _ _ _
  refine spliced_cons (wpAny_Constant_str (spliced_cons ?_))
  exact ldS hk kf hn hm (spliced_nil (h _ _ (by show 2 ≤ 10; decide))) hfd
theorem args_csn (hk : scope.kind = .function) (kf1 : scope.names.lookup f1 = some .local) (kf2 : scope.names.lookup f2 = some .local) (kstr : scope.names.lookup ("str" : Str) = some .globalImplicit) (hfd1 : (f1 == ("__debug__" : Str)) = false) (hfd2 : (f2 == ("__debug__" : Str)) = false)
    (L fI : Addr) (cd : Value) (cc : Addr) (A : Around) (E : Value → Shared → Prop) (i : Int) (t : Tok) (v2 : Value) (s1 : Shared) (m mg mb : Str → Option Value) (Q1 : List Value → Shared → Prop) (hi : i.natAbs.log2 < 1920)
    (hm1 : m f1 = some (.int i t)) (hm2 : m f2 = some v2) (hstr : mg "str" = none) (hn : s1.heap.Ns L m) (hg : s1.heap.Ns mainGlobals mg) (hb : s1.heap.Ns builtinsNs mb) (hbt : ∀ y : Str, y ≠ "__name__" → mb y = bootBuiltins y) (h : ∀ (ws : List Value) tk, ws.length ≤ 10 → Q1 ws { s1 with toks := tk })
    (he1 : starEach [.Name f1 p2] (ksEnv qual scope L fI cd cc) = (false, eval (.Name f1 p2) (ksEnv qual scope L fI cd cc)) :: starEach [] (ksEnv qual scope L fI cd cc)) :
    wpAny (model prog w) A (spliced (backTo a4 (starEach [.Constant (.str z) j0 p0, .Call (.Name "str" p1) [.Name f1 p2] [] p3, .Name f2 a5] (ksEnv qual scope L fI cd cc)))) Q1 E s1 := by
  show wpAny _ _ (spliced [(false, eval (.Constant (.str z) j0 p0) (ksEnv qual scope L fI cd cc)), (false, eval (.Call (.Name "str" p1) [.Name f1 p2] [] p3) (ksEnv qual scope L fI cd cc)), (false, eval (.Name f2 a5) (ksEnv qual scope L fI cd cc))]) _ _ _
  refine spliced_cons (wpAny_Constant_str (spliced_cons ?_))
  refine wpAny_Call_Name_kw ?_
  refine wpAny_Name ?_ (by decide)
  refine ks_loadName_global hk kstr (loadGlobal_builtin (env := ksEnv qual scope L fI cd cc) hg hstr hb ((hbt _ (by decide +kernel)).trans (show bootBuiltins ("str" : Str) = some (.type "str") by decide +kernel)) ?_)
  refine PyProof.Rows.callWith_type1 ?_ he1 rfl
  show wpAny _ _ (spliced [(false, eval (.Name f1 p2) (ksEnv qual scope L fI cd cc))]) _ _ _
  refine spliced_cons (ldS hk kf1 hn hm1 (spliced_nil ?_) hfd1)
  refine PySem.P.str_of_int hi (spliced_cons ?_)
  exact ldS hk kf2 hn hm2 (spliced_nil (h _ _ (by show 3 ≤ 10; decide))) hfd2
end
end ErrL
end PySem
set_option Elab.async false
set_option linter.all false
set_option maxRecDepth 100000
set_option maxHeartbeats 4000000
/-! isinstance of a caught error that has its own dict -/
namespace PySem.ErrL
open PySem PySem.W PySem.Spec PySem.Calls PyProof.Rows
section
variable {prog : Program} {w : World} {A : Around} {E : Value → Shared → Prop} {s : Shared} {K : Frag} {x D : Addr} {ox : Obj} {od : Option Obj}
theorem find_cls (hd : hasDictIn K D = true) (ha : findIn K (.ref D) "__class__" = some (some (.builtin "object.__class__"))) (hn : specialIn K (.builtin "object.__class__") "__get__" = some (some (.builtin "getset_descriptor.__get__"))) (ht : takesIn K (.builtin "object.__class__") = some true) :
    findObj K D od "__class__" = some (.bind (.builtin "getset_descriptor.__get__") (.builtin "object.__class__")) := by
  obtain ⟨cd, hc, _⟩ := any_some hd
  unfold findObj
  rw [hc, Option.bind_some, ha, Option.bind_some]
  simp [hn, ht]
/-- e.__class__, e an error with its dict -/
theorem cls_of (T : L2.ExcC K D) {Q : Option Value → Shared → Prop} (X : K.In s.heap) (I : InstAt s.heap x ox D od) (h : Q (some (.ref D)) { s with toks := s.toks + 1 }) : wpAny (model prog w) A (getAttr? (.ref x) "__class__") Q E s := by
  have hf := find_cls (od := od) T.hd T.ha T.hn T.ht
  obtain ⟨hp, g, d, t, os⟩ := s
  have ty := I.type (M := model prog w); have l1 := looks_findIn (M := model prog w) X T.hg; have l2 := looks_findIn (M := model prog w) X T.hk
  have l3 := looks_find (M := model prog w) X I hf; have sb : Looks (model prog w) hp (isInstance (.ref x) (.type "BaseException")) true := ty.andThen (looks_subIn X T.hs)
  have n2 : (Value.builtin "BaseException.__getattribute__" == Value.builtin "object.__getattribute__") = false := by decide +kernel
  have n1 : (onTheHeap (Value.ref D) && Value.builtin "BaseException.__getattribute__" == Value.builtin "object.__getattribute__") = false := (by rw [n2]; rfl)
  unfold getAttr? getAttrBy? getAttrBy
  refine wpAny_bind (wpAny_mkText (wpAny_bind (wpAny_attempt (wpAny_holding (wpAny_bind (ty.at (wpAny_bind (l1.at ?_))))))))
  show wpAny _ _ (if (onTheHeap (Value.ref D) && Value.builtin "BaseException.__getattribute__" == Value.builtin "object.__getattribute__") = true then _ else _) _ _ _
  rw [n1, if_neg Bool.false_ne_true]; unfold getAttrByItsOwn hookBefore
  refine wpAny_bind ?_
  rw [if_pos (show onTheHeap (Value.ref D) = true from rfl)]
  refine l2.at (wpAny_bind (wpAny_attempt (wpAny_holding ?_)))
  unfold callGetattribute
  rw [show (false && onTheHeap (Value.builtin "BaseException.__getattribute__")) = false from rfl, if_neg Bool.false_ne_true]; unfold boundAndCalled; rw [PySem.F.excAttr_ValueError.ga.bind (.ref x)]
  refine wpAny_bind (wpAny_pure ?_)
  show wpAny _ _ (call (.builtin "BaseException.__getattribute__") [.ref x, .str "__class__" t]) _ _ _
  refine wpAny_call (codeAny_call_builtin PySem.F.excAttr_ValueError.ga.plain PySem.F.entry_bexc_ga (@check_slot (model prog w) _ _ ⟨hp, g, d, t + 1, os⟩ "BaseException.__getattribute__" "BaseException" "__getattribute__" (.ref x) [.str "__class__" t] [] _ (by decide +kernel) (by decide +kernel) sb (PySem.F.args_bexc_ga (.ref x) (.str "__class__" t)) ?_))
  unfold Builtin.«object.__getattribute__»
  refine wpAny_bind (wpAny_of_eq (a := ((Value.ref x : Value), [Value.str "__class__" t])) (by first | rfl | (simp only [slotArgs]; rfl)) (wpAny_bind (wpAny_pure (wpAny_bind (ty.at (wpAny_bind (l3.at ?_)))))))
  show wpAny _ _ (holding [Value.builtin "object.__class__"] (call (.builtin "getset_descriptor.__get__") [.builtin "object.__class__", .ref x, .ref D]) >>= ret) _ _ _
  refine wpAny_bind (wpAny_holding (wpAny_call (class_get (s := ⟨hp, g, d, t + 1, os⟩) (ox := ox) (od := od) X I T.hm (wpAny_pure ?_))))
  show wpAny _ _ (handedOut (.ref D)) _ _ _
  rw [handedOut_of (v := .ref D) rfl]
  first
    | exact wpAny_pure (wpAny_pure h)
    | exact wpAny_pure h
    | exact wpAny_pure (wpAny_bind (wpAny_pure (wpAny_pure h)))
theorem kitx_err (T : L2.ExcC K D) : KitX K (.ref x) (.ref D) (fun h => InstAt h x ox D od) where
  ty := fun _ _ _ I => I.type
  it := fun M h X I => by
    obtain ⟨cd, hc, _⟩ := any_some T.hd
    unfold clsIn at hc
    split at hc
    · rename_i c' d' cd' sl' ho
      intro A' Q' E' s' k q; unfold isType loadHead; exact wpAny_bind (wpAny_loadPart (k _ _ (X _ _ ho)) (wpAny_pure q))
    · cases hc
  ne := (handS_kitx_exc (x := x) (ox := ox) T.hg T.hk T.hs T.hd T.ha T.hn T.ht T.hm).ne
  ca := fun X I k => cls_of T X I k
end
end PySem.ErrL
namespace L2
open PySem PySem.Spec PyProof.Rows
theorem ExcC.xf {K : PySem.W.Frag} {C : Addr} (T : ExcC K C) : XfC K C := ⟨T.hg, T.hk, T.hs, T.hd⟩
/-- isinstance(e, c), e the error that the suite holds, its dict at dd -/
def rIsErr (K : PySem.W.Frag) (cls : Value) (d : Option Addr) (a : Addr) : List V → Hp → VK → Prop := fun xs H Q => ∃ (c : V) (cv : Value) (b : Bool) (D dd : Addr) (fs : List (Str × V)), xs = [.ref a, c] ∧ cls = .ref D ∧ d = some dd ∧ H dd = some (.xd fs) ∧ ExcC K D ∧ ClsV c cv ∧ PySem.W.kitOne K (.ref D) cv = some b ∧ Q (.bl b) H
theorem call_isErr {X : Cx} {a : Addr} {cls : Value} {d : Option Addr} {oe : Obj} {pn : List (Addr × Obj)} (hz : Zc cls d oe) (hf : ∃ vs, oe.data = .fields vs) : CallR (X.suite a ((a, oe) :: pn)) (.builtin "isinstance") (rIsErr X.K cls d a) := by
  intro pins s σ H xs us Q I r h
  obtain ⟨c, cv, b, D, dd, fs, rfl, rfl, rfl, hdd, T, hcv, e, q⟩ := h
  obtain ⟨u1, u2, rfl, r1, r2⟩ := vals2 r
  obtain rfl : u1 = Value.ref a := r1
  have ec := hcv.eq r2
  subst ec
  obtain ⟨hget, _⟩ := I.pin (a, oe) (List.mem_append.mpr (.inl List.mem_cons_self))
  obtain ⟨vs, hv⟩ := hf
  obtain ⟨mA, hns, _⟩ := (show ObjOk X.prog X.w H s.heap dd (.xd fs) from I.hok dd _ hdd)
  obtain ⟨o', es, ep, ho, _⟩ := hns
  have J : PySem.W.InstAt s.heap a oe D (some o') := ⟨hget, hz.1, by unfold PySem.W.notCls; rw [hv] <;> rfl, by rw [hz.2]; exact ho⟩
  exact PySem.W.kia_one (PySem.ErrL.kitx_err T) I.kIn J e (fun z => nomatch z) fun tk => ⟨.bl b, H, I.kept (t' := tk) fun _ _ z => z, rfl, q⟩
theorem call_isErrK {X : Cx} {K : PySem.W.Frag} {a : Addr} {cls : Value} {d : Option Addr} {oe : Obj} {pn : List (Addr × Obj)} (h : X.K = K) (hz : Zc cls d oe) (hf : ∃ vs, oe.data = .fields vs) : CallR (X.suite a ((a, oe) :: pn)) (.builtin "isinstance") (rIsErr K cls d a) := h ▸ call_isErr hz hf
/-- .. with a dict or without -/
def rIsErr2 (K : PySem.W.Frag) (cls : Value) (d : Option Addr) (a : Addr) : List V → Hp → VK → Prop := fun xs H Q => ∃ (c : V) (cv : Value) (b : Bool) (D : Addr), xs = [.ref a, c] ∧ cls = .ref D ∧ (∀ dd, d = some dd → ∃ fs, H dd = some (.xd fs)) ∧ ExcC K D ∧ ClsV c cv ∧ PySem.W.kitOne K (.ref D) cv = some b ∧ Q (.bl b) H
theorem call_isErr2 {X : Cx} {a : Addr} {cls : Value} {d : Option Addr} {oe : Obj} {pn : List (Addr × Obj)} (hz : Zc cls d oe) (hf : ∃ vs, oe.data = .fields vs) : CallR (X.suite a ((a, oe) :: pn)) (.builtin "isinstance") (rIsErr2 X.K cls d a) := by
  intro pins s σ H xs us Q I r h
  obtain ⟨c, cv, b, D, rfl, rfl, hdd, T, hcv, e, q⟩ := h
  obtain ⟨u1, u2, rfl, r1, r2⟩ := vals2 r
  obtain rfl : u1 = Value.ref a := r1
  have ec := hcv.eq r2
  subst ec
  obtain ⟨hget, _⟩ := I.pin (a, oe) (List.mem_append.mpr (.inl List.mem_cons_self))
  obtain ⟨vs, hv⟩ := hf
  have J : ∃ od : Option Obj, PySem.W.InstAt s.heap a oe D od := by
    cases d with
    | none => exact ⟨none, hget, hz.1, by unfold PySem.W.notCls; rw [hv] <;> rfl, by rw [hz.2]; exact trivial⟩
    | some dd =>
      obtain ⟨fs, h⟩ := hdd dd rfl
      obtain ⟨mA, hns, _⟩ := (show ObjOk X.prog X.w H s.heap dd (.xd fs) from I.hok dd _ h)
      obtain ⟨o', es, ep, ho, _⟩ := hns
      exact ⟨some o', hget, hz.1, by unfold PySem.W.notCls; rw [hv] <;> rfl, by rw [hz.2]; exact ho⟩
  obtain ⟨od, J⟩ := J
  exact PySem.W.kia_one (PySem.ErrL.kitx_err T) I.kIn J e (fun z => nomatch z) fun tk => ⟨.bl b, H, I.kept (t' := tk) fun _ _ z => z, rfl, q⟩
theorem call_isErr2K {X : Cx} {K : PySem.W.Frag} {a : Addr} {cls : Value} {d : Option Addr} {oe : Obj} {pn : List (Addr × Obj)} (h : X.K = K) (hz : Zc cls d oe) (hf : ∃ vs, oe.data = .fields vs) : CallR (X.suite a ((a, oe) :: pn)) (.builtin "isinstance") (rIsErr2 K cls d a) := h ▸ call_isErr2 hz hf
end L2
set_option Elab.async false
set_option linter.all false
set_option maxRecDepth 100000
set_option maxHeartbeats 4000000
/-! own errors held as values -/
namespace L2
open PySem PySem.Spec PyProof.Rows
section
variable {X : Cx} {C : Addr} {fs : List Str} {ok : List Value → Prop} {x : Str} {e : Expr} {es : List Expr} {ta : TA} {p p1 p2 pos : Pos}
/-- X(e, ..), a value: the error and its dict -/
def tErV (C : Addr) (fs : List Str) (okV : List V → Prop) (ta : TA) : TE := fun σ H Q => ta σ H fun vs H1 => vs.length = fs.length ∧ okV vs ∧ ∀ a d, H1 a = none → H1 d = none → d ≠ a → Q (.ref a) (upd (upd H1 d (exd d (fs.zip vs))) a (exo a C (some d)))
theorem pe_erV {k : Nat} {okV : List V → Prop} (T : PySem.ErrL.Makes X.prog X.w X.K X.mg C fs ok) (hok : ∀ vs us, Vals vs us → okV vs → ok us) (gC : X.mg x = some (.ref C)) (hr : Room k X.A) (ha : PA X (e :: es) ta) (hg : Gl X x := by rfl)
    (hdb : (x == ("__debug__" : Str)) = false := by decide) (he : starEach (e :: es) X.env = (false, eval e X.env) :: starEach es X.env := by rfl) (hpl : (backTo pos (starEach es X.env)).any (·.1) = false := by rfl) :
    PE X (.Call (.Name x p) (e :: es) [] pos) (tErV C fs okV ta) := by
  refine ⟨fun pins s σ H Q I h => ?_⟩
  refine wpAny_Call_Name_kw (ld_glob I hg gC ?_ hdb)
  refine PySem.W.callWith_K (h₀ := X.base) I.ok.mod.kin T.kC (thn (ha.run pos pins s σ H _ I h) fun us s1 hh => ?_) he hpl
  obtain ⟨vs, H1, I1, r1, hl, hov, q1⟩ := hh
  refine ⟨I1.kIn, ?_⟩
  show wpAny _ _ (call (.ref C) us) _ _ _
  obtain ⟨mb, hmb, hbt⟩ := I1.mod.blt
  have hlim := I1.nolimit
  have hgl := I1.mod.glob.keeps I1.bk
  have hbl := hmb.keeps I1.bk
  have kin := I1.kIn
  obtain ⟨hp, g, dr, tk, os⟩ := s1
  refine wpAny_call (T.run _ _ us mb _ (by rw [← hl]; exact (Vals.length r1).symm) (hok vs us r1 hov) kin hlim hgl hbl hbt (by have := hr.dp; omega) fun h' tk' a d mA hmA M => ?_)
  obtain ⟨t1, hoe⟩ := M.obj
  have ha0 : hp.get? a = none := Heap.get?_none_of_le M.new
  have hd0 : hp.get? d = none := Heap.get?_none_of_le M.dbig
  have na : H1 a = none := I1.hok.fresh M.new
  have nd : H1 d = none := I1.hok.fresh M.dbig
  have rel : ∀ f, RelO ((fs.zip vs).lookup f) (mA f) := fun f => by rw [hmA]; exact relO_zip r1 f
  have U : Un X.fs [] H1 (upd (upd H1 d (exd d (fs.zip vs))) a (exo a C (some d))) hp h' := {
    keep := fun b u q _ _ _ => M.keep b u q
    slot := fun b u q _ _ _ => ⟨u.slots, M.keep b u q⟩
    free := fun b u q n _ => by rw [upd_ne (fun z => by rw [z, ha0] at q; cases q), upd_ne (fun z => by rw [z, hd0] at q; cases q)]; exact n
    there := fun b u q _ => ⟨u, M.keep b u q⟩
    tups := fun b xs q => by rw [upd_ne (ne_of_none q na), upd_ne (ne_of_none q nd)]; exact q
    frzs := fun b u xs q => by rw [upd_ne (ne_of_none q na), upd_ne (ne_of_none q nd)]; exact q
    tbls := fun b ps q => ⟨#[], by rw [upd_ne (ne_of_none q na), upd_ne (ne_of_none q nd), q]; simp⟩ }
  have hok2 : HOk X.prog X.w (upd (upd H1 d (exd d (fs.zip vs))) a (exo a C (some d))) h' := fun b u q => by
    by_cases hb : b = a
    · subst hb
      rw [upd_same] at q
      cases q
      exact exo_ok hoe
    · rw [upd_ne hb] at q
      by_cases hb2 : b = d
      · subst hb2
        rw [upd_same] at q
        cases q
        exact exd_ok M.ns rel
      · rw [upd_ne hb2] at q
        exact (I1.hok b u q).stay (fun c v _ z => M.keep c v z) (fun c z => by rw [upd_ne (ne_of_none z na), upd_ne (ne_of_none z nd)]; exact z) fun c xs z => by rw [upd_ne (ne_of_none z na), upd_ne (ne_of_none z nd)]; exact z
  exact ⟨.ref a, _, I1.un (t' := tk') U hok2, rfl, q1 a d na nd M.dne⟩
/-- X(e, ..), a value, X's own __init__ walked -/
def tOeV (C : Addr) (sp : Sp) (dvs : List V) (ta : TA) : TE := fun σ H Q => ta σ H fun vs H1 => vs.length ≤ 1000 ∧ ∀ a, H1 a = none → sp (.ref a :: (vs ++ dvs)) (upd H1 a (exo a C none)) (fun v H2 => v = .non ∧ Q (.ref a) H2) (fun _ _ _ => False)
theorem run_oeV {CX : CXT} {fI : Addr} {k : Nat} {fd : FuncData} {ps : List Str} {sp : Sp} {ds : List Value} {dvs : List V} {pins : List (Addr × Obj)} {σ : St} {H1 : Hp} {s1 : Shared} {Q : VK} {us : List Value} {vs : List V} (T : OexC X.K C) (iC : PySem.W.findIn X.K (.ref C) "__init__" = some (some (.ref fI))) (tI : PySem.W.typeIn X.K (.ref fI) = some (.type "function"))
    (F1 : FnOk X.prog X.w X.K X.mg X.base CX k fI fd ps sp) (hr : Room (k + 1) X.A) (hb : Binds X.K fd ps ds) (hd : Vals dvs ds) (hx : Passes CX X (fun _ _ _ => False)) (I1 : Inv X pins σ H1 s1) (r1 : Vals vs us) (hz : vs.length ≤ 1000)
    (q1 : ∀ a, H1 a = none → sp (.ref a :: (vs ++ dvs)) (upd H1 a (exo a C none)) (fun v H2 => v = .non ∧ Q (.ref a) H2) (fun _ _ _ => False)) : wpAny (model X.prog X.w) X.A (call (.ref C) us) (EP X pins σ Q) X.xe s1 := by
  obtain ⟨nm, q, N, bs, bm, sn, sub, ab, col, dd, k0, k1, k2, k3, k5, hC, hbm⟩ := T.cls
  obtain ⟨hp, g, dr, tk, os⟩ := s1
  have hsz : hp.objs.size ≤ hp.objs.size + 1 := Nat.le_succ _
  have hn : H1 (hp.objs.size + 1) = none := I1.hok.fresh hsz
  have hq := q1 (hp.objs.size + 1) hn
  have kk : ∀ b o, hp.get? b = some o → ((hp.push (PySem.W.kdv_tup us)).push (PySem.HandSPX.excO C hp.objs.size)).get? b = some o := fun b o e => Heap.get?_push_of_some _ (Heap.get?_push_of_some _ e)
  have hget : ((hp.push (PySem.W.kdv_tup us)).push (PySem.HandSPX.excO C hp.objs.size)).get? (hp.objs.size + 1) = some (PySem.HandSPX.excO C hp.objs.size) := by heap_get
  have I2 : Inv X pins σ (upd H1 (hp.objs.size + 1) (exo (hp.objs.size + 1) C none)) ⟨(hp.push (PySem.W.kdv_tup us)).push (PySem.HandSPX.excO C hp.objs.size), g, dr, tk, os⟩ :=
    I1.laid (t' := tk) (a := hp.objs.size + 1) (o := exo (hp.objs.size + 1) C none) (h' := (hp.push (PySem.W.kdv_tup us)).push (PySem.HandSPX.excO C hp.objs.size)) kk hsz (exo_ok hget)
  have r2 : Vals (V.ref (hp.objs.size + 1) :: (vs ++ dvs)) (Value.ref (hp.objs.size + 1) :: (us ++ ds)) := .cons rfl (r1.append hd)
  have hl : (Value.ref (hp.objs.size + 1) :: us ++ ds).length = ps.length := by
    have e := r2.length
    rw [F1.len _ _ _ _ hq] at e
    exact e.symm
  have hus : us.length ≤ sizeLine := by
    rw [← Paired.length r1, sizeLine_eq]
    omega
  refine wpAny_call (PySem.HandSPX.call_own F.excBase_ValueError (fun Y => PySem.HandSPX.refsVE_contains Y bm hbm) (I1.kIn _ _ hC) (PySem.W.looks_findIn I1.kIn iC) (fun self => PySem.W.bind_fn I1.kIn self tI) hus
    (codeAny_mono (F1.run _ X.stack _ _ ⟨Value.ref (hp.objs.size + 1) :: us, []⟩ (Value.ref (hp.objs.size + 1) :: (us ++ ds)) _ _ (fun _ _ _ => False) (hr.make C us []) (I2.env0.make C us []) (hb _ (Value.ref (hp.objs.size + 1) :: us) I2.kIn hl) r2 hq) fun r s' hq' => ?_))
  cases r with
  | error er => exact hx pins σ _ _ er s' I2 hq'
  | ok fl =>
    cases fl with
    | ret u =>
      obtain ⟨v, H2, J, rv, ev, q2⟩ := I2.after hq'
      subst ev
      exact ⟨rv, .ref (hp.objs.size + 1), H2, J, rfl, q2⟩
    | next => exact False.elim hq'
    | brk => exact False.elim hq'
    | cont => exact False.elim hq'
theorem pe_oeV {CX : CXT} {fI : Addr} {k : Nat} {fd : FuncData} {ps : List Str} {sp : Sp} {ds : List Value} {dvs : List V} (T : OexC X.K C) (iC : PySem.W.findIn X.K (.ref C) "__init__" = some (some (.ref fI))) (tI : PySem.W.typeIn X.K (.ref fI) = some (.type "function"))
    (F1 : FnOk X.prog X.w X.K X.mg X.base CX k fI fd ps sp) (hr : Room (k + 1) X.A) (hb : Binds X.K fd ps ds) (hd : Vals dvs ds) (hx : Passes CX X (fun _ _ _ => False)) (hm : X.mg x = some (.ref C)) (ha : PA X (e :: es) ta) (hg : Gl X x := by rfl)
    (hdb : (x == ("__debug__" : Str)) = false := by decide) (he : starEach (e :: es) X.env = (false, eval e X.env) :: starEach es X.env := by rfl) (hpl : (backTo pos (starEach es X.env)).any (·.1) = false := by rfl) :
    PE X (.Call (.Name x p) (e :: es) [] pos) (tOeV C sp dvs ta) := by
  refine ⟨fun pins s σ H Q I h => ?_⟩
  refine wpAny_Call_Name_kw (ld_glob I hg hm ?_ hdb)
  refine PySem.W.callWith_K (h₀ := X.base) I.ok.mod.kin T.kC (thn (ha.run pos pins s σ H _ I h) fun us s1 ⟨vs, H1, I1, r1, hz, q1⟩ => ⟨I1.kIn, ?_⟩) he hpl
  exact run_oeV T iC tI F1 hr hb hd hx I1 r1 hz q1
theorem pe_oeV0 {CX : CXT} {fI : Addr} {k : Nat} {fd : FuncData} {ps : List Str} {sp : Sp} {ds : List Value} {dvs : List V} (T : OexC X.K C) (iC : PySem.W.findIn X.K (.ref C) "__init__" = some (some (.ref fI))) (tI : PySem.W.typeIn X.K (.ref fI) = some (.type "function"))
    (F1 : FnOk X.prog X.w X.K X.mg X.base CX k fI fd ps sp) (hr : Room (k + 1) X.A) (hb : Binds X.K fd ps ds) (hd : Vals dvs ds) (hx : Passes CX X (fun _ _ _ => False)) (hm : X.mg x = some (.ref C)) (hg : Gl X x := by rfl)
    (hdb : (x == ("__debug__" : Str)) = false := by decide) : PE X (.Call (.Name x p) [] [] pos) (tOeV C sp dvs tNil) := by
  refine ⟨fun pins s σ H Q I h => ?_⟩
  refine wpAny_Call_Name_kw (ld_glob I hg hm ?_ hdb)
  exact PySem.W.callWith_K0 I.kIn T.kC (run_oeV (us := []) T iC tI F1 hr hb hd hx I .nil h.1 h.2)
/-- X(), a value, X a class without a text of its own -/
theorem pe_exV0 {bmB : List Value} {B newId initId : String} (F : ExcBaseFacts B newId initId bmB) (q : PySem.W.excIn X.K C bmB newId = true) (gC : X.mg x = some (.ref C)) (kC : PySem.W.keepIn X.K (.ref C) = true) (hg : Gl X x := by rfl) (hdb : (x == ("__debug__" : Str)) = false := by decide) :
    PE X (.Call (.Name x p) [] [] pos) (fun σ H Q => ∀ a, H a = none → Q (.ref a) (upd H a (exo a C none))) := by
  refine ⟨fun pins s σ H Q I h => ?_⟩
  refine wpAny_Call_Name_kw (ld_glob I hg gC ?_ hdb)
  refine PySem.W.callWith_K0 I.kIn kC ?_
  show wpAny _ _ (call (.ref C) []) _ _ _
  obtain ⟨bm, N, nm, qn, bs, hdct, sn, sub, ab, col, dd, k0, k1, k2, k3, k5, mN, hC, hN, hni, T⟩ := exc_obj I.kIn q
  refine wpAny_call_exc_subT F T hC hN hni (fun h' a hm => ?_) (by show 0 ≤ sizeLine; omega)
  have hn : H a = none := I.hok.gone hm.new
  obtain ⟨t, ht, _, _⟩ := hm.there
  exact ⟨.ref a, upd H a (exo a C none), I.laidN hm.keeps hm.new hn (exo_ok ht), rfl, h a hn⟩
/-- raise X() -/
theorem pmk_ex0 {bmB : List Value} {B newId initId : String} (F : ExcBaseFacts B newId initId bmB) (q : PySem.W.excIn X.K C bmB newId = true) (gC : X.mg x = some (.ref C)) (kC : PySem.W.keepIn X.K (.ref C) = true) (r : Raises X (.ref C)) (hg : Gl X x := by rfl) (hdb : (x == ("__debug__" : Str)) = false := by decide) :
    PMk X (.Call (.Name x p) [] [] pos) (fun _ H Q => Q (.ref C) none H) := by
  intro pins s σ H Q I h
  refine wpAny_Call_Name_kw (ld_glob I hg gC ?_ hdb)
  refine PySem.W.callWith_K0 I.kIn kC ?_
  show wpAny _ _ (call (.ref C) []) _ _ _
  obtain ⟨bm, N, nm, qn, bs, hdct, sn, sub, ab, col, dd, k0, k1, k2, k3, k5, mN, hC, hN, hni, T⟩ := exc_obj I.kIn q
  refine wpAny_call_exc_subT F T hC hN hni (fun h' e hm => ?_) (by show 0 ≤ sizeLine; omega)
  exact mk_of I hm r h (I.hok.gone hm.new)
/-- B.__init__(self, ..), B an own class that leaves it to ValueError -/
theorem pe_deinit {pl : Sem Bool} {B : Addr} {mc : Value} (r : ClX.CRead X.K B mc) (vV : PySem.W.findCls X.K (.ref B) mc "__init__" = some (.val (.builtin "ValueError.__init__"))) (hm : X.mg x = some (.ref B)) (ha : PA X (e :: es) ta)
    (hc : eval (.Call (.Attribute (.Name x p1) "__init__" p2) (e :: es) [] pos) X.env = (do
      let ov ← eval (.Name x p1) X.env
      standAt p2.atName
      let (f, first) ← holding [ov] (getMethod ov "__init__" pl)
      callWith pos f first (backTo pos (starEach (e :: es) X.env)) (backToKw pos (keywordEach [] X.env))) := by rfl) (hg : Gl X x := by rfl) (hdb : (x == ("__debug__" : Str)) = false := by decide)
    (he : starEach (e :: es) X.env = (false, eval e X.env) :: starEach es X.env := by rfl) (hpl : (backTo pos (starEach es X.env)).any (·.1) = false := by rfl) :
    PE X (.Call (.Attribute (.Name x p1) "__init__" p2) (e :: es) [] pos) (tVeI X.K ta) := by
  refine ⟨fun pins s σ H Q I h => ?_⟩
  refine PySem.W.methodCall_KW (ld_glob I hg hm ?_ hdb) hc
  refine PySem.W.method_cls I.kIn r.ga (PySem.W.cls_value I.kIn r.rd vV (by rfl) ?_)
  show wpAny _ _ (callWith pos (Value.builtin "ValueError.__init__") [] (backTo pos (starEach (e :: es) X.env)) []) _ _ _
  refine PyProof.Rows.callWith_method1 (thn (ha.run pos pins _ σ H _ (I.tok _) h) fun us s1 ⟨vs, H1, I1, r1, a, C, ws, ev, hl, T, ea, q⟩ => ?_) he hpl
  subst ev
  cases r1 with
  | @cons _ u0 _ ur ra rw' =>
    obtain rfl : u0 = Value.ref a := ra
    have hlen : ur.length ≤ sizeLine := by
      rw [← Paired.length rw', sizeLine_eq]
      omega
    exact oinit_ok T I1 ea hlen fun s' J => ⟨.non, H1, J, rfl, q⟩
/-- e.f, e an error that is a value -/
def tFldE (K : PySem.W.Frag) (f : Str) (te : TE) : TE := fun σ H Q => te σ H fun x H1 => ∃ (a C d : Addr) (fs : List (Str × V)) (v : V), x = .ref a ∧ H1 a = some (exo a C (some d)) ∧ H1 d = some (exd d fs) ∧ XfC K C ∧ PySem.W.findIn K (.ref C) f = some none ∧ fs.lookup f = some v ∧ Q v H1
theorem pe_fldE {o : Expr} {te : TE} {n : Str} (he : PE X o te) (hb : attributeBase o n X.env (eval o X.env) = eval o X.env := by rfl) : PE X (.Attribute o n pos) (tFldE X.K n te) := by
  refine ⟨fun pins s σ H Q I h => ?_⟩
  refine attr_of hb (thn (he.run pins s σ H _ I h) fun u s1 hh => ?_)
  obtain ⟨x, H1, I1, rx, a, C, d, fs, v, ex, ea, ed, T, hno, l, q⟩ := hh
  subst ex
  obtain rfl : u = Value.ref a := rx
  obtain ⟨t1, ho⟩ := exo_at I1.hok ea
  obtain ⟨mA, hns, hr⟩ := exd_at I1.hok ed
  obtain ⟨od, hod, hl⟩ := lookIn_ns hns
  obtain ⟨u, hu, ru⟩ := RelO.some_of (v := v) (o := mA n) (by rw [← l]; exact hr n)
  have J : PySem.W.InstAt s1.heap a { cls := .ref C, dict := some d, data := .fields #[.ref t1, .none, .none, .none, .bool false, .none] } C (some od) := ⟨ho, rfl, rfl, hod⟩
  exact HandSPX.exc_get I1.kIn J T.ga T.gg T.exC (PySem.W.findObj_own T.hdC hno rfl (by rw [hl, hu])) (handed_of ru) ⟨v, H1, I1.tok _, ru, q⟩
/-- isinstance(e, c), e an error that is a value -/
def rIsEv (K : PySem.W.Frag) : List V → Hp → VK → Prop := fun xs H Q => ∃ (a C : Addr) (d : Option Addr) (c : V) (cv : Value) (b : Bool), xs = [.ref a, c] ∧ H a = some (exo a C d) ∧ (∀ dd, d = some dd → ∃ fs, H dd = some (exd dd fs)) ∧ ExcC K C ∧ ClsV c cv ∧ PySem.W.kitOne K (.ref C) cv = some b ∧ Q (.bl b) H
theorem call_isEv : CallR X (.builtin "isinstance") (rIsEv X.K) := by
  intro pins s σ H xs us Q I r h
  obtain ⟨a, C, d, c, cv, b, rfl, ea, hd, T, hcv, e, q⟩ := h
  obtain ⟨u1, u2, rfl, r1, r2⟩ := vals2 r
  obtain rfl : u1 = Value.ref a := r1
  have ec := hcv.eq r2
  subst ec
  obtain ⟨t1, ho⟩ := exo_at I.hok ea
  have hod : ∃ od : Option Obj, PySem.W.InstAt s.heap a { cls := .ref C, dict := d, data := .fields #[.ref t1, .none, .none, .none, .bool false, .none] } C od := by
    cases d with
    | none => exact ⟨none, ho, rfl, rfl, trivial⟩
    | some dd =>
      obtain ⟨fs, ed⟩ := hd dd rfl
      obtain ⟨mA, hns, hr⟩ := exd_at I.hok ed
      obtain ⟨od, hod, hl⟩ := lookIn_ns hns
      exact ⟨some od, ho, rfl, rfl, hod⟩
  obtain ⟨od, J⟩ := hod
  exact PySem.W.kia_one (PySem.ErrL.kitx_err T) I.kIn J e (fun z => nomatch z) fun tk => ⟨.bl b, H, I.kept (t' := tk) fun _ _ z => z, rfl, q⟩
/-- the class at C makes its errors by a maker that is walked -/
def CalO (P : Program) (w : World) (K : PySem.W.Frag) (mg : Str → Option Value) (base : Heap) (k : Nat) (C : Addr) (ps : List Str) (sp : Sp) : Prop :=
  OexC K C ∧ ∃ (f : Addr) (fd : FuncData), FnOk P w K mg base CX0 k f fd ps sp ∧ PySem.W.findIn K (.ref C) "__init__" = some (some (.ref f)) ∧ PySem.W.typeIn K (.ref f) = some (.type "function") ∧ Binds K fd ps []
theorem pe_calO {k : Nat} {ps : List Str} {sp : Sp} (c : CalO X.prog X.w X.K X.mg X.base k C ps sp) (hm : X.mg x = some (.ref C)) (hr : Room (k + 1) X.A) (ha : PA X (e :: es) ta) (hx : Passes CX0 X (fun _ _ _ => False) := by first | exact pass0 | exact passL) (hg : Gl X x := by rfl)
    (hdb : (x == ("__debug__" : Str)) = false := by decide) (he : starEach (e :: es) X.env = (false, eval e X.env) :: starEach es X.env := by rfl) (hpl : (backTo pos (starEach es X.env)).any (·.1) = false := by rfl) :
    PE X (.Call (.Name x p) (e :: es) [] pos) (tOeV C sp [] ta) := by
  obtain ⟨T, f, fd, h1, h2, h3, h4⟩ := c
  exact pe_oeV T h2 h3 h1 hr h4 .nil hx hm ha hg hdb he hpl
theorem pe_calO0 {k : Nat} {ps : List Str} {sp : Sp} (c : CalO X.prog X.w X.K X.mg X.base k C ps sp) (hm : X.mg x = some (.ref C)) (hr : Room (k + 1) X.A) (hx : Passes CX0 X (fun _ _ _ => False) := by first | exact pass0 | exact passL) (hg : Gl X x := by rfl)
    (hdb : (x == ("__debug__" : Str)) = false := by decide) : PE X (.Call (.Name x p) [] [] pos) (tOeV C sp [] tNil) := by
  obtain ⟨T, f, fd, h1, h2, h3, h4⟩ := c
  exact pe_oeV0 T h2 h3 h1 hr h4 .nil hx hm hg hdb
end
/-! ### what stands of an error that is a value -/
/-- e is an error of the class at C -/
def ErV (H : Hp) (e C : Addr) : Prop := ∃ d : Option Addr, H e = some (exo e C d) ∧ ∀ dd, d = some dd → ∃ fs, H dd = some (exd dd fs)
/-- .. with these fields -/
def ErF (H : Hp) (e C : Addr) (g : List (Str × V)) : Prop := ∃ (d : Addr) (fs : List (Str × V)), H e = some (exo e C (some d)) ∧ H d = some (exd d fs) ∧ ∀ f v, g.lookup f = some v → fs.lookup f = some v
section
variable {K : PySem.W.Frag} {H H' : Hp} {e C : Addr} {g : List (Str × V)}
theorem ErF.v (x : ErF H e C g) : ErV H e C := by
  obtain ⟨d, fs, h1, h2, _⟩ := x
  exact ⟨some d, h1, fun dd q => by cases q; exact ⟨fs, h2⟩⟩
theorem ErV.same (x : ErV H e C) (S : Same H H') : ErV H' e C := by
  obtain ⟨d, h1, h2⟩ := x
  refine ⟨d, S _ _ h1, fun dd q => ?_⟩
  obtain ⟨fs, h⟩ := h2 dd q
  exact ⟨fs, S _ _ h⟩
theorem ErF.same (x : ErF H e C g) (S : Same H H') : ErF H' e C g := by
  obtain ⟨d, fs, h1, h2, h3⟩ := x
  exact ⟨d, fs, S _ _ h1, S _ _ h2, h3⟩
/-- X(e, ..) by super().__init__ -/
theorem erV_ok {fs : List Str} {okV : List V → Prop} {vs : List V} {Q : Addr → Hp → Prop} (hl : vs.length = fs.length) (hv : okV vs) (k : ∀ a H', Same H H' → ErF H' a C (fs.zip vs) → Q a H') :
    vs.length = fs.length ∧ okV vs ∧ ∀ a d, H a = none → H d = none → d ≠ a → Q a (upd (upd H d (exd d (fs.zip vs))) a (exo a C (some d))) := by
  refine ⟨hl, hv, fun a d na nd ne => k a _ ?_ ⟨d, fs.zip vs, upd_same, by rw [upd_ne ne]; exact upd_same, fun _ _ z => z⟩⟩
  exact (sNew nd).trans (sNew (by rw [upd_ne (Ne.symm ne)]; exact na))
/-- X() by a maker that is walked, or by none -/
theorem fldE_ok {f : Str} {v : V} {Q : VK} (x : ErF H e C g) (T : XfC K C) (hno : PySem.W.findIn K (.ref C) f = some none) (l : g.lookup f = some v) (k : Q v H) :
    ∃ (a C' d : Addr) (fs : List (Str × V)) (v' : V), V.ref e = .ref a ∧ H a = some (exo a C' (some d)) ∧ H d = some (exd d fs) ∧ XfC K C' ∧ PySem.W.findIn K (.ref C') f = some none ∧ fs.lookup f = some v' ∧ Q v' H := by
  obtain ⟨d, fs, h1, h2, h3⟩ := x
  exact ⟨e, C, d, fs, v, rfl, h1, h2, T, hno, h3 f v l, k⟩
theorem isE_ok {c : V} {cv : Value} {b : Bool} {Q : VK} (x : ErV H e C) (T : ExcC K C) (hc : ClsV c cv) (hk : PySem.W.kitOne K (.ref C) cv = some b) (k : Q (.bl b) H) : rIsEv K [.ref e, c] H Q := by
  obtain ⟨d, h1, h2⟩ := x
  exact ⟨e, C, d, c, cv, b, rfl, h1, h2, T, hc, hk, k⟩
/-- the promise of a maker that is walked: what it makes of a new error -/
def spIni (C : Addr) (fs : List Str) : Sp := fun vs H Q _ => ∃ (a : Addr) (us : List V), vs = .ref a :: us ∧ us.length = fs.length ∧ H a = some (exo a C none) ∧
  (fs = [] → Q .non H) ∧ ∀ dx H', H dx = none → dx ≠ a → (∀ b o, H b = some o → b ≠ a → H' b = some o) → H' a = some (exo a C (some dx)) → H' dx = some (exd dx (fs.zip us).reverse) → Q .non H'
theorem oeV_ok {fs : List Str} {vs : List V} {Q : Addr → Hp → Prop} (hl : vs.length = fs.length) (hz : vs.length ≤ 1000) (hn : fs ≠ []) (hd : ∀ f v, (fs.zip vs).lookup f = some v → (fs.zip vs).reverse.lookup f = some v) (k : ∀ a H', Same H H' → ErF H' a C (fs.zip vs) → Q a H') :
    vs.length ≤ 1000 ∧ ∀ a, H a = none → spIni C fs (.ref a :: (vs ++ [])) (upd H a (exo a C none)) (fun v H2 => v = .non ∧ Q a H2) (fun _ _ _ => False) := by
  refine ⟨hz, fun a na => ⟨a, vs, by rw [List.append_nil], hl, upd_same, fun z => absurd z hn, fun dx H' nd ne kp h1 h2 => ⟨rfl, k a H' (fun b o q => ?_) ⟨dx, _, h1, h2, hd⟩⟩⟩⟩
  have nb : b ≠ a := ne_of_none q na
  exact kp b o (by rw [upd_ne nb]; exact q) nb
theorem oeV0_ok {Q : Addr → Hp → Prop} (k : ∀ a H', Same H H' → ErV H' a C → Q a H') :
    ([] : List V).length ≤ 1000 ∧ ∀ a, H a = none → spIni C [] (.ref a :: ([] ++ [])) (upd H a (exo a C none)) (fun v H2 => v = .non ∧ Q a H2) (fun _ _ _ => False) :=
  ⟨by decide, fun a na => ⟨a, [], rfl, rfl, upd_same, fun _ => ⟨rfl, k a _ (sNew na) ⟨none, upd_same, fun dd q => by cases q⟩⟩, fun dx H' nd ne kp h1 h2 => ⟨rfl, k a H' (fun b o q => kp b o (by rw [upd_ne (ne_of_none q na)]; exact q) (ne_of_none q na)) ⟨some dx, h1, fun dd q => by cases q; exact ⟨_, h2⟩⟩⟩⟩⟩
theorem exV0_ok {Q : Addr → Hp → Prop} (k : ∀ a H', Same H H' → ErV H' a C → Q a H') : ∀ a, H a = none → Q a (upd H a (exo a C none)) :=
  fun a na => k a _ (sNew na) ⟨none, upd_same, fun dd q => by cases q⟩
end
end L2
set_option Elab.async false
set_option linter.all false
set_option maxRecDepth 100000
/-! several clauses «except X as n», the name alike in all -/
namespace L2
open PySem PySem.Spec PyProof.Rows
/-- the ends of a suite that holds a name at slot i: the name is gone behind it -/
def endsAs (i : Nat) (D : Ends) : Ends where
  nx := fun τ G => D.nx (τ.set i none) G
  rt := D.rt
  bk := fun τ G => D.bk (τ.set i none) G
  ct := fun τ G => D.ct (τ.set i none) G
/-- what the clauses wish, one behind the other -/
def wAsM (K : PySem.W.Frag) (i : Nat) (Wo : WX) (D : Ends) : List (Value × (Addr → Value → Option Addr → TS)) → WX
  | [] => Wo
  | (c, ts) :: r => fun cls d τ G => ∃ t, PySem.W.exmOne K cls c = some t ∧ (t = true → ∀ a, G a = none → ts a cls d (endsAs i D) (τ.set i (some (.ref a))) G) ∧ (t = false → wAsM K i Wo D r cls d τ G)
/-- the clauses, written -/
inductive ClsAs (X : Cx) (n : Str) : List ExceptHandler → List (Value × (Addr → Value → Option Addr → TS)) → Prop
  | nil : ClsAs X n [] []
  | cons {x : Str} {c : Value} {ts : Addr → Value → Option Addr → TS} {b0 : Stmt} {rest : List Stmt} {p q : Pos} {hs : List ExceptHandler} {l : List (Value × (Addr → Value → Option Addr → TS))} (hc : Names X x c)
      (hsu : ∀ (a : Addr) (oe : Obj) (cls : Value) (d : Option Addr) (pn : List (Addr × Obj)), Zc cls d oe → (∃ vs, oe.data = .fields vs) → PSs (X.suite a ((a, oe) :: pn)) (b0 :: rest) (ts a cls d)) (more : ClsAs X n hs l) :
      ClsAs X n (.ExceptHandler (some (.Name x p)) (some n) (b0 :: rest) q :: hs) ((c, ts) :: l)
section
variable {X : Cx} {n : Str} {i : Nat} {body : List Stmt} {c0 : ExceptHandler} {cs : List ExceptHandler} {l : List (Value × (Addr → Value → Option Addr → TS))} {pos : Pos} {tb : WX → TS} {Wo : WX}
theorem ps_try_asM (hst : X.stack = X.env :: X.outer) (hfr : X.env.frame = some X.env.locals) (hN : X.N.Nodup) (hi : X.N[i]? = some n) (hln : X.env.kindOf n = some .local) (tk : Takes X Wo)
    (hb : ∀ (W : WX) (pn : List (Addr × Obj)) (xe : Value → Shared → Prop), Takes (X.tr pn xe) W → PassesOwn (model X.prog X.w) X.A X.env xe → PSs (X.tr pn xe) body (tb W))
    (hh : ClsAs X n (c0 :: cs) l) : PS X (.Try body (c0 :: cs) [] [] pos) (fun D τ G => tb (wAsM X.K i Wo D l) D τ G) := by
  refine ⟨fun pins s τ G D I wish => ?_⟩
  have good := I.ok
  have frames : X.A.frames = some (X.env :: X.outer) := by rw [good.frames, hst]
  have loc : Loc X.env.scope n := .inl hln
  refine wpAny_Try_except (wpAny_mono ((hb (wAsM X.K i Wo D l) (X.pn ++ pins) (fun e s1 => wpAny (model X.prog X.w) X.A (noteFrame e X.env) (fun _ s2 => wpAny (model X.prog X.w) X.A (setFlight e none) (fun _ s3 =>
    wpAny (model X.prog X.w) X.A (handleBy e X.env (c0 :: cs)) (SP X pins D) X.xe s3) X.xe s2) X.xe s1) (fun u s1 caught => ?_) PassesOwn.looking).run [] s τ G D (I.toTry _) wish) (fun r s1 came => ?_) (fun e s1 z => z))
  · obtain ⟨a, B, sI, pinsI, τ1, G1, cls, d, rfl, J0, nb, up, sky, na, os, ag, w⟩ := caught
    have J : Inv X pins τ1 G1 sI := J0.ofTry good
    have skyX : Sky B (X.env :: X.outer) a (Zc cls d) X.env.locals s1.heap := by rw [← hst]; exact sky
    show wpAny _ X.A (noteFrame (.ref a) X.env) _ _ _
    refine Sky.land Zc.steady frames hfr skyX fun hp fl upL => ?_
    have J1 : Inv X pins τ1 G1 { s1 with heap := hp } := J.landed nb fl.1 (up.trans upL) os ag
    obtain ⟨oe, vs, hoe, hz, hdat⟩ := fl.there
    have notin : a ∉ frs (X.env :: X.outer) := fun hm => by
      obtain ⟨_, ob, eb, nf⟩ := fl.2.2.1.mem hm
      rw [hoe] at eb
      cases eb
      exact nf _ hdat
    have nL : a ≠ X.env.locals := fun z => notin (List.mem_filterMap.mpr ⟨X.env, List.mem_cons_self, by rw [hfr, z]⟩)
    have nF : a ∉ X.fs := fun hm => by
      obtain ⟨e, he, z⟩ := List.mem_filterMap.mp hm
      exact notin (List.mem_filterMap.mpr ⟨e, List.mem_cons_of_mem _ he, z⟩)
    have S1 := J1.suite hoe hdat na nL nF
    suffices go : ∀ {hs : List ExceptHandler} {ll : List (Value × (Addr → Value → Option Addr → TS))}, ClsAs X n hs ll → wAsM X.K i Wo D ll cls d τ1 G1 → wpAny (model X.prog X.w) X.A (handleBy (.ref a) X.env hs) (SP X pins D) X.xe { s1 with heap := hp } from go hh w
    intro hs ll hk
    induction hk with
    | nil =>
      intro out
      refine wpAny_handleBy_nil ?_
      obtain ⟨_, _, _, oe2, vs2, T, oT, tt, e2, _, d2, v2, _⟩ := id fl
      have fin : wpAny (model X.prog X.w) X.A (setFlight (.ref a) X.env.frame) (fun _ s4 => wpAny (model X.prog X.w) X.A (throw (.ref a) : Sem Flow) (SP X pins D) X.xe s4) X.xe { s1 with heap := hp } := by
        rw [hfr]
        refine HandSPX.setFlight_upZ fl fun h4 sk up4 => wpAny_throw (tk _ _ ?_)
        exact ⟨a, B, sI, pins, τ1, G1, cls, d, rfl, J, nb, (up.trans upL).trans up4, .inr (.inr (by rw [hst]; exact sk)), na, os, ag, out⟩
      unfold PySem.passOn
      refine wpAny_bind (wpAny_field e2 d2 v2 ?_)
      rw [if_neg (by simp)]
      first
        | exact wpAny_bind (wpAny_pure (wpAny_bind fin))
        | exact wpAny_bind fin
    | @cons x c ts b0 rest p q hs2 l2 hc hsu more ih =>
      intro out
      obtain ⟨t, ht, yes, no⟩ := out
      refine wpAny_handleBy_cons (codeAny_handlers_test ?_) (by intro z; cases z)
      have LM := PySem.W.exm_one (M := model X.prog X.w) J1.kIn (show PySem.W.Looks (model X.prog X.w) hp (typeOf (.ref a)) cls from fun _ _ _ _ k z => wpAny_typeOf_ref (k _ _ hoe) (by rw [hz.1]; exact z)) ht
      have ask : ∀ {Q : Value → Shared → Prop} {E : Value → Shared → Prop}, Q c { s1 with heap := hp } → wpAny (model X.prog X.w) (X.A.mark (some (.ref a))) (eval (.Name x p) X.env) Q E { s1 with heap := hp } := fun {Q E} z => by
        obtain ⟨hg, hdbg, hm | ⟨hm, hv, hnn⟩⟩ := hc
        · exact ld_glob (X := X.suite a ((a, oe) :: (X.pn ++ pins))) S1 hg hm z hdbg
        · exact ld_blt (X := X.suite a ((a, oe) :: (X.pn ++ pins))) S1 hg hm hv z hnn hdbg
      refine ask (LM.here ?_)
      cases t with
      | false => exact (show wpAny _ X.A (handleBy (.ref a) X.env hs2) _ _ _ from ih (no rfl))
      | true =>
        refine codeAny_handlers_suite_as (HandSPX.lands_againZ fl fun hp2 fl2 up2 => ?_)
        have J2 : Inv X pins τ1 G1 { s1 with heap := hp2 } := J.landed nb fl2.1 ((up.trans upL).trans up2) os ag
        obtain ⟨oe2, vs2, hoe2, hz2, hdat2⟩ := fl2.there
        refine store_ok (X := X.suite a ((a, oe2) :: (X.pn ++ pins))) (v := .ref a) (J2.suite hoe2 hdat2 na nL nF) hN hi loc rfl (fun s5 S5 => ?_) (.inr hln)
        refine wpAny_mono ((hsu a oe2 cls d (X.pn ++ pins) hz2 ⟨_, hdat2⟩).run [] s5 _ G1 _ S5 (yes rfl a na)) (fun r s6 came => ?_) (fun _ _ z => False.elim z)
        have gone : ∀ {τ6 : St} {G6 : Hp} {Q : Shared → Prop}, Inv (X.suite a ((a, oe2) :: (X.pn ++ pins))) [] τ6 G6 s6 → (∀ s7, Inv X pins (τ6.set i none) G6 s7 → Q s7) →
            wpAny (model X.prog X.w) X.A (do bindName X.env n .none; unbindBehindTheSuite X.env n q) (fun _ s7 => Q s7) X.xe s6 := fun S6 z => gone_ok (S6.unsuite good) hN hi hln z
        cases r with
        | next => obtain ⟨_, _, S6, w6⟩ := came; exact gone S6 fun _ J7 => ⟨_, _, J7, w6⟩
        | brk => obtain ⟨_, _, S6, w6⟩ := came; exact gone S6 fun _ J7 => ⟨_, _, J7, w6⟩
        | cont => obtain ⟨_, _, S6, w6⟩ := came; exact gone S6 fun _ J7 => ⟨_, _, J7, w6⟩
        | ret u => obtain ⟨_, _, _, S6, r6, w6⟩ := came; exact gone S6 fun _ J7 => ⟨_, _, _, J7, r6, w6⟩
  · cases r with
    | next => obtain ⟨_, _, J2, w2⟩ := came; exact wpAny_execs_nil ⟨_, _, J2.ofTry good, w2⟩
    | brk => obtain ⟨_, _, J2, w2⟩ := came; exact ⟨_, _, J2.ofTry good, w2⟩
    | cont => obtain ⟨_, _, J2, w2⟩ := came; exact ⟨_, _, J2.ofTry good, w2⟩
    | ret u => obtain ⟨_, _, _, J2, r2, w2⟩ := came; exact ⟨_, _, _, J2.ofTry good, r2, w2⟩
theorem ps_try_as2 {x1 x2 : Str} {c1 c2 : Value} {b1 b2 : Stmt} {r1 r2 : List Stmt} {p1 p2 q1 q2 : Pos} {ts1 ts2 : Addr → Value → Option Addr → TS} (hst : X.stack = X.env :: X.outer) (hfr : X.env.frame = some X.env.locals) (hN : X.N.Nodup) (hi : X.N[i]? = some n) (hln : X.env.kindOf n = some .local)
    (hc1 : Names X x1 c1) (hc2 : Names X x2 c2) (tk : Takes X Wo)
    (hb : ∀ (W : WX) (pn : List (Addr × Obj)) (xe : Value → Shared → Prop), Takes (X.tr pn xe) W → PassesOwn (model X.prog X.w) X.A X.env xe → PSs (X.tr pn xe) body (tb W))
    (h1 : ∀ (a : Addr) (oe : Obj) (cls : Value) (d : Option Addr) (pn : List (Addr × Obj)), Zc cls d oe → (∃ vs, oe.data = .fields vs) → PSs (X.suite a ((a, oe) :: pn)) (b1 :: r1) (ts1 a cls d))
    (h2 : ∀ (a : Addr) (oe : Obj) (cls : Value) (d : Option Addr) (pn : List (Addr × Obj)), Zc cls d oe → (∃ vs, oe.data = .fields vs) → PSs (X.suite a ((a, oe) :: pn)) (b2 :: r2) (ts2 a cls d)) :
    PS X (.Try body [.ExceptHandler (some (.Name x1 p1)) (some n) (b1 :: r1) q1, .ExceptHandler (some (.Name x2 p2)) (some n) (b2 :: r2) q2] [] [] pos) (fun D τ G => tb (wAsM X.K i Wo D [(c1, ts1), (c2, ts2)]) D τ G) :=
  ps_try_asM hst hfr hN hi hln tk hb (.cons hc1 h1 (.cons hc2 h2 .nil))
end
section
variable {X : Cx} {o e : Expr} {to : TE} {t : TA} {apos cpos : Pos}
/-- o.append(e) -/
theorem pe_app1 (ho : PE X o to) (ha : PA X [e] t) (hbase : attributeBase o "append" X.env (eval o X.env) = eval o X.env := by rfl)
    (hfew : ((backTo cpos (starEach [e] X.env)).all (fun x => !x.1) && (backToKw cpos (keywordEach [] X.env)).all (fun x => x.1.isSome) && decide ([e].length + ([] : List Keyword).length + (if ([] : List Keyword).isEmpty then 0 else 1) < 30)) = true := by rfl)
    (hline : (apos.endLine == cpos.line) = true := by rfl) (hs : starEach [e] X.env = (false, eval e X.env) :: starEach [] X.env := by rfl) (hplain : (backTo cpos (starEach [] X.env)).any (·.1) = false := by rfl) :
    PE X (.Call (.Attribute o "append" apos) [e] [] cpos) (tBM X.K "list" rAppend to t) := pe_bm PySem.F.plainAttrs_list PySem.F.slot_list_append PySem.F.type_list_append mt_append ho ha hbase hfew hline hs hplain
end
end L2
set_option Elab.async false
set_option linter.all false
set_option maxRecDepth 100000
set_option maxHeartbeats 4000000
/-! super().__init__(..) of an own class, anywhere in a maker's body -/
namespace L2
open PySem PySem.Spec PyProof.Rows
open PySem.ErrL (supS)
/-- the body of a maker that names super -/
def cxSup (CX : CXT) (P : Program) (w : World) (K : PySem.W.Frag) (mg : Str → Option Value) (base : Heap) (N : List Str) (qual : Str) (scope : Scope) (f : Addr) (cd : Value) (cc : Addr) (A : Around) (outer : List Env) (s : Shared) (H : Hp) (E : XK) : Cx where
  prog := P
  w := w
  K := K
  mg := mg
  base := base
  A := A.deeper (PySem.W.ksEnv qual scope s.heap.objs.size f cd cc)
  N := N
  s_0 := s
  H_0 := H
  env := PySem.W.ksEnv qual scope s.heap.objs.size f cd cc
  outer := outer
  stack := PySem.W.ksEnv qual scope s.heap.objs.size f cd cc :: outer
  ex := []
  calm := true
  fn := fun _ => false
  pn := []
  xe := fun e s' => wpAny (model P w) (A.deeper (PySem.W.ksEnv qual scope s.heap.objs.size f cd cc)) (leaving (PySem.W.ksEnv qual scope s.heap.objs.size f cd cc) e) (fun _ s'' => CX outer H s E e s'') (fun e' s'' => CX outer H s E e' s'') s'
structure FnScopeS (N P : List Str) (sc : Scope) : Prop where
  kind : sc.kind = .function
  co : sc.isCoroutine = false
  gen : sc.isGenerator = false
  nd : N.Nodup
  pre : N.take P.length = P
  par : ∀ x ∈ P, sc.names.lookup x = some .local
  nocell : ∀ y ∈ sc.names, y.2 ≠ .cell
  free : ∀ y ∈ sc.names, y.2 = .free → y.1 = "__class__"
  ks : sc.names.lookup ("super" : Str) = some .globalImplicit
  kc : sc.names.lookup ("__class__" : Str) = some .free
  self : P[0]? = some ("self" : Str)
theorem rev_lookup : ∀ {ps : List Str} {us : List Value} {i : Nat} {y : Str} {u : Value}, ps.Nodup → ps[i]? = some y → us[i]? = some u → (ps.zip us).reverse.lookup y = some u := fun {ps us i y u} nd hp hu => by
  have mem : (y, u) ∈ ps.zip us := by
    refine List.mem_iff_getElem?.mpr ⟨i, ?_⟩
    rw [List.getElem?_zip_eq_some]
    exact ⟨hp, hu⟩
  have uni : ∀ v, (y, v) ∈ ps.zip us → v = u := fun v hv => by
    obtain ⟨j, hj⟩ := List.mem_iff_getElem?.mp hv
    rw [List.getElem?_zip_eq_some] at hj
    have := nodup_ix nd hp hj.1
    subst this
    rw [hu] at hj
    exact (Option.some.inj hj.2).symm
  have memR : (y, u) ∈ (ps.zip us).reverse := List.mem_reverse.mpr mem
  have uniR : ∀ v, (y, v) ∈ (ps.zip us).reverse → v = u := fun v hv => uni v (List.mem_reverse.mp hv)
  generalize (ps.zip us).reverse = L at memR uniR
  induction L with
  | nil => cases memR
  | cons a L ih =>
    obtain ⟨n, v⟩ := a
    by_cases z : y = n
    · subst z
      rw [List.lookup_cons_self, uniR v List.mem_cons_self]
    · rw [List.lookup_cons, show (y == n) = false from by simpa using z]
      refine ih ?_ fun v hv => uniR v (List.mem_cons_of_mem _ hv)
      rcases List.mem_cons.mp memR with e | e
      · cases e
        exact absurd rfl z
      · exact e
theorem inv_sup {CX : CXT} {P : Program} {w : World} {K : PySem.W.Frag} {mg : Str → Option Value} {base : Heap} {N ps : List Str} {qual : Str} {scope : Scope} {f cc : Addr} {cd : Value} {A : Around} {outer : List Env} {s : Shared} {H : Hp} {E : XK} {us : List Value} {vs : List V} {cl : Value} {cld : Option Addr} {v0 : Option Value} {csl : Array (Option Value)} {h₀ : Heap} {tk : Nat}
    (S : FnScopeS N ps scope) (hd : A.handled = none) (e0 : Env0 P w K mg base A outer s H) (hl : vs.length = ps.length) (r : Vals vs us) (hcc : K.lookup cc = some ⟨cl, cld, .cell v0, csl⟩)
    (hn : h₀.Ns s.heap.objs.size fun x => (ps.zip us).reverse.lookup x) (hk : ∀ b o, s.heap.get? b = some o → h₀.get? b = some o) :
    Inv (cxSup CX P w K mg base N qual scope f cd cc A outer s H E) [] (start N vs) H { s with heap := h₀, toks := tk } := by
  have hpl : ps.length ≤ N.length := by have := congrArg List.length S.pre; rw [List.length_take] at this; omega
  have noA : ∀ b : Addr, b ∉ (cxSup CX P w K mg base N qual scope f cd cc A outer s H E).ex := fun b z => absurd (show b ∈ ([] : List Addr) from z) (by simp)
  have cells : ∀ y c, ([("__class__", cc)] : List (Str × Addr)).lookup y = some c → y = "__class__" ∧ c = cc := fun y c h => by
    by_cases z : y = "__class__"
    · subst z
      rw [List.lookup_cons_self] at h
      exact ⟨rfl, (Option.some.inj h).symm⟩
    · rw [List.lookup_cons, show (y == ("__class__" : Str)) = false from by simpa using z] at h
      cases h
  have hbc : base.get? cc = some ⟨cl, cld, .cell v0, csl⟩ := e0.mod.kin _ _ hcc
  obtain ⟨hsc, hHc⟩ := e0.bs _ _ hbc
  refine ⟨⟨e0.mod, S.kind, rfl, rfl, Nat.le_refl _, fun y z c h1 h2 => ?_, fun y hy => ?_, fun y c h _ => ?_, fun _ => hd, Around.frames_deeper e0.frames, .inr ⟨rfl, rfl⟩, fun b z => absurd z (noA b), e0.bs, e0.bsz, fun b _ _ => noA b, fun b z => absurd z (noA b), e0.funs, e0.frf⟩,
    rfl, e0.bare, Un.kept hk, ⟨_, hn, fun i y v h1 h2 h3 => ?_⟩, fun y c h => ?_, e0.hok.fresh (Nat.le_refl _), fun y c h => ?_, fun p hp => absurd (show p ∈ ([] : List (Addr × Obj)) from hp) (by simp), e0.hok.kept hk, ?_⟩
  · rw [(cells y c h1).1, (cells z c h2).1]
  · have hy : scope.names.lookup y = some .cell ∨ scope.names.lookup y = some .free := hy
    rcases hy with hy | hy
    · exact absurd rfl (S.nocell _ (PySem.mem_of_lookup hy))
    · have := S.free _ (PySem.mem_of_lookup hy) rfl
      have this : y = "__class__" := this
      subst this
      exact ⟨cc, List.lookup_cons_self⟩
  · cases (show (false : Bool) = true from h)
  · have hi : i < vs.length := by
      unfold start at h2
      by_cases hi : i < vs.length
      · exact hi
      · rw [List.getElem?_append_right (by simpa using hi)] at h2
        rw [List.getElem?_replicate] at h2
        split at h2 <;> cases h2
    have ha : vs[i]? = some v := by
      unfold start at h2
      rw [List.getElem?_append_left (by simpa using hi), List.getElem?_map] at h2
      cases e : vs[i]? with
      | none => rw [e] at h2; cases h2
      | some a => rw [e] at h2; cases h2; rfl
    obtain ⟨u, hu, rv⟩ := r.get ha
    have hp : ps[i]? = some y := by
      rw [← S.pre, List.getElem?_take_of_lt (by omega)]; exact h1
    have ndP : ps.Nodup := by rw [← S.pre]; exact S.nd.sublist (List.take_sublist _ _)
    exact ⟨u, rv, .inl ⟨S.par y (List.mem_of_getElem? hp), rev_lookup ndP hp hu⟩⟩
  · obtain ⟨_, rfl⟩ := cells y c h
    exact ⟨v0, _, hk _ _ hsc, rfl⟩
  · obtain ⟨_, rfl⟩ := cells y c h
    exact hHc
  · unfold start
    show _ = N.length
    rw [List.length_append, List.length_map, List.length_replicate]
    omega
/-- statements of a def whose code is known -/
structure WSs (X : Cx) (b sts : List Stmt) (t : TS) : Prop where
  run : ∀ (pins : List (Addr × Obj)) (s : Shared) (σ : St) (H : Hp) (D : Ends), Inv X pins σ H s → t D σ H → _root_.PySem.wpAt (model X.prog X.w) X.A (.func b X.env) (execs sts X.env) (SP X pins D) X.xe s
section
variable {X : Cx} {b rest : List Stmt} {st : Stmt} {t u : TS}
theorem wss_of {sts : List Stmt} (h : PSs X sts t) : WSs X b sts t := ⟨fun pins s σ H D I q => _root_.PySem.wpAt_of_wpAny (h.run pins s σ H D I q)⟩
theorem wss_cons (h1 : PS X st t) (h2 : WSs X b rest u) : WSs X b (st :: rest) (tSeq t u) := by
  refine ⟨fun pins s σ H D I h => ?_⟩
  refine ks_wpAt_execs_cons (_root_.PySem.wpAt_of_wpAny (thn (h1.run pins s σ H { D with nx := u D } I h) fun f s1 q => ?_))
  cases f with
  | next =>
    obtain ⟨σ', H', I', q⟩ := q
    exact h2.run pins s1 σ' H' D I' q
  | ret v => exact q
  | brk => exact q
  | cont => exact q
theorem wss_cut (h1 : PS X st t) (h2 : WSs X b rest u) : WSs X b (st :: rest) (C8.tCut t u) := by
  refine ⟨fun pins s σ H D I h => ?_⟩
  obtain ⟨Mid, hm, hu⟩ := h
  refine ks_wpAt_execs_cons (_root_.PySem.wpAt_of_wpAny (thn (h1.run pins s σ H { D with nx := Mid } I hm) fun f s1 q => ?_))
  cases f with
  | next =>
    obtain ⟨σ', H', I', q⟩ := q
    exact h2.run pins s1 σ' H' D I' (hu σ' H' q)
  | ret v => exact q
  | brk => exact q
  | cont => exact q
end
/-- super().__init__(..) of the class at C; sp: what the base's maker promises -/
def tSup (C : Addr) (sp : Sp) (E : XK) (ta : TA) (u : TS) : TS := fun D σ H => ∃ (x dx : Addr) (fs : List (Str × V)), σ[0]? = some (some (.ref x)) ∧ H x = some (.ins C dx fs) ∧ ta σ H fun vs H1 => sp (.ref x :: vs) H1 (fun _ H2 => u D σ H2) E
/-- what the text says of a maker that names super -/
structure SupF (prog : Program) (K : PySem.W.Frag) (C fI fB : Addr) (name qual : Str) (params : Arguments) (body : List Stmt) (scope : Scope) (kV doc pm : Value) (an : Option Addr) (cda : Addr) (ct : Value) (cc : Addr) : Prop where
  fn : ∃ (oc : Value) (od : Option Addr) (osl : Array (Option Value)), K.lookup fI = some ⟨oc, od, .func (PySem.W.ksFn name qual params body scope .none kV doc pm an (.ref cda) ct cc), osl⟩
  code : PySem.W.codeIn K (.ref cda) qual = true
  file : ∃ (ccl : Value) (cdd : Option Addr) (vs : Array Value) (ccs : Array (Option Value)) (file : Str) (tf : Tok), K.lookup cda = some ⟨ccl, cdd, .fields vs, ccs⟩ ∧ vs[2]? = some (.str file tf) ∧ ((prog.main.file : Str) == file) = true
  cell : ∃ (cl : Value) (cld : Option Addr) (csl : Array (Option Value)), K.lookup cc = some ⟨cl, cld, .cell (some (.ref C)), csl⟩
  self1 : PySem.W.mroIn K C (.ref C) = some true
  opq : PySem.W.nsIn K cStatics "thirdparty.any" = some none
  sup : PySem.W.ks_superIn K C C "__init__" = some (some (.ref fB))
  isF : PySem.W.fnIn K fB = true
  tB : PySem.W.typeIn K (.ref fB) = some (.type "function")
  top : (prog.main.scope.names.lookup ("super" : Str)).isSome = false
theorem typeIn_fn {K : PySem.W.Frag} {f : Addr} (h : PySem.W.typeIn K (.ref f) = some (.type "function")) : ∃ o, K.lookup f = some o ∧ o.cls = .type "function" := by
  have h : (K.lookup f).map (fun o => o.cls) = some (.type "function") := h
  cases e : K.lookup f with
  | none => rw [e] at h; cases h
  | some o => rw [e] at h; exact ⟨o, rfl, Option.some.inj h⟩
section
variable {CX CXB : CXT} {P : Program} {w : World} {K : PySem.W.Frag} {mg : Str → Option Value} {base : Heap} {N ps psB : List Str} {name qual : Str} {params : Arguments} {body rest : List Stmt} {scope : Scope} {kV doc pm ct : Value} {an : Option Addr} {C fI fB cda cc : Addr} {A : Around} {outer : List Env} {s0 : Shared} {H0 : Hp} {E EB : XK} {kB : Nat} {fdB : FuncData} {spB : Sp} {e0 : Expr} {es : List Expr} {a1 a2 a3 a4 a5 : Pos} {ta : TA} {u : TS}
theorem wss_sup (T : SupF P K C fI fB name qual params body scope kV doc pm an cda ct cc) (S : FnScopeS N ps scope) (par : ∃ p, (params.posonlyargs ++ params.args).head? = some p ∧ p.arg = "self") (hsu : mg "super" = none)
    (F : FnOk P w K mg base CXB kB fB fdB psB spB) (hr : Room kB (cxSup CX P w K mg base N qual scope fI (.ref cda) cc A outer s0 H0 E).A) (hb : Binds K fdB psB []) (hx : Passes CXB (cxSup CX P w K mg base N qual scope fI (.ref cda) cc A outer s0 H0 E) EB)
    (ha : PA (cxSup CX P w K mg base N qual scope fI (.ref cda) cc A outer s0 H0 E) (e0 :: es) ta) (hrest : WSs (cxSup CX P w K mg base N qual scope fI (.ref cda) cc A outer s0 H0 E) body rest u)
    (he : starEach (e0 :: es) (cxSup CX P w K mg base N qual scope fI (.ref cda) cc A outer s0 H0 E).env = (false, eval e0 (cxSup CX P w K mg base N qual scope fI (.ref cda) cc A outer s0 H0 E).env) :: starEach es (cxSup CX P w K mg base N qual scope fI (.ref cda) cc A outer s0 H0 E).env)
    (hpl : (backTo a4 (starEach es (cxSup CX P w K mg base N qual scope fI (.ref cda) cc A outer s0 H0 E).env)).any (·.1) = false)
    (hi : interactive (cxSup CX P w K mg base N qual scope fI (.ref cda) cc A outer s0 H0 E).env = false)
    (hev : ∃ pl : Sem Bool, eval (.Call (.Attribute (.Call (.Name "super" a1) [] [] a2) "__init__" a3) (e0 :: es) [] a4) (cxSup CX P w K mg base N qual scope fI (.ref cda) cc A outer s0 H0 E).env = (do
      let ov ← attributeBase (.Call (.Name "super" a1) [] [] a2) "__init__" (cxSup CX P w K mg base N qual scope fI (.ref cda) cc A outer s0 H0 E).env (eval (.Call (.Name "super" a1) [] [] a2) (cxSup CX P w K mg base N qual scope fI (.ref cda) cc A outer s0 H0 E).env)
      standAt a3.atName
      let (f, first) ← holding [ov] (getMethod ov "__init__" pl)
      callWith a4 f first (backTo a4 (starEach (e0 :: es) (cxSup CX P w K mg base N qual scope fI (.ref cda) cc A outer s0 H0 E).env)) []))
    (hsw : swapsWith (.Call (.Attribute (.Call (.Name "super" a1) [] [] a2) "__init__" a3) (e0 :: es) [] a4) none a5.line (cxSup CX P w K mg base N qual scope fI (.ref cda) cc A outer s0 H0 E).env = pure false) :
    WSs (cxSup CX P w K mg base N qual scope fI (.ref cda) cc A outer s0 H0 E) body (supS (e0 :: es) a1 a2 a3 a4 a5 :: rest) (tSup C spB EB ta u) := by
  refine ⟨fun pins s σ H D I h => ?_⟩
  obtain ⟨x, dx, fs, h0, hx0, hta⟩ := h
  obtain ⟨oc, od, osl, hf⟩ := T.fn
  obtain ⟨ccl, cdd, cvs, ccs, file, tf, hcode, hvs, hfile⟩ := T.file
  obtain ⟨cl, cld, csl, hcell⟩ := T.cell
  obtain ⟨par, hp, hps⟩ := par
  obtain ⟨pl, hev⟩ := hev
  have X0 : K.In s.heap := I.kIn
  obtain ⟨m, hns, hloc⟩ := I.loc
  have n0 : N[0]? = some ("self" : Str) := by
    have := S.self
    rw [← S.pre] at this
    cases hP : ps.length with
    | zero => rw [hP] at this; cases this
    | succ k =>
      rw [hP, List.getElem?_take_of_lt (Nat.succ_pos k)] at this
      exact this
  have ksf : scope.names.lookup ("self" : Str) = some .local := S.par "self" (List.mem_of_getElem? S.self)
  obtain ⟨v, rv, lk⟩ := hloc 0 "self" (.ref x) n0 h0 (.inl ksf)
  obtain rfl : v = .ref x := rv
  have hms : m "self" = some (.ref x) := by
    rcases lk with ⟨_, e⟩ | ⟨hk, _⟩
    · exact e
    · exfalso
      have hk : scope.names.lookup ("self" : Str) = some .cell ∨ scope.names.lookup ("self" : Str) = some .free := hk
      rw [ksf] at hk
      rcases hk with hk | hk <;> cases hk
  obtain ⟨mA, O, _⟩ := ins_get I.hok hx0
  obtain ⟨odx, J, _⟩ := O.look
  obtain ⟨cdC, hcC⟩ : ∃ cd, PySem.W.clsIn K C = some cd := by
    have h2 := T.sup
    unfold PySem.W.ks_superIn at h2
    cases e : PySem.W.clsIn K C with
    | none => rw [e] at h2; cases h2
    | some cd => exact ⟨cd, rfl⟩
  have hsup := T.sup
  unfold PySem.W.ks_superIn at hsup
  rw [hcC] at hsup
  have hsup : PySem.W.alongIn K "__init__" ((cdC.mro.dropWhile (· != .ref C)).drop 1) = some (some (.ref fB)) := hsup
  have xC : x ≠ C := PySem.W.ks_ne X0 J hcC
  obtain ⟨oC, hC1, hC2⟩ : ∃ oD, s.heap.get? C = some oD ∧ oD.data = .cls cdC := by
    unfold PySem.W.clsIn at hcC
    split at hcC
    · rename_i c d cd' sl ho
      cases hcC
      exact ⟨_, X0 _ _ ho, rfl⟩
    · cases hcC
  obtain ⟨oB, hoB, hoBc⟩ := typeIn_fn T.tB
  have hg : s.heap.Ns mainGlobals mg := I.mod.glob.keeps I.bk
  obtain ⟨mb, hb1, hb2⟩ := I.mod.blt
  have hb1 : s.heap.Ns builtinsNs mb := hb1.keeps I.bk
  have hkind : scope.kind = .function := S.kind
  unfold supS
  refine ks_wpAt_execs_cons (ks_wpAt_Expr_any (ks_wpAt_MethodCall ?_ hev) hi hsw)
  obtain ⟨hh, g, d, t, os⟩ := s
  refine ks_wpAt_super_base (env := PySem.W.ksEnv qual scope s0.heap.objs.size fI (.ref cda) cc) S.ks S.kc (by decide) rfl (X0 _ _ hf) rfl hp rfl (X0 _ _ hcode) rfl hvs hfile T.top ?_
  refine PySem.W.ks_loadName_global hkind S.ks (PySem.Calls.loadGlobal_builtin (env := PySem.W.ksEnv qual scope s0.heap.objs.size fI (.ref cda) cc) hg hsu hb1 ((hb2 _ (by decide +kernel)).trans (show bootBuiltins ("super" : Str) = some (.type "super") by decide +kernel)) ⟨rfl, ?_⟩)
  refine wpAny_loadName_free hkind S.kc rfl ⟨_, X0 _ _ hcell, rfl⟩ ?_
  refine wpAny_loadName_local hkind (by rw [hps]; exact ksf) hns (by rw [hps]; exact hms) ?_
  refine ks_wpAny_isType_cls hC1 hC2 ⟨rfl, ?_⟩
  refine ks_wpAny_call_super hC1 hC2 J.at_ J.cls (fun c e => ?_) (PySem.W.looks_mroIn X0 T.self1) (fun h1 e1 k1 => ?_)
  · have := J.no
    unfold PySem.W.notCls at this
    rw [e] at this
    exact Bool.noConfusion this
  have X1 : K.In h1 := X0.keeps k1
  refine ks_wpAny_getMethod_super (l₀ := cdC.mro) e1 (PySem.W.looks_opaque X1 T.opq) (fun A Q E s k q => wpAny_bind ((PySem.W.looks_clsIn X1 hcC) A _ E s k (wpAny_pure q))) rfl X1 hsup (X1 _ _ hoB) hoBc xC (by decide) ?_
  have k12 : ∀ b o, hh.get? b = some o → (h1.push (PySem.W.methodObj (.ref fB) (.ref x))).get? b = some o := fun b o e => Heap.get?_push_of_some _ (k1 b o e)
  have I2 : Inv (cxSup CX P w K mg base N qual scope fI (.ref cda) cc A outer s0 H0 E) pins σ H ⟨h1.push (PySem.W.methodObj (.ref fB) (.ref x)), g, d, t + 1, os⟩ := I.kept (t' := t + 1) k12
  have mq : (h1.push (PySem.W.methodObj (.ref fB) (.ref x))).get? h1.objs.size = some (PySem.W.methodObj (.ref fB) (.ref x)) := Heap.get?_push_at rfl rfl
  have sz : hh.objs.size ≤ h1.objs.size := Nat.le_of_lt (Heap.lt_size e1)
  have z0 : H h1.objs.size = none := I.hok.fresh sz
  obtain ⟨f0, f1, f2, _⟩ := I.fpOk (b := h1.objs.size) sz z0
  have I3 : Inv (cxSup CX P w K mg base N qual scope fI (.ref cda) cc A outer s0 H0 E) ((h1.objs.size, PySem.W.methodObj (.ref fB) (.ref x)) :: pins) σ H ⟨h1.push (PySem.W.methodObj (.ref fB) (.ref x)), g, d, t + 1, os⟩ := I2.pins_of fun p hp => by
    rcases List.mem_cons.mp hp with rfl | hp
    · exact ⟨mq, f0, f1, f2, fun v e => by cases e⟩
    · exact I2.pin p (List.mem_append_right _ hp)
  have hA := ha.run a4 _ _ σ H _ I3 hta
  rw [he] at hA
  show wpAny _ _ (callWith a4 (.ref h1.objs.size) [] (backTo a4 (starEach (e0 :: es) _)) []) _ _ _
  rw [he]
  refine PySem.W.callWith_of (P := PySem.W.MethP K h1.objs.size fB (.ref x)) (by show ((false || (backTo a4 (starEach es _)).any (·.1)) || false) = false; rw [hpl]; rfl) (PySem.W.keeps_M T.isF) (Calls.evalArgs_plain ?_)
  refine thn hA fun us s1 ⟨vs, H1, I4, r, q⟩ => ?_
  have hm := (I4.pin (h1.objs.size, PySem.W.methodObj (.ref fB) (.ref x)) (List.mem_append_right _ List.mem_cons_self)).1
  refine ⟨⟨hm, I4.kIn⟩, ?_⟩
  have hl : (Value.ref x :: us).length = psB.length := by rw [List.length_cons, ← r.length]; exact F.len _ _ _ _ q
  have hbd := hb s1 (.ref x :: us) I4.kIn (by rw [List.append_nil]; exact hl)
  rw [List.append_nil] at hbd
  refine wpAny_call (ks_codeAny_call_bound hm (codeAny_mono (F.run (cxSup CX P w K mg base N qual scope fI (.ref cda) cc A outer s0 H0 E).A (cxSup CX P w K mg base N qual scope fI (.ref cda) cc A outer s0 H0 E).stack s1 H1 ⟨.ref x :: us, []⟩ (.ref x :: us) (.ref x :: vs) _ EB hr I4.env0 hbd (.cons rfl r) q) fun r s' hq => ?_))
  cases r with
  | error e => exact hx _ σ H1 s1 e s' I4 hq
  | ok fl =>
    cases fl with
    | ret v =>
      obtain ⟨v', H', I5, r5, q5⟩ := I4.after hq
      have I6 : Inv (cxSup CX P w K mg base N qual scope fI (.ref cda) cc A outer s0 H0 E) pins σ H' s' := I5.pins_of fun p hp => I5.pin p (List.mem_append_right _ (List.mem_cons_of_mem _ hp))
      exact hrest.run pins s' σ H' D I6 q5
    | next => exact False.elim hq
    | brk => exact False.elim hq
    | cont => exact False.elim hq
/-- THE RULE for a maker that names super -/
theorem fn_sup {k : Nat} {sp : Sp} (T : SupF P K C fI fB name qual params body scope kV doc pm an cda ct cc) (S : FnScopeS N ps scope) (len : ∀ vs H Q E, sp vs H Q E → vs.length = ps.length)
    (hbody : ∀ (A : Around) (outer : List Env) (s : Shared) (H : Hp) (vs : List V) (Q : VK) (E : XK), Room k (A.deeper (PySem.W.ksEnv qual scope s.heap.objs.size fI (.ref cda) cc)) → sp vs H Q E →
      ∃ t, WSs (cxSup CX P w K mg base N qual scope fI (.ref cda) cc A outer s H E) body body t ∧ t { nx := fun _ H' => Q .non H', rt := Q } (start N vs) H) :
    FnOk P w K mg base CX (k + 1) fI (PySem.W.ksFn name qual params body scope .none kV doc pm an (.ref cda) ct cc) ps sp := by
  refine ⟨len, fun A outer s H args us vs Q E hr e0 hb r hsp => ?_⟩
  obtain ⟨oc, od, osl, lk⟩ := T.fn
  obtain ⟨cl, cld, csl, hcell⟩ := T.cell
  have hl := len _ _ _ _ hsp
  have KX : K.In s.heap := e0.mod.kin.keeps fun b o e => (e0.bs b o e).1
  have lim : s.heap.NoLimit := e0.mod.nolimit.keeps fun b o e => (e0.bs b o e).1
  refine ks_codeAny_call_defAt (fd := PySem.W.ksFn name qual params body scope .none kV doc pm an (.ref cda) ct cc) (binds := ps.zip us) hr.depth (KX _ _ lk) rfl lim (PySem.W.codeRec_of KX T.code) rfl hb S.nocell (fun ⟨n, v⟩ hy => S.par n (List.of_mem_zip hy).1) (fun h₁ hn k₁ => ?_) S.co S.gen S.kind
  obtain ⟨t, ht, hq⟩ := hbody A outer s H vs Q E (hr.deeper _) hsp
  have I : Inv (cxSup CX P w K mg base N qual scope fI (.ref cda) cc A outer s H E) [] (start N vs) H { s with heap := h₁, toks := s.toks + (ps.zip us).length } := inv_sup S hr.hd e0 hl r hcell hn k₁
  refine ks_wpAt_mono (ht.run [] _ (start N vs) H _ I hq) (fun fl s' hs => ?_) fun e s' hs => hs
  have fin : ∀ {σ' : St} {H' : Hp} {v : V} {u : Value}, Inv (cxSup CX P w K mg base N qual scope fI (.ref cda) cc A outer s H E) [] σ' H' s' → RelV v u → Q v H' → CE outer P w H s Q u s' :=
    fun {σ' H' v u} J rv q => ⟨v, H', J.os, J.bare, J.base, J.hok, rv, q⟩
  cases fl with
  | ret u =>
    obtain ⟨v, σ', H', J, rv, q⟩ := hs
    exact fin J rv q
  | next =>
    obtain ⟨σ', H', J, q⟩ := hs
    exact fin (v := V.non) (u := Value.none) J rfl q
  | brk =>
    obtain ⟨_, _, _, q⟩ := hs
    exact False.elim q
  | cont =>
    obtain ⟨_, _, _, q⟩ := hs
    exact False.elim q
/-- how its arguments bind -/
theorem sup_binds (T : SupF P K C fI fB name qual params body scope kV doc pm an cda ct cc) (h : ∀ us : List Value, us.length = ps.length → bindArgs (PySem.W.ksFn name qual params body scope .none kV doc pm an (.ref cda) ct cc) ⟨us, []⟩ = pure (ps.zip us)) : Binds K (PySem.W.ksFn name qual params body scope .none kV doc pm an (.ref cda) ct cc) ps [] := .all h
end
end L2
set_option Elab.async false
set_option linter.all false
set_option maxRecDepth 100000
set_option maxHeartbeats 4000000
/-! a head by one run: own errors' makers, any Bool of the written part -/
namespace HeM
open PySem PySem.Spec PyProof.Rows L2 He
/-! ### looks that answer true or false -/
/-- the object of an own error class -/
def ecB (K : PySem.W.Frag) (C : Addr) : Bool := match K.lookup C with
  | some ⟨.type "type", _, .cls cd, sl⟩ => (match cd.mro, sl.toList with
    | .ref C' :: bm, [_, _, _, _, some (.builtin n), _] => C' == C && (n == "ValueError.__new__" && (!cd.hasDel && (cd.hasDict && PySem.HandSPX.refsVE bm)))
    | _, _ => false)
  | _ => false
theorem ecB_ok {K : PySem.W.Frag} {C : Addr} (q : ecB K C = true) :
    ∃ nm q N bs bm sn sub ab col dd k0 k1 k2 k3 k5, K.lookup C = some (excClassObj nm q C N bs bm true sn sub ab col dd k0 k1 k2 k3 k5 "ValueError.__new__") ∧ PySem.HandSPX.refsVE bm = true := by
  unfold ecB at q
  split at q
  · rename_i dd cd sl ho
    split at q
    · rename_i C' bm k0 k1 k2 k3 n k5 hm hs
      simp only [Bool.and_eq_true, beq_iff_eq, Bool.not_eq_true'] at q
      obtain ⟨rfl, rfl, hdel, hdict, ht⟩ := q
      obtain ⟨nm, bs, mro, ns, qn, hd, sn, sub, ab, col, del⟩ := cd
      dsimp only at hm hdel hdict
      subst hm hdel hdict
      have hsl : sl = #[k0, k1, k2, k3, some (.builtin "ValueError.__new__"), k5] := by
        obtain ⟨l⟩ := sl
        simp only at hs
        rw [hs]
      subst hsl
      exact ⟨nm, qn, ns, bs, bm, sn, sub, ab, col, dd, k0, k1, k2, k3, k5, ho, ht⟩
    · cases q
  · cases q
/-- isinstance may be asked of its errors -/
def xcB (K : PySem.W.Frag) (D : Addr) : Bool :=
  eqO (PySem.W.findIn K (.ref D) "__getattribute__") (some (some (.builtin "BaseException.__getattribute__"))) && (eqO (PySem.W.findIn K (.ref D) "__getattr__") (some none) && (decide (PySem.W.subIn K (.ref D) (.type "BaseException") = some true) && (PySem.W.hasDictIn K D &&
    (eqO (PySem.W.findIn K (.ref D) "__class__") (some (some (.builtin "object.__class__"))) && decide (PySem.W.mroIn K D (.type "object") = some true)))))
def zB (K : PySem.W.Frag) : Bool := eqO (PySem.W.specialIn K (.builtin "object.__class__") "__get__") (some (some (.builtin "getset_descriptor.__get__"))) && decide (PySem.W.takesIn K (.builtin "object.__class__") = some true)
theorem xcB_ok {K : PySem.W.Frag} {D : Addr} (h : xcB K D = true) (z : zB K = true) : ExcC K D := by
  obtain ⟨h1, h⟩ := ba h
  obtain ⟨h2, h⟩ := ba h
  obtain ⟨h3, h⟩ := ba h
  obtain ⟨h4, h⟩ := ba h
  obtain ⟨h5, h6⟩ := ba h
  obtain ⟨z1, z2⟩ := ba z
  exact ⟨eqO_ok h1, eqO_ok h2, of_decide_eq_true h3, h4, eqO_ok h5, eqO_ok z1, of_decide_eq_true z2, of_decide_eq_true h6⟩
/-- its errors may be made -/
def oxB (K : PySem.W.Frag) (C : Addr) : Bool := ecB K C && (eqO (PySem.W.findIn K (.ref C) "__setattr__") (some (some (.builtin "object.__setattr__"))) && (decide (PySem.W.subIn K (.ref C) (.type "BaseException") = some true) && (decide (PySem.W.typeIn K (.ref C) = some (.type "type")) && PySem.W.keepIn K (.ref C))))
theorem oxB_ok {K : PySem.W.Frag} {C : Addr} (h : oxB K C = true) : OexC K C := by
  obtain ⟨h1, h⟩ := ba h
  obtain ⟨h2, h⟩ := ba h
  obtain ⟨h3, h⟩ := ba h
  obtain ⟨h4, h5⟩ := ba h
  exact ⟨ecB_ok h1, eqO_ok h2, of_decide_eq_true h3, of_decide_eq_true h4, h5⟩
/-- the maker stands in the class itself -/
def inB (K : PySem.W.Frag) (C : Str) : Bool := eqO (PySem.W.findIn K (.ref (ga K C)) "__init__") (some (some (.ref (ma K (ga K C) "__init__")))) && decide (PySem.W.typeIn K (.ref (ma K (ga K C) "__init__")) = some (.type "function"))
/-- found in the class as a value that it has -/
def valIs : Option PySem.W.CFound → Value → Bool
  | some (.val u), v => decide (u = v)
  | _, _ => false
theorem valIs_ok {o : Option PySem.W.CFound} {v : Value} (h : valIs o v = true) : o = some (.val v) := by
  cases o with
  | none => cases h
  | some f =>
    cases f with
    | val u => rw [of_decide_eq_true (show decide (u = v) = true from h)]
    | get _ _ _ _ => cases h
/-! ### makers that call super -/
structure IniD where
  C : Str
  qual : Str
  params : Arguments
  body : List Stmt
  scope : Scope
  base : Option Str
abbrev IniW : Type := Option (Str × Str × Arguments × FuncBody × Scope × Addr × Addr)
def iniW (K : PySem.W.Frag) (d : IniD) : IniW := match K.lookup (ma K (ga K d.C) "__init__") with
  | some ⟨_, _, .func fd, _⟩ => some (fd.name, fd.qualname, fd.params, fd.body, fd.scope, fd.globals, fd.builtins)
  | _ => none
def IniD.val (d : IniD) : IniW := some ("__init__", d.qual, d.params, .stmts d.body, d.scope, mainGlobals, builtinsNs)
/-- its function object: no defaults, one cell -/
def fnB (file : Str) (K : PySem.W.Frag) (C : Addr) (q : Str) : Option Obj → Bool
  | some ⟨_, _, .func fd, _⟩ => (match fd.closure, fd.defaults, fd.code with
    | [(x, cc)], .none, .ref cda => decide (x = "__class__") && (PySem.W.codeIn K (.ref cda) q && ((match K.lookup cda with
      | some ⟨_, _, .fields vs, _⟩ => (match (vs[2]? : Option Value) with
        | some (Value.str f _) => file == f
        | _ => false)
      | _ => false) && (match K.lookup cc with
      | some ⟨_, _, .cell (some (.ref C')), _⟩ => C' == C
      | _ => false)))
    | _, _, _ => false)
  | _ => false
def iniB (file : Str) (K : PySem.W.Frag) (d : IniD) : Bool := match d.base with
  | none => oxB K (ga K d.C) && (inB K d.C && (decide (PySem.W.mroIn K (ga K d.C) (.ref (ga K d.C)) = some true) && (decide (PySem.W.subIn K (.ref (ga K d.C)) (.type "ValueError") = some true) &&
    (decide (PySem.W.ks_superIn K (ga K d.C) (ga K d.C) "__init__" = some (some (.builtin "ValueError.__init__"))) && fnB file K (ga K d.C) d.qual (K.lookup (ma K (ga K d.C) "__init__"))))))
  | some B => inB K d.C && (decide (PySem.W.mroIn K (ga K d.C) (.ref (ga K d.C)) = some true) && (decide (PySem.W.ks_superIn K (ga K d.C) (ga K d.C) "__init__" = some (some (.ref (ma K (ga K B) "__init__")))) &&
    (PySem.W.fnIn K (ma K (ga K B) "__init__") && (decide (PySem.W.typeIn K (.ref (ma K (ga K B) "__init__")) = some (.type "function")) && fnB file K (ga K d.C) d.qual (K.lookup (ma K (ga K d.C) "__init__"))))))
/-- what the makers' objects say, with a class or without -/
theorem iniFn {P : Program} {K : PySem.W.Frag} {d : IniD} (e : iniW K d = d.val) (h6 : fnB P.main.file K (ga K d.C) d.qual (K.lookup (ma K (ga K d.C) "__init__")) = true) :
    ∃ (oc : Value) (od : Option Addr) (kV doc pm : Value) (an : Option Addr) (cda : Addr) (ct : Value) (osl : Array (Option Value)) (cc : Addr) (vs : Array Value) (file : Str) (tf : Tok) (ccl : Value) (cdd : Option Addr) (ccs : Array (Option Value)) (cl : Value) (cld : Option Addr) (csl : Array (Option Value)),
    K.lookup (ma K (ga K d.C) "__init__") = some ⟨oc, od, .func (PySem.W.ksFn "__init__" d.qual d.params d.body d.scope .none kV doc pm an (.ref cda) ct cc), osl⟩ ∧ PySem.W.codeIn K (.ref cda) d.qual = true ∧
    K.lookup cda = some ⟨ccl, cdd, .fields vs, ccs⟩ ∧ vs[2]? = some (.str file tf) ∧ ((P.main.file : Str) == file) = true ∧
    K.lookup cc = some ⟨cl, cld, .cell (some (.ref (ga K d.C))), csl⟩ := by
  unfold iniW at e
  cases q : K.lookup (ma K (ga K d.C) "__init__") with
  | none =>
    rw [q] at e
    cases e
  | some o =>
    obtain ⟨oc, od, dt, osl⟩ := o
    rw [q] at e h6
    cases dt with
    | func fd =>
      obtain ⟨n1, n2, n3, n4, n5, n6, n7, n8, n9, n10, n11, n12, n13, n14, n15⟩ := fd
      have e2 : (some (n1, n2, n3, n4, n5, n6, n15) : IniW) = some (("__init__" : Str), d.qual, d.params, FuncBody.stmts d.body, d.scope, mainGlobals, builtinsNs) := e
      simp only [Option.some.injEq, Prod.mk.injEq] at e2
      obtain ⟨g1, g2, g3, g4, g5, g6, g7⟩ := e2
      subst g1 g2 g3 g4 g5 g6 g7
      unfold fnB at h6
      dsimp only at h6
      split at h6
      · rename_i x cc cda
        obtain ⟨r1, h6⟩ := ba h6
        obtain ⟨r2, h6⟩ := ba h6
        obtain ⟨r3, r4⟩ := ba h6
        obtain rfl := of_decide_eq_true r1
        split at r3
        · rename_i ccl cdd vs ccs hl
          split at r3
          · rename_i f tf hv
            split at r4
            · rename_i cl cld C' csl hc
              obtain rfl : C' = ga K d.C := beq_iff_eq.mp r4
              exact ⟨oc, od, n9, n10, n11, n12, cda, n14, osl, cc, vs, f, tf, ccl, cdd, ccs, cl, cld, csl, rfl, r2, hl, hv, r3, hc⟩
            · cases r4
          · cases r3
        · cases r3
      · cases h6
    | _ => cases e
theorem iniB_ok {P : Program} {K : PySem.W.Frag} {d : IniD} (hb : d.base = none) (e : iniW K d = d.val) (h : iniB P.main.file K d = true) (opq : PySem.W.nsIn K cStatics "thirdparty.any" = some none) (top : (P.main.scope.names.lookup ("super" : Str)).isSome = false) :
    PySem.ErrL.SupC P K (ga K d.C) (ma K (ga K d.C) "__init__") d.qual d.params d.body d.scope := by
  unfold iniB at h
  rw [hb] at h
  dsimp only at h
  obtain ⟨h1, h⟩ := ba h
  obtain ⟨h2, h⟩ := ba h
  obtain ⟨h3, h⟩ := ba h
  obtain ⟨h4, h⟩ := ba h
  obtain ⟨h5, h6⟩ := ba h
  obtain ⟨i1, i2⟩ := ba h2
  have T := oxB_ok h1
  exact ⟨T.cls, iniFn e h6, of_decide_eq_true h3, of_decide_eq_true h4, opq, of_decide_eq_true h5, T.sa, eqO_ok i1, of_decide_eq_true i2, top⟩
theorem supB_ok {P : Program} {K : PySem.W.Frag} {d : IniD} {B : Str} (hb : d.base = some B) (e : iniW K d = d.val) (h : iniB P.main.file K d = true) (opq : PySem.W.nsIn K cStatics "thirdparty.any" = some none) (top : (P.main.scope.names.lookup ("super" : Str)).isSome = false) :
    ∃ (kV doc pm : Value) (an : Option Addr) (cda : Addr) (ct : Value) (cc : Addr), SupF P K (ga K d.C) (ma K (ga K d.C) "__init__") (ma K (ga K B) "__init__") "__init__" d.qual d.params d.body d.scope kV doc pm an cda ct cc := by
  unfold iniB at h
  rw [hb] at h
  dsimp only at h
  obtain ⟨h1, h⟩ := ba h
  obtain ⟨h3, h⟩ := ba h
  obtain ⟨h5, h⟩ := ba h
  obtain ⟨h6, h⟩ := ba h
  obtain ⟨h7, h8⟩ := ba h
  obtain ⟨oc, od, kV, doc, pm, an, cda, ct, osl, cc, vs, f, tf, ccl, cdd, ccs, cl, cld, csl, g1, g2, g3, g4, g5, g6⟩ := iniFn e h8
  exact ⟨kV, doc, pm, an, cda, ct, cc, ⟨oc, od, osl, g1⟩, g2, ⟨ccl, cdd, vs, ccs, f, tf, g3, g4, g5⟩, ⟨cl, cld, csl, g6⟩, of_decide_eq_true h3, opq, of_decide_eq_true h5, h6, of_decide_eq_true h7, top⟩
/-! ### properties -/
/-- the getter of the property m -/
def pg (K : PySem.W.Frag) (C : Addr) (m : Str) : Addr := match PySem.W.recIn K (ma K C m) "property" with
  | some (.ref g :: _) => g
  | _ => 0
def pgD (K : PySem.W.Frag) (d : DefD) : Addr := pg K (ga K d.at_.1) (d.at_.2.getD "")
def fnWp (K : PySem.W.Frag) (d : DefD) : FnW := match K.lookup (pgD K d) with
  | some ⟨_, _, .func fd, _⟩ => some (fd.name, fd.qualname, fd.params, fd.body, fd.scope, fd.globals, fd.closure, fd.builtins)
  | _ => none
def isSomeHd : Option (List Value) → Addr → Bool
  | some (.ref g :: _), h => g == h
  | _, _ => false
def prpB (K : PySem.W.Frag) (d : DefD) : Bool :=
  eqO (PySem.W.findIn K (.ref (ga K d.at_.1)) (d.at_.2.getD "")) (some (some (.ref (ma K (ga K d.at_.1) (d.at_.2.getD ""))))) && (eqO (PySem.W.specialIn K (.ref (ma K (ga K d.at_.1) (d.at_.2.getD ""))) "__get__") (some (some (.builtin "property.__get__"))) &&
    (decide (PySem.W.takesIn K (.ref (ma K (ga K d.at_.1) (d.at_.2.getD ""))) = some true) && (isSomeHd (PySem.W.recIn K (ma K (ga K d.at_.1) (d.at_.2.getD "")) "property") (pgD K d) && (PySem.W.keepIn K (.ref (pgD K d)) && (match K.lookup (pgD K d) with
      | some ⟨_, _, .func fd, _⟩ => PySem.W.codeIn K fd.code d.qual && decide (fd.defaults = .none)
      | _ => false)))))
theorem prp_of {K : PySem.W.Frag} {d : DefD} (h : prpB K d = true) : PropOf K (ga K d.at_.1) (d.at_.2.getD "") (ma K (ga K d.at_.1) (d.at_.2.getD "")) (pgD K d) := by
  obtain ⟨h1, h⟩ := ba h
  obtain ⟨h2, h⟩ := ba h
  obtain ⟨h3, h⟩ := ba h
  obtain ⟨h4, h⟩ := ba h
  refine ⟨eqO_ok h1, eqO_ok h2, of_decide_eq_true h3, ?_⟩
  unfold isSomeHd at h4
  split at h4
  · rename_i g rest e
    obtain rfl : g = pgD K d := beq_iff_eq.mp h4
    exact ⟨rest, e⟩
  · cases h4
theorem prp_fun {K : PySem.W.Frag} {d : DefD} {st : Stmt} (e : fnWp K d = d.val) (h : prpB K d = true) (h1 : d.params = defArgs st) (h2 : d.body = defBody st) (h3 : d.scope = defScope st) : ∃ fd, Fun K d.name d.qual st (pgD K d) fd := by
  obtain ⟨_, h⟩ := ba h
  obtain ⟨_, h⟩ := ba h
  obtain ⟨_, h⟩ := ba h
  obtain ⟨_, h⟩ := ba h
  obtain ⟨kp, h⟩ := ba h
  unfold fnWp at e
  cases q : K.lookup (pgD K d) with
  | none =>
    rw [q] at h
    cases h
  | some o =>
    obtain ⟨oc, od, dt, osl⟩ := o
    rw [q] at h e
    cases dt with
    | func fd =>
      obtain ⟨n1, n2, n3, n4, n5, n6, n7, n8, n9, n10, n11, n12, n13, n14, n15⟩ := fd
      have e2 : (some (n1, n2, n3, n4, n5, n6, n7, n15) : FnW) = some (d.name, d.qual, d.params, .stmts d.body, d.scope, mainGlobals, [], builtinsNs) := e
      simp only [Option.some.injEq, Prod.mk.injEq] at e2
      obtain ⟨g1, g2, g3, g4, g5, g6, g7, g8⟩ := e2
      subst g1 g2 g3 g4 g5 g6 g7 g8
      obtain ⟨k1, k2⟩ := ba (show (PySem.W.codeIn K n13 d.qual && decide (n8 = .none)) = true from h)
      obtain rfl : n8 = .none := of_decide_eq_true k2
      refine ⟨_, ⟨oc, od, n9, n10, n11, n12, n13, n14, osl, ?_, q, k1⟩, kp⟩
      rw [← h1, ← h2, ← h3]
    | _ => cases h
/-! ### the Hook -/
/-- what the names of the module reach in n steps, and the table of third parties -/
def asM (g : Addr → Option Obj) : Nat → List Addr
  | 0 => [mainGlobals, cStatics]
  | n + 1 => growD g (asM g n)
/-- tables with text keys; defs whose defaults are not told -/
abbrev TabM : Type := List (Str × List Str) × List DefD
/-- the only default of a def: an empty tuple -/
def dfA (K : PySem.W.Frag) (d : DefD) : Addr := match K.lookup (fAd K d.at_) with
  | some ⟨_, _, .func fd, _⟩ => (match fd.defaults with
    | .ref T => (match K.lookup T with
      | some ⟨_, _, .seq its _, _⟩ => (match its.toList with
        | [.ref a] => a
        | _ => 0)
      | _ => 0)
    | _ => 0)
  | _ => 0
def etB (K : PySem.W.Frag) (a : Addr) : Bool := match K.lookup a with
  | some ⟨.type c, _, .seq its _, _⟩ => decide (c = "tuple") && its.isEmpty
  | _ => false
theorem etB_ok {K : PySem.W.Frag} {a : Addr} (h : etB K a = true) (H : Hp) : SqT K H a [] := by
  unfold etB at h
  split at h
  · rename_i c _ its n _ e
    obtain ⟨h1, h2⟩ := ba h
    obtain rfl : its = #[] := Array.isEmpty_iff.mp h2
    exact .inr ⟨_, #[], n, e, congrArg Value.type (of_decide_eq_true h1), rfl, Nat.zero_le _, .nil⟩
  · cases h
def codB (K : PySem.W.Frag) (d : DefD) : Bool := PySem.W.keepIn K (.ref (fAd K d.at_)) && (etB K (dfA K d) && (match K.lookup (fAd K d.at_) with
  | some ⟨_, _, .func fd, _⟩ => PySem.W.codeIn K fd.code d.qual && dflB K fd.defaults [.ref (dfA K d)]
  | _ => false))
abbrev AlM : Type := AlD × (List IniW × (List FnW × (List (Option (List (Option (Str × Int)))) × (List FnW × Bool))))
def obsM (file : Str) (fa : List Fa) (fn : List DefD) (ini : List IniD) (pr : List DefD) (ts : TabM) (ex : PySem.W.Frag → Bool) (K : PySem.W.Frag) : AlM := (obsD fa fn K, (ini.map fun d => iniW K d, (pr.map fun d => fnWp K d, (ts.1.map fun t => dicW K (ga K t.1), (ts.2.map fun d => fnW K d.at_, (ini.all fun d => iniB file K d) && ((pr.all fun d => prpB K d) && ((ts.2.all fun d => codB K d) && ex K)))))))
def valM (fn : List DefD) (ini : List IniD) (pr : List DefD) (ts : TabM) (w : World) : AlM := (valD fn, (ini.map IniD.val, (pr.map DefD.val, (ts.1.map fun t => some (keysIn w.params t.2), (ts.2.map DefD.val, true)))))
def obsMG (file : Str) (n : Nat) (fa : List Fa) (fn : List DefD) (ini : List IniD) (pr : List DefD) (ts : TabM) (ex : PySem.W.Frag → Bool) (g : Addr → Option Obj) : AlM := obsM file fa fn ini pr ts ex (frG g (asM g n))
/-- what is told -/
structure SaysM (file : Str) (fa : List Fa) (fn : List DefD) (ini : List IniD) (pr : List DefD) (ts : TabM) (ex : PySem.W.Frag → Bool) (w : World) (K : PySem.W.Frag) : Prop where
  t : ts.1.map (fun t => dicW K (ga K t.1)) = ts.1.map fun t => some (keysIn w.params t.2)
  v : ts.2.map (fun d => fnW K d.at_) = ts.2.map DefD.val
  vb : ∀ d ∈ ts.2, codB K d = true
  d : SaysD fa fn K
  w : ini.map (fun d => iniW K d) = ini.map IniD.val
  p : pr.map (fun d => fnWp K d) = pr.map DefD.val
  pb : ∀ d ∈ pr, prpB K d = true
  b : ∀ d ∈ ini, iniB file K d = true
  x : ex K = true
theorem saysM_of {file : Str} {fa : List Fa} {fn : List DefD} {ini : List IniD} {pr : List DefD} {ts : TabM} {ex : PySem.W.Frag → Bool} {w : World} {K : PySem.W.Frag} (e : obsM file fa fn ini pr ts ex K = valM fn ini pr ts w) : SaysM file fa fn ini pr ts ex w K := by
  have e1 : obsD fa fn K = valD fn := congrArg (fun z : AlM => z.1) e
  have e2 : ini.map (fun d => iniW K d) = ini.map IniD.val := congrArg (fun z : AlM => z.2.1) e
  have e3 : ((ini.all fun d => iniB file K d) && ((pr.all fun d => prpB K d) && ((ts.2.all fun d => codB K d) && ex K))) = true := congrArg (fun z : AlM => z.2.2.2.2.2) e
  have e5 : ts.1.map (fun t => dicW K (ga K t.1)) = ts.1.map fun t => some (keysIn w.params t.2) := congrArg (fun z : AlM => z.2.2.2.1) e
  have e6 : ts.2.map (fun d => fnW K d.at_) = ts.2.map DefD.val := congrArg (fun z : AlM => z.2.2.2.2.1) e
  have e4 : pr.map (fun d => fnWp K d) = pr.map DefD.val := congrArg (fun z : AlM => z.2.2.1) e
  obtain ⟨h1, h2⟩ := ba e3
  obtain ⟨h2, h3⟩ := ba h2
  obtain ⟨h4, h3⟩ := ba h3
  exact ⟨e5, e6, List.all_eq_true.mp h4, e1, e2, e4, List.all_eq_true.mp h2, List.all_eq_true.mp h1, h3⟩
theorem SaysM.prp {file : Str} {fa : List Fa} {fn : List DefD} {ini : List IniD} {pr : List DefD} {ts : TabM} {ex : PySem.W.Frag → Bool} {w : World} {K : PySem.W.Frag} (c : SaysM file fa fn ini pr ts ex w K) (i : Nat) {d : DefD} {st : Stmt} (h : pr[i]? = some d) (h1 : d.params = defArgs st) (h2 : d.body = defBody st) (h3 : d.scope = defScope st) :
    PropOf K (ga K d.at_.1) (d.at_.2.getD "") (ma K (ga K d.at_.1) (d.at_.2.getD "")) (pgD K d) ∧ ∃ fd, Fun K d.name d.qual st (pgD K d) fd := by
  have e2 : (pr.map fun d => fnWp K d)[i]? = (pr.map DefD.val)[i]? := by rw [c.p]
  rw [List.getElem?_map, List.getElem?_map, h] at e2
  have b := c.pb d (List.mem_of_getElem? h)
  exact ⟨prp_of b, prp_fun (Option.some.inj e2) b h1 h2 h3⟩
theorem SaysM.ini {P : Program} {fa : List Fa} {fn : List DefD} {ini : List IniD} {pr : List DefD} {ts : TabM} {ex : PySem.W.Frag → Bool} {w : World} {K : PySem.W.Frag} (c : SaysM P.main.file fa fn ini pr ts ex w K) (i : Nat) {d : IniD} (opq : PySem.W.nsIn K cStatics "thirdparty.any" = some none) (top : (P.main.scope.names.lookup ("super" : Str)).isSome = false) (h : ini[i]? = some d := by rfl) (hb : d.base = none := by rfl) :
    PySem.ErrL.SupC P K (ga K d.C) (ma K (ga K d.C) "__init__") d.qual d.params d.body d.scope := by
  have e2 : (ini.map fun d => iniW K d)[i]? = (ini.map IniD.val)[i]? := by rw [c.w]
  rw [List.getElem?_map, List.getElem?_map, h] at e2
  exact iniB_ok hb (Option.some.inj e2) (c.b d (List.mem_of_getElem? h)) opq top
theorem SaysM.sup {P : Program} {fa : List Fa} {fn : List DefD} {ini : List IniD} {pr : List DefD} {ts : TabM} {ex : PySem.W.Frag → Bool} {w : World} {K : PySem.W.Frag} (c : SaysM P.main.file fa fn ini pr ts ex w K) (i : Nat) {d : IniD} {B : Str} (opq : PySem.W.nsIn K cStatics "thirdparty.any" = some none) (top : (P.main.scope.names.lookup ("super" : Str)).isSome = false) (h : ini[i]? = some d := by rfl) (hb : d.base = some B := by rfl) :
    ∃ (kV doc pm : Value) (an : Option Addr) (cda : Addr) (ct : Value) (cc : Addr), SupF P K (ga K d.C) (ma K (ga K d.C) "__init__") (ma K (ga K B) "__init__") "__init__" d.qual d.params d.body d.scope kV doc pm an cda ct cc := by
  have e2 : (ini.map fun d => iniW K d)[i]? = (ini.map IniD.val)[i]? := by rw [c.w]
  rw [List.getElem?_map, List.getElem?_map, h] at e2
  exact supB_ok hb (Option.some.inj e2) (c.b d (List.mem_of_getElem? h)) opq top
theorem SaysM.ox {file : Str} {fa : List Fa} {fn : List DefD} {ini : List IniD} {pr : List DefD} {ts : TabM} {ex : PySem.W.Frag → Bool} {w : World} {K : PySem.W.Frag} (c : SaysM file fa fn ini pr ts ex w K) (i : Nat) {d : IniD} (h : ini[i]? = some d := by rfl) (hb : d.base = none := by rfl) : OexC K (ga K d.C) := by
  have q := c.b d (List.mem_of_getElem? h)
  unfold iniB at q
  rw [hb] at q
  exact oxB_ok (ba q).1
theorem SaysM.ex_at {file : Str} {fa : List Fa} {fn : List DefD} {ini : List IniD} {pr : List DefD} {ts : TabM} {L : List (PySem.W.Frag → Bool)} {w : World} {K : PySem.W.Frag} (c : SaysM file fa fn ini pr ts (fun K => L.all fun b => b K) w K) (i : Nat) {b : PySem.W.Frag → Bool} (h : L[i]? = some b := by rfl) : b K = true :=
  List.all_eq_true.mp c.x b (List.mem_of_getElem? h)
theorem SaysM.tab {file : Str} {fa : List Fa} {fn : List DefD} {ini : List IniD} {pr : List DefD} {ts : TabM} {ex : PySem.W.Frag → Bool} {w : World} {K : PySem.W.Frag} (c : SaysM file fa fn ini pr ts ex w K) (i : Nat) {t : Str × List Str} (h : ts.1[i]? = some t := by rfl) : dicW K (ga K t.1) = some (keysIn w.params t.2) := by
  have e2 : (ts.1.map fun t => dicW K (ga K t.1))[i]? = (ts.1.map fun t => some (keysIn w.params t.2))[i]? := by rw [c.t]
  rw [List.getElem?_map, List.getElem?_map, h] at e2
  exact Option.some.inj e2
/-- a def as it stands behind the top, its one default an empty tuple -/
def FunV (K : PySem.W.Frag) (x qual : Str) (st : Stmt) (f : Addr) (fd : FuncData) : Prop := ∃ a0, FunD K x qual (defArgs st) (defBody st) (defScope st) [.ref a0] [] f fd ∧ ∀ H, SqT K H a0 []
theorem FunV.ok {P : Program} {w : World} {K : PySem.W.Frag} {mg : Str → Option Value} {base : Heap} {x qual : Str} {st : Stmt} {f : Addr} {fd : FuncData} {CX : CXT} {N ps : List Str} {k : Nat} {sp : Sp} (F : FunV K x qual st f fd) (S : FnScope N ps (defScope st)) (len : ∀ vs H Q E, sp vs H Q E → vs.length = ps.length)
    (hbody : ∀ (cdv : Value) (A : Around) (outer : List Env) (s : Shared) (H : Hp) (vs : List V) (Q : VK) (E : XK), Room k (A.deeper (envOfC qual (defScope st) s.heap.objs.size f cdv)) → sp vs H Q E →
      ∃ t, PSs (cxOf CX P w K mg base N qual (defScope st) f cdv A outer s H E) (defBody st) t ∧ t { nx := fun _ H' => Q .non H', rt := Q } (start N vs) H) : FnOk P w K mg base CX (k + 1) f fd ps sp := by
  obtain ⟨a0, F, _⟩ := F
  exact F.ok S len hbody
theorem FunV.binds {K : PySem.W.Frag} {x qual : Str} {st : Stmt} {f : Addr} {fd : FuncData} {ps : List Str} (F : FunV K x qual st f fd)
    (h : ∀ (T : Addr) (kV doc pm : Value) (an : Option Addr) (cdv ct : Value) (us its : List Value), us.length = ps.length → its.length = 1 →
      ∃ k, bindArgs (PySem.W.fnOf x qual (defArgs st) (defBody st) (defScope st) (.ref T) kV doc pm an cdv ct) ⟨us, []⟩ = seqItems? (.ref T) >>= k ∧ k (some its.toArray) = pure (ps.zip (us ++ its.drop 1))) : Binds K fd ps [] := by
  obtain ⟨a0, F, _⟩ := F
  obtain ⟨ds, r, b⟩ := F.binds1 (ps := ps) ps.length 1 (by simp) rfl h
  cases r
  exact b
theorem funV_of {K : PySem.W.Frag} {d : DefD} {st : Stmt} (e : fnW K d.at_ = d.val) (h : codB K d = true) (h1 : d.params = defArgs st) (h2 : d.body = defBody st) (h3 : d.scope = defScope st) : ∃ fd, FunV K d.name d.qual st (fAd K d.at_) fd := by
  obtain ⟨kp, h⟩ := ba h
  obtain ⟨et, h⟩ := ba h
  unfold fnW at e
  cases q : K.lookup (fAd K d.at_) with
  | none =>
    rw [q] at h
    cases h
  | some o =>
    obtain ⟨oc, od, dt, osl⟩ := o
    rw [q] at h e
    cases dt with
    | func fd =>
      obtain ⟨n1, n2, n3, n4, n5, n6, n7, n8, n9, n10, n11, n12, n13, n14, n15⟩ := fd
      have e2 : (some (n1, n2, n3, n4, n5, n6, n7, n15) : FnW) = some (d.name, d.qual, d.params, .stmts d.body, d.scope, mainGlobals, [], builtinsNs) := e
      simp only [Option.some.injEq, Prod.mk.injEq] at e2
      obtain ⟨g1, g2, g3, g4, g5, g6, g7, g8⟩ := e2
      subst g1 g2 g3 g4 g5 g6 g7 g8
      obtain ⟨k1, k2⟩ := ba (show (PySem.W.codeIn K n13 d.qual && dflB K n8 [.ref (dfA K d)]) = true from h)
      refine ⟨_, dfA K d, ⟨⟨oc, od, n8, n9, n10, n11, n12, n13, n14, osl, ?_, q, k1, dflB_ok k2, .inl rfl⟩, kp⟩, etB_ok et⟩
      rw [← h1, ← h2, ← h3]
    | _ => cases h
theorem SaysM.var {file : Str} {fa : List Fa} {fn : List DefD} {ini : List IniD} {pr : List DefD} {ts : TabM} {ex : PySem.W.Frag → Bool} {w : World} {K : PySem.W.Frag} (c : SaysM file fa fn ini pr ts ex w K) (i : Nat) {d : DefD} {st : Stmt} (h : ts.2[i]? = some d) (h1 : d.params = defArgs st) (h2 : d.body = defBody st) (h3 : d.scope = defScope st) :
    ∃ fd, FunV K d.name d.qual st (fAd K d.at_) fd := by
  have e2 : (ts.2.map fun d => fnW K d.at_)[i]? = (ts.2.map DefD.val)[i]? := by rw [c.v]
  rw [List.getElem?_map, List.getElem?_map, h] at e2
  exact funV_of (Option.some.inj e2) (c.vb d (List.mem_of_getElem? h)) h1 h2 h3
theorem inB_ok {K : PySem.W.Frag} {C : Str} (h : inB K C = true) : PySem.W.findIn K (.ref (ga K C)) "__init__" = some (some (.ref (ma K (ga K C) "__init__"))) ∧ PySem.W.typeIn K (.ref (ma K (ga K C) "__init__")) = some (.type "function") := by
  obtain ⟨h1, h2⟩ := ba h
  exact ⟨eqO_ok h1, of_decide_eq_true h2⟩
def hookM (file : Str) (n : Nat) (fa : List Fa) (fn : List DefD) (ini : List IniD) (pr : List DefD) (ts : TabM) (ex : PySem.W.Frag → Bool) : PySem.W.Hook where
  α := AlM
  obs := fun s => obsMG file n fa fn ini pr ts ex s.heap.get?
  val := fun w => valM fn ini pr ts w
  says := fun w h => ∃ K : PySem.W.Frag, K.In h ∧ SaysM file fa fn ini pr ts ex w K
  of := fun _ _ e => ⟨_, frG_in, saysM_of e⟩
  keeps := fun _ _ _ ⟨K, hK, c⟩ k => ⟨K, PySem.W.Frag.In.keeps hK k, c⟩
theorem obsMG_eq {file : Str} {n : Nat} {fa : List Fa} {fn : List DefD} {ini : List IniD} {pr : List DefD} {ts : TabM} {ex : PySem.W.Frag → Bool} {g : Addr → Option Obj} {s : Shared} (h : ∀ a, g a = s.heap.get? a) : obsMG file n fa fn ini pr ts ex g = (hookM file n fa fn ini pr ts ex).obs s := by
  have e : g = s.heap.get? := funext h
  rw [e] <;> rfl
end HeM
namespace L2
open PySem PySem.Spec PyProof.Rows
theorem fun_of {K : PySem.W.Frag} {x qual : Str} {st : Stmt} {f : Addr} {fd : FuncData} (F : FunD K x qual (defArgs st) (defBody st) (defScope st) [] [] f fd) : Fun K x qual st f fd := by
  obtain ⟨oc, od, dV, kV, doc, pm, an, cdv, ct, osl, rfl, lk, hcd, hD, hK⟩ := F.ex
  rcases hD with ⟨_, rfl⟩ | ⟨e, _⟩
  · exact ⟨⟨oc, od, kV, doc, pm, an, cdv, ct, osl, rfl, lk, hcd⟩, F.kp⟩
  · exact absurd rfl e
theorem Fun.bindsA1 {K : PySem.W.Frag} {x qual y : Str} {st : Stmt} {f : Addr} {fd : FuncData} (F : Fun K x qual st f fd)
    (h : ∀ (kV doc pm : Value) (an : Option Addr) (cdv ct : Value) (us : List Value), us.length = [y].length → bindArgs (PySem.W.fnOf x qual (defArgs st) (defBody st) (defScope st) .none kV doc pm an cdv ct) ⟨us, []⟩ = pure ([y].zip us)) (s : Shared) (v : Value) : BindsTo s fd ⟨[v], []⟩ [(y, v)] := by
  obtain ⟨oc, od, kV, doc, pm, an, cdv, ct, osl, rfl, lk, hcd⟩ := F.ex
  exact .of_eq (h kV doc pm an cdv ct [v] rfl)
end L2
set_option Elab.async false
set_option linter.all false
set_option maxRecDepth 100000
set_option maxHeartbeats 4000000
/-! == by an own __eq__ that may say False -/
namespace L2
open PySem PySem.Spec PyProof.Rows
def rOwn (K : PySem.W.Frag) (C : Addr) (sp : Sp) : R2 := fun x y H Q => ∃ (a dx : Addr) (fs : List (Str × V)) (t : Value), x = .ref a ∧ H a = some (.ins C dx fs) ∧ TyX K H y t ∧ PySem.W.notFirst K C t = true ∧ sp [x, y] H (fun v H' => (∃ b, v = .bl b) ∧ Q v H') E0
theorem op_own {X : Cx} {CX : CXT} {C : Addr} {k : Nat} {ps : List Str} {sp : Sp} (c : CalM X.prog X.w X.K X.mg X.base CX k C "__eq__" ps sp) (hr : Room k X.A) (hx : Passes CX X E0 := by first | exact pass0 | exact passL) : OpR X (compareOp .Eq) (rOwn X.K C sp) := by
  intro pins s σ H x y v u Q I rx ry h
  obtain ⟨f, fd, h1, h2, h4⟩ := c
  obtain ⟨a, dx, fs, t, rfl, ha, hy, hn, q⟩ := h
  obtain rfl : v = Value.ref a := rx
  obtain ⟨mA, J, _⟩ := ins_get I.hok ha
  obtain ⟨od, J, _⟩ := J.look
  obtain ⟨Pz, Z, pz, _⟩ := kit_of I ry hy
  obtain ⟨m, hF⟩ := I.fr
  show wpAny (model X.prog X.w) X.A (richCompare .Eq (.ref a) u) (EP X pins σ Q) X.xe s
  refine PySem.W.cmp_K (op := .Eq) (tb := t) hr.units0 hF I.ok.mod.kin J (Z.ty _ _ I.kIn pz) hn h2.at_ h2.fn ?_
  refine wpAny_mono (run_fn (us := [.ref a, u]) (vs := [.ref a, y]) (dvs := []) h1 hr h4 .nil hx I (.cons (show RelV (.ref a) (.ref a) from rfl) (.cons ry .nil)) q) (fun r s' hq => ?_) fun _ _ z => z
  obtain ⟨v', H', I', rv, ⟨b, rfl⟩, q'⟩ := hq
  obtain rfl : r = Value.bool b := rv
  exact ⟨.bl b, H', I', rfl, q'⟩
end L2
set_option Elab.async false
set_option linter.all false
set_option maxRecDepth 100000
set_option maxHeartbeats 400000
/-! len(o), a walk over o, o.f: by the class's own __len__, __iter__, properties -/
namespace L2
open PySem PySem.Spec PyProof.Rows
section
variable {X : Cx} {CX : CXT} {C : Addr} {k : Nat} {ps : List Str} {sp : Sp}
/-- a call of a def at one more level down -/
theorem run_in1 {pins : List (Addr × Obj)} {σ : St} {H : Hp} {s : Shared} {Q : VK} {f : Addr} {fd : FuncData} {us : List Value} {vs : List V} (F : FnOk X.prog X.w X.K X.mg X.base CX k f fd ps sp) (hr : Room (k + 1) X.A) (hb : Binds X.K fd ps [])
    (hx : Passes CX X E0) (I : Inv X pins σ H s) (r : Vals vs us) (h : sp vs H Q E0) : wpAny (model X.prog X.w) X.A.in1 (call (.ref f) us) (EP X pins σ Q) X.xe s := by
  have hl : (us ++ []).length = ps.length := by
    rw [List.append_nil, ← r.length]
    exact F.len _ _ _ _ h
  have hb' := hb s us I.kIn hl
  rw [List.append_nil] at hb'
  refine wpAny_call (codeAny_mono (F.run X.A.in1 X.stack s H ⟨us, []⟩ us vs Q E0 hr.in1 I.env0.in1 hb' r h) fun z s' hq => ?_)
  match z, hq with
  | .error e, hq => exact (hx pins σ H s e s' I hq)
  | .ok (.ret u), hq => exact I.after hq
/-- len(o) -/
def rLenOwn (C : Addr) (sp : Sp) : List V → Hp → VK → Prop := fun xs H Q => ∃ (a dx : Addr) (fs : List (Str × V)), xs = [.ref a] ∧ H a = some (.ins C dx fs) ∧ sp [.ref a] H (fun v H' => ∃ n : Nat, v = .int n ∧ n < 1000000 ∧ Q (.int n) H') E0
theorem call_lenOwn (c : CalM X.prog X.w X.K X.mg X.base CX k C "__len__" ps sp) (hr : Room (k + 1) X.A) (hx : Passes CX X E0 := by first | exact pass0 | exact passL) : CallR X (.builtin "len") (rLenOwn C sp) := by
  intro pins s σ H xs us Q I r h
  obtain ⟨f, fd, h1, h2, h4⟩ := c
  obtain ⟨a, dx, fs, rfl, ha, q⟩ := h
  obtain ⟨u, rfl, ru⟩ := vals1 r
  obtain rfl : u = Value.ref a := ru
  obtain ⟨mA, J, _⟩ := ins_get I.hok ha
  obtain ⟨od, J, _⟩ := J.look
  refine Calls.call_function_entry kind_len plain_len entry_len (args_len1 _) ?_
  unfold Builtin.«len»
  refine wpAny_bind (m := oneArg "len" _) (wpAny_pure ?_)
  refine wpAny_bind (m := callSpecial? (.ref a) (Str.ofString "__len__")) (PySem.W.special_fn I.kIn J h2.at_ (beq_iff_eq.mp h2.fn) (wpAny_mono (run_in1 h1 hr h4 hx I (show Vals [V.ref a] [Value.ref a] from .cons rfl .nil) q) (fun v s' hv => ?_) fun _ _ z => z))
  obtain ⟨v', H', I', rv, n, rfl, hn, q'⟩ := hv
  obtain ⟨t, rfl⟩ := rv
  refine wpAny_bind (wpAny_holding (wpAny_pure ?_))
  refine wpAny_bind (wpAny_letGo ?_)
  show wpAny _ _ (if (n : Int) < 0 then _ else _) _ _ _
  rw [if_neg (show ¬ ((n : Int) < 0) by omega)]
  show wpAny _ _ (if (n : Int) ≥ 2 ^ 63 then _ else _) _ _ _
  rw [if_neg (show ¬ ((n : Int) ≥ 2 ^ 63) by omega)]
  exact wpAny_bind (wpAny_mkInt (wpAny_pure ⟨_, rfl, .int n, H', I'.tok _, ⟨_, rfl⟩, q'⟩))
end
/-- as FnOk, the promise told the size of the memory at the call -/
structure FnN (P : Program) (w : World) (K : PySem.W.Frag) (mg : Str → Option Value) (base : Heap) (CX : CXT) (k : Nat) (f : Addr) (fd : FuncData) (ps : List Str) (sp : Nat → Sp) : Prop where
  len : ∀ n vs H Q E, sp n vs H Q E → vs.length = ps.length
  run : ∀ (A : Around) (outer : List Env) (s : Shared) (H : Hp) (us : List Value) (vs : List V) (Q : VK) (E : XK), Room k A → Env0 P w K mg base A outer s H → BindsTo s fd ⟨us, []⟩ (ps.zip us) → Vals vs us → sp s.heap.objs.size vs H Q E →
    codeAny (model P w) A (.call (.ref f) ⟨us, []⟩) (CR CX outer P w H s Q E) s
section
variable {P : Program} {w : World} {K : PySem.W.Frag} {mg : Str → Option Value} {base : Heap}
theorem Fun.okN {x qual : Str} {st : Stmt} {f : Addr} {fd : FuncData} {N ps : List Str} {k : Nat} {sp : Nat → Sp} (F : Fun K x qual st f fd) (S : FnScope N ps (defScope st)) (len : ∀ n vs H Q E, sp n vs H Q E → vs.length = ps.length)
    (body : ∀ (cdv : Value) (A : Around) (outer : List Env) (s : Shared) (H : Hp) (vs : List V) (Q : VK) (E : XK), Room k (A.deeper (envOfC qual (defScope st) s.heap.objs.size f cdv)) → sp s.heap.objs.size vs H Q E →
      ∃ t, PSs (cxOf CX0 P w K mg base N qual (defScope st) f cdv A outer s H E).nox (defBody st) t ∧ t { nx := fun _ H' => Q .non H', rt := Q } (start N vs) H) : FnN P w K mg base CX0 (k + 1) f fd ps sp := by
  obtain ⟨oc, od, kV, doc, pm, an, cdv, ct, osl, rfl, lk, hcd⟩ := F.ex
  refine ⟨len, fun A outer s H us vs Q E room env0 binds rel promise => ?_⟩
  have hlen := len _ _ _ _ _ promise
  have kin : K.In s.heap := env0.mod.kin.keeps fun b o e => (env0.bs b o e).1
  have nolim : s.heap.NoLimit := env0.mod.nolimit.keeps fun b o e => (env0.bs b o e).1
  have kinds : ∀ y ∈ ps.zip us, (defScope st).names.lookup y.1 = some .local ∨ ((defScope st).names.lookup y.1 = some .cell ∧ ((cellsFrom (s.heap.objs.size + 1) (defScope st).names []).lookup y.1).isSome = true) := by
    rintro ⟨n, v⟩ hy
    cases S.par n (List.of_mem_zip hy).1 with
    | inl q => exact .inl q
    | inr q => exact .inr ⟨q, PySem.W.cellsFrom_some _ _ _ (.inl q)⟩
  refine codeAny_call_function room.depth (kin _ _ lk) rfl S.co S.gen rfl (PySem.W.codeRec_of kin hcd) (binds _ _ _ _ (wpAny_newFunctionEnv_cells S.kind kinds fun env he s1 x => ?_))
  subst he
  refine ⟨nolim.keeps x.toInCall.keep, codeAny_func ?_⟩
  obtain ⟨t, ht, hq⟩ := body cdv A outer s H vs Q E (room.deeper _) promise
  have start_ok := inv_start (CX := CX0) (E := E) S room.hd env0 hlen rel x
  refine wpAny_mono (ht.nox.run [] s1 (start N vs) H _ start_ok hq) (fun fl s' hs => ?_) fun e s' hs => hs
  cases fl with
  | brk => exact False.elim (let ⟨_, _, _, q⟩ := hs; q)
  | cont => exact False.elim (let ⟨_, _, _, q⟩ := hs; q)
  | next =>
    obtain ⟨σ', H', J, q⟩ := hs
    exact ⟨V.non, H', J.os, J.bare, J.base, J.hok, rfl, q⟩
  | ret u =>
    obtain ⟨v, σ', H', J, rv, q⟩ := hs
    exact ⟨v, H', J.os, J.bare, J.base, J.hok, rv, q⟩
end
/-- at it the iterator of the tuple at t -/
def ItT (t it : Addr) : HO := .ext fun h => h.get? it = some { cls := .type "tuple_iterator", data := .fields #[.ref t, .int 0 0] }
theorem itT_ok {P : Program} {w : World} {H : Hp} {h : Heap} {t it : Addr} (e : h.get? it = some { cls := .type "tuple_iterator", data := .fields #[.ref t, .int 0 0] }) : ObjOk P w H h it (ItT t it) := ⟨e, ⟨_, e⟩, fun _ _ q k => k _ q⟩
/-- iter(t), t a tuple; the new thing lies behind n -/
def rIterT (K : PySem.W.Frag) (n : Nat) : List V → Hp → VK → Prop := fun xs H Q => ∃ (l : Addr) (zs : List V), xs = [.ref l] ∧ SqT K H l zs ∧ ∀ it, H it = none → n ≤ it → Q (.ref it) (upd H it (ItT l it))
theorem call_iterT {X : Cx} : CallR X (.builtin "iter") (rIterT X.K X.s_0.heap.objs.size) := by
  intro pins s σ H xs us Q I r h
  obtain ⟨l, zs, rfl, hq, q⟩ := h
  obtain ⟨u, rfl, ru⟩ := vals1 r
  obtain rfl : u = Value.ref l := ru
  obtain ⟨its, rv, pl, hz⟩ := I.tuple hq
  refine Calls.call_function_entry (by decide +kernel) (by decide +kernel) PySem.W.kdk_entry_iter (PySem.W.kdk_args_iter _) ?_
  unfold Builtin.«iter»
  refine wpAny_bind (m := someArgs "iter" 1 2 _) (wpAny_of_eq (a := [Value.ref l]) (by first | rfl | kernel_rfl!) ?_)
  show wpAny _ _ (pyIter (.ref l) >>= _) _ _ _
  refine wpAny_bind (wpAny_pyIter_tuple (show s.heap.IsTuple l its.toArray from pl) (wpAny_pure ⟨_, rfl, ?_⟩))
  have e : (s.heap.push { cls := .type "tuple_iterator", data := .fields #[.ref l, .int 0 0] }).get? s.heap.objs.size = some { cls := .type "tuple_iterator", data := .fields #[.ref l, .int 0 0] } := Heap.get?_push_size _ rfl
  exact ⟨.ref s.heap.objs.size, _, I.laid (o := ItT l s.heap.objs.size) (t' := s.toks) (fun b u e => Heap.get?_push_of_some _ e) (Nat.le_refl _) (itT_ok e), rfl, q _ (I.hok.fresh (Nat.le_refl _)) I.sz⟩
/-- what such an __iter__ promises -/
def spItT (K : PySem.W.Frag) (C : Addr) (f : Str) (n : Nat) : Sp := fun vs H Q _ => ∃ (a dx t : Addr) (fs : List (Str × V)) (zs : List V), vs = [.ref a] ∧ H a = some (.ins C dx fs) ∧ fs.lookup f = some (.ref t) ∧ SqT K H t zs ∧ ∀ it, H it = none → n ≤ it → Q (.ref it) (upd H it (ItT t it))
/-- the class at C walks over the tuple in its field f -/
def CalI (P : Program) (w : World) (K : PySem.W.Frag) (mg : Str → Option Value) (base : Heap) (k : Nat) (C : Addr) (f : Str) : Prop :=
  ∃ (g : Addr) (fd : FuncData), FnN P w K mg base CX0 k g fd ["self"] (spItT K C f) ∧ Meth K C "__iter__" g ∧ Binds K fd ["self"] []
def iOwn (K : PySem.W.Frag) (C : Addr) (f : Str) (tl : TE) : TI := fun σ H R => tl σ H fun x H1 => ∃ (a dx t : Addr) (fs : List (Str × V)), x = .ref a ∧ H1 a = some (.ins C dx fs) ∧ fs.lookup f = some (.ref t) ∧ (∃ zs, SqT K H1 t zs) ∧ R (Itt K t) H1
theorem looks_next {M : Model} {A : Around} {E : Value → Shared → Prop} {s : Shared} {it t : Addr} {Q : Option Value → Shared → Prop} (e : s.heap.get? it = some { cls := .type "tuple_iterator", data := .fields #[.ref t, .int 0 0] }) (h : ∀ g, Q (some g) s) : wpAny M A (specialOf (.ref it) "__next__") Q E s := by
  unfold specialOf
  refine wpAny_bind (wpAny_typeOf (T := "tuple_iterator") ⟨_, e, rfl⟩ (wpAny_of_eq (F.slot_tuple_iterator_next.lookup) (h _)))
theorem pi_own {X : Cx} {tg l : Expr} {tl : TE} {k : Nat} {C : Addr} {f : Str} (c : CalI X.prog X.w X.K X.mg X.base k C f) (hr : Room k X.A) (hl : PE X l tl) : PI X tg l (iOwn X.K C f tl) := by
  refine ⟨fun pins s σ H R I h => ?_⟩
  obtain ⟨g, fd, h1, h2, h4⟩ := c
  refine thn (hl.run pins s σ H _ I h) fun v s1 ⟨x, H1, I1, r1, q1⟩ => ?_
  obtain ⟨a, dx, t, fs, e, ha, hf, ⟨zs, hz⟩, q⟩ := q1
  subst e
  obtain rfl : v = Value.ref a := r1
  obtain ⟨mA, J, _⟩ := ins_get I1.hok ha
  obtain ⟨od, J, _⟩ := J.look
  obtain ⟨m0, hF⟩ := I1.fr
  refine PySem.W.owit_iter hF I1.ok.mod.kin J h2.at_ h2.fn ?_
  have pr : spItT X.K C f s1.heap.objs.size [.ref a] H1 (fun v H' => ∃ it, v = .ref it ∧ H1 it = none ∧ s1.heap.objs.size ≤ it ∧ H' = upd H1 it (ItT t it)) E0 := ⟨a, dx, t, fs, zs, rfl, ha, hf, hz, fun it n1 n2 => ⟨it, rfl, n1, n2, rfl⟩⟩
  have hb' := h4 s1 [.ref a] I1.kIn rfl
  rw [List.append_nil] at hb'
  refine wpAny_call (codeAny_mono (h1.run X.A X.stack s1 H1 [.ref a] [.ref a] _ E0 hr I1.env0 hb' (.cons rfl .nil) pr) fun z s' hq => ?_)
  match z, hq with
  | .error e, hq => exact hq.elim
  | .ok (.ret u), hq =>
    obtain ⟨v, H', I', rv, it, rfl, n1, n2, rfl⟩ := I1.after hq
    obtain rfl : u = Value.ref it := rv
    have eo := (I'.hok it _ upd_same).1
    unfold PySem.W.OwitIt
    refine looks_next eo fun _ => ?_
    have I2 := ItX.inv_drop I' (a := it) (φ := fun h => h.get? it = some { cls := .type "tuple_iterator", data := .fields #[.ref t, .int 0 0] }) upd_same
    have fp := ItX.inv_fp I' (a := it) (u := ItT t it) upd_same (Nat.le_trans I1.sz n2)
    rw [ItX.dropH_upd n1] at I2 fp
    refine ⟨it, [it], _, _, H1, rfl, I2, turn_tuple t it, ⟨_, eo, rfl, rfl⟩, fun b hb => ?_, q⟩
    obtain rfl : b = it := by simpa using hb
    exact fp
/-- the class at C has the property f, its getter keeps sp -/
def CalP (P : Program) (w : World) (K : PySem.W.Frag) (mg : Str → Option Value) (base : Heap) (k : Nat) (C : Addr) (f : Str) (sp : Sp) : Prop :=
  ∃ (p g : Addr) (fd : FuncData), FnOk P w K mg base CX0 k g fd ["self"] sp ∧ PropOf K C f p g ∧ Binds K fd ["self"] []
/-- o.f, a property -/
theorem pe_prp {X : Cx} {e : Expr} {pos : Pos} {ta : TE} {k : Nat} {C : Addr} {f : Str} {sp : Sp} (c : Cls X.K C) (h : CalP X.prog X.w X.K X.mg X.base k C f sp) (hr : Room (k + 1) X.A) (he : PE X e ta) (hab : attributeBase e f X.env (eval e X.env) = eval e X.env := by rfl) :
    PE X (.Attribute e f pos) (tProp C sp [] E0 ta) := by
  obtain ⟨p, g, fd, h1, h2, h3⟩ := h
  exact pe_prop he c h2 h1 hr h3 .nil pass0 hab
end L2
set_option Elab.async false
set_option linter.all false
set_option maxRecDepth 100000
set_option maxHeartbeats 1000000
/-! for i, x in enumerate(v), v a list or a tuple -/
namespace EnT
open PySem
open Sem (wp)
open AutoSeq1 (wpAny_loadPart')
def itTup (l : Addr) : Obj := { cls := .type "tuple_iterator", data := .fields #[.ref l, .int 0 0] }
def enumNew (n : Nat) : Obj := { cls := .type "enumerate", data := .fields #[.none, .bool false, .ref n, rawInt 0, .none, .none] }
theorem meets_newT (l : Addr) (items : Array Value) :
    Meets (Builtin.«enumerate.__new__» ⟨[.type "enumerate", .ref l], []⟩) (fun _ R s => s.heap.IsTuple l items ∧ R (.ok (.ret (.ref (s.heap.push (itTup l)).objs.size))) { s with heap := (s.heap.push (itTup l)).push (enumNew s.heap.objs.size) }) :=
  .of_wp fun prog w A R s h => by
    obtain ⟨hp, g, d, tk, os⟩ := s
    obtain ⟨hT, h⟩ := h
    have hsub := sub_enumerate
    have q : ∀ {A : Around} {E : Value → Shared → Prop} {Q : Value → Shared → Prop}, Q (.ref hp.objs.size) ⟨hp.push (itTup l), g, d, tk, os⟩ → wpAny (model prog w) A (pyIter (.ref l)) Q E ⟨hp, g, d, tk, os⟩ := fun q => wpAny_pyIter_tuple hT q
    wp_walk using q
    refine wpAny_stack_any fun st => wpAny_pure ?_
    split
    · rename_i c _ _ _ _ _
      cases (c == Value.type "enumerate") <;> (wp_walk using q; exact ⟨_, rfl, h⟩)
    · wp_walk using q; exact ⟨_, rfl, h⟩
theorem call_enumT {prog : Program} {w : World} {A : Around} {E : Value → Shared → Prop} {s : Shared} {l : Addr} {items : Array Value} {Q : Value → Shared → Prop} (hT : s.heap.IsTuple l items)
    (h : ∀ h', IsEnum h' (s.heap.objs.size + 1) s.heap.objs.size 0 .none → h'.IsTupleIter s.heap.objs.size l 0 → (∀ b o, s.heap.get? b = some o → h'.get? b = some o) → Q (.ref (s.heap.objs.size + 1)) { s with heap := h' }) :
    wpAny (model prog w) A (call (.type "enumerate") [.ref l]) Q E s := by
  have hz : (s.heap.push (itTup l)).objs.size = s.heap.objs.size + 1 := Heap.size_push ..
  have he : IsEnum ((s.heap.push (itTup l)).push (enumNew s.heap.objs.size)) (s.heap.objs.size + 1) s.heap.objs.size 0 .none := by
    have q := Heap.get?_push_size (s.heap.push (itTup l)) (o := enumNew s.heap.objs.size) rfl
    rw [hz] at q
    exact q
  refine callType_new F.called_enumerate (by decide) (F.typeCall_enumerate_1 _) (F.newCall_enumerate_1 _) (fun obj => F.args_object_init_2 obj _) F.entry_enumerate_new (meets_newT l items) ⟨hT, ?_⟩
  show _ ∧ _
  rw [hz]
  exact ⟨⟨_, he, rfl⟩, h _ he ⟨_, Heap.get?_push_of_some _ (Heap.get?_push_size _ rfl), rfl, rfl⟩ fun b o x => Heap.get?_push_of_some _ (Heap.get?_push_of_some _ x)⟩
end EnT
namespace L2
open PySem PySem.Spec PyProof.Rows
/-- the tuple at a, each item in a new pair -/
def IteT (K : PySem.W.Frag) (a : Addr) : It :=
  ⟨fun i H => ∃ (xs : List V) (x : V), SqT K H a xs ∧ xs[i]? = some x, fun i H v H' => ∃ T x, v = .ref T ∧ H T = none ∧ H' = upd H T (.tup [.int (i : Nat), x]) ∧ ∀ xs, SqT K H a xs → xs[i]? = some x, fun i H => ∃ xs : List V, SqT K H a xs ∧ xs.length ≤ i⟩
theorem tup_inj {X : Cx} {pins : List (Addr × Obj)} {σ : St} {H : Hp} {s : Shared} {a : Addr} {xs ys : List V} (I : Inv X pins σ H s) (h1 : SqT X.K H a xs) (h2 : SqT X.K H a ys) : xs = ys := by
  obtain ⟨i1, r1, ⟨o1, p1, c1⟩, _⟩ := I.tuple h1
  obtain ⟨i2, r2, ⟨o2, p2, c2⟩, _⟩ := I.tuple h2
  rw [p1] at p2
  cases p2
  obtain ⟨_, n1, d1⟩ := c1
  obtain ⟨_, n2, d2⟩ := c2
  rw [d1] at d2
  injection d2 with e _
  have e' : i1 = i2 := by simpa using e
  subst e'
  exact r1.inj r2
theorem turn_enumT {P : Program} {w : World} {K : PySem.W.Frag} {elts : List Expr} {kk : Nat} {tpos : Pos} (a e it : Addr) :
    Turn P w K (.Tuple elts kk tpos) (IteT K a) [e, it] e (fun i h => (∃ old, IsEnum h e it ((i : Nat) : Int) old) ∧ h.IsTupleIter it a i ∧ e ≠ it) where
  mem := by simp
  obj := fun i h st b hb => by
    obtain ⟨⟨old, he⟩, ⟨o, ho, hc, hd⟩, _⟩ := st
    rcases (show b = e ∨ b = it by simpa using hb) with rfl | rfl
    · exact ⟨_, he, fun v q => nomatch q⟩
    · exact ⟨o, ho, fun v q => by rw [hd] at q; cases q⟩
  keep := fun i h h' ⟨⟨old, he⟩, hi, hne⟩ k => ⟨⟨old, k e (by simp) _ he⟩, hi.at fun o q => k it (by simp) o q, hne⟩
  item := by
    intro X hP hw hK hc i pins s σ H E I hf st hg
    subst hP hw hK
    obtain ⟨⟨old, he⟩, hit, hne⟩ := st
    obtain ⟨xs, x, hq, hx⟩ := hg
    obtain ⟨its, rv, p, hz⟩ := I.tuple hq
    obtain ⟨u, hu, ru⟩ := rv.get hx
    have hat : a ≠ it := by
      rintro rfl
      obtain ⟨o1, p1, c1, _⟩ := p
      obtain ⟨o2, p2, c2, _⟩ := hit
      rw [p1] at p2
      cases p2
      rw [c1] at c2
      simp at c2
    have hae : a ≠ e := by
      rintro rfl
      obtain ⟨o1, p1, c1, _⟩ := p
      have he' : s.heap.get? a = some _ := he
      rw [p1] at he'
      cases he'
      simp at c1
    have hel : e < s.heap.objs.size := Heap.lt_size he
    have hil : it < s.heap.objs.size := by obtain ⟨_, q, _⟩ := hit; exact Heap.lt_size q
    have D := Draws.tuple (prog := X.prog) (w := X.w) (A := X.A.in1) (I.ok.hd hc) it a hat its.toArray
    have hlt : i < its.length := (List.getElem?_eq_some_iff.mp hu).1
    refine wpAny_pyNext_enum_itemD D he ⟨hit, show s.heap.IsTuple a its.toArray from p⟩ (by simpa using hlt) hne (by simp [hne, Ne.symm hae]) fun z h' tk hP ho hs' hT hsz hk => ?_
    have hzu : z = u := by
      have h1 : its.toArray[i]? = some z := hP
      rw [List.getElem?_toArray, hu] at h1
      exact (Option.some.inj h1).symm
    subst hzu
    refine ⟨_, rfl, wpAny_letOwnedTupleGo_enum (s := { s with heap := h', toks := tk + 1 }) ho fun h'' he' sb => ?_⟩
    have hT2 : h''.get? s.heap.objs.size = some { cls := .type "tuple", data := .seq #[.int i tk, z] } := (sb.2 _ (Nat.ne_of_gt hel)).trans hT
    have new : ObjOk X.prog X.w (upd H s.heap.objs.size (.tup [.int (i : Nat), x])) h'' s.heap.objs.size (.tup [.int (i : Nat), x]) :=
      ⟨by show 2 ≤ sizeLine; decide, [.int i tk, z], .cons ⟨_, rfl⟩ (.cons ru .nil), ⟨_, hT2, rfl, _, rfl⟩⟩
    have I1 : Inv X pins σ (upd H s.heap.objs.size (.tup [.int (i : Nat), x])) { s with heap := h'', toks := tk + 1 } :=
      I.turnedNew (t' := tk + 1) (ch := [e, it]) (fun b ob hb q => (sb.2 b (fun z => hb (by simp [z]))).trans (hk b ob (fun z => hb (by simp [z])) (fun z => hb (by simp [z])) q)) hf (Nat.le_refl _) new
    refine ⟨.ref s.heap.objs.size, _, I1, rfl, ⟨_, x, rfl, I.hok.fresh (Nat.le_refl _), rfl, fun ys hy => by rw [tup_inj I hy hq]; exact hx⟩, ⟨⟨z, ?_⟩, hs'.1.at fun o q => (sb.2 it (Ne.symm hne)).trans q, hne⟩, fun b hb => ?_⟩
    · rw [show ((i + 1 : Nat) : Int) = (i : Int) + 1 by omega]
      exact he'
    · have hb' : b < s.heap.objs.size := by
        rcases (show b = e ∨ b = it by simpa using hb) with rfl | rfl
        · exact hel
        · exact hil
      rw [upd_ne (Nat.ne_of_lt hb')]
      exact (hf b hb).1
  done := by
    intro X hP hw hK hc i pins s σ H E I hf st hg
    subst hP hw hK
    obtain ⟨⟨old, he⟩, hit, hne⟩ := st
    obtain ⟨xs, hq, hx⟩ := hg
    obtain ⟨its, rv, p, hz⟩ := I.tuple hq
    obtain ⟨f0, f1, f2, f3, f4, f5⟩ := hf it (by simp)
    have hat : a ≠ it := by
      rintro rfl
      obtain ⟨o1, p1, c1, _⟩ := p
      obtain ⟨o2, p2, c2, _⟩ := hit
      rw [p1] at p2
      cases p2
      rw [c1] at c2
      simp at c2
    have hl := rv.length
    have hi : its.toArray[i]? = none := by rw [List.getElem?_toArray]; exact List.getElem?_eq_none_iff.mpr (by omega)
    have D : Draws X.prog X.w X.A.in1 it [it, a] i (fun _ _ => True) (fun j h => h.IsTupleIter it a j ∧ h.IsTuple a its.toArray ∧ j = i) := {
      live := fun _ _ st => let ⟨o, ho, _⟩ := st.1; ⟨o, ho⟩
      frame := fun _ _ _ st hk => ⟨st.1.at fun o e => hk it (by simp) o e, st.2.1.at fun o e => hk a (by simp) o e, st.2.2⟩
      item := fun j s Q E hi st hQ => absurd st.2.2 (Nat.ne_of_lt hi)
      done := fun s Q E st hE => wpAny_nextOf_tuple_end (I.ok.hd hc) st.1 st.2.1 hi hE }
    exact wpAny_pyNext_enum_endD D he ⟨hit, show s.heap.IsTuple a its.toArray from p, rfl⟩ fun h' eb => ⟨rfl, I.turned (t' := s.toks) (fun b o hb q => eb b o hb q) f0 f1 f3 f4 f5⟩
  self := fun A i s Q E ⟨⟨_, he⟩, _⟩ h => wpAny_pyIter_enum he h
/-- v a list or a tuple: its items xs in new pairs with their index -/
def iEnu2 (K : PySem.W.Frag) (ta : TA) : TI := fun σ H R => ta σ H fun vs H1 => ∃ (a : Addr) (xs : List V), vs = [.ref a] ∧ (H1 a = some (.lst xs) ∨ H1 a = some (.tup xs)) ∧
  ∀ J, Walk J xs.length (fun H' => H' a = H1 a) (YPair (fun i => some (.int (i : Nat))) (fun i => xs[i]?)) → R J H1
theorem walk_enumT {K : PySem.W.Frag} {a : Addr} {xs : List V} : Walk (IteT K a) xs.length (fun H => SqT K H a xs) (YPair (fun i => some (.int (i : Nat))) (fun i => xs[i]?)) := by
  refine ⟨fun i _ hi q => ⟨xs, xs[i], q, List.getElem?_eq_getElem hi⟩, fun _ q => ⟨xs, q, Nat.le_refl _⟩, fun i H v H' _ q y => ?_⟩
  obtain ⟨T, x, h1, h2, h3, h4⟩ := y
  exact ⟨T, .int (i : Nat), x, h1, h2, h3, rfl, h4 xs q⟩
theorem pi_enu2 {X : Cx} {e : Expr} {ta : TA} {p pos tpos : Pos} {elts : List Expr} {kk : Nat} (hg : Gl X "enumerate") (hm : X.mg "enumerate" = none) (ha : PA X [e] ta) (hs : starEach [e] X.env = [(false, eval e X.env)] := by rfl) :
    PI X (.Tuple elts kk tpos) (.Call (.Name "enumerate" p) [e] [] pos) (iEnu2 X.K ta) := by
  refine ⟨fun pins s σ H R I h => ?_⟩
  refine Call_ (ld_blt I hg hm boot_enumerate (PyProof.Rows.callWith_type1 (thn (ha.run pos pins s σ H _ I h) fun us s1 ⟨vs, H1, I1, r1, q1⟩ => ?_) hs rfl))
  obtain ⟨a, xs, rfl, ho, q⟩ := q1
  obtain ⟨u, rfl, ru⟩ := vals1 r1
  obtain rfl : u = Value.ref a := ru
  have fresh : ∀ b ∈ [s1.heap.objs.size + 1, s1.heap.objs.size], s1.heap.objs.size ≤ b := fun b hb => by
    rcases (show b = s1.heap.objs.size + 1 ∨ b = s1.heap.objs.size by simpa using hb) with rfl | rfl
    · exact Nat.le_add_right _ _
    · exact Nat.le_refl _
  rcases ho with ho | ho
  · obtain ⟨its, rv, p', hz⟩ := I1.list (SqL.of ho)
    refine call_enumerate_list p'.isList fun h' he hit hsz hk => wpAny_pyIter_enum he ?_
    exact ⟨s1.heap.objs.size + 1, [s1.heap.objs.size + 1, s1.heap.objs.size], _, _, H1, rfl, I1.kept (t' := s1.toks) hk, turn_enum a _ _, ⟨⟨.none, he⟩, hit, Nat.succ_ne_self _⟩, fun b hb => I1.fpOk (fresh b hb) (I1.hok.fresh (fresh b hb)),
      q _ (walk_enum.mono (fun H' hh => SqL.of (hh.trans ho)) fun _ _ _ _ _ _ y => y)⟩
  · obtain ⟨its, rv, p', hz⟩ := I1.tuple (SqT.of ho)
    refine EnT.call_enumT (show s1.heap.IsTuple a its.toArray from p') fun h' he hit hk => wpAny_pyIter_enum he ?_
    exact ⟨s1.heap.objs.size + 1, [s1.heap.objs.size + 1, s1.heap.objs.size], _, _, H1, rfl, I1.kept (t' := s1.toks) hk, turn_enumT a _ _, ⟨⟨.none, he⟩, hit, Nat.succ_ne_self _⟩, fun b hb => I1.fpOk (fresh b hb) (I1.hok.fresh (fresh b hb)),
      q _ (walk_enumT.mono (fun H' hh => SqT.of (hh.trans ho)) fun _ _ _ _ _ _ y => y)⟩
/-- one of two ways to take a value apart -/
theorem pg_or {X : Cx} {tg : Expr} {g1 g2 : TG} (h1 : PG X tg g1) (h2 : PG X tg g2) : PG X tg (fun v σ H Q => g1 v σ H Q ∨ g2 v σ H Q) := by
  refine ⟨fun pins s σ H v u Q I r hw => ?_⟩
  rcases hw with hw | hw
  · exact h1.run pins s σ H v u Q I r hw
  · exact h2.run pins s σ H v u Q I r hw
/-- a list or a tuple, walked -/
def iSeq (tl : TE) : TI := fun σ H R => tl σ H fun x H1 => ∃ (a : Addr) (xs : List V), x = .ref a ∧ (H1 a = some (.lst xs) ∨ H1 a = some (.tup xs)) ∧ ∀ J, Walk J xs.length (fun H' => H' a = H1 a) (YAt xs) → R J H1
theorem pi_seq {X : Cx} {tg l : Expr} {tl : TE} (hl : PE X l tl) : PI X tg l (iSeq tl) := by
  refine ⟨fun pins s σ H R I h => thn (hl.run pins s σ H _ I h) fun v s1 ⟨x, H1, I1, r1, q1⟩ => ?_⟩
  obtain ⟨a, xs, rfl, ho, q⟩ := q1
  obtain rfl : v = Value.ref a := r1
  have new : ∀ b ∈ [s1.heap.objs.size], FpOk X pins H1 b := fun b hb => by
    obtain rfl : b = s1.heap.objs.size := by simpa using hb
    exact I1.fpOk (Nat.le_refl _) (I1.hok.fresh (Nat.le_refl _))
  rcases ho with ho | ho
  · obtain ⟨its, rv, p, hz⟩ := I1.list (SqL.of ho)
    refine wpAny_pyIter_list p.isList ⟨s1.heap.objs.size, [s1.heap.objs.size], _, _, H1, rfl, I1.kept (t' := s1.toks) fun b o e => Heap.get?_push_of_some _ e, turn_list a _, ⟨_, Heap.get?_push_size _ rfl, rfl, rfl⟩, new, ?_⟩
    exact q _ (walk_list.mono (fun H' hh => SqL.of (hh.trans ho)) fun _ _ _ _ _ _ y => y)
  · obtain ⟨its, rv, p, hz⟩ := I1.tuple (SqT.of ho)
    refine wpAny_pyIter_tuple (show s1.heap.IsTuple a its.toArray from p) ⟨s1.heap.objs.size, [s1.heap.objs.size], _, _, H1, rfl, I1.kept (t' := s1.toks) fun b o e => Heap.get?_push_of_some _ e, turn_tuple a _, ⟨_, Heap.get?_push_size _ rfl, rfl, rfl⟩, new, ?_⟩
    exact q _ (walk_tup.mono (fun H' hh => SqT.of (hh.trans ho)) fun _ _ _ _ _ _ y => y)
/-- an item of a list or a tuple -/
theorem ix_either {X : Cx} : IxR X (fun x y H Q => rIxL X.K x y H Q ∨ rIxT X.K x y H Q) := ix_list.or ix_tup
theorem ix_eitherK {X : Cx} {K : PySem.W.Frag} (h : X.K = K) : IxR X (fun x y H Q => rIxL K x y H Q ∨ rIxT K x y H Q) := h ▸ ix_either
end L2
set_option Elab.async false
set_option linter.all false
set_option maxRecDepth 100000
set_option maxHeartbeats 1000000
/-! comprehensions whose elements make nothing; lists side by side -/
namespace L2
open PySem PySem.Spec PyProof.Rows
def PvF (H : Hp) (D : Addr) (xs : List V) (f : V → Option V) (i : Nat) (H' : Hp) : Prop := H' = upd H D (.lst ((xs.take i).filterMap f))
section
variable {H : Hp} {D : Addr} {xs : List V} {f : V → Option V} {i : Nat} {x y : V}
theorem take_snoc {α : Type} {xs : List α} {i : Nat} {x : α} (hx : xs[i]? = some x) : xs.take (i + 1) = xs.take i ++ [x] := by rw [List.take_add_one, hx]; rfl
theorem fm_put (hx : xs[i]? = some x) (hf : f x = some y) (hz : xs.length < sizeLine) : ∃ acc, (upd H D (.lst ((xs.take i).filterMap f))) D = some (.lst acc) ∧ acc.length < sizeLine ∧ PvF H D xs f (i + 1) (upd (upd H D (.lst ((xs.take i).filterMap f))) D (.lst (acc ++ [y]))) := by
  refine ⟨_, upd_same, Nat.lt_of_le_of_lt (Nat.le_trans (List.length_filterMap_le _ _) (List.length_take_le' _ _)) hz, ?_⟩
  unfold PvF
  rw [upd_upd, take_snoc hx, List.filterMap_append]
  rw [show List.filterMap f [x] = [y] by rw [List.filterMap_cons, hf]; rfl]
theorem fm_skip (hx : xs[i]? = some x) (hf : f x = none) : PvF H D xs f (i + 1) (upd H D (.lst ((xs.take i).filterMap f))) := by
  unfold PvF
  rw [take_snoc hx, List.filterMap_append, show List.filterMap f [x] = [] by rw [List.filterMap_cons, hf]; rfl, List.append_nil]
theorem fm_end {H' : Hp} (h : PvF H D xs f xs.length H') : H' = upd H D (.lst (xs.filterMap f)) := by
  unfold PvF at h
  rw [List.take_length] at h
  exact h
end
theorem Paired.at {α β : Type} {F : α → β → Prop} : ∀ {xs : List α} {ys : List β} {i : Nat} {x : α}, Paired F xs ys → xs[i]? = some x → ∃ y, ys[i]? = some y ∧ F x y
  | _, _, i, _, .nil, h => by simp at h
  | _, _, 0, _, .cons h _, e => by
    cases (show some _ = some _ from e)
    exact ⟨_, rfl, h⟩
  | _, _, i + 1, _, .cons _ t, e => Paired.at (i := i) t e
theorem Paired.at' {α β : Type} {F : α → β → Prop} : ∀ {xs : List α} {ys : List β} {i : Nat} {y : β}, Paired F xs ys → ys[i]? = some y → ∃ x, xs[i]? = some x ∧ F x y
  | _, _, i, _, .nil, h => by simp at h
  | _, _, 0, _, .cons h _, e => by
    cases (show some _ = some _ from e)
    exact ⟨_, rfl, h⟩
  | _, _, i + 1, _, .cons _ t, e => Paired.at' (i := i) t e
theorem Paired.takeP {α β : Type} {F : α → β → Prop} : ∀ {xs : List α} {ys : List β} (n : Nat), Paired F xs ys → Paired F (xs.take n) (ys.take n)
  | _, _, 0, _ => .nil
  | _, _, _ + 1, .nil => .nil
  | _, _, n + 1, .cons h t => .cons h (Paired.takeP n t)
theorem Paired.appendP {α β : Type} {F : α → β → Prop} : ∀ {xs xs' : List α} {ys ys' : List β}, Paired F xs ys → Paired F xs' ys' → Paired F (xs ++ xs') (ys ++ ys')
  | _, _, _, _, .nil, s => s
  | _, _, _, _, .cons h t, s => .cons h (Paired.appendP t s)
theorem Paired.mapL {α β γ : Type} {F : α → β → Prop} {f : α → γ} {g : β → γ} (h : ∀ a b, F a b → f a = g b) : ∀ {xs : List α} {ys : List β}, Paired F xs ys → xs.map f = ys.map g
  | _, _, .nil => rfl
  | _, _, .cons r t => by rw [List.map_cons, List.map_cons, h _ _ r, Paired.mapL h t]
theorem call_tuple_ofK {X : Cx} {K : PySem.W.Frag} (h : X.K = K) : CallR X (.type "tuple") (fun xs H Q => ∃ p ys, xs = [.ref p] ∧ ((SqL K H p ys ∧ ∀ l, H l = none → Q (.ref l) (upd H l (.tup ys))) ∨ (SqT K H p ys ∧ Q (.ref p) H))) := h ▸ call_tuple_of
theorem call_list_ofK {X : Cx} {K : PySem.W.Frag} (h : X.K = K) : CallR X (.type "list") (fun xs H Q => ∃ p ys, xs = [.ref p] ∧ (SqL K H p ys ∨ SqT K H p ys) ∧ ∀ l, H l = none → Q (.ref l) (upd H l (.lst ys))) := h ▸ call_list_of
/-- what is known of the value, and no more, goes on -/
def tCutE (t : TE) : TE := fun σ H Q => ∃ R : V → Hp → Prop, t σ H R ∧ ∀ v H', R v H' → Q v H'
theorem pe_cut {X : Cx} {e : Expr} {t : TE} (h : PE X e t) : PE X e (tCutE t) := ⟨fun pins s σ H Q I ⟨R, h1, h2⟩ => wpAny_mono (h.run pins s σ H R I h1) (fun u s' ⟨v, H', I', r, q⟩ => ⟨v, H', I', r, h2 _ _ q⟩) fun _ _ z => z⟩
end L2
set_option Elab.async false
set_option linter.all false
set_option maxRecDepth 100000
namespace L2
open PySem PySem.Spec PyProof.Rows
theorem eqvAll_ints : ∀ ns ms : List Int, PyData.eqvAll (ns.map PyData.int) (ms.map PyData.int) = decide (ns = ms)
  | [], [] => by simp [PyData.eqvAll]
  | [], m :: ms => by simp [PyData.eqvAll]
  | n :: ns, [] => by simp [PyData.eqvAll]
  | n :: ns, m :: ms => by
    have ih := eqvAll_ints ns ms
    by_cases e : n = m
    · subst e
      simp [PyData.eqvAll, PyData.eqv, ih]
    · simp [PyData.eqvAll, PyData.eqv, e]
theorem eqv_tupI (ns ms : List Int) : PyData.eqv (.tuple (ns.map PyData.int)) (.tuple (ms.map PyData.int)) = decide (ns = ms) := by rw [← eqvAll_ints]; simp [PyData.eqv]
theorem eqv_lstI (ns ms : List Int) : PyData.eqv (.list (ns.map PyData.int)) (.list (ms.map PyData.int)) = decide (ns = ms) := by rw [← eqvAll_ints]; simp [PyData.eqv]
theorem dpAll_ints {K : PySem.W.Frag} {H : Hp} : ∀ ns : List Int, DpAll K H (ns.map V.int) (ns.map PyData.int)
  | [] => .nil
  | n :: ns => .cons (.int n) (dpAll_ints ns)
theorem depthAll_ints : ∀ ns : List Int, PyData.depthAll (ns.map PyData.int) = 0
  | [] => by simp [PyData.depthAll]
  | n :: ns => by simp [PyData.depthAll, PyData.depth, depthAll_ints ns]
theorem layAll_ints : ∀ ns : List Int, PyData.canLayAll0 (ns.map PyData.int) = true
  | [] => by simp [PyData.canLayAll0]
  | n :: ns => by simp [PyData.canLayAll0, PyData.canLay0, layAll_ints ns]
theorem shaped_tupI (ns : List Int) : SeqAt.shaped (.tuple (ns.map PyData.int)) = true := by simp [SeqAt.shaped, PyData.canLay0, PyData.depth, layAll_ints, depthAll_ints]
theorem shaped_lstI (ns : List Int) : SeqAt.shaped (.list (ns.map PyData.int)) = true := by simp [SeqAt.shaped, PyData.canLay0, PyData.depth, layAll_ints, depthAll_ints]
theorem eqD_tup {K : PySem.W.Frag} {H : Hp} {p q : Addr} {ns ms : List Int} {Q : VK} (hp : SqT K H p (ns.map V.int)) (hq : SqT K H q (ms.map V.int)) (h : Q (.bl (decide (ns = ms))) H) : rEqD K (.ref p) (.ref q) H Q :=
  ⟨_, _, .tup hp (dpAll_ints ns), .tup hq (dpAll_ints ms), shaped_tupI ns, shaped_tupI ms, by rw [eqv_tupI]; exact h⟩
theorem eqD_lst {K : PySem.W.Frag} {H : Hp} {p q : Addr} {ns ms : List Int} {Q : VK} (hp : SqL K H p (ns.map V.int)) (hq : SqL K H q (ms.map V.int)) (h : Q (.bl (decide (ns = ms))) H) : rEqD K (.ref p) (.ref q) H Q :=
  ⟨_, _, .lst hp (dpAll_ints ns), .lst hq (dpAll_ints ms), shaped_lstI ns, shaped_lstI ms, by rw [eqv_lstI]; exact h⟩
theorem neD_lst {K : PySem.W.Frag} {H : Hp} {p q : Addr} {ns ms : List Int} {Q : VK} (hp : SqL K H p (ns.map V.int)) (hq : SqL K H q (ms.map V.int)) (h : Q (.bl (!decide (ns = ms))) H) : rNeD K (.ref p) (.ref q) H Q :=
  ⟨_, _, .lst hp (dpAll_ints ns), .lst hq (dpAll_ints ms), shaped_lstI ns, shaped_lstI ms, by rw [eqv_lstI]; exact h⟩
end L2
set_option Elab.async false
set_option linter.all false
set_option maxRecDepth 100000
set_option maxHeartbeats 1000000
/-! plain values as data: shapes, equality of lists and tuples of them, two deep -/
namespace L2
open PySem PySem.Spec PyProof.Rows
def vD : V → PyData
  | .bl b => .bool b
  | .int i => .int i
  | .str x => .str x
  | _ => .none
/-- a sequence's kind: a list or a tuple of these -/
def sqD (l : Bool) (ds : List PyData) : PyData := if l then .list ds else .tuple ds
/-- a plain value whose text can be laid -/
def okV : V → Bool
  | .non => true
  | .bl _ => true
  | .int _ => true
  | .str x => PyData.strOk x
  | _ => false
theorem okV.flat {v : V} (h : okV v = true) : flatV v = true := by cases v <;> first | rfl | cases h
theorem vD_lay {v : V} (h : okV v = true) : (vD v).canLay0 = true := by cases v <;> first | (simp only [vD, PyData.canLay0]; done) | (simp only [vD, PyData.canLay0]; exact h)
theorem vD_depth (v : V) : (vD v).depth = 0 := by cases v <;> simp [vD, PyData.depth]
theorem vDs_lay : ∀ {xs : List V}, (∀ x ∈ xs, okV x = true) → PyData.canLayAll0 (xs.map vD) = true
  | [], _ => by simp [PyData.canLayAll0]
  | v :: xs, h => by simp [PyData.canLayAll0, vD_lay (h v (List.mem_cons_self)), vDs_lay fun y hy => h y (List.mem_cons_of_mem _ hy)]
theorem vDs_depth : ∀ xs : List V, PyData.depthAll (xs.map vD) = 0
  | [] => by simp [PyData.depthAll]
  | v :: xs => by simp [PyData.depthAll, vD_depth v, vDs_depth xs]
theorem vD_shaped {v : V} (h : okV v = true) : SeqAt.shaped (vD v) = true := by simp [SeqAt.shaped, vD_lay h, vD_depth]
theorem row_lay (l : Bool) {xs : List V} (h : ∀ x ∈ xs, okV x = true) : (sqD l (xs.map vD)).canLay0 = true := by cases l <;> simp [sqD, PyData.canLay0, vDs_lay h]
theorem row_depth (l : Bool) (xs : List V) : (sqD l (xs.map vD)).depth = 1 := by cases l <;> simp [sqD, PyData.depth, vDs_depth]
theorem row_shaped (l : Bool) {xs : List V} (h : ∀ x ∈ xs, okV x = true) : SeqAt.shaped (sqD l (xs.map vD)) = true := by simp [SeqAt.shaped, row_lay l h, row_depth]
/-- data of one level: a plain value, a list or tuple of such -/
def Fl1 (d : PyData) : Prop := d.canLay0 = true ∧ d.depth ≤ 1
theorem fl_v {v : V} (h : okV v = true) : Fl1 (vD v) := ⟨vD_lay h, by rw [vD_depth]; omega⟩
theorem fl_row (l : Bool) {xs : List V} (h : ∀ x ∈ xs, okV x = true) : Fl1 (sqD l (xs.map vD)) := ⟨row_lay l h, by rw [row_depth]; omega⟩
theorem fls_lay : ∀ {ds : List PyData}, (∀ d ∈ ds, Fl1 d) → PyData.canLayAll0 ds = true
  | [], _ => by simp [PyData.canLayAll0]
  | d :: ds, h => by simp [PyData.canLayAll0, (h d (List.mem_cons_self)).1, fls_lay fun e he => h e (List.mem_cons_of_mem _ he)]
theorem fls_depth : ∀ {ds : List PyData}, (∀ d ∈ ds, Fl1 d) → PyData.depthAll ds ≤ 1
  | [], _ => by simp [PyData.depthAll]
  | d :: ds, h => by
    have h1 := (h d (List.mem_cons_self)).2
    have h2 := fls_depth fun e he => h e (List.mem_cons_of_mem d he)
    simp only [PyData.depthAll]
    omega
theorem fls_shaped (l : Bool) {ds : List PyData} (h : ∀ d ∈ ds, Fl1 d) : SeqAt.shaped (sqD l ds) = true := by
  have h1 := fls_lay h
  have h2 := fls_depth h
  cases l with
  | true =>
    show ((PyData.list ds).canLay0 && decide ((PyData.list ds).depth ≤ 64)) = true
    have e : (PyData.list ds).depth ≤ 64 := by
      have : (PyData.list ds).depth = PyData.depthAll ds + 1 := by simp only [PyData.depth]
      omega
    rw [decide_eq_true e, Bool.and_true]
    simp only [PyData.canLay0, h1]
  | false =>
    show ((PyData.tuple ds).canLay0 && decide ((PyData.tuple ds).depth ≤ 64)) = true
    have e : (PyData.tuple ds).depth ≤ 64 := by
      have : (PyData.tuple ds).depth = PyData.depthAll ds + 1 := by simp only [PyData.depth]
      omega
    rw [decide_eq_true e, Bool.and_true]
    simp only [PyData.canLay0, h1]
theorem vD_self (v : V) : PyData.eqv (vD v) (vD v) = true := by cases v <;> simp [vD, PyData.eqv]
theorem eqvAll_self : ∀ {ds : List PyData}, (∀ d ∈ ds, PyData.eqv d d = true) → PyData.eqvAll ds ds = true
  | [], _ => by simp [PyData.eqvAll]
  | d :: ds, h => by simp [PyData.eqvAll, h d (List.mem_cons_self), eqvAll_self fun e he => h e (List.mem_cons_of_mem _ he)]
theorem sqD_self (l : Bool) {ds : List PyData} (h : ∀ d ∈ ds, PyData.eqv d d = true) : PyData.eqv (sqD l ds) (sqD l ds) = true := by
  cases l <;> (simp only [sqD, PyData.eqv]; exact eqvAll_self h)
theorem row_self (l : Bool) (xs : List V) : PyData.eqv (sqD l (xs.map vD)) (sqD l (xs.map vD)) = true := sqD_self l fun d hd => by
  obtain ⟨v, _, rfl⟩ := List.mem_map.mp hd
  exact vD_self v
theorem eqvAll_append : ∀ {as bs cs ds : List PyData}, as.length = cs.length → PyData.eqvAll (as ++ bs) (cs ++ ds) = (PyData.eqvAll as cs && PyData.eqvAll bs ds)
  | [], bs, [], ds, _ => by simp [PyData.eqvAll]
  | [], _, _ :: _, _, h => by simp at h
  | _ :: _, _, [], _, h => by simp at h
  | a :: as, bs, c :: cs, ds, h => by
    have ih := eqvAll_append (as := as) (bs := bs) (cs := cs) (ds := ds) (by simpa using h)
    simp only [List.cons_append, PyData.eqvAll, ih, Bool.and_assoc]
section
variable {K : PySem.W.Frag} {H : Hp}
theorem dpv {v : V} (h : flatV v = true) : Dp K H v (vD v) := by
  cases v with
  | non => exact .non
  | bl b => exact .bl b
  | int i => exact .int i
  | str x => exact .str x
  | _ => cases h
theorem dpvs : ∀ {xs : List V}, (∀ x ∈ xs, flatV x = true) → DpAll K H xs (xs.map vD)
  | [], _ => .nil
  | x :: xs, h => .cons (dpv (h x (List.mem_cons_self))) (dpvs fun y hy => h y (List.mem_cons_of_mem _ hy))
theorem dp_lst {a : Addr} {xs : List V} {ds : List PyData} (h : SqL K H a xs) (d : DpAll K H xs ds) : Dp K H (.ref a) (sqD true ds) := .lst h d
theorem dp_tup {a : Addr} {xs : List V} {ds : List PyData} (h : SqT K H a xs) (d : DpAll K H xs ds) : Dp K H (.ref a) (sqD false ds) := .tup h d
end
end L2
set_option Elab.async false
set_option linter.all false
set_option maxRecDepth 100000
set_option maxHeartbeats 1000000
/-! <= of places (year, kind, text); list.index, tuple.index; a written dict from texts to ints -/
namespace Ob
open PySem
theorem RcOp.le_str {A : Around} {s : Shared} (a b : Str) (t u : Tok) : RcOp .LtE A s (.str a t) (.str b u) (!decide (b.cps.toList < a.cps.toList)) := fun _ _ _ _ h => PySem.P.le_str h
end Ob
namespace L2
open PySem PySem.Spec PyProof.Rows
/-- a place is not behind another one -/
def leP (p q : Int × Int × Str) : Bool := if p.1 = q.1 then if p.2.1 = q.2.1 then (if p.2.2 = q.2.2 then true else !decide (q.2.2.cps.toList < p.2.2.cps.toList)) else decide (p.2.1 ≤ q.2.1) else decide (p.1 ≤ q.1)
def plV (p : Int × Int × Str) : List V := [.int p.1, .int p.2.1, .str p.2.2]
def rLeP (K : PySem.W.Frag) : R2 := fun x y H Q => ∃ (a b : Addr) (p q : Int × Int × Str), x = .ref a ∧ y = .ref b ∧ SqT K H a (plV p) ∧ SqT K H b (plV q) ∧ Q (.bl (leP p q)) H
theorem vals3x {x y z : V} {us : List Value} (h : Vals [x, y, z] us) : ∃ a b c, us = [a, b, c] ∧ RelV x a ∧ RelV y b ∧ RelV z c := by
  cases h with
  | cons ra h =>
    cases h with
    | cons rb h =>
      cases h with
      | cons rc h =>
        cases h
        exact ⟨_, _, _, rfl, ra, rb, rc⟩
theorem op_leP {X : Cx} (hu : X.A.units + 64 < cLine) : OpR X (compareOp .LtE) (rLeP X.K) := by
  intro pins s σ H x y v u Q I rx ry h
  obtain ⟨a, b, p, q, rfl, rfl, ha, hb, k⟩ := h
  obtain ⟨y1, k1, s1⟩ := p
  obtain ⟨y2, k2, s2⟩ := q
  cases rx
  cases ry
  obtain ⟨its, r1, p1, _⟩ := I.tuple ha
  obtain ⟨its2, r2, p2, _⟩ := I.tuple hb
  obtain ⟨_, _, _, rfl, ⟨ta, rfl⟩, ⟨tb, rfl⟩, ⟨tc, rfl⟩⟩ := vals3x (show Vals [V.int y1, .int k1, .str s1] its from r1)
  obtain ⟨_, _, _, rfl, ⟨ua, rfl⟩, ⟨ub, rfl⟩, ⟨uc, rfl⟩⟩ := vals3x (show Vals [V.int y2, .int k2, .str s2] its2 from r2)
  have ii : ∀ i j : Int, (i == j) = decide (i = j) := fun i j => by
    by_cases q : i = j
    · rw [decide_eq_true q]; exact beq_iff_eq.mpr q
    · rw [decide_eq_false q]; exact beq_eq_false_iff_ne.mpr q
  have ss : ∀ i j : Str, (i == j) = decide (i = j) := fun i j => by
    by_cases q : i = j
    · rw [decide_eq_true q]; exact beq_iff_eq.mpr q
    · rw [decide_eq_false q]; exact beq_eq_false_iff_ne.mpr q
  have R := Ob.RcOp.tuples_le (A := X.A) (s := s) (e := fun j => match j with | 0 => decide (y1 = y2) | 1 => decide (k1 = k2) | _ => decide (s1 = s2))
    (r := fun j => match j with | 0 => decide (y1 ≤ y2) | 1 => decide (k1 ≤ k2) | _ => !decide (s2.cps.toList < s1.cps.toList)) p1 p2 (Nat.lt_of_le_of_lt (Nat.le_add_right _ _) hu) (fun j h1 h2 => by
      match j, h1, h2 with
      | 0, _, _ => show SeqAt.EqAt _ _ _ _ (decide (y1 = y2)); rw [← ii]; exact SeqAt.EqAt.int_int _ _ _ _
      | 1, _, _ => show SeqAt.EqAt _ _ _ _ (decide (k1 = k2)); rw [← ii]; exact SeqAt.EqAt.int_int _ _ _ _
      | 2, _, _ => show SeqAt.EqAt _ _ _ _ (decide (s1 = s2)); rw [← ss]; exact SeqAt.EqAt.str_str _ _ _ _
      | j + 3, h1, _ => simp at h1; omega) (fun j h1 h2 _ => by
      match j, h1, h2 with
      | 0, _, _ => exact Ob.RcOp.le_int _ _ _ _
      | 1, _, _ => exact Ob.RcOp.le_int _ _ _ _
      | 2, _, _ => exact Ob.RcOp.le_str _ _ _ _
      | j + 3, h1, _ => simp at h1; omega)
  have z : wpAny (model X.prog X.w) X.A (compareOp .LtE (.ref a) (.ref b)) (EP X pins σ Q) X.xe s := R X.prog X.w X.xe (EP X pins σ Q) ⟨.bl _, H, I, rfl, by
    have e : leP (y1, k1, s1) (y2, k2, s2) = Ob.lexAt (fun j => match j with | 0 => decide (y1 = y2) | 1 => decide (k1 = k2) | _ => decide (s1 = s2)) (fun j => match j with | 0 => decide (y1 ≤ y2) | 1 => decide (k1 ≤ k2) | _ => !decide (s2.cps.toList < s1.cps.toList)) true 0 3 := by
      simp only [leP, Ob.lexAt, decide_eq_true_eq]
    rw [e] at k
    exact k⟩
  exact z
/-- a written tuple is one by its object -/
def tyB (K : PySem.W.Frag) (a : Addr) : Bool := match K.lookup a with
  | some ⟨.type c, none, _, _⟩ => decide (c = "tuple")
  | _ => false
theorem tyB_ok {K : PySem.W.Frag} {a : Addr} (h : tyB K a = true) : ∃ o, K.lookup a = some o ∧ o.cls = .type "tuple" ∧ o.dict = none := by
  unfold tyB at h
  split at h
  · rename_i c _ _ e
    exact ⟨_, e, congrArg Value.type (of_decide_eq_true h), rfl⟩
  · cases h
/-- d: a written dict from texts to ints -/
structure WD (K : PySem.W.Frag) (w : World) (d : Addr) (L : List (Str × Int)) : Prop where
  ex : ∃ es n, KDict K w d es n
  get : ∀ z, ∃ r, PySem.W.nsIn K d z = some r ∧ (match L.lookup z with | some i => ∃ u, r = some u ∧ RelV (.int i) u | none => r = none)
theorem keys_none {P : Params} {z : Str} : ∀ {l : List DictEntry} {ks : List Str}, l.map He.keyOf = He.keysIn P ks → z ∉ ks → l.find? (·.key.isStr z) = none ∧ l.any (·.refKey) = false
  | [], _, _, _ => ⟨rfl, rfl⟩
  | e :: r, [], h, _ => by cases h
  | e :: r, k :: ks, h, hz => by
    have h1 : He.keyOf e :: r.map He.keyOf = some (k, PyData.keyHash P k) :: He.keysIn P ks := h
    injection h1 with h2 h3
    obtain ⟨g1, g2⟩ := keys_none h3 (fun q => hz (List.mem_cons_of_mem _ q))
    unfold He.keyOf at h2
    split at h2
    · rename_i x t q
      have h4 := Option.some.inj h2
      obtain ⟨h5, h6⟩ := Prod.mk.inj h4
      have ne : (x == z) = false := beq_eq_false_iff_ne.mpr fun e => hz (by rw [← e, h5]; exact List.mem_cons_self)
      refine ⟨?_, ?_⟩
      · rw [List.find?_cons_of_neg (by rw [q]; show ¬ (x == z) = true; rw [ne]; decide)]
        exact g1
      · rw [List.any_cons, g2, Bool.or_false]
        show (match e.key with | .ref _ => true | _ => false) = false
        rw [q]
    · cases h2
theorem look_none_mem {α : Type} {z : Str} : ∀ {L : List (Str × α)}, L.lookup z = none → z ∉ L.map (·.1)
  | [], _ => by simp
  | (t, a) :: L, h => by
    rw [List.lookup_cons] at h
    cases e : z == t with
    | true => rw [e] at h; cases h
    | false =>
      rw [e] at h
      intro q
      rcases List.mem_cons.mp q with q | q
      · rw [beq_eq_false_iff_ne] at e; exact e q
      · exact look_none_mem h q
theorem look_some_mem {α : Type} {z : Str} {i : α} : ∀ {L : List (Str × α)}, L.lookup z = some i → (z, i) ∈ L
  | [], h => by cases h
  | (t, a) :: L, h => by
    rw [List.lookup_cons] at h
    cases e : z == t with
    | true => rw [e] at h; cases h; rw [beq_iff_eq] at e; rw [e]; exact List.mem_cons_self
    | false => rw [e] at h; exact List.mem_cons_of_mem _ (look_some_mem h)
theorem wd_of {K : PySem.W.Frag} {w : World} {d : Addr} {L : List (Str × Int)} (h1 : He.dicW K d = some (He.keysIn w.params (L.map (·.1)))) (h2 : He.valsB K d (L.map fun q => (q.1, .int q.2)) = true) : WD K w d L := by
  refine ⟨He.dicW_ok h1, fun z => ?_⟩
  cases e : L.lookup z with
  | some i =>
    obtain ⟨u, g1, g2⟩ := He.valsB_ok h2 (q := (z, .int i)) (List.mem_map.mpr ⟨(z, i), look_some_mem e, rfl⟩)
    exact ⟨some u, g1, u, rfl, g2⟩
  | none =>
    refine ⟨none, ?_, rfl⟩
    have hz := look_none_mem e
    unfold He.dicW at h1
    cases q : K.lookup d with
    | none => rw [q] at h1; cases h1
    | some o =>
      obtain ⟨oc, od, dt, osl⟩ := o
      rw [q] at h1
      cases oc with
      | type c =>
        cases od with
        | none =>
          cases dt with
          | dict es n =>
            have h1 : (match decide (c = "dict") && (osl.isEmpty && !(d == sysModules)) with
              | true => some (es.toList.map He.keyOf)
              | false => none) = some (He.keysIn w.params (L.map (·.1))) := h1
            cases zz : decide (c = "dict") && (osl.isEmpty && !(d == sysModules)) with
            | false => rw [zz] at h1; cases h1
            | true =>
              rw [zz] at h1
              obtain ⟨k1, k2⟩ := keys_none (Option.some.inj h1) hz
              unfold PySem.W.nsIn
              rw [q]
              show (match es.toList.find? (·.key.isStr z) with | some e => some (some e.val) | none => if es.toList.any (·.refKey) then none else some none) = _
              rw [k1, k2]
              rfl
          | _ => cases h1
        | some b => cases dt <;> cases h1
      | _ => cases od <;> cases dt <;> cases h1
theorem cut_drop (xs : List V) (n : Nat) : cutV xs (some (n : Int)) none = xs.drop n := by
  unfold cutV
  rw [HT.sIx_nat, HT.sIx_none]
  by_cases h : n ≤ xs.length
  · rw [Nat.min_eq_left h, List.take_of_length_le (by rw [List.length_drop]; exact Nat.le_refl _)]
  · rw [Nat.min_eq_right (by omega), List.drop_of_length_le (Nat.le_refl _), List.drop_of_length_le (by omega)]
    exact List.take_nil
theorem slOr {K : PySem.W.Frag} {H : Hp} {b : Addr} {xs : List V} {n : Nat} {Q : VK} (hb : H b = some (.lst xs) ∨ H b = some (.tup xs)) (h0 : 0 < n) (hl : n ≤ xs.length)
    (k : ∀ l o, H l = none → (o = .lst (xs.drop n) ∨ o = .tup (xs.drop n)) → Q (.ref l) (upd H l o)) : rSlL K (.ref b) (some (n : Int)) none H Q ∨ rSlA K (.ref b) (some (n : Int)) none H Q := by
  rcases hb with hb | hb
  · exact .inl ⟨b, xs, rfl, SqL.of hb, fun l h => by rw [cut_drop]; exact k l _ h (.inl rfl)⟩
  · refine .inr ⟨b, xs, rfl, SqT.of hb, fun h => ?_, fun _ l h => by rw [cut_drop]; exact k l _ h (.inr rfl)⟩
    rw [HT.sIx_nat, Nat.min_eq_left hl] at h
    omega
/-- a part of a list or a tuple -/
theorem sl_eitherK {X : Cx} {K : PySem.W.Frag} (h : X.K = K) : SlR X (fun x lo hi H Q => rSlL K x lo hi H Q ∨ rSlA K x lo hi H Q) := h ▸ sl_list.or sl_tupA
theorem sl_either {X : Cx} : SlR X (fun x lo hi H Q => rSlL X.K x lo hi H Q ∨ rSlA X.K x lo hi H Q) := sl_list.or sl_tupA
section
variable {X : Cx} {K : PySem.W.Frag} {w : World} {d : Addr} {L : List (Str × Int)}
theorem op_notIn_wd (D : WD X.K X.w d L) : OpR X (compareOp .NotIn) (fun x y H Q => ∃ z : Str, x = .str z ∧ y = .ref d ∧ Q (.bl (!(L.lookup z).isSome)) H) := by
  intro pins s σ H x y v u Q I rx ry h
  obtain ⟨z, rfl, rfl, q⟩ := h
  obtain ⟨es, n, kd⟩ := D.ex
  obtain ⟨r, g1, g2⟩ := D.get z
  refine op_notIn_kd kd pins s σ H _ _ v u Q I rx ry ⟨z, r, rfl, rfl, g1, ?_⟩
  cases e : L.lookup z with
  | none => rw [e] at g2 q; subst g2; exact q
  | some i => rw [e] at g2 q; obtain ⟨u', rfl, _⟩ := g2; exact q
theorem ix_wd (D : WD X.K X.w d L) : IxR X (fun x y H Q => ∃ (z : Str) (i : Int), x = .ref d ∧ y = .str z ∧ L.lookup z = some i ∧ Q (.int i) H) := by
  intro value slice pins s σ H x y v u Q I rx ry h hs
  obtain ⟨z, i, rfl, rfl, e, q⟩ := h
  obtain ⟨es, n, kd⟩ := D.ex
  obtain ⟨r, g1, g2⟩ := D.get z
  rw [e] at g2
  obtain ⟨u', rfl, g2⟩ := g2
  exact ix_kdict value slice pins s σ H _ _ v u Q I rx ry ⟨d, z, .int i, rfl, rfl, ⟨es, n, u', kd.at_, kd.lit, g1, g2⟩, q⟩ hs
end
end L2
set_option Elab.async false
set_option linter.all false
set_option maxRecDepth 100000
set_option maxHeartbeats 1000000
/-! methods with a star parameter -/
namespace L2
open PySem PySem.Spec PyProof.Rows StX
section
variable {X : Cx} {CX : CXT} {k : Nat} {f C : Addr} {sp : Sp} {E : St → XK} {m : Str} {pos apos : Pos} {e o : Expr} {es : List Expr} {ta : TE} {t : TA}
theorem run_fnRS {pins : List (Addr × Obj)} {σ : St} {H : Hp} {s : Shared} {Q : VK} {us : List Value} {vs : List V} (F : FnR X.prog X.w X.K X.mg X.base CX k f sp) (hr : Room k X.A) (hx : PassesAt CX X σ (E σ))
    (I : Inv X pins σ H s) (r : Vals vs us) (h : sp vs H Q (E σ)) : wpAny (model X.prog X.w) X.A (call (.ref f) us) (EP X pins σ Q) X.xe s := by
  refine wpAny_call (codeAny_mono (F X.A X.stack s H us vs Q (E σ) hr I.env0 r h) fun r s' hq => ?_)
  cases r with
  | error e => exact hx pins H s e s' I hq
  | ok fl =>
    cases fl with
    | ret u => exact I.after hq
    | next => exact False.elim hq
    | brk => exact False.elim hq
    | cont => exact False.elim hq
/-- the class at C has the method m, its promise told of the values as they are written -/
def CalS (P : Program) (w : World) (K : PySem.W.Frag) (mg : Str → Option Value) (base : Heap) (CX : CXT) (k : Nat) (C : Addr) (m : Str) (sp : Sp) : Prop := ∃ f, FnR P w K mg base CX k f sp ∧ Meth K C m f
def tMethX (C : Addr) (m : Str) (sp : Sp) (E : St → XK) (ta : TE) (t : TA) : TE := fun σ H Q => ta σ H fun x H1 => ∃ a dx fs, x = .ref a ∧ H1 a = some (.ins C dx fs) ∧ fs.lookup m = none ∧
  t σ H1 fun vs H2 => sp (x :: vs) H2 Q (E σ)
theorem pe_mthR {pl : Sem Bool} (cl : Cls X.K C) (c : CalS X.prog X.w X.K X.mg X.base CX k C m sp) (hr : Room k X.A) (ho : PE X o ta) (hx : ∀ σ, PassesAt CX X σ (E σ)) (ha : PA X (e :: es) t)
    (hst : starEach (e :: es) X.env = (false, eval e X.env) :: starEach es X.env := by rfl) (hpl : (backTo pos (starEach es X.env)).any (·.1) = false := by rfl)
    (ht : eval (.Call (.Attribute o m apos) (e :: es) [] pos) X.env = (do
      let v0 ← eval o X.env
      standAt apos.atName
      let (f1, first) ← holding [v0] (getMethod v0 m pl)
      callWith pos f1 first (backTo pos (starEach (e :: es) X.env)) (backToKw pos (keywordEach [] X.env))) := by rfl) :
    PE X (.Call (.Attribute o m apos) (e :: es) [] pos) (tMethX C m sp E ta t) := by
  obtain ⟨f, F, hm⟩ := c
  refine ⟨fun pins s σ H Q I h => PySem.W.methodCall_KW (pl := pl) (thn (ho.run pins s σ H _ I h) fun u s1 hh => ?_) ht⟩
  obtain ⟨x, H1, I1, rx, a, dx, fs, ex, ea, l, q⟩ := hh
  subst ex
  obtain rfl : u = Value.ref a := rx
  refine getmeth_ok I1 ea cl hm l (PySem.W.callWith_K (first := [.ref a]) (h₀ := X.base) I.ok.mod.kin hm.kp (thn (ha.run pos pins s1 σ H1 _ I1 q) fun us s2 hh2 => ?_) hst hpl)
  obtain ⟨vs, H2, I2, r, q2⟩ := hh2
  exact ⟨I2.kIn, run_fnRS (us := .ref a :: us) (vs := .ref a :: vs) F hr (hx σ) I2 (.cons rfl r) q2⟩
theorem pe_mthR0 {pl : Sem Bool} (cl : Cls X.K C) (c : CalS X.prog X.w X.K X.mg X.base CX k C m sp) (hr : Room k X.A) (ho : PE X o ta) (hx : ∀ σ, PassesAt CX X σ (E σ))
    (ht : eval (.Call (.Attribute o m apos) [] [] pos) X.env = (do
      let v0 ← eval o X.env
      standAt apos.atName
      let (f1, first) ← holding [v0] (getMethod v0 m pl)
      callWith pos f1 first (backTo pos (starEach [] X.env)) (backToKw pos (keywordEach [] X.env))) := by rfl) :
    PE X (.Call (.Attribute o m apos) [] [] pos) (tMethX C m sp E ta tNil) := by
  obtain ⟨f, F, hm⟩ := c
  refine ⟨fun pins s σ H Q I h => PySem.W.methodCall_KW (pl := pl) (thn (ho.run pins s σ H _ I h) fun u s1 hh => ?_) ht⟩
  obtain ⟨x, H1, I1, rx, a, dx, fs, ex, ea, l, q⟩ := hh
  subst ex
  obtain rfl : u = Value.ref a := rx
  exact getmeth_ok I1 ea cl hm l (PySem.W.callWith_K0 (first := [.ref a]) I1.kIn hm.kp (run_fnRS (us := [.ref a]) (vs := [.ref a]) F hr (hx σ) I1 (.cons rfl .nil) q))
end
theorem call_len_seqK {X : Cx} {K : PySem.W.Frag} (h : X.K = K) : CallR X (.builtin "len") (fun xs H Q => ∃ p ys, xs = [V.ref p] ∧ (SqL K H p ys ∨ SqT K H p ys) ∧ Q (V.int ys.length) H) := h ▸ call_len_seq
/-- a def with one parameter and a star -/
theorem Fun.star1 {P : Program} {w : World} {K : PySem.W.Frag} {mg : Str → Option Value} {base : Heap} {CX : CXT} {x qual : Str} {st : Stmt} {f : Addr} {fd : FuncData} {N : List Str} {p1 pv : Str} {k : Nat} {sp : Sp} (F : Fun K x qual st f fd) (S : FnScope N ([p1] ++ [pv]) (defScope st)) (hCX : CXUp CX)
    (h0 : ∀ (kV doc pm : Value) (an : Option Addr) (cdv ct : Value) a, bindArgs (PySem.W.fnOf x qual (defArgs st) (defBody st) (defScope st) .none kV doc pm an cdv ct) ⟨[a], []⟩ = (newTuple [] >>= fun t => pure [(p1, a), (pv, t)]))
    (h1 : ∀ (kV doc pm : Value) (an : Option Addr) (cdv ct : Value) a r rs, bindArgs (PySem.W.fnOf x qual (defArgs st) (defBody st) (defScope st) .none kV doc pm an cdv ct) ⟨a :: r :: rs, []⟩ = (newTuple (r :: rs) >>= fun t => pure [(p1, a), (pv, t)]))
    (hbody : ∀ (cdv : Value) (A : Around) (outer : List Env) (s : Shared) (H : Hp) (vs : List V) (Q : VK) (E : XK), Room k (A.deeper (envOfC qual (defScope st) s.heap.objs.size f cdv)) → sp vs H Q E →
      ∃ t, PSs (cxOf CX P w K mg base N qual (defScope st) f cdv A outer s H E) (defBody st) t ∧ t { nx := fun _ H' => Q .non H', rt := Q } (start N vs) H) :
    FnR P w K mg base CX (k + 1) f (fun vs H Q E => ∃ ws rest, vs = ws ++ rest ∧ ws.length = [p1].length ∧ rest.length ≤ sizeLine ∧ ∀ p, H p = Option.none → sp (ws ++ [V.ref p]) (upd H p (.tup rest)) Q E) := by
  obtain ⟨oc, od, kV, doc, pm, an, cdv, ct, osl, rfl, lk, hcd⟩ := F.ex
  exact fn_star lk hcd S hCX (bind_star1 (B := fun us => bindArgs (PySem.W.fnOf x qual (defArgs st) (defBody st) (defScope st) .none kV doc pm an cdv ct) ⟨us, []⟩) (h0 kV doc pm an cdv ct) (h1 kV doc pm an cdv ct)) (hbody cdv)
end L2
set_option Elab.async false
set_option linter.all false
set_option maxRecDepth 100000
set_option maxHeartbeats 1000000
/-! steps of a walk that keep the new heap opaque: what stood stands, and the new thing stands at its place -/
namespace Wp
open PySem L2 Dw
theorem new_ok {H H' : Hp} {p : Addr} {o : HO} (n : H p = none) (e : upd H p o = H') : Same H H' ∧ H' p = some o := e ▸ ⟨sNew n, upd_same⟩
theorem pe_fldK {X : Cx} {K : PySem.W.Frag} {e : Expr} {ta : TE} {f : Str} {pos : Pos} (hk : X.K = K) (he : PE X e ta) (hb : attributeBase e f X.env (eval e X.env) = eval e X.env) : PE X (.Attribute e f pos) (tFld K ta f) := hk ▸ pe_fld he hb
theorem op_eqDK {X : Cx} {K : PySem.W.Frag} (hk : X.K = K) (hu : X.A.units + 64 < cLine) : OpR X (compareOp .Eq) (rEqD K) := hk ▸ op_eqD hu
theorem op_neDK {X : Cx} {K : PySem.W.Frag} (hk : X.K = K) (hu : X.A.units + 64 < cLine) : OpR X (compareOp .NotEq) (rNeD K) := hk ▸ op_neD hu
theorem pe_app1K {X : Cx} {K : PySem.W.Frag} {o e : Expr} {to : TE} {t : TA} {apos cpos : Pos} (hk : X.K = K) (ho : PE X o to) (ha : PA X [e] t) (hbase : attributeBase o "append" X.env (eval o X.env) = eval o X.env := by rfl)
    (hfew : ((backTo cpos (starEach [e] X.env)).all (fun x => !x.1) && (backToKw cpos (keywordEach [] X.env)).all (fun x => x.1.isSome) && decide ([e].length + ([] : List Keyword).length + (if ([] : List Keyword).isEmpty then 0 else 1) < 30)) = true := by rfl)
    (hline : (apos.endLine == cpos.line) = true := by rfl) (hs : starEach [e] X.env = (false, eval e X.env) :: starEach [] X.env := by rfl) (hplain : (backTo cpos (starEach [] X.env)).any (·.1) = false := by rfl) :
    PE X (.Call (.Attribute o "append" apos) [e] [] cpos) (tBM K "list" rAppend to t) := hk ▸ pe_app1 ho ha hbase hfew hline hs hplain
theorem tup_of {xs : List V} {H : Hp} {Q : VK} (hl : xs.length ≤ 1000) (q : ∀ p H', Same H H' → H p = none → H' p = some (.tup xs) → Q (.ref p) H') : xs.length ≤ sizeLine ∧ ∀ p, H p = none → Q (.ref p) (upd H p (.tup xs)) :=
  ⟨Nat.le_of_lt (small1000 hl), fun p h => q p _ (sNew h) h upd_same⟩
theorem lst_of {xs : List V} {H : Hp} {Q : VK} (hl : xs.length ≤ 1000) (q : ∀ p H', Same H H' → H p = none → H' p = some (.lst xs) → Q (.ref p) H') : xs.length ≤ sizeLine ∧ ∀ p, H p = none → Q (.ref p) (upd H p (.lst xs)) :=
  ⟨Nat.le_of_lt (small1000 hl), fun p h => q p _ (sNew h) h upd_same⟩
theorem catT_of {K : PySem.W.Frag} {H : Hp} {a b : Addr} {xs ys : List V} {Q : VK} (ha : H a = some (.tup xs)) (hb : H b = some (.tup ys)) (nx : xs ≠ []) (ny : ys ≠ []) (hl : xs.length + ys.length ≤ 1000)
    (q : ∀ p H', Same H H' → H p = none → H' p = some (.tup (xs ++ ys)) → Q (.ref p) H') : rCatT K (.ref a) (.ref b) H Q :=
  ⟨a, b, xs, ys, rfl, rfl, SqT.of ha, SqT.of hb, nx, Nat.le_of_lt (small1000 hl), fun z => absurd z ny, fun _ p h => q p _ (sNew h) h upd_same⟩
theorem slT_of {K : PySem.W.Frag} {H : Hp} {a : Addr} {xs : List V} {lo hi : Option Int} {Q : VK} (ha : H a = some (.tup xs)) (nw : ¬ (HT.sIx xs.length 0 lo = 0 ∧ HT.sIx xs.length xs.length hi = xs.length))
    (q : ∀ p H', Same H H' → H p = none → H' p = some (.tup (cutV xs lo hi)) → Q (.ref p) H') : rSlT K (.ref a) lo hi H Q :=
  ⟨a, xs, rfl, SqT.of ha, nw, fun p h => q p _ (sNew h) h upd_same⟩
theorem cat_of {H : Hp} {a b : Addr} {xs ys : List V} {Q : VK} (ha : H a = some (.lst xs)) (hb : H b = some (.lst ys)) (hl : xs.length + ys.length ≤ 1000)
    (q : ∀ p H', Same H H' → H p = none → H' p = some (.lst (xs ++ ys)) → Q (.ref p) H') : rCat (.ref a) (.ref b) H Q :=
  ⟨a, b, xs, ys, rfl, rfl, ha, hb, Nat.le_of_lt (small1000 hl), fun p h => q p _ (sNew h) h upd_same⟩
theorem slL_of {K : PySem.W.Frag} {H : Hp} {a : Addr} {xs : List V} {lo hi : Option Int} {Q : VK} (ha : H a = some (.lst xs))
    (q : ∀ p H', Same H H' → H p = none → H' p = some (.lst (cutV xs lo hi)) → Q (.ref p) H') : rSlL K (.ref a) lo hi H Q :=
  ⟨a, xs, rfl, SqL.of ha, fun p h => q p _ (sNew h) h upd_same⟩
theorem ixL_of {K : PySem.W.Frag} {H : Hp} {a : Addr} {xs : List V} {i : Int} {n : Nat} {v : V} {Q : VK} (ha : H a = some (.lst xs)) (e : i = (n : Int)) (hv : xs[n]? = some v) (q : Q v H) : rIxL K (.ref a) (.int i) H Q :=
  ⟨a, xs, i, v, rfl, rfl, SqL.of ha, by rw [e]; exact atI_nat hv, q⟩
theorem ixT_of {K : PySem.W.Frag} {H : Hp} {a : Addr} {xs : List V} {i : Int} {n : Nat} {v : V} {Q : VK} (ha : H a = some (.tup xs)) (e : i = (n : Int)) (hv : xs[n]? = some v) (q : Q v H) : rIxT K (.ref a) (.int i) H Q :=
  ⟨a, xs, i, v, rfl, rfl, SqT.of ha, by rw [e]; exact atI_nat hv, q⟩
theorem next_of {H : Hp} {d c : Addr} {many : Int} {Q : VK} {E : XK} (D : Dr H d c) (h1 : 1 ≤ many) (h2 : many < 1073741824) (q : ∀ (m : Nat) H', (m : Int) < many → Dr H' d c → But d H H' → Q (.int (m : Int)) H') : spNext [.ref d, .int many] H Q E :=
  ⟨d, c, many, rfl, D, h1, h2, fun k H' k0 k1 D' B' => by
    obtain ⟨m, rfl⟩ : ∃ m : Nat, k = (m : Int) := ⟨k.toNat, by omega⟩
    exact q m H' k1 D' B'⟩
theorem lcopy_of {K : PySem.W.Frag} {H : Hp} {p : Addr} {ys : List V} {Q : VK} (hp : H p = some (.lst ys) ∨ H p = some (.tup ys)) (q : ∀ l H', Same H H' → H l = none → H' l = some (.lst ys) → Q (.ref l) H') :
    ∃ p' ys', [V.ref p] = [.ref p'] ∧ (SqL K H p' ys' ∨ SqT K H p' ys') ∧ ∀ l, H l = none → Q (.ref l) (upd H l (.lst ys')) :=
  ⟨p, ys, rfl, hp.imp SqL.of SqT.of, fun l h => q l _ (sNew h) h upd_same⟩
theorem dput_of {α : Type} {f : α → V} {H : Hp} {a : Addr} {L : List (Key × V)} {x : Key} {v : V} {Q : Hp → Prop} (h : H a = some (.dK L)) (hl : L.length ≤ 1000) (q : Q (upd H a (.dK (putK L x v)))) : ∃ a' H', V.ref a = .ref a' ∧ DPut H a' (kV x) v H' ∧ Q H' :=
  ⟨a, _, rfl, DPut.k h (small1000 hl), q⟩
end Wp
set_option Elab.async false
set_option linter.all false
set_option maxRecDepth 100000
set_option maxHeartbeats 4000000
/-! != by an own __eq__ (no own __ne__) -/
namespace OwN
open PySem PySem.Spec PyProof.Rows
section
variable {prog : Program} {w : World} {A : Around} {E : Value → Shared → Prop} {s : Shared} {K : PySem.W.Frag} {x C L f : Addr} {h₀ : Heap} {m : Str → Option Value} {ox : Obj} {od : Option Obj} {b tb : Value}
def NeB (Q : Value → Shared → Prop) (v : Value) (s' : Shared) : Prop := ∃ k, v = .bool k ∧ Q (.bool (!k)) s'
theorem ne_entry {Q : Fin → Shared → Prop} (X : K.In s.heap) (I : PySem.W.InstAt s.heap x ox C od) (hs : PySem.W.findIn K (.ref C) "__eq__" = some (some (.ref f))) (hf : PySem.W.isFn K (.ref f) = true) (hu : A.units < cLine)
    (h : wpAny (model prog w) A (call (.ref f) [.ref x, b]) (fun v s' => ∃ k, v = .bool k ∧ Q (.done (.ret (.bool (!k)))) s') E s) : wpAny (model prog w) A (Builtin.«object.__ne__» ⟨[.ref x, b], []⟩) Q E s := by
  unfold Builtin.«object.__ne__»
  repeat (first
    | with_reducible refine wpAny_cRoomFor hu ?_
    | (refine wpAny_bind (m := callSpecialIfBound? (.ref x) (Str.ofString "__eq__") [b]) (PySem.W.ifBound_K X I hs hf (wpAny_mono h (fun r s' hr => by
        obtain ⟨k, rfl, hq⟩ := hr
        repeat (first | exact hq | exact wpAny_pure hq | exact wpAny_truthy_bool hq | (refine wpAny_bind (m := truthy (.bool _)) (wpAny_truthy_bool ?_)) | wp_step)) fun _ _ e => e)))
    | wp_step)
theorem call_ne {Q : Value → Shared → Prop} (X : K.In s.heap) (I : PySem.W.InstAt s.heap x ox C od) (hs : PySem.W.findIn K (.ref C) "__eq__" = some (some (.ref f))) (hf : PySem.W.isFn K (.ref f) = true) (hm : PySem.W.mroIn K C (.type "object") = some true) (hu : A.in1.units < cLine)
    (h : wpAny (model prog w) A.in1 (call (.ref f) [.ref x, b]) (NeB Q) E s) : wpAny (model prog w) A (call (.builtin "object.__ne__") [.ref x, b]) Q E s :=
  wpAny_call (codeAny_call_builtin F.cmp_object.ne.plain F.cmpEntry_ne (PySem.W.check_slot F.cmpKind_ne F.cmpSplit_ne (I.type.andThen (PySem.W.looks_mroIn X hm)) (F.cmpArgs_ne _ _) (ne_entry X I hs hf hu h)))
theorem ifBound_ne {M : Model} {args : List Value} {Q : Option Value → Shared → Prop} (X : K.In s.heap) (I : PySem.W.InstAt s.heap x ox C od) (hs : PySem.W.findIn K (.ref C) "__ne__" = some (some (.builtin "object.__ne__")))
    (h : wpAny M A (call (.builtin "object.__ne__") (.ref x :: args)) (fun v => Q (some v)) E s) : wpAny M A (callSpecialIfBound? (.ref x) "__ne__" args) Q E s := by
  simp only [callSpecialIfBound?, bindSpecialIfBound?]
  refine wpAny_holding (wpAny_bind (wpAny_bind (wpAny_bind (I.type.here ((PySem.W.looks_findIn X hs).here ?_)))))
  refine wpAny_bind (wpAny_askSetting (wpAny_ite ?_))
  have fin : wpAny M A (call (.builtin "object.__ne__") ([.ref x] ++ args) >>= fun v => pure (some v)) Q E s := wpAny_bind (wpAny_mono h (fun v s' h' => wpAny_pure h') fun _ _ h' => h')
  split
  · exact wpAny_bind (wpAny_of_eq (F.cmp_object.ne.bind _) (wpAny_pure (by exact fin)))
  · exact wpAny_tryCatch (wpAny_bind (wpAny_of_eq (F.cmp_object.ne.bind _) (wpAny_pure (by exact fin))))
theorem ne_K {Q : Value → Shared → Prop} (hu : A.in1.units < cLine) (F : Fr h₀ L s.heap m) (X₀ : K.In h₀) (I : PySem.W.InstAt s.heap x ox C od) (hb : PySem.W.Looks (model prog w) s.heap (typeOf b) tb) (hn : PySem.W.notFirst K C tb = true)
    (hs : PySem.W.findIn K (.ref C) "__eq__" = some (some (.ref f))) (hf : PySem.W.isFn K (.ref f) = true) (hm : PySem.W.mroIn K C (.type "object") = some true) (hne : PySem.W.findIn K (.ref C) "__ne__" = some (some (.builtin "object.__ne__")))
    (h : wpAny (model prog w) A.in1 (call (.ref f) [.ref x, b]) (NeB Q) E s) : wpAny (model prog w) A (richCompare .NotEq (.ref x) b) Q E s := by
  have X := X₀.keeps F.keep
  have hu0 : A.units < cLine := Nat.lt_of_le_of_lt (by show A.units ≤ A.units + 1; omega) hu
  have one : wpAny (model prog w) A (tryCompare (.ref x) "__ne__" b) (fun r s' => ∃ v, r = some v ∧ Q v s') E s := by
    unfold tryCompare
    refine wpAny_bind (ifBound_ne X I hne (call_ne X I hs hf hm hu (wpAny_mono h (fun v s' hv => ?_) fun _ _ e => e)))
    obtain ⟨k, rfl, hq⟩ := hv
    exact ⟨k, rfl, wpAny_pure ⟨_, rfl, hq⟩⟩
  unfold richCompare
  simp only [oneThing_ref]
  refine wpAny_holding (wpAny_bind (wpAny_cRoomFor hu0 ?_))
  refine wpAny_bind (I.type.here (wpAny_bind (hb.here ?_)))
  split
  · rename_i q
    have e : PySem.W.subIn K tb (.ref C) = some false := by
      rcases Bool.or_eq_true_iff.mp hn with e | e
      · rw [beq_iff_eq.mp e] at q; simp at q
      · exact beq_iff_eq.mp e
    refine wpAny_bind ((PySem.W.looks_subIn X e).here ?_)
    simp only [Bool.false_eq_true, if_false]
    refine wpAny_bind (wpAny_mono one (fun r s' z => ?_) fun _ _ e => e)
    obtain ⟨v, rfl, hq⟩ := z
    exact wpAny_pure hq
  · refine wpAny_bind (wpAny_pure ?_)
    simp only [Bool.false_eq_true, if_false]
    refine wpAny_bind (wpAny_mono one (fun r s' z => ?_) fun _ _ e => e)
    obtain ⟨v, rfl, hq⟩ := z
    exact wpAny_pure hq
end
end OwN
namespace L2
open PySem PySem.Spec PyProof.Rows
/-- what != asks of the class at C, besides its __eq__ -/
structure NeOf (K : PySem.W.Frag) (C : Addr) : Prop where
  ob : PySem.W.mroIn K C (.type "object") = some true
  ne : PySem.W.findIn K (.ref C) "__ne__" = some (some (.builtin "object.__ne__"))
theorem run_fn1 {X : Cx} {CX : CXT} {k : Nat} {f : Addr} {fd : FuncData} {ps : List Str} {sp : Sp} {E : XK} {pins : List (Addr × Obj)} {σ : St} {H : Hp} {s : Shared} {Q : VK} {us : List Value} {vs : List V} (F : FnOk X.prog X.w X.K X.mg X.base CX k f fd ps sp) (hr : Room (k + 1) X.A) (hb : Binds X.K fd ps []) (hx : Passes CX X E)
    (I : Inv X pins σ H s) (r : Vals vs us) (h : sp vs H Q E) : wpAny (model X.prog X.w) X.A.in1 (call (.ref f) us) (EP X pins σ Q) X.xe s := by
  have r2 : Vals (vs ++ []) (us ++ []) := r.append .nil
  rw [← List.append_nil vs] at h
  have hl : (us ++ []).length = ps.length := by rw [← r2.length]; exact F.len _ _ _ _ h
  refine wpAny_call (codeAny_mono (F.run X.A.in1 X.stack s H ⟨us, []⟩ (us ++ []) (vs ++ []) Q E hr.in1 I.env0.in1 (hb s us I.kIn hl) r2 h) fun r s' hq => ?_)
  cases r with
  | error e => exact hx pins σ H s e s' I hq
  | ok fl =>
    cases fl with
    | ret u => exact I.after hq
    | next => exact False.elim hq
    | brk => exact False.elim hq
    | cont => exact False.elim hq
def rOwnNe (K : PySem.W.Frag) (C : Addr) (sp : Sp) : R2 := fun x y H Q => ∃ (a dx : Addr) (fs : List (Str × V)) (t : Value), x = .ref a ∧ H a = some (.ins C dx fs) ∧ TyX K H y t ∧ PySem.W.notFirst K C t = true ∧ sp [x, y] H (fun v H' => ∃ b, v = .bl b ∧ Q (.bl (!b)) H') E0
theorem op_ownNe {X : Cx} {CX : CXT} {C : Addr} {k : Nat} {ps : List Str} {sp : Sp} (c : CalM X.prog X.w X.K X.mg X.base CX k C "__eq__" ps sp) (n : NeOf X.K C) (hr : Room (k + 1) X.A) (hx : Passes CX X E0 := by first | exact pass0 | exact passL) : OpR X (compareOp .NotEq) (rOwnNe X.K C sp) := by
  intro pins s σ H x y v u Q I rx ry h
  obtain ⟨f, fd, h1, h2, h4⟩ := c
  obtain ⟨a, dx, fs, t, rfl, ha, hy, hn, q⟩ := h
  obtain rfl : v = Value.ref a := rx
  obtain ⟨mA, J, _⟩ := ins_get I.hok ha
  obtain ⟨od, J, _⟩ := J.look
  obtain ⟨Pz, Z, pz, _⟩ := kit_of I ry hy
  obtain ⟨m, hF⟩ := I.fr
  show wpAny (model X.prog X.w) X.A (richCompare .NotEq (.ref a) u) (EP X pins σ Q) X.xe s
  refine OwN.ne_K (tb := t) hr.in1.units0 hF I.ok.mod.kin J (Z.ty _ _ I.kIn pz) hn h2.at_ h2.fn n.ob n.ne ?_
  refine wpAny_mono (run_fn1 (us := [.ref a, u]) (vs := [.ref a, y]) h1 hr h4 hx I (.cons (show RelV (.ref a) (.ref a) from rfl) (.cons ry .nil)) q) (fun r s' hq => ?_) fun _ _ z => z
  obtain ⟨v', H', I', rv, b, rfl, q'⟩ := hq
  obtain rfl : r = Value.bool b := rv
  exact ⟨b, rfl, .bl (!b), H', I', rfl, q'⟩
end L2
namespace L2
open PySem PySem.Spec PyProof.Rows
/-- a text times an int -/
def rRepS : R2 := fun x y H Q => ∃ (z : Str) (k : Int), x = .str z ∧ y = .int k ∧ MulOk z k ∧ Q (.str (PySem.Txt.mul z k)) H
theorem op_repS {X : Cx} : OpR X (binaryOp .Mult) rRepS := by
  intro pins s σ H x y v u Q I rx ry h
  obtain ⟨z, k, rfl, rfl, hok, q⟩ := h
  obtain ⟨t, rfl⟩ := rx
  obtain ⟨t2, rfl⟩ := ry
  exact SB.mul hok fun t' k' => ⟨.str _, H, I.tok k', ⟨t', rfl⟩, q⟩
theorem zero_mul {k : Int} (h1 : 1 ≤ k) (h2 : k ≤ 12) : MulOk "0" k ∧ (PySem.Txt.mul "0" k).length ≤ 1000 := by
  have h : k = 1 ∨ k = 2 ∨ k = 3 ∨ k = 4 ∨ k = 5 ∨ k = 6 ∨ k = 7 ∨ k = 8 ∨ k = 9 ∨ k = 10 ∨ k = 11 ∨ k = 12 := by omega
  rcases h with rfl | rfl | rfl | rfl | rfl | rfl | rfl | rfl | rfl | rfl | rfl | rfl <;> exact ⟨⟨by decide +kernel, fun _ _ => by decide +kernel, fun _ _ => by decide +kernel⟩, by decide +kernel⟩
end L2
namespace L2
open PySem PySem.Spec PyProof.Rows
theorem passN {X : Cx} (σ : St) : PassesAt (L2.CX X.prog X.w) X σ E0 := fun pins H s e s' I c => passL pins σ H s e s' I c
end L2
set_option Elab.async false
set_option linter.all false
set_option maxRecDepth 100000
set_option maxHeartbeats 1000000
/-! list(o): o with an own __iter__ over a tuple and an own __len__ -/
namespace L2
open PySem PySem.Spec PyProof.Rows
section
variable {X : Cx} {pins : List (Addr × Obj)} {σ : St} {A1 : Around} {H0 : Hp}
theorem tup_loop {it t q : Addr} {zs : List V} {Rs : Result → Shared → Prop} (hd : A1.handled = none) (hz : ∀ ys, SqT X.K (upd H0 q (.lst ys)) t zs) (hf : ∀ ys, FpOk X pins (upd H0 q (.lst ys)) it) (zl : zs.length ≤ sizeLine)
    (hdone : ∀ s', Inv X pins σ (upd H0 q (.lst zs)) s' → Rs (.ok (.ret .none)) s') :
    ∀ (k i : Nat) (s : Shared), zs.length = i + k → Inv X pins σ (upd H0 q (.lst (zs.take i))) s → s.heap.IsTupleIter it t i → codeAny (model X.prog X.w) A1 (.builtin "list.extend.loop" ⟨[.ref q, .ref it, .none], []⟩) Rs s := by
  intro k
  induction k with
  | zero =>
    intro i s hl I hit
    obtain ⟨its, rv, pl, _⟩ := I.tuple (hz _)
    refine codeAny_builtin PySem.F.entry_extend_loop ?_
    rw [Around.under_plainId PySem.F.plain_extend_loop _]
    show wpAny _ A1.in1 (pyNext (.ref it) >>= _) _ _ s
    have lr := rv.length
    refine wpAny_bind (wpAny_pyNext_tuple_end (items := its.toArray) (i := i) hd hit (show s.heap.IsTuple t its.toArray from pl) (by simp; omega) fun h' e => ?_)
    refine wpAny_pure (hdone _ ?_)
    have e0 : zs.take i = zs := List.take_of_length_le (by omega)
    rw [e0] at I
    exact I.turnedL (t' := s.toks) (ch := [it]) (fun b o hb q => (e b o (fun z => hb (by simp [z])) q)) fun b hb => (show b = it by simpa using hb) ▸ hf zs
  | succ k ih =>
    intro i s hl I hit
    obtain ⟨its, rv, pl, _⟩ := I.tuple (hz _)
    have lr := rv.length
    have hi : i < zs.length := by omega
    obtain ⟨u, eu, ru⟩ := rv.get (List.getElem?_eq_getElem hi)
    refine codeAny_builtin PySem.F.entry_extend_loop ?_
    rw [Around.under_plainId PySem.F.plain_extend_loop _]
    show wpAny _ A1.in1 (pyNext (.ref it) >>= _) _ _ s
    refine wpAny_bind (wpAny_pyNext_tuple_item (items := its.toArray) (i := i) (x := u) hit (show s.heap.IsTuple t its.toArray from pl) (by simpa using eu) fun h' hit' e => ?_)
    have I2 : Inv X pins σ (upd H0 q (.lst (zs.take i))) { s with heap := h' } := I.turnedL (t' := s.toks) (ch := [it]) (fun b o hb q => e.extBut b o (fun z => hb (by simp [z])) q) fun b hb => (show b = it by simpa using hb) ▸ hf _
    show wpAny _ A1.in1 (updateSeq q (·.push u) >>= _) _ _ _
    obtain ⟨z, its2, c, r2, hl2, e2⟩ := I2.lstM upd_same
    have lz : (zs.take i).length = i := by rw [List.length_take]; omega
    have I3 := I2.lset (f := (·.push u)) (its' := its2 ++ [u]) (ys := zs.take i ++ [zs[i]]) (t' := s.toks) upd_same e2 (by simp) (r2.append (.cons ru .nil)) (by rw [List.length_append, lz, List.length_singleton]; omega)
    have et : zs.take i ++ [zs[i]] = zs.take (i + 1) := by rw [List.take_succ, List.getElem?_eq_getElem hi]; rfl
    rw [upd_upd, et] at I3
    have ne : it ≠ q := by
      intro z
      have := (hf []).1
      rw [z, upd_same] at this
      cases this
    refine wpAny_bind (wpAny_updateSeq e2 rfl (wpAny_pure ⟨plainId_quiet PySem.F.plain_extend_loop _, ih (i + 1) _ (by omega) I3 ?_⟩) (by rw [List.size_toArray]; omega) (by show (its2.toArray.push u).size ≤ sizeLine + 1; rw [Array.size_push, List.size_toArray]; omega))
    exact hit'.at fun o e => (Heap.get?_update_other _ _ (Ne.symm ne)).trans e
/-- a call of a def below -/
theorem run_sub {CX : CXT} {k : Nat} {ps : List Str} {sp : Sp} {H : Hp} {s : Shared} {Q : VK} {A : Around} {f : Addr} {fd : FuncData} {us : List Value} {vs : List V} {E : Value → Shared → Prop} (F : FnOk X.prog X.w X.K X.mg X.base CX0 k f fd ps sp) (hr : Room k A) (e0 : Env0 X.prog X.w X.K X.mg X.base A X.stack s H) (hb : Binds X.K fd ps [])
    (I : Inv X pins σ H s) (r : Vals vs us) (h : sp vs H Q E0) : wpAny (model X.prog X.w) A (call (.ref f) us) (EP X pins σ Q) E s := by
  have hl : (us ++ []).length = ps.length := by
    rw [List.append_nil, ← r.length]
    exact F.len _ _ _ _ h
  have hb' := hb s us I.kIn hl
  rw [List.append_nil] at hb'
  refine wpAny_call (codeAny_mono (F.run A X.stack s H ⟨us, []⟩ us vs Q E0 hr e0 hb' r h) fun z s' hq => ?_)
  match z, hq with
  | .error e, hq => exact hq.elim
  | .ok (.ret u), hq => exact I.after hq
/-- a promise of a length: the memory stays -/
def LenIs (sp : Sp) (H : Hp) (a : Addr) : Prop := sp [.ref a] H (fun v H' => ∃ n : Nat, v = .int n ∧ n < 1000000 ∧ H' = H) E0
theorem hint_len {C : Addr} {k : Nat} {ps : List Str} {sp : Sp} {H : Hp} {s : Shared} {A : Around} {a dx : Addr} {fs : List (Str × V)} {Q : Bool → Shared → Prop} {E : Value → Shared → Prop} (c : CalM X.prog X.w X.K X.mg X.base CX0 k C "__len__" ps sp) (hr : Room k A.in1) (e0 : Env0 X.prog X.w X.K X.mg X.base A.in1 X.stack s H)
    (I : Inv X pins σ H s) (ha : H a = some (.ins C dx fs)) (hl : LenIs sp H a) (q : ∀ b s', Inv X pins σ H s' → Q b s') : wpAny (model X.prog X.w) A (Builtin.List.listLengthHint (.ref a)) Q E s := by
  obtain ⟨f, fd, h1, h2, h4⟩ := c
  obtain ⟨mA, J, _⟩ := ins_get I.hok ha
  obtain ⟨od, J, _⟩ := J.look
  unfold Builtin.List.listLengthHint
  refine wpAny_bind (wpAny_bind (J.type.here ((PySem.W.looks_findIn I.kIn h2.at_).here ?_)))
  refine PySem.W.KFB.if_not rfl ?_
  refine PySem.W.KFB.if_so rfl ?_
  refine wpAny_bind (wpAny_rule ?_)
  refine wpAny_bind (wpAny_attempt (Calls.call_function_entry kind_len plain_len entry_len (args_len1 _) ?_))
  unfold Builtin.«len»
  refine wpAny_bind (m := oneArg "len" _) (wpAny_pure ?_)
  refine wpAny_bind (m := callSpecial? (.ref a) (Str.ofString "__len__")) (PySem.W.special_fn I.kIn J h2.at_ (beq_iff_eq.mp h2.fn) (wpAny_mono (run_sub (CX := CX0) h1 hr e0 h4 I (show Vals [V.ref a] [Value.ref a] from .cons rfl .nil) hl) (fun v s' hv => ?_) fun _ _ z => z))
  obtain ⟨v', H', I', rv, n, rfl, hn, rfl⟩ := hv
  obtain ⟨t, rfl⟩ := rv
  refine wpAny_bind (wpAny_holding (wpAny_pure ?_))
  refine wpAny_bind (wpAny_letGo ?_)
  show wpAny _ _ (if (n : Int) < 0 then _ else _) _ _ _
  rw [if_neg (show ¬ ((n : Int) < 0) by omega)]
  show wpAny _ _ (if (n : Int) ≥ 2 ^ 63 then _ else _) _ _ _
  rw [if_neg (show ¬ ((n : Int) ≥ 2 ^ 63) by omega)]
  refine wpAny_bind (wpAny_mkInt (wpAny_pure ⟨_, rfl, ?_⟩))
  show wpAny _ _ (asInt? _ >>= _) _ _ _
  refine wpAny_bind (wpAny_of_eq (a := some (n : Int)) rfl ?_)
  have lt : Builtin.List.listTooLong (n : Int).toNat = false := by
    have : n ≤ sizeLine := by
      have : (1000000 : Nat) ≤ sizeLine := by decide
      omega
    simpa using notLongL this
  show wpAny _ _ (if Builtin.List.listTooLong (n : Int).toNat = true then _ else _) _ _ _
  rw [if_neg (by rw [lt]; exact Bool.false_ne_true)]
  exact wpAny_pure (q _ _ (I'.tok _))
def rListI (K : PySem.W.Frag) (C : Addr) (f : Str) (sp : Sp) : List V → Hp → VK → Prop := fun xs H Q => ∃ (a dx t : Addr) (fs : List (Str × V)) (zs : List V), xs = [.ref a] ∧ H a = some (.ins C dx fs) ∧ fs.lookup f = some (.ref t) ∧ H t = some (.tup zs) ∧ (∀ H', Same H H' → LenIs sp H' a) ∧ ∀ l, H l = none → Q (.ref l) (upd H l (.lst zs))
theorem call_listI {C : Addr} {f : Str} {k : Nat} {ps : List Str} {sp : Sp} (ci : CalI X.prog X.w X.K X.mg X.base k C f) (cn : CalM X.prog X.w X.K X.mg X.base CX0 k C "__len__" ps sp) (hr : Room (k + 3) X.A) : CallR X (.type "list") (rListI X.K C f sp) := by
  intro pins s σ H xs us Q I rv h
  obtain ⟨a, dx, t, fs, zs, rfl, ha, hft, ht, hln, hq⟩ := h
  obtain ⟨u, rfl, ru⟩ := rv.one
  cases ru
  obtain ⟨g, fd, h1, h2, h4⟩ := ci
  refine callType_codes (Q₁ := fun obj s₁ => obj = .ref s.heap.objs.size ∧ s₁ = { s with heap := s.heap.push { cls := .type "list", data := .seq #[] } }) PySem.F.called_list (PySem.F.typeCall_list_1 _) PySem.F.entry_list_init
    (code_list_new _ ⟨rfl, rfl⟩) fun obj s₁ h₁ => ?_
  obtain ⟨rfl, rfl⟩ := h₁
  have hS : (s.heap.push { cls := .type "list", data := .seq #[] }).get? s.heap.objs.size = some { cls := .type "list", data := .seq #[] } := Heap.get?_push_size _ rfl
  refine ⟨⟨_, hS, rfl⟩, PySem.F.args_list_init_2 _ _, ?_⟩
  have fr : H s.heap.objs.size = none := I.hok.fresh (Nat.le_refl _)
  have I1 : Inv X pins σ (upd H s.heap.objs.size (.lst [])) { s with heap := s.heap.push { cls := .type "list", data := .seq #[] } } := I.lnew (its := []) (t' := s.toks) .nil (Nat.zero_le _)
  show wpAny _ _ (do let old ← Builtin.List.listItems (.ref s.heap.objs.size); Builtin.List.listUpdate (.ref s.heap.objs.size) (fun _ => #[]); letGo old.toList.reverse; Builtin.List.listExtendWith (.ref s.heap.objs.size) (.ref a) .none) _ _ _
  refine wpAny_bind ?_
  unfold Builtin.List.listItems
  refine wpAny_bind (wpAny_seqItems hS rfl (wpAny_pure ?_))
  show wpAny _ _ (updateSeq s.heap.objs.size (fun _ => #[]) >>= fun _ => letGo (#[] : Array Value).toList.reverse >>= fun _ => Builtin.List.listExtendWith (.ref s.heap.objs.size) (.ref a) .none) _ _ _
  refine wpAny_bind (wpAny_updateSeq hS rfl ?_)
  have I2 := I1.lset (f := fun _ => #[]) (its := []) (its' := []) (ys := []) (t' := s.toks) upd_same hS rfl .nil (Nat.zero_le _)
  rw [upd_upd] at I2
  refine wpAny_bind (wpAny_letGo ?_)
  have S1 : Same H (upd H s.heap.objs.size (.lst [])) := sNew fr
  have ha2 := S1 _ _ ha
  have hfin := hq _ fr
  have hqq : (upd H s.heap.objs.size (.lst [])) s.heap.objs.size = some (.lst []) := upd_same
  have nta : s.heap.objs.size ≠ a := Ne.symm (ne_of_none ha fr)
  have ntt : t ≠ s.heap.objs.size := ne_of_none ht fr
  generalize eq : s.heap.objs.size = q at *
  obtain ⟨mA, J, _⟩ := ins_get I2.hok ha2
  obtain ⟨od, J, _⟩ := J.look
  obtain ⟨m0, hF⟩ := I2.fr
  unfold Builtin.List.listExtendWith
  refine wpAny_bind (J.type.here ?_)
  have e1 : Builtin.List.listSameRef (.ref q) (.ref a) = false := by simp [Builtin.List.listSameRef, nta]
  have e2 : (Value.ref C == Value.type "list") = false := rfl
  have e3 : (Value.ref C == Value.type "tuple") = false := rfl
  simp only [e1, e2, e3, Bool.or_false, Bool.false_eq_true, if_false]
  refine wpAny_bind (PySem.W.owit_iter hF I2.ok.mod.kin J h2.at_ h2.fn ?_)
  have hb' := fun s1 (kin : X.K.In s1.heap) => h4 s1 [.ref a] kin rfl
  have hr2 : Room k X.A.in1.in1 := (show Room (k + 2) X.A from hr.mono (by omega)).in1.in1
  have hr3 : Room k X.A.in1.in1.in1 := hr.in1.in1.in1
  refine wpAny_call (codeAny_mono (h1.run X.A.in1.in1 X.stack _ (upd H q (.lst [])) [.ref a] [.ref a] (fun v H' => ∃ it, v = .ref it ∧ (upd H q (.lst [])) it = none ∧ X.s_0.heap.objs.size ≤ it ∧ H' = upd (upd H q (.lst [])) it (ItT t it)) E0 hr2 I2.env0.in1.in1 (by
    have := hb' _ I2.kIn
    rw [List.append_nil] at this
    exact this) (.cons rfl .nil) ⟨a, dx, t, fs, zs, rfl, ha2, hft, SqT.of (S1 _ _ ht), fun it n1 n2 => ⟨it, rfl, n1, Nat.le_trans I2.sz n2, rfl⟩⟩) fun z s' hq' => ?_)
  match z, hq' with
  | .error e, hq' => exact hq'.elim
  | .ok (.ret u), hq' =>
    obtain ⟨v, H', I', rv, it, rfl, n1, n2, rfl⟩ := I2.after hq'
    obtain rfl : u = Value.ref it := rv
    have eo := (I'.hok it _ upd_same).1
    unfold PySem.W.OwitIt
    refine looks_next eo fun _ => ?_
    have S2 : Same (upd H q (.lst [])) (upd (upd H q (.lst [])) it (ItT t it)) := sNew n1
    refine wpAny_bind (wpAny_holding (hint_len cn hr3 I'.env0.in1.in1.in1 I' (S2 _ _ ha2) (hln _ (S1.trans S2)) fun b s2 I4 => ?_))
    have eo := (I4.hok it _ upd_same).1
    have nqi : q ≠ it := ne_of_none hqq n1
    have h4q : (upd (upd H q (.lst [])) it (ItT t it)) q = some (.lst []) := S2 _ _ hqq
    have fin : ∀ s3, Inv X pins σ (upd (upd H q (.lst [])) it (ItT t it)) s3 → s3.heap.get? it = some { cls := .type "tuple_iterator", data := .fields #[.ref t, .int 0 0] } →
        codeAny (model X.prog X.w) X.A.in1 (.builtin "list.extend.loop" ⟨[.ref q, .ref it, .none], []⟩) (wants (fun r s₂ => r = .none ∧ EP X pins σ Q (.ref q) s₂) X.xe) s3 := fun s3 I5 eo => by
      have I6 := ItX.inv_drop I5 (a := it) (φ := fun h => h.get? it = some { cls := .type "tuple_iterator", data := .fields #[.ref t, .int 0 0] }) upd_same
      have fp := ItX.inv_fp I5 (a := it) (u := ItT t it) upd_same n2
      rw [ItX.dropH_upd n1] at I6 fp
      have hi0 : H it = none := by rw [upd_ne (Ne.symm nqi)] at n1; exact n1
      have hzt := I.tuple (SqT.of ht)
      obtain ⟨itsz, rvz, _, hzl⟩ := hzt
      have hzl2 := rvz.length
      refine tup_loop (H0 := H) (zs := zs) (t := t) (q := q) (it := it) (A1 := X.A.in1) hr.hd (fun ys => SqT.of (by rw [upd_ne ntt]; exact ht)) (fun ys => ⟨by rw [upd_ne (Ne.symm nqi)]; exact hi0, fp.2⟩) ?_ (fun s' J => ?_) zs.length 0 s3 (by omega) I6 ⟨_, eo, rfl, rfl⟩
      · first | exact hzl | omega
      · exact ⟨rfl, .ref q, _, J, rfl, hfin⟩
    refine wpAny_ite_split (fun _ => ?_) (fun _ => wpAny_pure ⟨plainId_quiet PySem.F.plain_extend_loop _, fin s2 I4 eo⟩)
    refine wpAny_bind (wpAny_rule ?_)
    refine wpAny_bind ?_
    show wpAny _ _ (updateSeq q (·.push .none) >>= fun _ => updateSeq q (·.pop)) _ _ _
    obtain ⟨z3, its3, k3, r3, hl3, e3⟩ := I4.lstM h4q
    cases r3
    refine wpAny_bind (wpAny_updateSeq e3 rfl ?_)
    have I5 := I4.lset (f := (·.push Value.none)) (its' := [Value.none]) (ys := [.non]) (t' := s2.toks) h4q e3 (by simp) (.cons rfl .nil) (by rw [List.length_singleton, sizeLine_eq]; decide)
    obtain ⟨z4, its4, k4, r4, hl4, e4⟩ := I5.lstM upd_same
    obtain ⟨u4, rfl, ru4⟩ := r4.one
    refine wpAny_updateSeq e4 rfl ?_ (by show 1 ≤ sizeLine; rw [sizeLine_eq]; decide) (by show 0 ≤ sizeLine + 1; exact Nat.zero_le _)
    have I6 := I5.lset (f := (·.pop)) (its := [u4]) (its' := []) (ys := []) (t' := s2.toks) upd_same e4 (by rfl) .nil (Nat.zero_le _)
    rw [upd_upd] at I6
    have hH : upd (upd (upd H q (.lst [])) it (ItT t it)) q (.lst []) = upd (upd H q (.lst [])) it (ItT t it) := by
      funext b
      by_cases hb : b = q
      · rw [hb, upd_same, h4q]
      · rw [upd_ne hb]
    rw [hH] at I6
    exact wpAny_pure ⟨plainId_quiet PySem.F.plain_extend_loop _, fin _ I6 (I6.hok it _ upd_same).1⟩
end
end L2
set_option Elab.async false
set_option linter.all false
set_option maxRecDepth 100000
set_option maxHeartbeats 4000000
/-! ==, !=, str and {..} of an instance of one of several own classes -/
namespace L2
open PySem PySem.Spec PyProof.Rows
abbrev CSp := List (Addr × Sp)
def rOwnU (K : PySem.W.Frag) (Cs : CSp) : R2 := fun x y H Q => ∃ C sp, (C, sp) ∈ Cs ∧ rOwn K C sp x y H Q
theorem op_ownU {X : Cx} {CX : CXT} {Cs : CSp} {k : Nat} {ps : List Str} (c : ∀ C sp, (C, sp) ∈ Cs → CalM X.prog X.w X.K X.mg X.base CX k C "__eq__" ps sp) (hr : Room k X.A) (hx : Passes CX X E0 := by first | exact pass0 | exact passL) : OpR X (compareOp .Eq) (rOwnU X.K Cs) := by
  intro pins s σ H x y v u Q I rx ry h
  obtain ⟨C, sp, hm, h⟩ := h
  exact op_own (c C sp hm) hr hx pins s σ H x y v u Q I rx ry h
def rOwnNeU (K : PySem.W.Frag) (Cs : CSp) : R2 := fun x y H Q => ∃ C sp, (C, sp) ∈ Cs ∧ rOwnNe K C sp x y H Q
theorem op_ownNeU {X : Cx} {CX : CXT} {Cs : CSp} {k : Nat} {ps : List Str} (c : ∀ C sp, (C, sp) ∈ Cs → CalM X.prog X.w X.K X.mg X.base CX k C "__eq__" ps sp ∧ NeOf X.K C) (hr : Room (k + 1) X.A) (hx : Passes CX X E0 := by first | exact pass0 | exact passL) : OpR X (compareOp .NotEq) (rOwnNeU X.K Cs) := by
  intro pins s σ H x y v u Q I rx ry h
  obtain ⟨C, sp, hm, h⟩ := h
  exact op_ownNe (c C sp hm).1 (c C sp hm).2 hr hx pins s σ H x y v u Q I rx ry h
/-- what {..} asks of the class at C, besides its __str__ -/
structure FmtOf (K : PySem.W.Frag) (C : Addr) : Prop where
  fm : PySem.W.findIn K (.ref C) "__format__" = some (some (.builtin "object.__format__"))
  ob : PySem.W.mroIn K C (.type "object") = some true
theorem run_fn2 {X : Cx} {CX : CXT} {k : Nat} {f : Addr} {fd : FuncData} {ps : List Str} {sp : Sp} {E : XK} {pins : List (Addr × Obj)} {σ : St} {H : Hp} {s : Shared} {Q : VK} {us : List Value} {vs : List V} (F : FnOk X.prog X.w X.K X.mg X.base CX k f fd ps sp) (hr : Room (k + 2) X.A) (hb : Binds X.K fd ps []) (hx : Passes CX X E)
    (I : Inv X pins σ H s) (r : Vals vs us) (h : sp vs H Q E) : wpAny (model X.prog X.w) X.A.in1.in1 (call (.ref f) us) (EP X pins σ Q) X.xe s := by
  have r2 : Vals (vs ++ []) (us ++ []) := r.append .nil
  rw [← List.append_nil vs] at h
  have hl : (us ++ []).length = ps.length := by rw [← r2.length]; exact F.len _ _ _ _ h
  refine wpAny_call (codeAny_mono (F.run X.A.in1.in1 X.stack s H ⟨us, []⟩ (us ++ []) (vs ++ []) Q E hr.in1.in1 I.env0.in1.in1 (hb s us I.kIn hl) r2 h) fun r s' hq => ?_)
  cases r with
  | error e => exact hx pins σ H s e s' I hq
  | ok fl =>
    cases fl with
    | ret u => exact I.after hq
    | next => exact False.elim hq
    | brk => exact False.elim hq
    | cont => exact False.elim hq
/-- the text of an own instance: its own __str__ -/
def tFmtU (Cs : CSp) (te : TE) : TE := fun σ H Q => te σ H fun x H1 => ∃ (C : Addr) (sp : Sp) (a dx : Addr) (fs : List (Str × V)), (C, sp) ∈ Cs ∧ x = .ref a ∧ H1 a = some (.ins C dx fs) ∧ sp [x] H1 (fun v H2 => ∃ y, v = .str y ∧ Q (.str y) H2) E0
theorem pe_fmtU {X : Cx} {CX : CXT} {Cs : CSp} {k : Nat} {ps : List Str} {e : Expr} {te : TE} {pos : Pos} (c : ∀ C sp, (C, sp) ∈ Cs → CalM X.prog X.w X.K X.mg X.base CX k C "__str__" ps sp ∧ FmtOf X.K C) (hr : Room (k + 1) X.A) (he : PE X e te) (hx : Passes CX X E0 := by first | exact pass0 | exact passL) :
    PE X (.FormattedValue e (-1) none pos) (tFmtU Cs te) := by
  refine ⟨fun pins s σ H Q I h => ?_⟩
  refine wpAny_FormattedValue_plain (thn (he.run pins s σ H _ I h) fun v s1 hv => ?_)
  obtain ⟨x, H1, I1, r1, C, sp, a, dx, fs, hm, rfl, ha, q⟩ := hv
  obtain rfl : v = Value.ref a := r1
  obtain ⟨⟨f, fd, h1, h2, h4⟩, fm⟩ := c C sp hm
  obtain ⟨mA, J, _⟩ := ins_get I1.hok ha
  obtain ⟨od, J, _⟩ := J.look
  refine PySem.W.kfo_fieldS hr.in1.units0 I1.kIn J fm.fm fm.ob h2.at_ h2.fn ?_
  refine wpAny_mono (run_fn1 (us := [.ref a]) (vs := [.ref a]) h1 hr h4 hx (I1.tok _) (.cons (show RelV (.ref a) (.ref a) from rfl) .nil) q) (fun r s' hq => ?_) fun _ _ z => z
  obtain ⟨v', H', I', rv, ⟨y, rfl, q'⟩⟩ := hq
  obtain ⟨t, rfl⟩ := rv
  exact ⟨.str y, H', I', ⟨t, rfl⟩, q'⟩
open PySem.W Builtin Builtin.Str in
theorem strO_call {prog : Program} {w : World} {A : Around} {E : Value → Shared → Prop} {s : Shared} {K : Frag} {x C f : Addr} {ox : Obj} {od : Option Obj} {Q : Value → Shared → Prop} (hu : A.in1.in1.units < cLine) (X : K.In s.heap) (I : InstAt s.heap x ox C od) (hs : findIn K (.ref C) "__str__" = some (some (.ref f)))
    (hf : isFn K (.ref f) = true) (h : wpAny (model prog w) A.in1.in1 (call (.ref f) [.ref x]) (StrBack Q) E s) : wpAny (model prog w) A (call (.type "str") [.ref x]) Q E s := by
  refine callType_codes (T := "str") (Bi := Builtin.«object.__init__») (Q₁ := fun r s₁ => ∃ y u, r = .str y u ∧ Q r s₁) PySem.F.called_str (PySem.F.typeCall_str_1 _) PySem.F.entry_object_init ?_ ?_
  · refine codeAny_of_tree ?_
    show wpAny _ A.in1.in1 (do checkBuiltinCall "str.__new__" ⟨[.type "str", .ref x], []⟩; again (.builtin "str.__new__" ⟨[.type "str", .ref x], []⟩)) _ _ s
    refine wpAny_bind (wpAny_of_eq (PySem.F.newCall_str_1 _) (wpAny_pure ⟨plainId_quiet (by decide +kernel) _, codeAny_builtin PySem.F.entry_str_new ?_⟩))
    rw [Around.under_plainId (by decide +kernel) _]
    rw [str_new_tree]
    refine wpAny_bind (wpAny_pure ?_)
    refine wpAny_bind (wpAny_of_eq isSubtype_str_str ?_)
    have key : wpAny (model prog w) A.in1.in1 (PySem.Builtin.Str.strOf (.ref x)) (fun r s₁ => ∃ y u, r = .str y u ∧ Q r s₁) E s := by
      unfold PySem.Builtin.Str.strOf
      rw [show isExactStr (.ref x) = false from rfl]
      refine wpAny_bind (m := cRoomFor _ _) (wpAny_cRoomFor hu ?_)
      refine wpAny_bind (m := callSpecial? (.ref x) (Str.ofString "__str__")) (special_fn X I hs (beq_iff_eq.mp hf) (wpAny_mono h (fun r s' z => ?_) fun _ _ y => y))
      cases r <;> first | exact z.elim | exact wpAny_pure ⟨_, _, rfl, z⟩
    exact wpAny_bind (wpAny_mono key (fun r s₁ hr => wpAny_pure hr) fun _ _ y => y)
  · rintro obj s₁ ⟨y, u, rfl, hq⟩
    exact ⟨typeIs_str _ _ _, PySem.F.args_object_init_2 _ _, object_init_meets PySem.F.called_str.init.lookup PySem.F.called_str.made (by decide) prog w A.in1 _ s₁ ⟨typeIs_str _ _ _, rfl, hq⟩⟩
theorem call_strU {X : Cx} {CX : CXT} {Cs : CSp} {k : Nat} {ps : List Str} (c : ∀ C sp, (C, sp) ∈ Cs → CalM X.prog X.w X.K X.mg X.base CX k C "__str__" ps sp) (hr : Room (k + 2) X.A) (hx : Passes CX X E0 := by first | exact pass0 | exact passL) :
    CallR X (.type "str") (fun xs H Q => ∃ (C : Addr) (sp : Sp) (a dx : Addr) (fs : List (Str × V)), (C, sp) ∈ Cs ∧ xs = [.ref a] ∧ H a = some (.ins C dx fs) ∧ sp [.ref a] H (fun v H2 => ∃ y, v = .str y ∧ Q (.str y) H2) E0) := by
  intro pins s σ H xs us Q I r h
  obtain ⟨C, sp, a, dx, fs, hm, rfl, ha, q⟩ := h
  obtain ⟨f, fd, h1, h2, h4⟩ := c C sp hm
  obtain ⟨mA, J, _⟩ := ins_get I.hok ha
  obtain ⟨od, J, _⟩ := J.look
  obtain ⟨u, rfl, ru⟩ := vals1 r
  obtain rfl : u = Value.ref a := ru
  refine strO_call hr.in1.in1.units0 I.kIn J h2.at_ h2.fn ?_
  refine wpAny_mono (run_fn2 (us := [.ref a]) (vs := [.ref a]) h1 hr h4 hx I (.cons (show RelV (.ref a) (.ref a) from rfl) .nil) q) (fun r s' hq => ?_) fun _ _ z => z
  obtain ⟨v', H', I', rv, ⟨y, rfl, q'⟩⟩ := hq
  obtain ⟨t, rfl⟩ := rv
  exact ⟨.str y, H', I', ⟨t, rfl⟩, q'⟩
end L2
set_option Elab.async false
set_option linter.all false
set_option maxRecDepth 100000
set_option maxHeartbeats 1000000
namespace My
open PySem L2 Dw Wp
open C8 (pss_cut tCut)
def top (i : Nat) : Stmt := PySem.Challenge.pw_lastlife_k16_takers_and_conditions_made.main.body.getD i (.Pass ⟨0, 0, 0, 0⟩)
abbrev s_BadKin_init : Stmt := inClass (top 4) 0
abbrev s_BadDate_init : Stmt := inClass (top 5) 0
abbrev s_BadTaker_init : Stmt := inClass (top 6) 0
abbrev s_BadCondition_init : Stmt := inClass (top 7) 0
abbrev s_is_whole : Stmt := top 12
theorem sc_is_whole : FnScope ["thing", "low", "high"] ["thing", "low", "high"] (defScope s_is_whole) := ⟨rfl, rfl, rfl, by decide +kernel, rfl, by decide +kernel, by decide +kernel⟩
abbrev s_is_name : Stmt := top 13
theorem sc_is_name : FnScope ["thing", "sign"] ["thing"] (defScope s_is_name) := ⟨rfl, rfl, rfl, by decide +kernel, rfl, by decide +kernel, by decide +kernel⟩
abbrev s_Kin_init : Stmt := inClass (top 16) 0
theorem sc_Kin_init : FnScope ["self", "life"] ["self", "life"] (defScope s_Kin_init) := ⟨rfl, rfl, rfl, by decide +kernel, rfl, by decide +kernel, by decide +kernel⟩
abbrev s_Children_init : Stmt := inClass (top 17) 0
theorem sc_Children_init : FnScopeS ["self", "life"] ["self", "life"] (defScope s_Children_init) := ⟨rfl, rfl, rfl, by decide +kernel, rfl, by decide +kernel, by decide +kernel, by decide +kernel, rfl, rfl, rfl⟩
abbrev s_Children_eq : Stmt := inClass (top 17) 3
theorem sc_Children_eq : FnScope ["self", "other"] ["self", "other"] (defScope s_Children_eq) := ⟨rfl, rfl, rfl, by decide +kernel, rfl, by decide +kernel, by decide +kernel⟩
abbrev s_Children_str : Stmt := inClass (top 17) 4
theorem sc_Children_str : FnScope ["self"] ["self"] (defScope s_Children_str) := ⟨rfl, rfl, rfl, by decide +kernel, rfl, by decide +kernel, by decide +kernel⟩
abbrev s_Grandchildren_init : Stmt := inClass (top 18) 0
theorem sc_Grandchildren_init : FnScopeS ["self", "life"] ["self", "life"] (defScope s_Grandchildren_init) := ⟨rfl, rfl, rfl, by decide +kernel, rfl, by decide +kernel, by decide +kernel, by decide +kernel, rfl, rfl, rfl⟩
abbrev s_Grandchildren_eq : Stmt := inClass (top 18) 3
theorem sc_Grandchildren_eq : FnScope ["self", "other"] ["self", "other"] (defScope s_Grandchildren_eq) := ⟨rfl, rfl, rfl, by decide +kernel, rfl, by decide +kernel, by decide +kernel⟩
abbrev s_Grandchildren_str : Stmt := inClass (top 18) 4
theorem sc_Grandchildren_str : FnScope ["self"] ["self"] (defScope s_Grandchildren_str) := ⟨rfl, rfl, rfl, by decide +kernel, rfl, by decide +kernel, by decide +kernel⟩
abbrev s_check_kin : Stmt := top 20
theorem sc_check_kin : FnScope ["kin"] ["kin"] (defScope s_check_kin) := ⟨rfl, rfl, rfl, by decide +kernel, rfl, by decide +kernel, by decide +kernel⟩
abbrev s_check_age : Stmt := top 21
theorem sc_check_age : FnScope ["age"] ["age"] (defScope s_check_age) := ⟨rfl, rfl, rfl, by decide +kernel, rfl, by decide +kernel, by decide +kernel⟩
abbrev s_Taker_init : Stmt := inClass (top 24) 0
theorem sc_Taker_init : FnScope ["self", "life"] ["self", "life"] (defScope s_Taker_init) := ⟨rfl, rfl, rfl, by decide +kernel, rfl, by decide +kernel, by decide +kernel⟩
abbrev s_Named_init : Stmt := inClass (top 25) 0
theorem sc_Named_init : FnScopeS ["self", "life"] ["self", "life"] (defScope s_Named_init) := ⟨rfl, rfl, rfl, by decide +kernel, rfl, by decide +kernel, by decide +kernel, by decide +kernel, rfl, rfl, rfl⟩
abbrev s_Named_eq : Stmt := inClass (top 25) 2
theorem sc_Named_eq : FnScope ["self", "other"] ["self", "other"] (defScope s_Named_eq) := ⟨rfl, rfl, rfl, by decide +kernel, rfl, by decide +kernel, by decide +kernel⟩
abbrev s_Named_str : Stmt := inClass (top 25) 3
theorem sc_Named_str : FnScope ["self"] ["self"] (defScope s_Named_str) := ⟨rfl, rfl, rfl, by decide +kernel, rfl, by decide +kernel, by decide +kernel⟩
abbrev s_Mate_init : Stmt := inClass (top 26) 0
theorem sc_Mate_init : FnScopeS ["self", "life"] ["self", "life"] (defScope s_Mate_init) := ⟨rfl, rfl, rfl, by decide +kernel, rfl, by decide +kernel, by decide +kernel, by decide +kernel, rfl, rfl, rfl⟩
abbrev s_Mate_eq : Stmt := inClass (top 26) 2
theorem sc_Mate_eq : FnScope ["self", "other"] ["self", "other"] (defScope s_Mate_eq) := ⟨rfl, rfl, rfl, by decide +kernel, rfl, by decide +kernel, by decide +kernel⟩
abbrev s_Mate_str : Stmt := inClass (top 26) 3
theorem sc_Mate_str : FnScope ["self"] ["self"] (defScope s_Mate_str) := ⟨rfl, rfl, rfl, by decide +kernel, rfl, by decide +kernel, by decide +kernel⟩
abbrev s_Told_init : Stmt := inClass (top 27) 0
theorem sc_Told_init : FnScopeS ["self", "kin"] ["self", "kin"] (defScope s_Told_init) := ⟨rfl, rfl, rfl, by decide +kernel, rfl, by decide +kernel, by decide +kernel, by decide +kernel, rfl, rfl, rfl⟩
abbrev s_Told_eq : Stmt := inClass (top 27) 2
theorem sc_Told_eq : FnScope ["self", "other"] ["self", "other"] (defScope s_Told_eq) := ⟨rfl, rfl, rfl, by decide +kernel, rfl, by decide +kernel, by decide +kernel⟩
abbrev s_Told_str : Stmt := inClass (top 27) 3
theorem sc_Told_str : FnScope ["self"] ["self"] (defScope s_Told_str) := ⟨rfl, rfl, rfl, by decide +kernel, rfl, by decide +kernel, by decide +kernel⟩
abbrev s_Whole_init : Stmt := inClass (top 28) 0
theorem sc_Whole_init : FnScopeS ["self", "kin"] ["self", "kin"] (defScope s_Whole_init) := ⟨rfl, rfl, rfl, by decide +kernel, rfl, by decide +kernel, by decide +kernel, by decide +kernel, rfl, rfl, rfl⟩
abbrev s_Whole_eq : Stmt := inClass (top 28) 2
theorem sc_Whole_eq : FnScope ["self", "other"] ["self", "other"] (defScope s_Whole_eq) := ⟨rfl, rfl, rfl, by decide +kernel, rfl, by decide +kernel, by decide +kernel⟩
abbrev s_Whole_str : Stmt := inClass (top 28) 3
theorem sc_Whole_str : FnScope ["self"] ["self"] (defScope s_Whole_str) := ⟨rfl, rfl, rfl, by decide +kernel, rfl, by decide +kernel, by decide +kernel⟩
abbrev s_Living_init : Stmt := inClass (top 29) 0
theorem sc_Living_init : FnScopeS ["self", "kin"] ["self", "kin"] (defScope s_Living_init) := ⟨rfl, rfl, rfl, by decide +kernel, rfl, by decide +kernel, by decide +kernel, by decide +kernel, rfl, rfl, rfl⟩
abbrev s_Living_eq : Stmt := inClass (top 29) 2
theorem sc_Living_eq : FnScope ["self", "other"] ["self", "other"] (defScope s_Living_eq) := ⟨rfl, rfl, rfl, by decide +kernel, rfl, by decide +kernel, by decide +kernel⟩
abbrev s_Living_str : Stmt := inClass (top 29) 3
theorem sc_Living_str : FnScope ["self"] ["self"] (defScope s_Living_str) := ⟨rfl, rfl, rfl, by decide +kernel, rfl, by decide +kernel, by decide +kernel⟩
abbrev s_Reaching_init : Stmt := inClass (top 30) 0
theorem sc_Reaching_init : FnScopeS ["self", "kin", "age"] ["self", "kin", "age"] (defScope s_Reaching_init) := ⟨rfl, rfl, rfl, by decide +kernel, rfl, by decide +kernel, by decide +kernel, by decide +kernel, rfl, rfl, rfl⟩
abbrev s_Reaching_eq : Stmt := inClass (top 30) 2
theorem sc_Reaching_eq : FnScope ["self", "other"] ["self", "other"] (defScope s_Reaching_eq) := ⟨rfl, rfl, rfl, by decide +kernel, rfl, by decide +kernel, by decide +kernel⟩
abbrev s_Reaching_str : Stmt := inClass (top 30) 3
theorem sc_Reaching_str : FnScope ["self"] ["self"] (defScope s_Reaching_str) := ⟨rfl, rfl, rfl, by decide +kernel, rfl, by decide +kernel, by decide +kernel⟩
abbrev s_FirstReaching_init : Stmt := inClass (top 31) 0
theorem sc_FirstReaching_init : FnScopeS ["self", "kin", "age"] ["self", "kin", "age"] (defScope s_FirstReaching_init) := ⟨rfl, rfl, rfl, by decide +kernel, rfl, by decide +kernel, by decide +kernel, by decide +kernel, rfl, rfl, rfl⟩
abbrev s_FirstReaching_eq : Stmt := inClass (top 31) 2
theorem sc_FirstReaching_eq : FnScope ["self", "other"] ["self", "other"] (defScope s_FirstReaching_eq) := ⟨rfl, rfl, rfl, by decide +kernel, rfl, by decide +kernel, by decide +kernel⟩
abbrev s_FirstReaching_str : Stmt := inClass (top 31) 3
theorem sc_FirstReaching_str : FnScope ["self"] ["self"] (defScope s_FirstReaching_str) := ⟨rfl, rfl, rfl, by decide +kernel, rfl, by decide +kernel, by decide +kernel⟩
abbrev s_merged : Stmt := top 35
theorem sc_merged : FnScope ["rows", "things", "row", "thing"] ["rows"] (defScope s_merged) := ⟨rfl, rfl, rfl, by decide +kernel, rfl, by decide +kernel, by decide +kernel⟩
abbrev s_Date_init : Stmt := inClass (top 36) 0
theorem sc_Date_init : FnScope ["self", "inner", "lives_named", "happenings", "depth", "date"] ["self", "inner", "lives_named", "happenings"] (defScope s_Date_init) := ⟨rfl, rfl, rfl, by decide +kernel, rfl, by decide +kernel, by decide +kernel⟩
abbrev s_Year_init : Stmt := inClass (top 37) 0
theorem sc_Year_init : FnScopeS ["self", "number"] ["self", "number"] (defScope s_Year_init) := ⟨rfl, rfl, rfl, by decide +kernel, rfl, by decide +kernel, by decide +kernel, by decide +kernel, rfl, rfl, rfl⟩
abbrev s_Year_eq : Stmt := inClass (top 37) 2
theorem sc_Year_eq : FnScope ["self", "other"] ["self", "other"] (defScope s_Year_eq) := ⟨rfl, rfl, rfl, by decide +kernel, rfl, by decide +kernel, by decide +kernel⟩
abbrev s_Death_init : Stmt := inClass (top 38) 0
theorem sc_Death_init : FnScopeS ["self", "life"] ["self", "life"] (defScope s_Death_init) := ⟨rfl, rfl, rfl, by decide +kernel, rfl, by decide +kernel, by decide +kernel, by decide +kernel, rfl, rfl, rfl⟩
abbrev s_Death_eq : Stmt := inClass (top 38) 2
theorem sc_Death_eq : FnScope ["self", "other"] ["self", "other"] (defScope s_Death_eq) := ⟨rfl, rfl, rfl, by decide +kernel, rfl, by decide +kernel, by decide +kernel⟩
abbrev s_Condition_init : Stmt := inClass (top 44) 0
theorem sc_Condition_init : FnScope ["self", "one", "other"] ["self", "one", "other"] (defScope s_Condition_init) := ⟨rfl, rfl, rfl, by decide +kernel, rfl, by decide +kernel, by decide +kernel⟩
abbrev s_By_init : Stmt := inClass (top 45) 0
theorem sc_By_init : FnScopeS ["self", "one", "other"] ["self", "one", "other"] (defScope s_By_init) := ⟨rfl, rfl, rfl, by decide +kernel, rfl, by decide +kernel, by decide +kernel, by decide +kernel, rfl, rfl, rfl⟩
abbrev s_Unless_init : Stmt := inClass (top 46) 0
theorem sc_Unless_init : FnScopeS ["self", "one", "other"] ["self", "one", "other"] (defScope s_Unless_init) := ⟨rfl, rfl, rfl, by decide +kernel, rfl, by decide +kernel, by decide +kernel, by decide +kernel, rfl, rfl, rfl⟩
abbrev s_bag : Stmt := top 48
theorem sc_bag : FnScope ["_law_script", "_law_at", "_law_cell", "_law_mix", "_law_k", "_law_each"] ["_law_script", "_law_at"] (defScope s_bag) := ⟨rfl, rfl, rfl, by decide +kernel, rfl, by decide +kernel, by decide +kernel⟩
abbrev s_take : Stmt := top 49
theorem sc_take : FnScope ["_law_bag_here", "_law_many", "_law_digit"] ["_law_bag_here", "_law_many"] (defScope s_take) := ⟨rfl, rfl, rfl, by decide +kernel, rfl, by decide +kernel, by decide +kernel⟩
abbrev s_pick : Stmt := top 50
theorem sc_pick : FnScope ["_law_bag_here", "_law_some"] ["_law_bag_here", "_law_some"] (defScope s_pick) := ⟨rfl, rfl, rfl, by decide +kernel, rfl, by decide +kernel, by decide +kernel⟩
abbrev s_kin : Stmt := top 51
theorem sc_kin : FnScope ["_law_kin_here"] ["_law_kin_here"] (defScope s_kin) := ⟨rfl, rfl, rfl, by decide +kernel, rfl, by decide +kernel, by decide +kernel⟩
abbrev s_taker : Stmt := top 52
theorem sc_taker : FnScope ["_law_taker_here", "_law_word_here", "_law_kin_here"] ["_law_taker_here"] (defScope s_taker) := ⟨rfl, rfl, rfl, by decide +kernel, rfl, by decide +kernel, by decide +kernel⟩
abbrev s_word : Stmt := top 53
theorem sc_word : FnScope ["_law_bag_here", "_law_letters", "_law_name", "_law_k"] ["_law_bag_here"] (defScope s_word) := ⟨rfl, rfl, rfl, by decide +kernel, rfl, by decide +kernel, by decide +kernel⟩
abbrev s_odd_name : Stmt := top 54
theorem sc_odd_name : FnScope ["_law_bag_here", "_law_good", "_law_odd"] ["_law_bag_here", "_law_good"] (defScope s_odd_name) := ⟨rfl, rfl, rfl, by decide +kernel, rfl, by decide +kernel, by decide +kernel⟩
abbrev s_drawn : Stmt := top 55
theorem sc_drawn : FnScope ["_law_bag_here", "_law_kind", "_law_life", "_law_kin_here"] ["_law_bag_here"] (defScope s_drawn) := ⟨rfl, rfl, rfl, by decide +kernel, rfl, by decide +kernel, by decide +kernel⟩
abbrev s_text : Stmt := top 56
theorem sc_text : FnScope ["_law_taker_here", "_law_kin_here"] ["_law_taker_here"] (defScope s_text) := ⟨rfl, rfl, rfl, by decide +kernel, rfl, by decide +kernel, by decide +kernel⟩
abbrev s_fields : Stmt := top 57
theorem sc_fields : FnScope ["_law_thing", "_law_taker_here"] ["_law_thing", "_law_taker_here"] (defScope s_fields) := ⟨rfl, rfl, rfl, by decide +kernel, rfl, by decide +kernel, by decide +kernel⟩
abbrev s_made : Stmt := top 58
theorem sc_made : FnScope ["_law_word_here", "_law_first", "_law_age", "e"] ["_law_word_here", "_law_first", "_law_age"] (defScope s_made) := ⟨rfl, rfl, rfl, by decide +kernel, rfl, by decide +kernel, by decide +kernel⟩
abbrev s_refused : Stmt := top 59
theorem sc_refused : FnScope ["_law_bag_here", "_law_taker_here", "_law_odd", "_law_age", "_law_good"] ["_law_bag_here", "_law_taker_here"] (defScope s_refused) := ⟨rfl, rfl, rfl, by decide +kernel, rfl, by decide +kernel, by decide +kernel⟩
abbrev s_condition_made : Stmt := top 60
theorem sc_condition_made : FnScope ["_law_word_here", "_law_one", "_law_other", "e"] ["_law_word_here", "_law_one", "_law_other"] (defScope s_condition_made) := ⟨rfl, rfl, rfl, by decide +kernel, rfl, by decide +kernel, by decide +kernel⟩
abbrev s_conditions : Stmt := top 61
theorem sc_conditions : FnScope ["_law_bag_here", "_law_life", "_law_word_here", "_law_one", "_law_other", "_law_odd", "_law_made_here"] ["_law_bag_here", "_law_life"] (defScope s_conditions) := ⟨rfl, rfl, rfl, by decide +kernel, rfl, by decide +kernel, by decide +kernel⟩
abbrev s_law : Stmt := top 62
theorem sc_law : FnScope ["_law_script", "_law_bag_here", "_law_plain", "_law_twin", "_law_word_here", "_law_age", "_law_made_here", "_law_k", "_law_thing", "_law_n", "_law_other", "_law_one"] ["_law_script"] (defScope s_law) := ⟨rfl, rfl, rfl, by decide +kernel, rfl, by decide +kernel, by decide +kernel⟩
/-- what the top has written -/
structure Txt (P : Program) (w : World) (K : PySem.W.Frag) (mg : Str → Option Value) (cl : String → Addr) : Prop where
  n_len : mg "len" = none
  n_int : mg "int" = none
  n_str : mg "str" = none
  n_bool : mg "bool" = none
  n_list : mg "list" = none
  n_tuple : mg "tuple" = none
  n_isinstance : mg "isinstance" = none
  n_range : mg "range" = none
  n_abs : mg "abs" = none
  n_max : mg "max" = none
  n_sum : mg "sum" = none
  n_enumerate : mg "enumerate" = none
  n_ValueError : mg "ValueError" = none
  n_super : mg "super" = none
  c_LETTERS : ∃ u, mg "LETTERS" = some u ∧ RelV (.str "abcdefghijklmnopqrstuvwxyz") u
  c_MOST : ∃ u, mg "MOST" = some u ∧ RelV (.int 1000000) u
  c_MOST_DEPTH : ∃ u, mg "MOST_DEPTH" = some u ∧ RelV (.int 6) u
  m_DeedError : mg "DeedError" = some (.ref (cl "DeedError"))
  m_NoLife : mg "NoLife" = some (.ref (cl "NoLife"))
  m_BadKin : mg "BadKin" = some (.ref (cl "BadKin"))
  m_BadDate : mg "BadDate" = some (.ref (cl "BadDate"))
  m_BadTaker : mg "BadTaker" = some (.ref (cl "BadTaker"))
  m_BadCondition : mg "BadCondition" = some (.ref (cl "BadCondition"))
  m_Kin : mg "Kin" = some (.ref (cl "Kin"))
  m_Children : mg "Children" = some (.ref (cl "Children"))
  m_Grandchildren : mg "Grandchildren" = some (.ref (cl "Grandchildren"))
  m_Taker : mg "Taker" = some (.ref (cl "Taker"))
  m_Named : mg "Named" = some (.ref (cl "Named"))
  m_Mate : mg "Mate" = some (.ref (cl "Mate"))
  m_Told : mg "Told" = some (.ref (cl "Told"))
  m_Whole : mg "Whole" = some (.ref (cl "Whole"))
  m_Living : mg "Living" = some (.ref (cl "Living"))
  m_Reaching : mg "Reaching" = some (.ref (cl "Reaching"))
  m_FirstReaching : mg "FirstReaching" = some (.ref (cl "FirstReaching"))
  m_Date : mg "Date" = some (.ref (cl "Date"))
  m_Year : mg "Year" = some (.ref (cl "Year"))
  m_Death : mg "Death" = some (.ref (cl "Death"))
  m_Condition : mg "Condition" = some (.ref (cl "Condition"))
  m_By : mg "By" = some (.ref (cl "By"))
  m_Unless : mg "Unless" = some (.ref (cl "Unless"))
  e_BadTaker : PySem.ErrL.Makes P w K mg (cl "BadTaker") ["what"] (fun _ => True)
  e_BadCondition : PySem.ErrL.Makes P w K mg (cl "BadCondition") ["what"] (fun _ => True)
  e_BadKin : PySem.ErrL.Makes P w K mg (cl "BadKin") ["what"] (fun _ => True)
  e_BadDate : PySem.ErrL.Makes P w K mg (cl "BadDate") ["what"] (fun _ => True)
  x_BadTaker : ExcC K (cl "BadTaker")
  x_BadCondition : ExcC K (cl "BadCondition")
  xf_BadTaker_what : PySem.W.findIn K (.ref (cl "BadTaker")) "what" = some none
  xf_BadCondition_what : PySem.W.findIn K (.ref (cl "BadCondition")) "what" = some none
  is_BadTaker : PySem.W.exmOne K (.ref (cl "BadTaker")) (.ref (cl "BadTaker")) = some true
  is_BadCondition : PySem.W.exmOne K (.ref (cl "BadCondition")) (.ref (cl "BadCondition")) = some true
  k_BadTaker_DeedError : PySem.W.kitOne K (.ref (cl "BadTaker")) (.ref (cl "DeedError")) = some true
  k_BadTaker_BadCondition : PySem.W.kitOne K (.ref (cl "BadTaker")) (.ref (cl "BadCondition")) = some false
  k_BadTaker_NoLife : PySem.W.kitOne K (.ref (cl "BadTaker")) (.ref (cl "NoLife")) = some false
  k_BadCondition_DeedError : PySem.W.kitOne K (.ref (cl "BadCondition")) (.ref (cl "DeedError")) = some true
  k_BadCondition_BadTaker : PySem.W.kitOne K (.ref (cl "BadCondition")) (.ref (cl "BadTaker")) = some false
  cl_Children : Cls K (cl "Children")
  na_Children : ∀ f : Str, f ∈ (["life"] : List Str) → NoAttr K (cl "Children") f
  y_Children : PySem.W.findIn K (.ref (cl "Children")) "__class__" = some (some (.builtin "object.__class__"))
  z3_Children : PySem.W.mroIn K (cl "Children") (.type "object") = some true
  cl_Grandchildren : Cls K (cl "Grandchildren")
  na_Grandchildren : ∀ f : Str, f ∈ (["life"] : List Str) → NoAttr K (cl "Grandchildren") f
  y_Grandchildren : PySem.W.findIn K (.ref (cl "Grandchildren")) "__class__" = some (some (.builtin "object.__class__"))
  z3_Grandchildren : PySem.W.mroIn K (cl "Grandchildren") (.type "object") = some true
  cl_Named : Cls K (cl "Named")
  na_Named : ∀ f : Str, f ∈ (["life", "lives_named"] : List Str) → NoAttr K (cl "Named") f
  y_Named : PySem.W.findIn K (.ref (cl "Named")) "__class__" = some (some (.builtin "object.__class__"))
  z3_Named : PySem.W.mroIn K (cl "Named") (.type "object") = some true
  cl_Mate : Cls K (cl "Mate")
  na_Mate : ∀ f : Str, f ∈ (["life", "lives_named"] : List Str) → NoAttr K (cl "Mate") f
  y_Mate : PySem.W.findIn K (.ref (cl "Mate")) "__class__" = some (some (.builtin "object.__class__"))
  z3_Mate : PySem.W.mroIn K (cl "Mate") (.type "object") = some true
  cl_Told : Cls K (cl "Told")
  na_Told : ∀ f : Str, f ∈ (["kin", "lives_named"] : List Str) → NoAttr K (cl "Told") f
  y_Told : PySem.W.findIn K (.ref (cl "Told")) "__class__" = some (some (.builtin "object.__class__"))
  z3_Told : PySem.W.mroIn K (cl "Told") (.type "object") = some true
  cl_Whole : Cls K (cl "Whole")
  na_Whole : ∀ f : Str, f ∈ (["kin", "lives_named"] : List Str) → NoAttr K (cl "Whole") f
  y_Whole : PySem.W.findIn K (.ref (cl "Whole")) "__class__" = some (some (.builtin "object.__class__"))
  z3_Whole : PySem.W.mroIn K (cl "Whole") (.type "object") = some true
  cl_Living : Cls K (cl "Living")
  na_Living : ∀ f : Str, f ∈ (["kin", "lives_named"] : List Str) → NoAttr K (cl "Living") f
  y_Living : PySem.W.findIn K (.ref (cl "Living")) "__class__" = some (some (.builtin "object.__class__"))
  z3_Living : PySem.W.mroIn K (cl "Living") (.type "object") = some true
  cl_Reaching : Cls K (cl "Reaching")
  na_Reaching : ∀ f : Str, f ∈ (["kin", "age", "lives_named"] : List Str) → NoAttr K (cl "Reaching") f
  y_Reaching : PySem.W.findIn K (.ref (cl "Reaching")) "__class__" = some (some (.builtin "object.__class__"))
  z3_Reaching : PySem.W.mroIn K (cl "Reaching") (.type "object") = some true
  cl_FirstReaching : Cls K (cl "FirstReaching")
  na_FirstReaching : ∀ f : Str, f ∈ (["kin", "age", "lives_named"] : List Str) → NoAttr K (cl "FirstReaching") f
  y_FirstReaching : PySem.W.findIn K (.ref (cl "FirstReaching")) "__class__" = some (some (.builtin "object.__class__"))
  z3_FirstReaching : PySem.W.mroIn K (cl "FirstReaching") (.type "object") = some true
  cl_Year : Cls K (cl "Year")
  na_Year : ∀ f : Str, f ∈ (["depth", "lives_named", "happenings", "class_dates", "number"] : List Str) → NoAttr K (cl "Year") f
  y_Year : PySem.W.findIn K (.ref (cl "Year")) "__class__" = some (some (.builtin "object.__class__"))
  z3_Year : PySem.W.mroIn K (cl "Year") (.type "object") = some true
  cl_Death : Cls K (cl "Death")
  na_Death : ∀ f : Str, f ∈ (["depth", "lives_named", "happenings", "class_dates", "life"] : List Str) → NoAttr K (cl "Death") f
  y_Death : PySem.W.findIn K (.ref (cl "Death")) "__class__" = some (some (.builtin "object.__class__"))
  z3_Death : PySem.W.mroIn K (cl "Death") (.type "object") = some true
  cl_By : Cls K (cl "By")
  na_By : ∀ f : Str, f ∈ (["one", "other", "lives_named"] : List Str) → NoAttr K (cl "By") f
  y_By : PySem.W.findIn K (.ref (cl "By")) "__class__" = some (some (.builtin "object.__class__"))
  z3_By : PySem.W.mroIn K (cl "By") (.type "object") = some true
  cl_Unless : Cls K (cl "Unless")
  na_Unless : ∀ f : Str, f ∈ (["one", "other", "lives_named"] : List Str) → NoAttr K (cl "Unless") f
  y_Unless : PySem.W.findIn K (.ref (cl "Unless")) "__class__" = some (some (.builtin "object.__class__"))
  z3_Unless : PySem.W.mroIn K (cl "Unless") (.type "object") = some true
  ib_Kin : ∃ fd, Fun K "__init__" "Kin.__init__" s_Kin_init (He.ma K (cl "Kin") "__init__") fd
  ib_Taker : ∃ fd, Fun K "__init__" "Taker.__init__" s_Taker_init (He.ma K (cl "Taker") "__init__") fd
  ib_Date : ∃ fd, Fun K "__init__" "Date.__init__" s_Date_init (He.ma K (cl "Date") "__init__") fd
  ib_Condition : ∃ fd, Fun K "__init__" "Condition.__init__" s_Condition_init (He.ma K (cl "Condition") "__init__") fd
  u_Children : ∃ kV doc pm an cda ct cc, SupF P K (cl "Children") (He.ma K (cl "Children") "__init__") (He.ma K (cl "Kin") "__init__") "__init__" "Children.__init__" (defArgs s_Children_init) (defBody s_Children_init) (defScope s_Children_init) kV doc pm an cda ct cc
  mk_Children : Mk K (cl "Children") (He.ma K (cl "Children") "__init__")
  u_Grandchildren : ∃ kV doc pm an cda ct cc, SupF P K (cl "Grandchildren") (He.ma K (cl "Grandchildren") "__init__") (He.ma K (cl "Kin") "__init__") "__init__" "Grandchildren.__init__" (defArgs s_Grandchildren_init) (defBody s_Grandchildren_init) (defScope s_Grandchildren_init) kV doc pm an cda ct cc
  mk_Grandchildren : Mk K (cl "Grandchildren") (He.ma K (cl "Grandchildren") "__init__")
  u_Named : ∃ kV doc pm an cda ct cc, SupF P K (cl "Named") (He.ma K (cl "Named") "__init__") (He.ma K (cl "Taker") "__init__") "__init__" "Named.__init__" (defArgs s_Named_init) (defBody s_Named_init) (defScope s_Named_init) kV doc pm an cda ct cc
  mk_Named : Mk K (cl "Named") (He.ma K (cl "Named") "__init__")
  u_Mate : ∃ kV doc pm an cda ct cc, SupF P K (cl "Mate") (He.ma K (cl "Mate") "__init__") (He.ma K (cl "Taker") "__init__") "__init__" "Mate.__init__" (defArgs s_Mate_init) (defBody s_Mate_init) (defScope s_Mate_init) kV doc pm an cda ct cc
  mk_Mate : Mk K (cl "Mate") (He.ma K (cl "Mate") "__init__")
  u_Told : ∃ kV doc pm an cda ct cc, SupF P K (cl "Told") (He.ma K (cl "Told") "__init__") (He.ma K (cl "Taker") "__init__") "__init__" "Told.__init__" (defArgs s_Told_init) (defBody s_Told_init) (defScope s_Told_init) kV doc pm an cda ct cc
  mk_Told : Mk K (cl "Told") (He.ma K (cl "Told") "__init__")
  u_Whole : ∃ kV doc pm an cda ct cc, SupF P K (cl "Whole") (He.ma K (cl "Whole") "__init__") (He.ma K (cl "Taker") "__init__") "__init__" "Whole.__init__" (defArgs s_Whole_init) (defBody s_Whole_init) (defScope s_Whole_init) kV doc pm an cda ct cc
  mk_Whole : Mk K (cl "Whole") (He.ma K (cl "Whole") "__init__")
  u_Living : ∃ kV doc pm an cda ct cc, SupF P K (cl "Living") (He.ma K (cl "Living") "__init__") (He.ma K (cl "Taker") "__init__") "__init__" "Living.__init__" (defArgs s_Living_init) (defBody s_Living_init) (defScope s_Living_init) kV doc pm an cda ct cc
  mk_Living : Mk K (cl "Living") (He.ma K (cl "Living") "__init__")
  u_Reaching : ∃ kV doc pm an cda ct cc, SupF P K (cl "Reaching") (He.ma K (cl "Reaching") "__init__") (He.ma K (cl "Taker") "__init__") "__init__" "Reaching.__init__" (defArgs s_Reaching_init) (defBody s_Reaching_init) (defScope s_Reaching_init) kV doc pm an cda ct cc
  mk_Reaching : Mk K (cl "Reaching") (He.ma K (cl "Reaching") "__init__")
  u_FirstReaching : ∃ kV doc pm an cda ct cc, SupF P K (cl "FirstReaching") (He.ma K (cl "FirstReaching") "__init__") (He.ma K (cl "Taker") "__init__") "__init__" "FirstReaching.__init__" (defArgs s_FirstReaching_init) (defBody s_FirstReaching_init) (defScope s_FirstReaching_init) kV doc pm an cda ct cc
  mk_FirstReaching : Mk K (cl "FirstReaching") (He.ma K (cl "FirstReaching") "__init__")
  u_Year : ∃ kV doc pm an cda ct cc, SupF P K (cl "Year") (He.ma K (cl "Year") "__init__") (He.ma K (cl "Date") "__init__") "__init__" "Year.__init__" (defArgs s_Year_init) (defBody s_Year_init) (defScope s_Year_init) kV doc pm an cda ct cc
  mk_Year : Mk K (cl "Year") (He.ma K (cl "Year") "__init__")
  u_Death : ∃ kV doc pm an cda ct cc, SupF P K (cl "Death") (He.ma K (cl "Death") "__init__") (He.ma K (cl "Date") "__init__") "__init__" "Death.__init__" (defArgs s_Death_init) (defBody s_Death_init) (defScope s_Death_init) kV doc pm an cda ct cc
  mk_Death : Mk K (cl "Death") (He.ma K (cl "Death") "__init__")
  u_By : ∃ kV doc pm an cda ct cc, SupF P K (cl "By") (He.ma K (cl "By") "__init__") (He.ma K (cl "Condition") "__init__") "__init__" "By.__init__" (defArgs s_By_init) (defBody s_By_init) (defScope s_By_init) kV doc pm an cda ct cc
  mk_By : Mk K (cl "By") (He.ma K (cl "By") "__init__")
  u_Unless : ∃ kV doc pm an cda ct cc, SupF P K (cl "Unless") (He.ma K (cl "Unless") "__init__") (He.ma K (cl "Condition") "__init__") "__init__" "Unless.__init__" (defArgs s_Unless_init) (defBody s_Unless_init) (defScope s_Unless_init) kV doc pm an cda ct cc
  mk_Unless : Mk K (cl "Unless") (He.ma K (cl "Unless") "__init__")
  k_Children_Kin : PySem.W.kitOne K (.ref (cl "Children")) (.ref (cl "Kin")) = some true
  k_Grandchildren_Kin : PySem.W.kitOne K (.ref (cl "Grandchildren")) (.ref (cl "Kin")) = some true
  k_Named_Kin : PySem.W.kitOne K (.ref (cl "Named")) (.ref (cl "Kin")) = some false
  k_Year_Kin : PySem.W.kitOne K (.ref (cl "Year")) (.ref (cl "Kin")) = some false
  k_Death_Kin : PySem.W.kitOne K (.ref (cl "Death")) (.ref (cl "Kin")) = some false
  k_NoneType_Kin : PySem.W.kitOne K (.type "NoneType") (.ref (cl "Kin")) = some false
  k_int_Kin : PySem.W.kitOne K (.type "int") (.ref (cl "Kin")) = some false
  k_str_Kin : PySem.W.kitOne K (.type "str") (.ref (cl "Kin")) = some false
  k_tuple_Kin : PySem.W.kitOne K (.type "tuple") (.ref (cl "Kin")) = some false
  k_Named_Taker : PySem.W.kitOne K (.ref (cl "Named")) (.ref (cl "Taker")) = some true
  k_Mate_Taker : PySem.W.kitOne K (.ref (cl "Mate")) (.ref (cl "Taker")) = some true
  k_Told_Taker : PySem.W.kitOne K (.ref (cl "Told")) (.ref (cl "Taker")) = some true
  k_Whole_Taker : PySem.W.kitOne K (.ref (cl "Whole")) (.ref (cl "Taker")) = some true
  k_Living_Taker : PySem.W.kitOne K (.ref (cl "Living")) (.ref (cl "Taker")) = some true
  k_Reaching_Taker : PySem.W.kitOne K (.ref (cl "Reaching")) (.ref (cl "Taker")) = some true
  k_FirstReaching_Taker : PySem.W.kitOne K (.ref (cl "FirstReaching")) (.ref (cl "Taker")) = some true
  k_Children_Children : PySem.W.kitOne K (.ref (cl "Children")) (.ref (cl "Children")) = some true
  k_Children_Grandchildren : PySem.W.kitOne K (.ref (cl "Children")) (.ref (cl "Grandchildren")) = some false
  k_Grandchildren_Children : PySem.W.kitOne K (.ref (cl "Grandchildren")) (.ref (cl "Children")) = some false
  k_Grandchildren_Grandchildren : PySem.W.kitOne K (.ref (cl "Grandchildren")) (.ref (cl "Grandchildren")) = some true
  k_Named_Named : PySem.W.kitOne K (.ref (cl "Named")) (.ref (cl "Named")) = some true
  k_Named_Mate : PySem.W.kitOne K (.ref (cl "Named")) (.ref (cl "Mate")) = some false
  k_Named_Told : PySem.W.kitOne K (.ref (cl "Named")) (.ref (cl "Told")) = some false
  k_Named_Whole : PySem.W.kitOne K (.ref (cl "Named")) (.ref (cl "Whole")) = some false
  k_Named_Living : PySem.W.kitOne K (.ref (cl "Named")) (.ref (cl "Living")) = some false
  k_Named_Reaching : PySem.W.kitOne K (.ref (cl "Named")) (.ref (cl "Reaching")) = some false
  k_Named_FirstReaching : PySem.W.kitOne K (.ref (cl "Named")) (.ref (cl "FirstReaching")) = some false
  k_Mate_Named : PySem.W.kitOne K (.ref (cl "Mate")) (.ref (cl "Named")) = some false
  k_Mate_Mate : PySem.W.kitOne K (.ref (cl "Mate")) (.ref (cl "Mate")) = some true
  k_Mate_Told : PySem.W.kitOne K (.ref (cl "Mate")) (.ref (cl "Told")) = some false
  k_Mate_Whole : PySem.W.kitOne K (.ref (cl "Mate")) (.ref (cl "Whole")) = some false
  k_Mate_Living : PySem.W.kitOne K (.ref (cl "Mate")) (.ref (cl "Living")) = some false
  k_Mate_Reaching : PySem.W.kitOne K (.ref (cl "Mate")) (.ref (cl "Reaching")) = some false
  k_Mate_FirstReaching : PySem.W.kitOne K (.ref (cl "Mate")) (.ref (cl "FirstReaching")) = some false
  k_Told_Named : PySem.W.kitOne K (.ref (cl "Told")) (.ref (cl "Named")) = some false
  k_Told_Mate : PySem.W.kitOne K (.ref (cl "Told")) (.ref (cl "Mate")) = some false
  k_Told_Told : PySem.W.kitOne K (.ref (cl "Told")) (.ref (cl "Told")) = some true
  k_Told_Whole : PySem.W.kitOne K (.ref (cl "Told")) (.ref (cl "Whole")) = some false
  k_Told_Living : PySem.W.kitOne K (.ref (cl "Told")) (.ref (cl "Living")) = some false
  k_Told_Reaching : PySem.W.kitOne K (.ref (cl "Told")) (.ref (cl "Reaching")) = some false
  k_Told_FirstReaching : PySem.W.kitOne K (.ref (cl "Told")) (.ref (cl "FirstReaching")) = some false
  k_Whole_Named : PySem.W.kitOne K (.ref (cl "Whole")) (.ref (cl "Named")) = some false
  k_Whole_Mate : PySem.W.kitOne K (.ref (cl "Whole")) (.ref (cl "Mate")) = some false
  k_Whole_Told : PySem.W.kitOne K (.ref (cl "Whole")) (.ref (cl "Told")) = some false
  k_Whole_Whole : PySem.W.kitOne K (.ref (cl "Whole")) (.ref (cl "Whole")) = some true
  k_Whole_Living : PySem.W.kitOne K (.ref (cl "Whole")) (.ref (cl "Living")) = some false
  k_Whole_Reaching : PySem.W.kitOne K (.ref (cl "Whole")) (.ref (cl "Reaching")) = some false
  k_Whole_FirstReaching : PySem.W.kitOne K (.ref (cl "Whole")) (.ref (cl "FirstReaching")) = some false
  k_Living_Named : PySem.W.kitOne K (.ref (cl "Living")) (.ref (cl "Named")) = some false
  k_Living_Mate : PySem.W.kitOne K (.ref (cl "Living")) (.ref (cl "Mate")) = some false
  k_Living_Told : PySem.W.kitOne K (.ref (cl "Living")) (.ref (cl "Told")) = some false
  k_Living_Whole : PySem.W.kitOne K (.ref (cl "Living")) (.ref (cl "Whole")) = some false
  k_Living_Living : PySem.W.kitOne K (.ref (cl "Living")) (.ref (cl "Living")) = some true
  k_Living_Reaching : PySem.W.kitOne K (.ref (cl "Living")) (.ref (cl "Reaching")) = some false
  k_Living_FirstReaching : PySem.W.kitOne K (.ref (cl "Living")) (.ref (cl "FirstReaching")) = some false
  k_Reaching_Named : PySem.W.kitOne K (.ref (cl "Reaching")) (.ref (cl "Named")) = some false
  k_Reaching_Mate : PySem.W.kitOne K (.ref (cl "Reaching")) (.ref (cl "Mate")) = some false
  k_Reaching_Told : PySem.W.kitOne K (.ref (cl "Reaching")) (.ref (cl "Told")) = some false
  k_Reaching_Whole : PySem.W.kitOne K (.ref (cl "Reaching")) (.ref (cl "Whole")) = some false
  k_Reaching_Living : PySem.W.kitOne K (.ref (cl "Reaching")) (.ref (cl "Living")) = some false
  k_Reaching_Reaching : PySem.W.kitOne K (.ref (cl "Reaching")) (.ref (cl "Reaching")) = some true
  k_Reaching_FirstReaching : PySem.W.kitOne K (.ref (cl "Reaching")) (.ref (cl "FirstReaching")) = some false
  k_FirstReaching_Named : PySem.W.kitOne K (.ref (cl "FirstReaching")) (.ref (cl "Named")) = some false
  k_FirstReaching_Mate : PySem.W.kitOne K (.ref (cl "FirstReaching")) (.ref (cl "Mate")) = some false
  k_FirstReaching_Told : PySem.W.kitOne K (.ref (cl "FirstReaching")) (.ref (cl "Told")) = some false
  k_FirstReaching_Whole : PySem.W.kitOne K (.ref (cl "FirstReaching")) (.ref (cl "Whole")) = some false
  k_FirstReaching_Living : PySem.W.kitOne K (.ref (cl "FirstReaching")) (.ref (cl "Living")) = some false
  k_FirstReaching_Reaching : PySem.W.kitOne K (.ref (cl "FirstReaching")) (.ref (cl "Reaching")) = some false
  k_FirstReaching_FirstReaching : PySem.W.kitOne K (.ref (cl "FirstReaching")) (.ref (cl "FirstReaching")) = some true
  k_str_Named : PySem.W.kitOne K (.type "str") (.ref (cl "Named")) = some false
  k_str_Mate : PySem.W.kitOne K (.type "str") (.ref (cl "Mate")) = some false
  k_str_Told : PySem.W.kitOne K (.type "str") (.ref (cl "Told")) = some false
  k_str_Whole : PySem.W.kitOne K (.type "str") (.ref (cl "Whole")) = some false
  k_str_Living : PySem.W.kitOne K (.type "str") (.ref (cl "Living")) = some false
  k_str_Reaching : PySem.W.kitOne K (.type "str") (.ref (cl "Reaching")) = some false
  k_str_FirstReaching : PySem.W.kitOne K (.type "str") (.ref (cl "FirstReaching")) = some false
  k_tuple_Named : PySem.W.kitOne K (.type "tuple") (.ref (cl "Named")) = some false
  k_tuple_Mate : PySem.W.kitOne K (.type "tuple") (.ref (cl "Mate")) = some false
  k_tuple_Told : PySem.W.kitOne K (.type "tuple") (.ref (cl "Told")) = some false
  k_tuple_Whole : PySem.W.kitOne K (.type "tuple") (.ref (cl "Whole")) = some false
  k_tuple_Living : PySem.W.kitOne K (.type "tuple") (.ref (cl "Living")) = some false
  k_tuple_Reaching : PySem.W.kitOne K (.type "tuple") (.ref (cl "Reaching")) = some false
  k_tuple_FirstReaching : PySem.W.kitOne K (.type "tuple") (.ref (cl "FirstReaching")) = some false
  k_Year_Date : PySem.W.kitOne K (.ref (cl "Year")) (.ref (cl "Date")) = some true
  k_Death_Date : PySem.W.kitOne K (.ref (cl "Death")) (.ref (cl "Date")) = some true
  k_Children_Date : PySem.W.kitOne K (.ref (cl "Children")) (.ref (cl "Date")) = some false
  k_Named_Date : PySem.W.kitOne K (.ref (cl "Named")) (.ref (cl "Date")) = some false
  k_By_Date : PySem.W.kitOne K (.ref (cl "By")) (.ref (cl "Date")) = some false
  k_NoneType_Date : PySem.W.kitOne K (.type "NoneType") (.ref (cl "Date")) = some false
  k_int_Date : PySem.W.kitOne K (.type "int") (.ref (cl "Date")) = some false
  k_str_Date : PySem.W.kitOne K (.type "str") (.ref (cl "Date")) = some false
  k_tuple_Date : PySem.W.kitOne K (.type "tuple") (.ref (cl "Date")) = some false
  k_Year_Year : PySem.W.kitOne K (.ref (cl "Year")) (.ref (cl "Year")) = some true
  k_Death_Death : PySem.W.kitOne K (.ref (cl "Death")) (.ref (cl "Death")) = some true
  nf_Children_Children : PySem.W.notFirst K (cl "Children") (.ref (cl "Children")) = true
  nf_Children_Grandchildren : PySem.W.notFirst K (cl "Children") (.ref (cl "Grandchildren")) = true
  nf_Grandchildren_Children : PySem.W.notFirst K (cl "Grandchildren") (.ref (cl "Children")) = true
  nf_Grandchildren_Grandchildren : PySem.W.notFirst K (cl "Grandchildren") (.ref (cl "Grandchildren")) = true
  nf_Named_Named : PySem.W.notFirst K (cl "Named") (.ref (cl "Named")) = true
  nf_Named_Mate : PySem.W.notFirst K (cl "Named") (.ref (cl "Mate")) = true
  nf_Named_Told : PySem.W.notFirst K (cl "Named") (.ref (cl "Told")) = true
  nf_Named_Whole : PySem.W.notFirst K (cl "Named") (.ref (cl "Whole")) = true
  nf_Named_Living : PySem.W.notFirst K (cl "Named") (.ref (cl "Living")) = true
  nf_Named_Reaching : PySem.W.notFirst K (cl "Named") (.ref (cl "Reaching")) = true
  nf_Named_FirstReaching : PySem.W.notFirst K (cl "Named") (.ref (cl "FirstReaching")) = true
  nf_Named_str : PySem.W.notFirst K (cl "Named") (.type "str") = true
  nf_Named_tuple : PySem.W.notFirst K (cl "Named") (.type "tuple") = true
  nf_Mate_Named : PySem.W.notFirst K (cl "Mate") (.ref (cl "Named")) = true
  nf_Mate_Mate : PySem.W.notFirst K (cl "Mate") (.ref (cl "Mate")) = true
  nf_Mate_Told : PySem.W.notFirst K (cl "Mate") (.ref (cl "Told")) = true
  nf_Mate_Whole : PySem.W.notFirst K (cl "Mate") (.ref (cl "Whole")) = true
  nf_Mate_Living : PySem.W.notFirst K (cl "Mate") (.ref (cl "Living")) = true
  nf_Mate_Reaching : PySem.W.notFirst K (cl "Mate") (.ref (cl "Reaching")) = true
  nf_Mate_FirstReaching : PySem.W.notFirst K (cl "Mate") (.ref (cl "FirstReaching")) = true
  nf_Mate_str : PySem.W.notFirst K (cl "Mate") (.type "str") = true
  nf_Mate_tuple : PySem.W.notFirst K (cl "Mate") (.type "tuple") = true
  nf_Told_Named : PySem.W.notFirst K (cl "Told") (.ref (cl "Named")) = true
  nf_Told_Mate : PySem.W.notFirst K (cl "Told") (.ref (cl "Mate")) = true
  nf_Told_Told : PySem.W.notFirst K (cl "Told") (.ref (cl "Told")) = true
  nf_Told_Whole : PySem.W.notFirst K (cl "Told") (.ref (cl "Whole")) = true
  nf_Told_Living : PySem.W.notFirst K (cl "Told") (.ref (cl "Living")) = true
  nf_Told_Reaching : PySem.W.notFirst K (cl "Told") (.ref (cl "Reaching")) = true
  nf_Told_FirstReaching : PySem.W.notFirst K (cl "Told") (.ref (cl "FirstReaching")) = true
  nf_Told_str : PySem.W.notFirst K (cl "Told") (.type "str") = true
  nf_Told_tuple : PySem.W.notFirst K (cl "Told") (.type "tuple") = true
  nf_Whole_Named : PySem.W.notFirst K (cl "Whole") (.ref (cl "Named")) = true
  nf_Whole_Mate : PySem.W.notFirst K (cl "Whole") (.ref (cl "Mate")) = true
  nf_Whole_Told : PySem.W.notFirst K (cl "Whole") (.ref (cl "Told")) = true
  nf_Whole_Whole : PySem.W.notFirst K (cl "Whole") (.ref (cl "Whole")) = true
  nf_Whole_Living : PySem.W.notFirst K (cl "Whole") (.ref (cl "Living")) = true
  nf_Whole_Reaching : PySem.W.notFirst K (cl "Whole") (.ref (cl "Reaching")) = true
  nf_Whole_FirstReaching : PySem.W.notFirst K (cl "Whole") (.ref (cl "FirstReaching")) = true
  nf_Whole_str : PySem.W.notFirst K (cl "Whole") (.type "str") = true
  nf_Whole_tuple : PySem.W.notFirst K (cl "Whole") (.type "tuple") = true
  nf_Living_Named : PySem.W.notFirst K (cl "Living") (.ref (cl "Named")) = true
  nf_Living_Mate : PySem.W.notFirst K (cl "Living") (.ref (cl "Mate")) = true
  nf_Living_Told : PySem.W.notFirst K (cl "Living") (.ref (cl "Told")) = true
  nf_Living_Whole : PySem.W.notFirst K (cl "Living") (.ref (cl "Whole")) = true
  nf_Living_Living : PySem.W.notFirst K (cl "Living") (.ref (cl "Living")) = true
  nf_Living_Reaching : PySem.W.notFirst K (cl "Living") (.ref (cl "Reaching")) = true
  nf_Living_FirstReaching : PySem.W.notFirst K (cl "Living") (.ref (cl "FirstReaching")) = true
  nf_Living_str : PySem.W.notFirst K (cl "Living") (.type "str") = true
  nf_Living_tuple : PySem.W.notFirst K (cl "Living") (.type "tuple") = true
  nf_Reaching_Named : PySem.W.notFirst K (cl "Reaching") (.ref (cl "Named")) = true
  nf_Reaching_Mate : PySem.W.notFirst K (cl "Reaching") (.ref (cl "Mate")) = true
  nf_Reaching_Told : PySem.W.notFirst K (cl "Reaching") (.ref (cl "Told")) = true
  nf_Reaching_Whole : PySem.W.notFirst K (cl "Reaching") (.ref (cl "Whole")) = true
  nf_Reaching_Living : PySem.W.notFirst K (cl "Reaching") (.ref (cl "Living")) = true
  nf_Reaching_Reaching : PySem.W.notFirst K (cl "Reaching") (.ref (cl "Reaching")) = true
  nf_Reaching_FirstReaching : PySem.W.notFirst K (cl "Reaching") (.ref (cl "FirstReaching")) = true
  nf_Reaching_str : PySem.W.notFirst K (cl "Reaching") (.type "str") = true
  nf_Reaching_tuple : PySem.W.notFirst K (cl "Reaching") (.type "tuple") = true
  nf_FirstReaching_Named : PySem.W.notFirst K (cl "FirstReaching") (.ref (cl "Named")) = true
  nf_FirstReaching_Mate : PySem.W.notFirst K (cl "FirstReaching") (.ref (cl "Mate")) = true
  nf_FirstReaching_Told : PySem.W.notFirst K (cl "FirstReaching") (.ref (cl "Told")) = true
  nf_FirstReaching_Whole : PySem.W.notFirst K (cl "FirstReaching") (.ref (cl "Whole")) = true
  nf_FirstReaching_Living : PySem.W.notFirst K (cl "FirstReaching") (.ref (cl "Living")) = true
  nf_FirstReaching_Reaching : PySem.W.notFirst K (cl "FirstReaching") (.ref (cl "Reaching")) = true
  nf_FirstReaching_FirstReaching : PySem.W.notFirst K (cl "FirstReaching") (.ref (cl "FirstReaching")) = true
  nf_FirstReaching_str : PySem.W.notFirst K (cl "FirstReaching") (.type "str") = true
  nf_FirstReaching_tuple : PySem.W.notFirst K (cl "FirstReaching") (.type "tuple") = true
  nf_Year_Year : PySem.W.notFirst K (cl "Year") (.ref (cl "Year")) = true
  nf_Death_Death : PySem.W.notFirst K (cl "Death") (.ref (cl "Death")) = true
  ne_Children : NeOf K (cl "Children")
  ne_Grandchildren : NeOf K (cl "Grandchildren")
  ne_Named : NeOf K (cl "Named")
  ne_Mate : NeOf K (cl "Mate")
  ne_Told : NeOf K (cl "Told")
  ne_Whole : NeOf K (cl "Whole")
  ne_Living : NeOf K (cl "Living")
  ne_Reaching : NeOf K (cl "Reaching")
  ne_FirstReaching : NeOf K (cl "FirstReaching")
  fm_Children : FmtOf K (cl "Children")
  fm_Grandchildren : FmtOf K (cl "Grandchildren")
  d_Children_eq : DefM K (cl "Children") "__eq__" "Children.__eq__" s_Children_eq
  d_Children_str : DefM K (cl "Children") "__str__" "Children.__str__" s_Children_str
  d_Grandchildren_eq : DefM K (cl "Grandchildren") "__eq__" "Grandchildren.__eq__" s_Grandchildren_eq
  d_Grandchildren_str : DefM K (cl "Grandchildren") "__str__" "Grandchildren.__str__" s_Grandchildren_str
  d_Named_eq : DefM K (cl "Named") "__eq__" "Named.__eq__" s_Named_eq
  d_Named_str : DefM K (cl "Named") "__str__" "Named.__str__" s_Named_str
  d_Mate_eq : DefM K (cl "Mate") "__eq__" "Mate.__eq__" s_Mate_eq
  d_Mate_str : DefM K (cl "Mate") "__str__" "Mate.__str__" s_Mate_str
  d_Told_eq : DefM K (cl "Told") "__eq__" "Told.__eq__" s_Told_eq
  d_Told_str : DefM K (cl "Told") "__str__" "Told.__str__" s_Told_str
  d_Whole_eq : DefM K (cl "Whole") "__eq__" "Whole.__eq__" s_Whole_eq
  d_Whole_str : DefM K (cl "Whole") "__str__" "Whole.__str__" s_Whole_str
  d_Living_eq : DefM K (cl "Living") "__eq__" "Living.__eq__" s_Living_eq
  d_Living_str : DefM K (cl "Living") "__str__" "Living.__str__" s_Living_str
  d_Reaching_eq : DefM K (cl "Reaching") "__eq__" "Reaching.__eq__" s_Reaching_eq
  d_Reaching_str : DefM K (cl "Reaching") "__str__" "Reaching.__str__" s_Reaching_str
  d_FirstReaching_eq : DefM K (cl "FirstReaching") "__eq__" "FirstReaching.__eq__" s_FirstReaching_eq
  d_FirstReaching_str : DefM K (cl "FirstReaching") "__str__" "FirstReaching.__str__" s_FirstReaching_str
  d_Year_eq : DefM K (cl "Year") "__eq__" "Year.__eq__" s_Year_eq
  d_Death_eq : DefM K (cl "Death") "__eq__" "Death.__eq__" s_Death_eq
  d_is_whole : Def K mg "is_whole" s_is_whole
  d_is_name : Def K mg "is_name" s_is_name
  d_check_kin : Def K mg "check_kin" s_check_kin
  d_check_age : Def K mg "check_age" s_check_age
  d_merged : Def K mg "merged" s_merged
  d_bag : Def K mg "_law_bag" s_bag
  d_take : Def K mg "_law_take" s_take
  d_pick : Def K mg "_law_pick" s_pick
  d_kin : Def K mg "_law_kin" s_kin
  d_taker : Def K mg "_law_taker" s_taker
  d_word : Def K mg "_law_word" s_word
  d_odd_name : Def K mg "_law_odd_name" s_odd_name
  d_drawn : Def K mg "_law_drawn" s_drawn
  d_text : Def K mg "_law_text" s_text
  d_fields : Def K mg "_law_fields" s_fields
  d_made : Def K mg "_law_made" s_made
  d_refused : Def K mg "_law_refused" s_refused
  d_condition_made : Def K mg "_law_condition_made" s_condition_made
  d_conditions : Def K mg "_law_conditions" s_conditions
  d_law : Def K mg "law" s_law
  z1 : PySem.W.specialIn K (.builtin "object.__class__") "__get__" = some (some (.builtin "getset_descriptor.__get__"))
  z2 : PySem.W.takesIn K (.builtin "object.__class__") = some true
end My
set_option Elab.async false
set_option linter.all false
set_option maxRecDepth 100000
set_option maxHeartbeats 8000000
namespace My
open PySem L2 Dw He
theorem w_BadTaker (P : Program) (w : World) : PySem.ErrL.SupW P w (defArgs s_BadTaker_init) (defScope s_BadTaker_init) "BadTaker.__init__" ["what"] (fun _ => True) (.Constant (.str "taker") 0 ⟨25, 25, 25, 32⟩) [.Name "what" ⟨25, 34, 25, 38⟩] ⟨25, 8, 25, 13⟩ ⟨25, 8, 25, 15⟩ ⟨25, 8, 25, 24⟩ ⟨25, 8, 25, 39⟩ ⟨25, 8, 25, 39⟩ where
  hk := rfl
  co := rfl
  gen := rfl
  ks := rfl
  kc := rfl
  kse := rfl
  kf := (List.forall_mem_cons.mpr ⟨rfl, (fun _ h => by cases h)⟩)
  cell := by decide +kernel
  par := ⟨_, rfl, rfl⟩
  hi := fun _ _ _ _ => rfl
  hev := fun _ _ _ _ => ⟨_, rfl⟩
  hsw := fun _ _ _ _ => rfl
  hst := fun _ _ _ _ _ _ _ _ _ => rfl
  he := fun _ _ _ _ => rfl
  hpl := fun _ _ _ _ => rfl
  hargs := fun L fI cd cc A E us s1 mg mb m Q1 hok hm hl hs hn hg hb hbt h => match us, hl, hm with
    | [v], _, hm => PySem.ErrL.args_cn rfl rfl (by decide) L fI cd cc A E v s1 m Q1 (hm 0 _ rfl) hn h
def d_ini_BadTaker : HeM.IniD := ⟨"BadTaker", "BadTaker.__init__", defArgs s_BadTaker_init, [PySem.ErrL.supS [.Constant (.str "taker") 0 ⟨25, 25, 25, 32⟩, .Name "what" ⟨25, 34, 25, 38⟩] ⟨25, 8, 25, 13⟩ ⟨25, 8, 25, 15⟩ ⟨25, 8, 25, 24⟩ ⟨25, 8, 25, 39⟩ ⟨25, 8, 25, 39⟩, PySem.ErrL.stoS "what" ⟨26, 8, 26, 12⟩ ⟨26, 8, 26, 17⟩ ⟨26, 20, 26, 24⟩ ⟨26, 8, 26, 24⟩], defScope s_BadTaker_init, none⟩
theorem w_BadCondition (P : Program) (w : World) : PySem.ErrL.SupW P w (defArgs s_BadCondition_init) (defScope s_BadCondition_init) "BadCondition.__init__" ["what"] (fun _ => True) (.Constant (.str "condition") 0 ⟨30, 25, 30, 36⟩) [.Name "what" ⟨30, 38, 30, 42⟩] ⟨30, 8, 30, 13⟩ ⟨30, 8, 30, 15⟩ ⟨30, 8, 30, 24⟩ ⟨30, 8, 30, 43⟩ ⟨30, 8, 30, 43⟩ where
  hk := rfl
  co := rfl
  gen := rfl
  ks := rfl
  kc := rfl
  kse := rfl
  kf := (List.forall_mem_cons.mpr ⟨rfl, (fun _ h => by cases h)⟩)
  cell := by decide +kernel
  par := ⟨_, rfl, rfl⟩
  hi := fun _ _ _ _ => rfl
  hev := fun _ _ _ _ => ⟨_, rfl⟩
  hsw := fun _ _ _ _ => rfl
  hst := fun _ _ _ _ _ _ _ _ _ => rfl
  he := fun _ _ _ _ => rfl
  hpl := fun _ _ _ _ => rfl
  hargs := fun L fI cd cc A E us s1 mg mb m Q1 hok hm hl hs hn hg hb hbt h => match us, hl, hm with
    | [v], _, hm => PySem.ErrL.args_cn rfl rfl (by decide) L fI cd cc A E v s1 m Q1 (hm 0 _ rfl) hn h
def d_ini_BadCondition : HeM.IniD := ⟨"BadCondition", "BadCondition.__init__", defArgs s_BadCondition_init, [PySem.ErrL.supS [.Constant (.str "condition") 0 ⟨30, 25, 30, 36⟩, .Name "what" ⟨30, 38, 30, 42⟩] ⟨30, 8, 30, 13⟩ ⟨30, 8, 30, 15⟩ ⟨30, 8, 30, 24⟩ ⟨30, 8, 30, 43⟩ ⟨30, 8, 30, 43⟩, PySem.ErrL.stoS "what" ⟨31, 8, 31, 12⟩ ⟨31, 8, 31, 17⟩ ⟨31, 20, 31, 24⟩ ⟨31, 8, 31, 24⟩], defScope s_BadCondition_init, none⟩
theorem w_BadKin (P : Program) (w : World) : PySem.ErrL.SupW P w (defArgs s_BadKin_init) (defScope s_BadKin_init) "BadKin.__init__" ["what"] (fun _ => True) (.Constant (.str "kin") 0 ⟨15, 25, 15, 30⟩) [.Name "what" ⟨15, 32, 15, 36⟩] ⟨15, 8, 15, 13⟩ ⟨15, 8, 15, 15⟩ ⟨15, 8, 15, 24⟩ ⟨15, 8, 15, 37⟩ ⟨15, 8, 15, 37⟩ where
  hk := rfl
  co := rfl
  gen := rfl
  ks := rfl
  kc := rfl
  kse := rfl
  kf := (List.forall_mem_cons.mpr ⟨rfl, (fun _ h => by cases h)⟩)
  cell := by decide +kernel
  par := ⟨_, rfl, rfl⟩
  hi := fun _ _ _ _ => rfl
  hev := fun _ _ _ _ => ⟨_, rfl⟩
  hsw := fun _ _ _ _ => rfl
  hst := fun _ _ _ _ _ _ _ _ _ => rfl
  he := fun _ _ _ _ => rfl
  hpl := fun _ _ _ _ => rfl
  hargs := fun L fI cd cc A E us s1 mg mb m Q1 hok hm hl hs hn hg hb hbt h => match us, hl, hm with
    | [v], _, hm => PySem.ErrL.args_cn rfl rfl (by decide) L fI cd cc A E v s1 m Q1 (hm 0 _ rfl) hn h
def d_ini_BadKin : HeM.IniD := ⟨"BadKin", "BadKin.__init__", defArgs s_BadKin_init, [PySem.ErrL.supS [.Constant (.str "kin") 0 ⟨15, 25, 15, 30⟩, .Name "what" ⟨15, 32, 15, 36⟩] ⟨15, 8, 15, 13⟩ ⟨15, 8, 15, 15⟩ ⟨15, 8, 15, 24⟩ ⟨15, 8, 15, 37⟩ ⟨15, 8, 15, 37⟩, PySem.ErrL.stoS "what" ⟨16, 8, 16, 12⟩ ⟨16, 8, 16, 17⟩ ⟨16, 20, 16, 24⟩ ⟨16, 8, 16, 24⟩], defScope s_BadKin_init, none⟩
theorem w_BadDate (P : Program) (w : World) : PySem.ErrL.SupW P w (defArgs s_BadDate_init) (defScope s_BadDate_init) "BadDate.__init__" ["what"] (fun _ => True) (.Constant (.str "date") 0 ⟨20, 25, 20, 31⟩) [.Name "what" ⟨20, 33, 20, 37⟩] ⟨20, 8, 20, 13⟩ ⟨20, 8, 20, 15⟩ ⟨20, 8, 20, 24⟩ ⟨20, 8, 20, 38⟩ ⟨20, 8, 20, 38⟩ where
  hk := rfl
  co := rfl
  gen := rfl
  ks := rfl
  kc := rfl
  kse := rfl
  kf := (List.forall_mem_cons.mpr ⟨rfl, (fun _ h => by cases h)⟩)
  cell := by decide +kernel
  par := ⟨_, rfl, rfl⟩
  hi := fun _ _ _ _ => rfl
  hev := fun _ _ _ _ => ⟨_, rfl⟩
  hsw := fun _ _ _ _ => rfl
  hst := fun _ _ _ _ _ _ _ _ _ => rfl
  he := fun _ _ _ _ => rfl
  hpl := fun _ _ _ _ => rfl
  hargs := fun L fI cd cc A E us s1 mg mb m Q1 hok hm hl hs hn hg hb hbt h => match us, hl, hm with
    | [v], _, hm => PySem.ErrL.args_cn rfl rfl (by decide) L fI cd cc A E v s1 m Q1 (hm 0 _ rfl) hn h
def d_ini_BadDate : HeM.IniD := ⟨"BadDate", "BadDate.__init__", defArgs s_BadDate_init, [PySem.ErrL.supS [.Constant (.str "date") 0 ⟨20, 25, 20, 31⟩, .Name "what" ⟨20, 33, 20, 37⟩] ⟨20, 8, 20, 13⟩ ⟨20, 8, 20, 15⟩ ⟨20, 8, 20, 24⟩ ⟨20, 8, 20, 38⟩ ⟨20, 8, 20, 38⟩, PySem.ErrL.stoS "what" ⟨21, 8, 21, 12⟩ ⟨21, 8, 21, 17⟩ ⟨21, 20, 21, 24⟩ ⟨21, 8, 21, 24⟩], defScope s_BadDate_init, none⟩
def d_ini_Children : HeM.IniD := ⟨"Children", "Children.__init__", defArgs s_Children_init, defBody s_Children_init, defScope s_Children_init, some "Kin"⟩
def d_ini_Grandchildren : HeM.IniD := ⟨"Grandchildren", "Grandchildren.__init__", defArgs s_Grandchildren_init, defBody s_Grandchildren_init, defScope s_Grandchildren_init, some "Kin"⟩
def d_ini_Named : HeM.IniD := ⟨"Named", "Named.__init__", defArgs s_Named_init, defBody s_Named_init, defScope s_Named_init, some "Taker"⟩
def d_ini_Mate : HeM.IniD := ⟨"Mate", "Mate.__init__", defArgs s_Mate_init, defBody s_Mate_init, defScope s_Mate_init, some "Taker"⟩
def d_ini_Told : HeM.IniD := ⟨"Told", "Told.__init__", defArgs s_Told_init, defBody s_Told_init, defScope s_Told_init, some "Taker"⟩
def d_ini_Whole : HeM.IniD := ⟨"Whole", "Whole.__init__", defArgs s_Whole_init, defBody s_Whole_init, defScope s_Whole_init, some "Taker"⟩
def d_ini_Living : HeM.IniD := ⟨"Living", "Living.__init__", defArgs s_Living_init, defBody s_Living_init, defScope s_Living_init, some "Taker"⟩
def d_ini_Reaching : HeM.IniD := ⟨"Reaching", "Reaching.__init__", defArgs s_Reaching_init, defBody s_Reaching_init, defScope s_Reaching_init, some "Taker"⟩
def d_ini_FirstReaching : HeM.IniD := ⟨"FirstReaching", "FirstReaching.__init__", defArgs s_FirstReaching_init, defBody s_FirstReaching_init, defScope s_FirstReaching_init, some "Taker"⟩
def d_ini_Year : HeM.IniD := ⟨"Year", "Year.__init__", defArgs s_Year_init, defBody s_Year_init, defScope s_Year_init, some "Date"⟩
def d_ini_Death : HeM.IniD := ⟨"Death", "Death.__init__", defArgs s_Death_init, defBody s_Death_init, defScope s_Death_init, some "Date"⟩
def d_ini_By : HeM.IniD := ⟨"By", "By.__init__", defArgs s_By_init, defBody s_By_init, defScope s_By_init, some "Condition"⟩
def d_ini_Unless : HeM.IniD := ⟨"Unless", "Unless.__init__", defArgs s_Unless_init, defBody s_Unless_init, defScope s_Unless_init, some "Condition"⟩
def faL : List He.Fa := [.free "len", .free "int", .free "str", .free "bool", .free "list", .free "tuple", .free "isinstance", .free "range", .free "abs", .free "max", .free "sum", .free "enumerate", .free "ValueError", .free "super", .str "LETTERS" "abcdefghijklmnopqrstuvwxyz", .int "MOST" (1000000), .int "MOST_DEPTH" (6), .glo "DeedError", .glo "NoLife", .glo "BadKin", .glo "BadDate", .glo "BadTaker", .glo "BadCondition", .glo "Kin", .glo "Children", .glo "Grandchildren", .glo "Taker", .glo "Named", .glo "Mate", .glo "Told", .glo "Whole", .glo "Living", .glo "Reaching", .glo "FirstReaching", .glo "Date", .glo "Year", .glo "Death", .glo "Condition", .glo "By", .glo "Unless", .cls "Children", .cls "Grandchildren", .cls "Named", .cls "Mate", .cls "Told", .cls "Whole", .cls "Living", .cls "Reaching", .cls "FirstReaching", .cls "Year", .cls "Death", .cls "By", .cls "Unless", .mkr "Children", .mkr "Grandchildren", .mkr "Named", .mkr "Mate", .mkr "Told", .mkr "Whole", .mkr "Living", .mkr "Reaching", .mkr "FirstReaching", .mkr "Year", .mkr "Death", .mkr "By", .mkr "Unless", .meth "Children" "__eq__", .meth "Children" "__str__", .meth "Grandchildren" "__eq__", .meth "Grandchildren" "__str__", .meth "Named" "__eq__", .meth "Named" "__str__", .meth "Mate" "__eq__", .meth "Mate" "__str__", .meth "Told" "__eq__", .meth "Told" "__str__", .meth "Whole" "__eq__", .meth "Whole" "__str__", .meth "Living" "__eq__", .meth "Living" "__str__", .meth "Reaching" "__eq__", .meth "Reaching" "__str__", .meth "FirstReaching" "__eq__", .meth "FirstReaching" "__str__", .meth "Year" "__eq__", .meth "Death" "__eq__", .glo "is_whole", .glo "is_name", .glo "check_kin", .glo "check_age", .glo "merged", .glo "_law_bag", .glo "_law_take", .glo "_law_pick", .glo "_law_kin", .glo "_law_taker", .glo "_law_word", .glo "_law_odd_name", .glo "_law_drawn", .glo "_law_text", .glo "_law_fields", .glo "_law_made", .glo "_law_refused", .glo "_law_condition_made", .glo "_law_conditions", .glo "law"]
def fnL : List He.DefD := [⟨("Kin", some "__init__"), "__init__", "Kin.__init__", defArgs s_Kin_init, defBody s_Kin_init, defScope s_Kin_init, [], []⟩,
  ⟨("Taker", some "__init__"), "__init__", "Taker.__init__", defArgs s_Taker_init, defBody s_Taker_init, defScope s_Taker_init, [], []⟩,
  ⟨("Date", some "__init__"), "__init__", "Date.__init__", defArgs s_Date_init, defBody s_Date_init, defScope s_Date_init, [], []⟩,
  ⟨("Condition", some "__init__"), "__init__", "Condition.__init__", defArgs s_Condition_init, defBody s_Condition_init, defScope s_Condition_init, [], []⟩,
  ⟨("Children", some "__eq__"), "__eq__", "Children.__eq__", defArgs s_Children_eq, defBody s_Children_eq, defScope s_Children_eq, [], []⟩,
  ⟨("Children", some "__str__"), "__str__", "Children.__str__", defArgs s_Children_str, defBody s_Children_str, defScope s_Children_str, [], []⟩,
  ⟨("Grandchildren", some "__eq__"), "__eq__", "Grandchildren.__eq__", defArgs s_Grandchildren_eq, defBody s_Grandchildren_eq, defScope s_Grandchildren_eq, [], []⟩,
  ⟨("Grandchildren", some "__str__"), "__str__", "Grandchildren.__str__", defArgs s_Grandchildren_str, defBody s_Grandchildren_str, defScope s_Grandchildren_str, [], []⟩,
  ⟨("Named", some "__eq__"), "__eq__", "Named.__eq__", defArgs s_Named_eq, defBody s_Named_eq, defScope s_Named_eq, [], []⟩,
  ⟨("Named", some "__str__"), "__str__", "Named.__str__", defArgs s_Named_str, defBody s_Named_str, defScope s_Named_str, [], []⟩,
  ⟨("Mate", some "__eq__"), "__eq__", "Mate.__eq__", defArgs s_Mate_eq, defBody s_Mate_eq, defScope s_Mate_eq, [], []⟩,
  ⟨("Mate", some "__str__"), "__str__", "Mate.__str__", defArgs s_Mate_str, defBody s_Mate_str, defScope s_Mate_str, [], []⟩,
  ⟨("Told", some "__eq__"), "__eq__", "Told.__eq__", defArgs s_Told_eq, defBody s_Told_eq, defScope s_Told_eq, [], []⟩,
  ⟨("Told", some "__str__"), "__str__", "Told.__str__", defArgs s_Told_str, defBody s_Told_str, defScope s_Told_str, [], []⟩,
  ⟨("Whole", some "__eq__"), "__eq__", "Whole.__eq__", defArgs s_Whole_eq, defBody s_Whole_eq, defScope s_Whole_eq, [], []⟩,
  ⟨("Whole", some "__str__"), "__str__", "Whole.__str__", defArgs s_Whole_str, defBody s_Whole_str, defScope s_Whole_str, [], []⟩,
  ⟨("Living", some "__eq__"), "__eq__", "Living.__eq__", defArgs s_Living_eq, defBody s_Living_eq, defScope s_Living_eq, [], []⟩,
  ⟨("Living", some "__str__"), "__str__", "Living.__str__", defArgs s_Living_str, defBody s_Living_str, defScope s_Living_str, [], []⟩,
  ⟨("Reaching", some "__eq__"), "__eq__", "Reaching.__eq__", defArgs s_Reaching_eq, defBody s_Reaching_eq, defScope s_Reaching_eq, [], []⟩,
  ⟨("Reaching", some "__str__"), "__str__", "Reaching.__str__", defArgs s_Reaching_str, defBody s_Reaching_str, defScope s_Reaching_str, [], []⟩,
  ⟨("FirstReaching", some "__eq__"), "__eq__", "FirstReaching.__eq__", defArgs s_FirstReaching_eq, defBody s_FirstReaching_eq, defScope s_FirstReaching_eq, [], []⟩,
  ⟨("FirstReaching", some "__str__"), "__str__", "FirstReaching.__str__", defArgs s_FirstReaching_str, defBody s_FirstReaching_str, defScope s_FirstReaching_str, [], []⟩,
  ⟨("Year", some "__eq__"), "__eq__", "Year.__eq__", defArgs s_Year_eq, defBody s_Year_eq, defScope s_Year_eq, [], []⟩,
  ⟨("Death", some "__eq__"), "__eq__", "Death.__eq__", defArgs s_Death_eq, defBody s_Death_eq, defScope s_Death_eq, [], []⟩,
  ⟨("is_whole", none), "is_whole", "is_whole", defArgs s_is_whole, defBody s_is_whole, defScope s_is_whole, [], []⟩,
  ⟨("is_name", none), "is_name", "is_name", defArgs s_is_name, defBody s_is_name, defScope s_is_name, [], []⟩,
  ⟨("check_kin", none), "check_kin", "check_kin", defArgs s_check_kin, defBody s_check_kin, defScope s_check_kin, [], []⟩,
  ⟨("check_age", none), "check_age", "check_age", defArgs s_check_age, defBody s_check_age, defScope s_check_age, [], []⟩,
  ⟨("merged", none), "merged", "merged", defArgs s_merged, defBody s_merged, defScope s_merged, [], []⟩,
  ⟨("_law_bag", none), "_law_bag", "_law_bag", defArgs s_bag, defBody s_bag, defScope s_bag, [], []⟩,
  ⟨("_law_take", none), "_law_take", "_law_take", defArgs s_take, defBody s_take, defScope s_take, [], []⟩,
  ⟨("_law_pick", none), "_law_pick", "_law_pick", defArgs s_pick, defBody s_pick, defScope s_pick, [], []⟩,
  ⟨("_law_kin", none), "_law_kin", "_law_kin", defArgs s_kin, defBody s_kin, defScope s_kin, [], []⟩,
  ⟨("_law_taker", none), "_law_taker", "_law_taker", defArgs s_taker, defBody s_taker, defScope s_taker, [], []⟩,
  ⟨("_law_word", none), "_law_word", "_law_word", defArgs s_word, defBody s_word, defScope s_word, [], []⟩,
  ⟨("_law_odd_name", none), "_law_odd_name", "_law_odd_name", defArgs s_odd_name, defBody s_odd_name, defScope s_odd_name, [], []⟩,
  ⟨("_law_drawn", none), "_law_drawn", "_law_drawn", defArgs s_drawn, defBody s_drawn, defScope s_drawn, [], []⟩,
  ⟨("_law_text", none), "_law_text", "_law_text", defArgs s_text, defBody s_text, defScope s_text, [], []⟩,
  ⟨("_law_fields", none), "_law_fields", "_law_fields", defArgs s_fields, defBody s_fields, defScope s_fields, [], []⟩,
  ⟨("_law_made", none), "_law_made", "_law_made", defArgs s_made, defBody s_made, defScope s_made, [], []⟩,
  ⟨("_law_refused", none), "_law_refused", "_law_refused", defArgs s_refused, defBody s_refused, defScope s_refused, [], []⟩,
  ⟨("_law_condition_made", none), "_law_condition_made", "_law_condition_made", defArgs s_condition_made, defBody s_condition_made, defScope s_condition_made, [], []⟩,
  ⟨("_law_conditions", none), "_law_conditions", "_law_conditions", defArgs s_conditions, defBody s_conditions, defScope s_conditions, [], []⟩,
  ⟨("law", none), "law", "law", defArgs s_law, defBody s_law, defScope s_law, [], []⟩]
def iniL : List HeM.IniD := [d_ini_BadTaker, d_ini_BadCondition, d_ini_BadKin, d_ini_BadDate, d_ini_Children, d_ini_Grandchildren, d_ini_Named, d_ini_Mate, d_ini_Told, d_ini_Whole, d_ini_Living, d_ini_Reaching, d_ini_FirstReaching, d_ini_Year, d_ini_Death, d_ini_By, d_ini_Unless]
def prpL : List He.DefD := []
def tsL : HeM.TabM := ([], [])
def exL : List (PySem.W.Frag → Bool) := [fun K => HeM.zB K,
  fun K => eqO (PySem.W.nsIn K cStatics "thirdparty.any") (some none),
  fun K => eqO (PySem.W.findIn K (.ref (ga K "BadTaker")) "what") (some none),
  fun K => eqO (PySem.W.findIn K (.ref (ga K "BadCondition")) "what") (some none),
  fun K => eqO (PySem.W.findIn K (.ref (ga K "BadKin")) "what") (some none),
  fun K => eqO (PySem.W.findIn K (.ref (ga K "BadDate")) "what") (some none),
  fun K => HeM.xcB K (ga K "BadTaker"),
  fun K => HeM.xcB K (ga K "BadCondition"),
  fun K => decide (PySem.W.exmOne K (.ref (ga K "BadTaker")) (.ref (ga K "BadTaker")) = some true),
  fun K => decide (PySem.W.exmOne K (.ref (ga K "BadCondition")) (.ref (ga K "BadCondition")) = some true),
  fun K => decide (PySem.W.kitOne K (.ref (ga K "BadTaker")) (.ref (ga K "DeedError")) = some true),
  fun K => decide (PySem.W.kitOne K (.ref (ga K "BadTaker")) (.ref (ga K "BadCondition")) = some false),
  fun K => decide (PySem.W.kitOne K (.ref (ga K "BadTaker")) (.ref (ga K "NoLife")) = some false),
  fun K => decide (PySem.W.kitOne K (.ref (ga K "BadCondition")) (.ref (ga K "DeedError")) = some true),
  fun K => decide (PySem.W.kitOne K (.ref (ga K "BadCondition")) (.ref (ga K "BadTaker")) = some false),
  fun K => (["life"] : List Str).all fun f => eqO (PySem.W.findIn K (.ref (ga K "Children")) f) (some none),
  fun K => eqO (PySem.W.findIn K (.ref (ga K "Children")) "__class__") (some (some (.builtin "object.__class__"))),
  fun K => decide (PySem.W.mroIn K (ga K "Children") (.type "object") = some true),
  fun K => (["life"] : List Str).all fun f => eqO (PySem.W.findIn K (.ref (ga K "Grandchildren")) f) (some none),
  fun K => eqO (PySem.W.findIn K (.ref (ga K "Grandchildren")) "__class__") (some (some (.builtin "object.__class__"))),
  fun K => decide (PySem.W.mroIn K (ga K "Grandchildren") (.type "object") = some true),
  fun K => (["life", "lives_named"] : List Str).all fun f => eqO (PySem.W.findIn K (.ref (ga K "Named")) f) (some none),
  fun K => eqO (PySem.W.findIn K (.ref (ga K "Named")) "__class__") (some (some (.builtin "object.__class__"))),
  fun K => decide (PySem.W.mroIn K (ga K "Named") (.type "object") = some true),
  fun K => (["life", "lives_named"] : List Str).all fun f => eqO (PySem.W.findIn K (.ref (ga K "Mate")) f) (some none),
  fun K => eqO (PySem.W.findIn K (.ref (ga K "Mate")) "__class__") (some (some (.builtin "object.__class__"))),
  fun K => decide (PySem.W.mroIn K (ga K "Mate") (.type "object") = some true),
  fun K => (["kin", "lives_named"] : List Str).all fun f => eqO (PySem.W.findIn K (.ref (ga K "Told")) f) (some none),
  fun K => eqO (PySem.W.findIn K (.ref (ga K "Told")) "__class__") (some (some (.builtin "object.__class__"))),
  fun K => decide (PySem.W.mroIn K (ga K "Told") (.type "object") = some true),
  fun K => (["kin", "lives_named"] : List Str).all fun f => eqO (PySem.W.findIn K (.ref (ga K "Whole")) f) (some none),
  fun K => eqO (PySem.W.findIn K (.ref (ga K "Whole")) "__class__") (some (some (.builtin "object.__class__"))),
  fun K => decide (PySem.W.mroIn K (ga K "Whole") (.type "object") = some true),
  fun K => (["kin", "lives_named"] : List Str).all fun f => eqO (PySem.W.findIn K (.ref (ga K "Living")) f) (some none),
  fun K => eqO (PySem.W.findIn K (.ref (ga K "Living")) "__class__") (some (some (.builtin "object.__class__"))),
  fun K => decide (PySem.W.mroIn K (ga K "Living") (.type "object") = some true),
  fun K => (["kin", "age", "lives_named"] : List Str).all fun f => eqO (PySem.W.findIn K (.ref (ga K "Reaching")) f) (some none),
  fun K => eqO (PySem.W.findIn K (.ref (ga K "Reaching")) "__class__") (some (some (.builtin "object.__class__"))),
  fun K => decide (PySem.W.mroIn K (ga K "Reaching") (.type "object") = some true),
  fun K => (["kin", "age", "lives_named"] : List Str).all fun f => eqO (PySem.W.findIn K (.ref (ga K "FirstReaching")) f) (some none),
  fun K => eqO (PySem.W.findIn K (.ref (ga K "FirstReaching")) "__class__") (some (some (.builtin "object.__class__"))),
  fun K => decide (PySem.W.mroIn K (ga K "FirstReaching") (.type "object") = some true),
  fun K => (["depth", "lives_named", "happenings", "class_dates", "number"] : List Str).all fun f => eqO (PySem.W.findIn K (.ref (ga K "Year")) f) (some none),
  fun K => eqO (PySem.W.findIn K (.ref (ga K "Year")) "__class__") (some (some (.builtin "object.__class__"))),
  fun K => decide (PySem.W.mroIn K (ga K "Year") (.type "object") = some true),
  fun K => (["depth", "lives_named", "happenings", "class_dates", "life"] : List Str).all fun f => eqO (PySem.W.findIn K (.ref (ga K "Death")) f) (some none),
  fun K => eqO (PySem.W.findIn K (.ref (ga K "Death")) "__class__") (some (some (.builtin "object.__class__"))),
  fun K => decide (PySem.W.mroIn K (ga K "Death") (.type "object") = some true),
  fun K => (["one", "other", "lives_named"] : List Str).all fun f => eqO (PySem.W.findIn K (.ref (ga K "By")) f) (some none),
  fun K => eqO (PySem.W.findIn K (.ref (ga K "By")) "__class__") (some (some (.builtin "object.__class__"))),
  fun K => decide (PySem.W.mroIn K (ga K "By") (.type "object") = some true),
  fun K => (["one", "other", "lives_named"] : List Str).all fun f => eqO (PySem.W.findIn K (.ref (ga K "Unless")) f) (some none),
  fun K => eqO (PySem.W.findIn K (.ref (ga K "Unless")) "__class__") (some (some (.builtin "object.__class__"))),
  fun K => decide (PySem.W.mroIn K (ga K "Unless") (.type "object") = some true),
  fun K => decide (PySem.W.kitOne K (.ref (ga K "Children")) (.ref (ga K "Kin")) = some true),
  fun K => decide (PySem.W.kitOne K (.ref (ga K "Grandchildren")) (.ref (ga K "Kin")) = some true),
  fun K => decide (PySem.W.kitOne K (.ref (ga K "Named")) (.ref (ga K "Kin")) = some false),
  fun K => decide (PySem.W.kitOne K (.ref (ga K "Year")) (.ref (ga K "Kin")) = some false),
  fun K => decide (PySem.W.kitOne K (.ref (ga K "Death")) (.ref (ga K "Kin")) = some false),
  fun K => decide (PySem.W.kitOne K (.type "NoneType") (.ref (ga K "Kin")) = some false),
  fun K => decide (PySem.W.kitOne K (.type "int") (.ref (ga K "Kin")) = some false),
  fun K => decide (PySem.W.kitOne K (.type "str") (.ref (ga K "Kin")) = some false),
  fun K => decide (PySem.W.kitOne K (.type "tuple") (.ref (ga K "Kin")) = some false),
  fun K => decide (PySem.W.kitOne K (.ref (ga K "Named")) (.ref (ga K "Taker")) = some true),
  fun K => decide (PySem.W.kitOne K (.ref (ga K "Mate")) (.ref (ga K "Taker")) = some true),
  fun K => decide (PySem.W.kitOne K (.ref (ga K "Told")) (.ref (ga K "Taker")) = some true),
  fun K => decide (PySem.W.kitOne K (.ref (ga K "Whole")) (.ref (ga K "Taker")) = some true),
  fun K => decide (PySem.W.kitOne K (.ref (ga K "Living")) (.ref (ga K "Taker")) = some true),
  fun K => decide (PySem.W.kitOne K (.ref (ga K "Reaching")) (.ref (ga K "Taker")) = some true),
  fun K => decide (PySem.W.kitOne K (.ref (ga K "FirstReaching")) (.ref (ga K "Taker")) = some true),
  fun K => decide (PySem.W.kitOne K (.ref (ga K "Children")) (.ref (ga K "Children")) = some true),
  fun K => decide (PySem.W.kitOne K (.ref (ga K "Children")) (.ref (ga K "Grandchildren")) = some false),
  fun K => decide (PySem.W.kitOne K (.ref (ga K "Grandchildren")) (.ref (ga K "Children")) = some false),
  fun K => decide (PySem.W.kitOne K (.ref (ga K "Grandchildren")) (.ref (ga K "Grandchildren")) = some true),
  fun K => decide (PySem.W.kitOne K (.ref (ga K "Named")) (.ref (ga K "Named")) = some true),
  fun K => decide (PySem.W.kitOne K (.ref (ga K "Named")) (.ref (ga K "Mate")) = some false),
  fun K => decide (PySem.W.kitOne K (.ref (ga K "Named")) (.ref (ga K "Told")) = some false),
  fun K => decide (PySem.W.kitOne K (.ref (ga K "Named")) (.ref (ga K "Whole")) = some false),
  fun K => decide (PySem.W.kitOne K (.ref (ga K "Named")) (.ref (ga K "Living")) = some false),
  fun K => decide (PySem.W.kitOne K (.ref (ga K "Named")) (.ref (ga K "Reaching")) = some false),
  fun K => decide (PySem.W.kitOne K (.ref (ga K "Named")) (.ref (ga K "FirstReaching")) = some false),
  fun K => decide (PySem.W.kitOne K (.ref (ga K "Mate")) (.ref (ga K "Named")) = some false),
  fun K => decide (PySem.W.kitOne K (.ref (ga K "Mate")) (.ref (ga K "Mate")) = some true),
  fun K => decide (PySem.W.kitOne K (.ref (ga K "Mate")) (.ref (ga K "Told")) = some false),
  fun K => decide (PySem.W.kitOne K (.ref (ga K "Mate")) (.ref (ga K "Whole")) = some false),
  fun K => decide (PySem.W.kitOne K (.ref (ga K "Mate")) (.ref (ga K "Living")) = some false),
  fun K => decide (PySem.W.kitOne K (.ref (ga K "Mate")) (.ref (ga K "Reaching")) = some false),
  fun K => decide (PySem.W.kitOne K (.ref (ga K "Mate")) (.ref (ga K "FirstReaching")) = some false),
  fun K => decide (PySem.W.kitOne K (.ref (ga K "Told")) (.ref (ga K "Named")) = some false),
  fun K => decide (PySem.W.kitOne K (.ref (ga K "Told")) (.ref (ga K "Mate")) = some false),
  fun K => decide (PySem.W.kitOne K (.ref (ga K "Told")) (.ref (ga K "Told")) = some true),
  fun K => decide (PySem.W.kitOne K (.ref (ga K "Told")) (.ref (ga K "Whole")) = some false),
  fun K => decide (PySem.W.kitOne K (.ref (ga K "Told")) (.ref (ga K "Living")) = some false),
  fun K => decide (PySem.W.kitOne K (.ref (ga K "Told")) (.ref (ga K "Reaching")) = some false),
  fun K => decide (PySem.W.kitOne K (.ref (ga K "Told")) (.ref (ga K "FirstReaching")) = some false),
  fun K => decide (PySem.W.kitOne K (.ref (ga K "Whole")) (.ref (ga K "Named")) = some false),
  fun K => decide (PySem.W.kitOne K (.ref (ga K "Whole")) (.ref (ga K "Mate")) = some false),
  fun K => decide (PySem.W.kitOne K (.ref (ga K "Whole")) (.ref (ga K "Told")) = some false),
  fun K => decide (PySem.W.kitOne K (.ref (ga K "Whole")) (.ref (ga K "Whole")) = some true),
  fun K => decide (PySem.W.kitOne K (.ref (ga K "Whole")) (.ref (ga K "Living")) = some false),
  fun K => decide (PySem.W.kitOne K (.ref (ga K "Whole")) (.ref (ga K "Reaching")) = some false),
  fun K => decide (PySem.W.kitOne K (.ref (ga K "Whole")) (.ref (ga K "FirstReaching")) = some false),
  fun K => decide (PySem.W.kitOne K (.ref (ga K "Living")) (.ref (ga K "Named")) = some false),
  fun K => decide (PySem.W.kitOne K (.ref (ga K "Living")) (.ref (ga K "Mate")) = some false),
  fun K => decide (PySem.W.kitOne K (.ref (ga K "Living")) (.ref (ga K "Told")) = some false),
  fun K => decide (PySem.W.kitOne K (.ref (ga K "Living")) (.ref (ga K "Whole")) = some false),
  fun K => decide (PySem.W.kitOne K (.ref (ga K "Living")) (.ref (ga K "Living")) = some true),
  fun K => decide (PySem.W.kitOne K (.ref (ga K "Living")) (.ref (ga K "Reaching")) = some false),
  fun K => decide (PySem.W.kitOne K (.ref (ga K "Living")) (.ref (ga K "FirstReaching")) = some false),
  fun K => decide (PySem.W.kitOne K (.ref (ga K "Reaching")) (.ref (ga K "Named")) = some false),
  fun K => decide (PySem.W.kitOne K (.ref (ga K "Reaching")) (.ref (ga K "Mate")) = some false),
  fun K => decide (PySem.W.kitOne K (.ref (ga K "Reaching")) (.ref (ga K "Told")) = some false),
  fun K => decide (PySem.W.kitOne K (.ref (ga K "Reaching")) (.ref (ga K "Whole")) = some false),
  fun K => decide (PySem.W.kitOne K (.ref (ga K "Reaching")) (.ref (ga K "Living")) = some false),
  fun K => decide (PySem.W.kitOne K (.ref (ga K "Reaching")) (.ref (ga K "Reaching")) = some true),
  fun K => decide (PySem.W.kitOne K (.ref (ga K "Reaching")) (.ref (ga K "FirstReaching")) = some false),
  fun K => decide (PySem.W.kitOne K (.ref (ga K "FirstReaching")) (.ref (ga K "Named")) = some false),
  fun K => decide (PySem.W.kitOne K (.ref (ga K "FirstReaching")) (.ref (ga K "Mate")) = some false),
  fun K => decide (PySem.W.kitOne K (.ref (ga K "FirstReaching")) (.ref (ga K "Told")) = some false),
  fun K => decide (PySem.W.kitOne K (.ref (ga K "FirstReaching")) (.ref (ga K "Whole")) = some false),
  fun K => decide (PySem.W.kitOne K (.ref (ga K "FirstReaching")) (.ref (ga K "Living")) = some false),
  fun K => decide (PySem.W.kitOne K (.ref (ga K "FirstReaching")) (.ref (ga K "Reaching")) = some false),
  fun K => decide (PySem.W.kitOne K (.ref (ga K "FirstReaching")) (.ref (ga K "FirstReaching")) = some true),
  fun K => decide (PySem.W.kitOne K (.type "str") (.ref (ga K "Named")) = some false),
  fun K => decide (PySem.W.kitOne K (.type "str") (.ref (ga K "Mate")) = some false),
  fun K => decide (PySem.W.kitOne K (.type "str") (.ref (ga K "Told")) = some false),
  fun K => decide (PySem.W.kitOne K (.type "str") (.ref (ga K "Whole")) = some false),
  fun K => decide (PySem.W.kitOne K (.type "str") (.ref (ga K "Living")) = some false),
  fun K => decide (PySem.W.kitOne K (.type "str") (.ref (ga K "Reaching")) = some false),
  fun K => decide (PySem.W.kitOne K (.type "str") (.ref (ga K "FirstReaching")) = some false),
  fun K => decide (PySem.W.kitOne K (.type "tuple") (.ref (ga K "Named")) = some false),
  fun K => decide (PySem.W.kitOne K (.type "tuple") (.ref (ga K "Mate")) = some false),
  fun K => decide (PySem.W.kitOne K (.type "tuple") (.ref (ga K "Told")) = some false),
  fun K => decide (PySem.W.kitOne K (.type "tuple") (.ref (ga K "Whole")) = some false),
  fun K => decide (PySem.W.kitOne K (.type "tuple") (.ref (ga K "Living")) = some false),
  fun K => decide (PySem.W.kitOne K (.type "tuple") (.ref (ga K "Reaching")) = some false),
  fun K => decide (PySem.W.kitOne K (.type "tuple") (.ref (ga K "FirstReaching")) = some false),
  fun K => decide (PySem.W.kitOne K (.ref (ga K "Year")) (.ref (ga K "Date")) = some true),
  fun K => decide (PySem.W.kitOne K (.ref (ga K "Death")) (.ref (ga K "Date")) = some true),
  fun K => decide (PySem.W.kitOne K (.ref (ga K "Children")) (.ref (ga K "Date")) = some false),
  fun K => decide (PySem.W.kitOne K (.ref (ga K "Named")) (.ref (ga K "Date")) = some false),
  fun K => decide (PySem.W.kitOne K (.ref (ga K "By")) (.ref (ga K "Date")) = some false),
  fun K => decide (PySem.W.kitOne K (.type "NoneType") (.ref (ga K "Date")) = some false),
  fun K => decide (PySem.W.kitOne K (.type "int") (.ref (ga K "Date")) = some false),
  fun K => decide (PySem.W.kitOne K (.type "str") (.ref (ga K "Date")) = some false),
  fun K => decide (PySem.W.kitOne K (.type "tuple") (.ref (ga K "Date")) = some false),
  fun K => decide (PySem.W.kitOne K (.ref (ga K "Year")) (.ref (ga K "Year")) = some true),
  fun K => decide (PySem.W.kitOne K (.ref (ga K "Death")) (.ref (ga K "Death")) = some true),
  fun K => PySem.W.notFirst K (ga K "Children") (.ref (ga K "Children")),
  fun K => PySem.W.notFirst K (ga K "Children") (.ref (ga K "Grandchildren")),
  fun K => PySem.W.notFirst K (ga K "Grandchildren") (.ref (ga K "Children")),
  fun K => PySem.W.notFirst K (ga K "Grandchildren") (.ref (ga K "Grandchildren")),
  fun K => PySem.W.notFirst K (ga K "Named") (.ref (ga K "Named")),
  fun K => PySem.W.notFirst K (ga K "Named") (.ref (ga K "Mate")),
  fun K => PySem.W.notFirst K (ga K "Named") (.ref (ga K "Told")),
  fun K => PySem.W.notFirst K (ga K "Named") (.ref (ga K "Whole")),
  fun K => PySem.W.notFirst K (ga K "Named") (.ref (ga K "Living")),
  fun K => PySem.W.notFirst K (ga K "Named") (.ref (ga K "Reaching")),
  fun K => PySem.W.notFirst K (ga K "Named") (.ref (ga K "FirstReaching")),
  fun K => PySem.W.notFirst K (ga K "Named") (.type "str"),
  fun K => PySem.W.notFirst K (ga K "Named") (.type "tuple"),
  fun K => PySem.W.notFirst K (ga K "Mate") (.ref (ga K "Named")),
  fun K => PySem.W.notFirst K (ga K "Mate") (.ref (ga K "Mate")),
  fun K => PySem.W.notFirst K (ga K "Mate") (.ref (ga K "Told")),
  fun K => PySem.W.notFirst K (ga K "Mate") (.ref (ga K "Whole")),
  fun K => PySem.W.notFirst K (ga K "Mate") (.ref (ga K "Living")),
  fun K => PySem.W.notFirst K (ga K "Mate") (.ref (ga K "Reaching")),
  fun K => PySem.W.notFirst K (ga K "Mate") (.ref (ga K "FirstReaching")),
  fun K => PySem.W.notFirst K (ga K "Mate") (.type "str"),
  fun K => PySem.W.notFirst K (ga K "Mate") (.type "tuple"),
  fun K => PySem.W.notFirst K (ga K "Told") (.ref (ga K "Named")),
  fun K => PySem.W.notFirst K (ga K "Told") (.ref (ga K "Mate")),
  fun K => PySem.W.notFirst K (ga K "Told") (.ref (ga K "Told")),
  fun K => PySem.W.notFirst K (ga K "Told") (.ref (ga K "Whole")),
  fun K => PySem.W.notFirst K (ga K "Told") (.ref (ga K "Living")),
  fun K => PySem.W.notFirst K (ga K "Told") (.ref (ga K "Reaching")),
  fun K => PySem.W.notFirst K (ga K "Told") (.ref (ga K "FirstReaching")),
  fun K => PySem.W.notFirst K (ga K "Told") (.type "str"),
  fun K => PySem.W.notFirst K (ga K "Told") (.type "tuple"),
  fun K => PySem.W.notFirst K (ga K "Whole") (.ref (ga K "Named")),
  fun K => PySem.W.notFirst K (ga K "Whole") (.ref (ga K "Mate")),
  fun K => PySem.W.notFirst K (ga K "Whole") (.ref (ga K "Told")),
  fun K => PySem.W.notFirst K (ga K "Whole") (.ref (ga K "Whole")),
  fun K => PySem.W.notFirst K (ga K "Whole") (.ref (ga K "Living")),
  fun K => PySem.W.notFirst K (ga K "Whole") (.ref (ga K "Reaching")),
  fun K => PySem.W.notFirst K (ga K "Whole") (.ref (ga K "FirstReaching")),
  fun K => PySem.W.notFirst K (ga K "Whole") (.type "str"),
  fun K => PySem.W.notFirst K (ga K "Whole") (.type "tuple"),
  fun K => PySem.W.notFirst K (ga K "Living") (.ref (ga K "Named")),
  fun K => PySem.W.notFirst K (ga K "Living") (.ref (ga K "Mate")),
  fun K => PySem.W.notFirst K (ga K "Living") (.ref (ga K "Told")),
  fun K => PySem.W.notFirst K (ga K "Living") (.ref (ga K "Whole")),
  fun K => PySem.W.notFirst K (ga K "Living") (.ref (ga K "Living")),
  fun K => PySem.W.notFirst K (ga K "Living") (.ref (ga K "Reaching")),
  fun K => PySem.W.notFirst K (ga K "Living") (.ref (ga K "FirstReaching")),
  fun K => PySem.W.notFirst K (ga K "Living") (.type "str"),
  fun K => PySem.W.notFirst K (ga K "Living") (.type "tuple"),
  fun K => PySem.W.notFirst K (ga K "Reaching") (.ref (ga K "Named")),
  fun K => PySem.W.notFirst K (ga K "Reaching") (.ref (ga K "Mate")),
  fun K => PySem.W.notFirst K (ga K "Reaching") (.ref (ga K "Told")),
  fun K => PySem.W.notFirst K (ga K "Reaching") (.ref (ga K "Whole")),
  fun K => PySem.W.notFirst K (ga K "Reaching") (.ref (ga K "Living")),
  fun K => PySem.W.notFirst K (ga K "Reaching") (.ref (ga K "Reaching")),
  fun K => PySem.W.notFirst K (ga K "Reaching") (.ref (ga K "FirstReaching")),
  fun K => PySem.W.notFirst K (ga K "Reaching") (.type "str"),
  fun K => PySem.W.notFirst K (ga K "Reaching") (.type "tuple"),
  fun K => PySem.W.notFirst K (ga K "FirstReaching") (.ref (ga K "Named")),
  fun K => PySem.W.notFirst K (ga K "FirstReaching") (.ref (ga K "Mate")),
  fun K => PySem.W.notFirst K (ga K "FirstReaching") (.ref (ga K "Told")),
  fun K => PySem.W.notFirst K (ga K "FirstReaching") (.ref (ga K "Whole")),
  fun K => PySem.W.notFirst K (ga K "FirstReaching") (.ref (ga K "Living")),
  fun K => PySem.W.notFirst K (ga K "FirstReaching") (.ref (ga K "Reaching")),
  fun K => PySem.W.notFirst K (ga K "FirstReaching") (.ref (ga K "FirstReaching")),
  fun K => PySem.W.notFirst K (ga K "FirstReaching") (.type "str"),
  fun K => PySem.W.notFirst K (ga K "FirstReaching") (.type "tuple"),
  fun K => PySem.W.notFirst K (ga K "Year") (.ref (ga K "Year")),
  fun K => PySem.W.notFirst K (ga K "Death") (.ref (ga K "Death")),
  fun K => eqO (PySem.W.findIn K (.ref (ga K "Children")) "__ne__") (some (some (.builtin "object.__ne__"))),
  fun K => eqO (PySem.W.findIn K (.ref (ga K "Grandchildren")) "__ne__") (some (some (.builtin "object.__ne__"))),
  fun K => eqO (PySem.W.findIn K (.ref (ga K "Named")) "__ne__") (some (some (.builtin "object.__ne__"))),
  fun K => eqO (PySem.W.findIn K (.ref (ga K "Mate")) "__ne__") (some (some (.builtin "object.__ne__"))),
  fun K => eqO (PySem.W.findIn K (.ref (ga K "Told")) "__ne__") (some (some (.builtin "object.__ne__"))),
  fun K => eqO (PySem.W.findIn K (.ref (ga K "Whole")) "__ne__") (some (some (.builtin "object.__ne__"))),
  fun K => eqO (PySem.W.findIn K (.ref (ga K "Living")) "__ne__") (some (some (.builtin "object.__ne__"))),
  fun K => eqO (PySem.W.findIn K (.ref (ga K "Reaching")) "__ne__") (some (some (.builtin "object.__ne__"))),
  fun K => eqO (PySem.W.findIn K (.ref (ga K "FirstReaching")) "__ne__") (some (some (.builtin "object.__ne__"))),
  fun K => eqO (PySem.W.findIn K (.ref (ga K "Children")) "__format__") (some (some (.builtin "object.__format__"))),
  fun K => eqO (PySem.W.findIn K (.ref (ga K "Grandchildren")) "__format__") (some (some (.builtin "object.__format__")))]
def exB (K : PySem.W.Frag) : Bool := exL.all fun b => b K
abbrev Rw : PySem.W.OpenRow := PySem.W.OpenLaw.row PySem.Challenge.rw_lastlife_k16_takers_and_conditions_made
def lawFile : Str := Rw.prog.main.file
abbrev hkM : PySem.W.Hook := HeM.hookM lawFile 4 faL fnL iniL prpL tsL exB
def obM (s : PySem.W.SharedT) : HeM.AlM := HeM.obsMG lawFile 4 faL fnL iniL prpL tsL exB (HandSHeadRun.getT s)
theorem obM_eq (s : PySem.W.SharedT) : obM s = hkM.obs s.abs := HeM.obsMG_eq (HandSHeadRun.getT_eq s)
def looseL : List PySem.Str := (["_wall", "DeedError", "NoLife", "BadKin", "BadDate", "BadTaker", "BadCondition", "LATE", "MOST", "LETTERS", "is_whole", "is_name", "check_life", "Kin", "Children", "Grandchildren", "check_kin", "check_age", "members_born", "reaches", "Taker", "Named", "Mate", "Told", "Whole", "Living", "Reaching", "FirstReaching", "MOST_DEPTH", "MOST_DATES"] : List PySem.Str) ++ (["merged", "Date", "Year", "Death", "Plus", "check_dates", "Earlier", "Later", "Condition", "By", "Unless", "_law_bag", "_law_take", "_law_pick", "_law_kin", "_law_taker", "_law_word", "_law_odd_name", "_law_drawn", "_law_text", "_law_fields", "_law_made", "_law_refused", "_law_condition_made", "_law_conditions"] : List PySem.Str)
theorem runM (w : World) : HandSHeadRun.RunEq Rw (PySem.W.view Rw.prog [62]) hkM obM 12000 looseL w := by
  intro os
  kernel_rfl

end My
set_option Elab.async false
set_option linter.all false
set_option maxRecDepth 100000
set_option maxHeartbeats 1000000
namespace My
open PySem L2 Dw Wp
open C8 (pss_cut tCut)
set_option pp.maxSteps 600
/-! plain functions -/
def isW (lo hi : Int) : V → Bool
  | .int i => decide (lo ≤ i) && decide (i ≤ hi)
  | _ => false
def letters : List Nat := ("abcdefghijklmnopqrstuvwxyz" : Str).cps.toList
def isN : V → Bool
  | .str s => decide (1 ≤ s.length) && decide (s.length ≤ 8) && s.cps.toList.all fun c => decide (c ∈ letters)
  | _ => false
/-! promises -/
def spW (K : PySem.W.Frag) : Sp := fun vs H Q _ => ∃ (v : V) (n : String) (lo hi : Int), vs = [v, .int lo, .int hi] ∧ Dm K H v n ∧ Q (.bl (isW lo hi v)) H
def spN (K : PySem.W.Frag) : Sp := fun vs H Q _ => ∃ (v : V) (n : String), vs = [v] ∧ Dm K H v n ∧ ∀ H', Same H H' → Q (.bl (isN v)) H'
section
variable {P : Program} {w : World} {K : PySem.W.Frag} {mg : Str → Option Value} {base : Heap} {cl : String → Addr}
theorem kb {v : V} {H : Hp} {n m : String} {b : Bool} (d : Dm K H v n) (h : kitB n m = some b) : PySem.W.kitOne K (.type n) (.type m) = some b := kit_ty h
theorem ok_is_whole {f : Addr} {fd : FuncData} (F : Fun K "is_whole" "is_whole" s_is_whole f fd) (T : Txt P w K mg cl) : FnOk P w K mg base CX0 1 f fd ["thing", "low", "high"] (spW K) := by
  refine F.ok sc_is_whole (fun vs H Q E h => ?_) (fun cdv A outer s H vs Q E hr h => ?_)
  · obtain ⟨v, n, lo, hi, rfl, _⟩ := h
    rfl
  · obtain ⟨v, n, lo, hi, rfl, d, k⟩ := h
    have hu := hu_of hr
    refine ⟨_, (pss_one (ps_ret (pe_and (pe_callB call_isi (by rfl) T.n_isinstance (by decide +kernel) (pa_cons (pv 0) (pa_cons (pe_ty "int" T.n_int) pa_nil))) (pe_and (pe_not (pe_callB call_isi (by rfl) T.n_isinstance (by decide +kernel) (pa_cons (pv 0) (pa_cons (pe_ty "bool" T.n_bool) pa_nil)))) (pe_one (pe_chain op_le op_le (pv 1) (pv 0) (pv 2))))))), ?_⟩
    cases d with
    | int i =>
      refine ⟨_, rfl, _, _, _, _, _, rfl, .ty "int", .base (.int i), kit_ty (by decide +kernel), true, rfl, iteT ?_⟩
      refine ⟨_, rfl, _, _, _, _, _, rfl, .ty "bool", .base (.int i), kit_ty (by decide +kernel), false, rfl, _, rfl, iteT ?_⟩
      refine ⟨_, rfl, _, rfl, _, _, rfl, rfl, _, rfl, ?_⟩
      refine ite2 (fun h1 => ?_) (fun h1 => ?_)
      · refine ⟨_, rfl, _, _, rfl, rfl, ?_⟩
        have e : isW lo hi (.int i) = decide (i ≤ hi) := by show (decide (lo ≤ i) && decide (i ≤ hi)) = _; rw [h1]; rfl
        rw [e] at k
        exact k
      · have e : isW lo hi (.int i) = false := by show (decide (lo ≤ i) && decide (i ≤ hi)) = _; rw [Bool.eq_false_iff.mpr h1]; rfl
        rw [e] at k
        exact k
    | bl b =>
      refine ⟨_, rfl, _, _, _, _, _, rfl, .ty "int", .base (.bl b), kit_ty (by decide +kernel), true, rfl, iteT ?_⟩
      exact ⟨_, rfl, _, _, _, _, _, rfl, .ty "bool", .base (.bl b), kit_ty (by decide +kernel), true, rfl, _, rfl, iteF k⟩
    | non => exact ⟨_, rfl, _, _, _, _, _, rfl, .ty "int", .base .non, kit_ty (by decide +kernel), false, rfl, iteF k⟩
    | str x hx => exact ⟨_, rfl, _, _, _, _, _, rfl, .ty "int", .base (.str x), kit_ty (by decide +kernel), false, rfl, iteF k⟩
    | lst e => exact ⟨_, rfl, _, _, _, _, _, rfl, .ty "int", .base (.lst e), kit_ty (by decide +kernel), false, rfl, iteF k⟩
    | tup e => exact ⟨_, rfl, _, _, _, _, _, rfl, .ty "int", .base (.tup e), kit_ty (by decide +kernel), false, rfl, iteF k⟩
theorem cal_is_whole (T : Txt P w K mg cl) : Cal P w K mg base CX0 1 "is_whole" ["thing", "low", "high"] (spW K) := by
  obtain ⟨f, fd, F, m⟩ := T.d_is_whole
  exact ⟨f, fd, ok_is_whole F T, m, F.kp, F.binds fun _ _ _ _ _ _ us hl => match us, hl with | [_, _, _], _ => rfl⟩
theorem all_filter {α : Type} (l : List α) (p : α → Bool) : l.all p = (l.filter fun c => !p c).isEmpty := by
  induction l with
  | nil => rfl
  | cons a l ih =>
    cases h : p a with
    | true => rw [List.all_cons, h, Bool.true_and, List.filter_cons_of_neg (by simp [h])]; exact ih
    | false => rw [List.all_cons, h, Bool.false_and, List.filter_cons_of_pos (by simp [h])]; rfl
theorem ok_is_name {f : Addr} {fd : FuncData} (F : Fun K "is_name" "is_name" s_is_name f fd) (T : Txt P w K mg cl) : FnOk P w K mg base CX0 1 f fd ["thing"] (spN K) := by
  refine F.ok sc_is_name (fun vs H Q E h => ?_) (fun cdv A outer s H vs Q E hr h => ?_)
  · obtain ⟨v, n, rfl, _⟩ := h
    rfl
  · obtain ⟨v, n, rfl, d, k⟩ := h
    have hu := hu_of hr
    refine ⟨_, (pss_cons (ps_if (PW.pt (pw_or (pt_not (pt_val (pe_callB call_isi (by rfl) T.n_isinstance (by decide +kernel) (pa_cons (pv 0) (pa_cons (pe_ty "str" T.n_str) pa_nil))))) (pw_or1 (pt_not (pt_chain op_le op_le pe_int (pe_callB call_len_str (by rfl) T.n_len PySem.boot_len (pa_cons (pv 0) pa_nil)) pe_int)))))
          (pss_one (ps_ret pe_bl)) pss_nil)
        (pss_one (ps_ret (pe_notT (pe_lc (own := [("sign", 1)]) (g := gName 1)  rfl sc_is_name.nd (pi_str (pv 0)) (blkOk_by (own := [("sign", 1)]) (N := ["thing", "sign"]) (sc := defScope s_is_name) (by decide +kernel)) (fun _ _ _ _ _ => pg_name (i := 1) sc_is_name.nd rfl (Or.inl rfl)) (fun _ _ _ _ _ => pts_one (pt_cmpR op_notIn_sign (pv 1) (pe_gl T.c_LETTERS) (by rfl))) (fun _ _ _ _ _ => (pv 1))))))), ?_⟩
    cases d with
    | str x hx =>
      refine ⟨_, rfl, _, _, _, _, _, rfl, .ty "str", .base (.str x), kit_ty (by decide +kernel), true, rfl, iteF ?_⟩
      refine ⟨_, rfl, _, rfl, hx, _, _, rfl, rfl, _, rfl, ?_⟩
      have no : ∀ b : Bool, isN (.str x) = b → Q (.bl b) H := fun b e => by rw [← e]; exact k H (Same.refl H)
      refine ite2 (fun h1 => ?_) (fun h1 => ?_)
      · refine ⟨_, _, rfl, rfl, _, rfl, ?_⟩
        have g1 : (1 : Int) ≤ x.length := of_decide_eq_true h1
        have e1 : isN (.str x) = (decide (x.length ≤ 8) && x.cps.toList.all fun c => decide (c ∈ letters)) := by
          show (decide (1 ≤ x.length) && decide (x.length ≤ 8) && _) = _
          rw [decide_eq_true (show 1 ≤ x.length by omega), Bool.true_and]
        refine ite2 (fun h2 => ?_) (fun h2 => ?_)
        · refine no false ?_
          have g2 : ¬ x.length ≤ 8 := by
            have := (Bool.not_eq_true' _).mp h2
            have := of_decide_eq_false this
            omega
          rw [e1, decide_eq_false g2, Bool.false_and]
        · have g2 : x.length ≤ 8 := by
            have := Bool.eq_false_iff.mpr h2
            have := of_decide_eq_true ((Bool.not_eq_false' _).mp this)
            omega
          rw [decide_eq_true g2, Bool.true_and] at e1
          refine ⟨_, rfl, x, rfl, fun D hD => lc_str (x := x) (fun i H' => H' = upd H D (.lst (((x.cps.toList.take i).filter fun c => !decide (c ∈ letters)).map fun c => V.str ⟨#[c]⟩))) rfl ?_ ?_⟩
          · rintro i c H' hc rfl
            have hi : i < x.cps.size := (Array.getElem?_eq_some_iff.mp hc).1
            have hc2 : x.cps.toList[i]? = some c := by rw [← hc]; simp
            have ht : x.cps.toList.take (i + 1) = x.cps.toList.take i ++ [c] := by rw [List.take_add_one, hc2]; rfl
            refine ⟨rfl, _, rfl, c, _, rfl, rfl, _, rfl, ?_⟩
            refine ite2 (fun h3 => ?_) (fun h3 => ?_)
            · refine ⟨_, rfl, _, upd_same, small1000 ?_, ?_⟩
              · rw [List.length_map]
                refine Nat.le_trans (List.length_filter_le _ _) (Nat.le_trans (List.length_take_le _ _) ?_)
                have : x.length = x.cps.size := rfl
                omega
              · rw [upd_upd, ht, List.filter_append, List.map_append, show List.filter (fun c => !decide (c ∈ letters)) [c] = [c] by rw [List.filter_cons_of_pos (by exact h3)]; rfl]
                rfl
            · rw [ht, List.filter_append, List.map_append, show List.filter (fun c => !decide (c ∈ letters)) [c] = [] by rw [List.filter_cons_of_neg (by exact h3)]; rfl]
              rw [List.map_nil, List.append_nil]
          · rintro H' rfl
            refine ⟨_, .inl ⟨_, SqL.of upd_same, rfl⟩, ?_⟩
            have sm : Same H (upd H D (.lst (((x.cps.toList.take x.cps.size).filter fun c => !decide (c ∈ letters)).map fun c => V.str ⟨#[c]⟩))) := fun b o e => by rw [upd_ne (ne_of_none e hD)]; exact e
            have q := k _ sm
            rw [e1] at q
            have ea : (x.cps.toList.all fun c => decide (c ∈ letters)) = !!(((x.cps.toList.take x.cps.size).filter fun c => !decide (c ∈ letters)).map fun c => V.str ⟨#[c]⟩).isEmpty := by
              rw [Bool.not_not, List.isEmpty_map, show x.cps.toList.take x.cps.size = x.cps.toList from List.take_of_length_le (by simp)]
              exact all_filter _ _
            rw [ea] at q
            exact q
      · refine ⟨_, rfl, iteT (no false ?_)⟩
        have g1 : ¬ (1 : Int) ≤ x.length := fun z => h1 (decide_eq_true z)
        show (decide (1 ≤ x.length) && decide (x.length ≤ 8) && _) = false
        rw [decide_eq_false (show ¬ 1 ≤ x.length by omega), Bool.false_and, Bool.false_and]
    | int x => exact ⟨_, rfl, _, _, _, _, _, rfl, .ty "str", .base (.int x), kit_ty (by decide +kernel), false, rfl, iteT (iteT (k H (Same.refl H)))⟩
    | bl b => exact ⟨_, rfl, _, _, _, _, _, rfl, .ty "str", .base (.bl b), kit_ty (by decide +kernel), false, rfl, iteT (iteT (k H (Same.refl H)))⟩
    | non => exact ⟨_, rfl, _, _, _, _, _, rfl, .ty "str", .base .non, kit_ty (by decide +kernel), false, rfl, iteT (iteT (k H (Same.refl H)))⟩
    | lst e => exact ⟨_, rfl, _, _, _, _, _, rfl, .ty "str", .base (.lst e), kit_ty (by decide +kernel), false, rfl, iteT (iteT (k H (Same.refl H)))⟩
    | tup e => exact ⟨_, rfl, _, _, _, _, _, rfl, .ty "str", .base (.tup e), kit_ty (by decide +kernel), false, rfl, iteT (iteT (k H (Same.refl H)))⟩
theorem cal_is_name (T : Txt P w K mg cl) : Cal P w K mg base CX0 1 "is_name" ["thing"] (spN K) := by
  obtain ⟨f, fd, F, m⟩ := T.d_is_name
  exact ⟨f, fd, ok_is_name F T, m, F.kp, F.binds fun _ _ _ _ _ _ us hl => match us, hl with | [_], _ => rfl⟩
end
end My
set_option Elab.async false
set_option linter.all false
set_option maxRecDepth 100000
set_option maxHeartbeats 1000000
namespace My
open PySem L2 Dw Wp
open C8 (pss_cut tCut)
set_option pp.maxSteps 600
/-! kins -/
def knC (cl : String → Addr) (g : Bool) : Addr := if g = true then cl "Grandchildren" else cl "Children"
def KnAt (cl : String → Addr) (H : Hp) (p : Addr) (g : Bool) (s : Str) : Prop := ∃ dx, H p = some (.ins (knC cl g) dx [("life", .str s)])
theorem KnAt.same {cl : String → Addr} {H H' : Hp} {p : Addr} {g : Bool} {s : Str} (h : KnAt cl H p g s) (S : Same H H') : KnAt cl H' p g s := h.imp fun _ q => S _ _ q
theorem isN_len {s : Str} (h : isN (.str s) = true) : s.length ≤ 8 := by
  have h : (decide (1 ≤ s.length) && decide (s.length ≤ 8) && _) = true := h
  exact of_decide_eq_true (Bool.and_eq_true_iff.mp (Bool.and_eq_true_iff.mp h).1).2
theorem sz8 {n : Nat} (h : n ≤ 8) : n ≤ sizeLine := by rw [sizeLine_eq]; omega
theorem isN_dm {K : PySem.W.Frag} {H : Hp} {s : Str} (h : isN (.str s) = true) : Dm K H (.str s) "str" := .str s (sz8 (isN_len h))
theorem but_same {d : Addr} {H H1 H' : Hp} (S : Same H H1) (k : But d H1 H') : But d H H' := fun b o e n => k b o (S b o e) n
theorem but_upd1 {d : Addr} {H : Hp} {o : HO} : But d H (upd H d o) := fun b u e n => by rw [upd_ne n]; exact e
def kText (g : Bool) (s : Str) : Str := Str.empty ++ (if g = true then ("grandchildren of " : Str) else ("children of " : Str)) ++ s
def spKinI (K : PySem.W.Frag) : Sp := fun vs H Q _ => ∃ (p C dx : Addr) (s : Str), vs = [.ref p, .str s] ∧ H p = some (.ins C dx []) ∧ isN (.str s) = true ∧ Cls K C ∧ NoAttr K C "life" ∧ ∀ H', But p H H' → H' p = some (.ins C dx [("life", .str s)]) → Q .non H'
def spKn (C : Addr) : Sp := fun vs H Q _ => ∃ (p dx : Addr) (s : Str), vs = [.ref p, .str s] ∧ H p = some (.ins C dx []) ∧ isN (.str s) = true ∧ ∀ H', But p H H' → H' p = some (.ins C dx [("life", .str s)]) → Q .non H'
def spKnEq (cl : String → Addr) (g : Bool) : Sp := fun vs H Q _ => ∃ (p q : Addr) (g' : Bool) (s s' : Str), vs = [.ref p, .ref q] ∧ KnAt cl H p g s ∧ KnAt cl H q g' s' ∧ Q (.bl (decide (g' = g) && decide (s = s'))) H
def spKnStr (cl : String → Addr) (g : Bool) : Sp := fun vs H Q _ => ∃ (p : Addr) (s : Str), vs = [.ref p] ∧ KnAt cl H p g s ∧ s.length ≤ 8 ∧ Q (.str (kText g s)) H
section
variable {P : Program} {w : World} {K : PySem.W.Frag} {mg : Str → Option Value} {base : Heap} {cl : String → Addr}
theorem kn_cl (T : Txt P w K mg cl) : ∀ g, Cls K (knC cl g)
  | false => T.cl_Children
  | true => T.cl_Grandchildren
theorem kn_na (T : Txt P w K mg cl) : ∀ g, NoAttr K (knC cl g) "life"
  | false => T.na_Children _ (by decide)
  | true => T.na_Grandchildren _ (by decide)
theorem kn_ty (T : Txt P w K mg cl) {H : Hp} {p : Addr} : ∀ {g s}, KnAt cl H p g s → TyX K H (.ref p) (.ref (knC cl g))
  | false, _, ⟨_, h⟩ => .base (.ins h T.cl_Children T.y_Children T.z1 T.z2 T.z3_Children)
  | true, _, ⟨_, h⟩ => .base (.ins h T.cl_Grandchildren T.y_Grandchildren T.z1 T.z2 T.z3_Grandchildren)
theorem kn_kit (T : Txt P w K mg cl) : ∀ g g', PySem.W.kitOne K (.ref (knC cl g')) (.ref (knC cl g)) = some (decide (g' = g))
  | false, false => T.k_Children_Children
  | false, true => T.k_Grandchildren_Children
  | true, false => T.k_Children_Grandchildren
  | true, true => T.k_Grandchildren_Grandchildren
theorem kn_nf (T : Txt P w K mg cl) : ∀ g g', PySem.W.notFirst K (knC cl g) (.ref (knC cl g')) = true
  | false, false => T.nf_Children_Children
  | false, true => T.nf_Children_Grandchildren
  | true, false => T.nf_Grandchildren_Children
  | true, true => T.nf_Grandchildren_Grandchildren
theorem kn_kin (T : Txt P w K mg cl) : ∀ g, PySem.W.kitOne K (.ref (knC cl g)) (.ref (cl "Kin")) = some true
  | false => T.k_Children_Kin
  | true => T.k_Grandchildren_Kin
theorem ok_Kin_init {f : Addr} {fd : FuncData} (F : Fun K "__init__" "Kin.__init__" s_Kin_init f fd) (T : Txt P w K mg cl) : FnOk P w K mg base (L2.CX P w) 2 f fd ["self", "life"] (spKinI K) := by
  refine F.okX sc_Kin_init (fun vs H Q E h => ?_) (fun cdv A outer s H vs Q E hr h => ?_)
  · obtain ⟨p, C, dx, s, rfl, _⟩ := h
    rfl
  · obtain ⟨p, C, dx, s, rfl, hp, hn, hC, hna, k⟩ := h
    have C_is_name : Cal P w K mg base CX0 1 "is_name" _ (spN K) := cal_is_name T
    refine ⟨_, (pss_cons (ps_if (pt_not (pt_val (pe_cal C_is_name (hr.mono (by decide)) (pa_cons (pv 1) pa_nil))))
          (pss_one (ps_raiseErr (k := 1) (okV := fun _ => True) rfl T.e_BadKin (fun _ _ _ _ => trivial) T.m_BadKin (hr.mono (by decide)) (takes_of rfl rfl rfl rfl) (by exact (pa_cons pe_str pa_nil)))) pss_nil)
        (pss_one (ps_fld (pv 0) (pv 1) rfl))), ?_⟩
    refine ⟨_, rfl, _, _, rfl, isN_dm hn, fun H1 S1 => ?_⟩
    rw [hn]
    refine ⟨_, rfl, iteF ?_⟩
    refine ⟨_, rfl, _, rfl, p, _, dx, _, rfl, S1 _ _ hp, hC, hna, (by show 0 < 1000; decide), ?_⟩
    exact k _ (but_same S1 but_upd1) upd_same
theorem ok_Children_init (T : Txt P w K mg cl) : ∃ fd, FnOk P w K mg base (L2.CX P w) 4 (He.ma K (cl "Children") "__init__") fd ["self", "life"] (spKn (cl "Children")) ∧ Binds K fd ["self", "life"] [] := by
  obtain ⟨kV, doc, pm, an, cda, ct, cc, hT⟩ := T.u_Children
  obtain ⟨fdB, FB0⟩ := T.ib_Kin
  have FB := ok_Kin_init (base := base) FB0 T
  have BB : Binds K fdB ["self", "life"] [] := FB0.binds fun _ _ _ _ _ _ us hl => match us, hl with | [_, _], _ => rfl
  refine ⟨_, fn_sup hT sc_Children_init (fun vs H Q E h => ?_) (fun A outer s H vs Q E hr h => ?_), sup_binds hT (fun us hl => match us, hl with | [_, _], _ => rfl)⟩
  · obtain ⟨p, dx, s, rfl, _⟩ := h
    rfl
  · obtain ⟨p, dx, s, rfl, hp, hn, k⟩ := h
    refine ⟨_, (wss_sup hT sc_Children_init ⟨_, rfl, rfl⟩ T.n_super FB (hr.mono (by decide)) BB (by first | exact pass0 | exact passL) (pa_cons (pv 1) pa_nil)
        (wss_of pss_nil) rfl rfl rfl ⟨_, rfl⟩ rfl), ?_⟩
    refine ⟨p, dx, _, rfl, hp, _, rfl, p, _, dx, s, rfl, hp, hn, T.cl_Children, T.na_Children _ (by decide), fun H' B hp' => ?_⟩
    exact k H' B hp'

theorem cal_Children_init (T : Txt P w K mg cl) : CalC P w K mg base (L2.CX P w) 4 (cl "Children") ["self", "life"] (spKn (cl "Children")) := by
  obtain ⟨fd, F, b⟩ := ok_Children_init (base := base) T
  exact ⟨_, fd, F, T.mk_Children, b⟩
theorem ok_Children_eq {f : Addr} {fd : FuncData} (F : Fun K "__eq__" "Children.__eq__" s_Children_eq f fd) (T : Txt P w K mg cl) : FnOk P w K mg base CX0 1 f fd ["self", "other"] (spKnEq cl false) := by
  refine F.ok sc_Children_eq (fun vs H Q E h => ?_) (fun cdv A outer s H vs Q E hr h => ?_)
  · obtain ⟨p, q, g', s0, s1, rfl, _⟩ := h
    rfl
  · obtain ⟨p, q, g', s0, s1, rfl, h1, h2, k⟩ := h
    refine ⟨_, (pss_one (ps_ret (pe_and (pe_callB call_isi (by rfl) T.n_isinstance (by decide +kernel) (pa_cons (pv 1) (pa_cons (pe_cls T.m_Children) pa_nil))) (pe_one (pe_cmpR op_eq (pe_fld (pv 0) rfl) (pe_fld (pv 1) rfl) (nomark _)))))), ?_⟩
    refine ⟨_, rfl, _, _, _, _, _, rfl, .own (cl "Children"), kn_ty T h2, kn_kit T false g', _, rfl, ite2 (fun e => ?_) (fun e => ?_)⟩
    · have e := of_decide_eq_true e
      subst e
      obtain ⟨d1, h1⟩ := h1
      obtain ⟨d2, h2⟩ := h2
      refine ⟨_, rfl, p, _, _, _, _, rfl, h1, kn_cl T _, kn_na T _, rfl, _, rfl, q, _, _, _, _, rfl, h2, kn_cl T _, kn_na T _, rfl, rfl, ?_⟩
      rw [decide_eq_true rfl, Bool.true_and] at k
      rw [show decide (V.str s0 = V.str s1) = decide (s0 = s1) from decide_eq_decide.mpr ⟨V.str.inj, congrArg V.str⟩]
      exact k
    · rw [Bool.eq_false_iff.mpr e, Bool.false_and] at k
      exact k

theorem cal_Children_eq (T : Txt P w K mg cl) : CalM P w K mg base CX0 1 (cl "Children") "__eq__" ["self", "other"] (spKnEq cl false) := by
  obtain ⟨f, fd, F, m⟩ := T.d_Children_eq
  exact ⟨f, fd, ok_Children_eq F T, m, F.binds fun _ _ _ _ _ _ us hl => match us, hl with | [_, _], _ => rfl⟩
theorem ok_Children_str {f : Addr} {fd : FuncData} (F : Fun K "__str__" "Children.__str__" s_Children_str f fd) (T : Txt P w K mg cl) : FnOk P w K mg base CX0 1 f fd ["self"] (spKnStr cl false) := by
  refine F.ok sc_Children_str (fun vs H Q E h => ?_) (fun cdv A outer s H vs Q E hr h => ?_)
  · obtain ⟨p, s0, rfl, _⟩ := h
    rfl
  · obtain ⟨p, s0, rfl, h1, hl, k⟩ := h
    refine ⟨_, (pss_one (ps_ret (pe_joined (.cons pe_str (.cons (pe_fmt (pe_fld (pv 0) rfl)) .nil))))), ?_⟩
    obtain ⟨d1, h1⟩ := h1
    have e1 : (Str.empty ++ ("children of " : Str)).length ≤ 17 := by decide
    refine ⟨_, rfl, Nat.le_trans e1 (by rw [sizeLine_eq]; decide), _, rfl, p, _, _, _, _, rfl, h1, kn_cl T false, kn_na T false, rfl, .inl ⟨s0, rfl, sz8 hl, s0, rfl, ?_, k⟩⟩
    rw [Str.length_append, sizeLine_eq]
    omega

theorem cal_Children_str (T : Txt P w K mg cl) : CalM P w K mg base CX0 1 (cl "Children") "__str__" ["self"] (spKnStr cl false) := by
  obtain ⟨f, fd, F, m⟩ := T.d_Children_str
  exact ⟨f, fd, ok_Children_str F T, m, F.binds fun _ _ _ _ _ _ us hl => match us, hl with | [_], _ => rfl⟩
theorem ok_Grandchildren_init (T : Txt P w K mg cl) : ∃ fd, FnOk P w K mg base (L2.CX P w) 4 (He.ma K (cl "Grandchildren") "__init__") fd ["self", "life"] (spKn (cl "Grandchildren")) ∧ Binds K fd ["self", "life"] [] := by
  obtain ⟨kV, doc, pm, an, cda, ct, cc, hT⟩ := T.u_Grandchildren
  obtain ⟨fdB, FB0⟩ := T.ib_Kin
  have FB := ok_Kin_init (base := base) FB0 T
  have BB : Binds K fdB ["self", "life"] [] := FB0.binds fun _ _ _ _ _ _ us hl => match us, hl with | [_, _], _ => rfl
  refine ⟨_, fn_sup hT sc_Grandchildren_init (fun vs H Q E h => ?_) (fun A outer s H vs Q E hr h => ?_), sup_binds hT (fun us hl => match us, hl with | [_, _], _ => rfl)⟩
  · obtain ⟨p, dx, s, rfl, _⟩ := h
    rfl
  · obtain ⟨p, dx, s, rfl, hp, hn, k⟩ := h
    refine ⟨_, (wss_sup hT sc_Grandchildren_init ⟨_, rfl, rfl⟩ T.n_super FB (hr.mono (by decide)) BB (by first | exact pass0 | exact passL) (pa_cons (pv 1) pa_nil)
        (wss_of pss_nil) rfl rfl rfl ⟨_, rfl⟩ rfl), ?_⟩
    refine ⟨p, dx, _, rfl, hp, _, rfl, p, _, dx, s, rfl, hp, hn, T.cl_Grandchildren, T.na_Grandchildren _ (by decide), fun H' B hp' => ?_⟩
    exact k H' B hp'

theorem cal_Grandchildren_init (T : Txt P w K mg cl) : CalC P w K mg base (L2.CX P w) 4 (cl "Grandchildren") ["self", "life"] (spKn (cl "Grandchildren")) := by
  obtain ⟨fd, F, b⟩ := ok_Grandchildren_init (base := base) T
  exact ⟨_, fd, F, T.mk_Grandchildren, b⟩
theorem ok_Grandchildren_eq {f : Addr} {fd : FuncData} (F : Fun K "__eq__" "Grandchildren.__eq__" s_Grandchildren_eq f fd) (T : Txt P w K mg cl) : FnOk P w K mg base CX0 1 f fd ["self", "other"] (spKnEq cl true) := by
  refine F.ok sc_Grandchildren_eq (fun vs H Q E h => ?_) (fun cdv A outer s H vs Q E hr h => ?_)
  · obtain ⟨p, q, g', s0, s1, rfl, _⟩ := h
    rfl
  · obtain ⟨p, q, g', s0, s1, rfl, h1, h2, k⟩ := h
    refine ⟨_, (pss_one (ps_ret (pe_and (pe_callB call_isi (by rfl) T.n_isinstance (by decide +kernel) (pa_cons (pv 1) (pa_cons (pe_cls T.m_Grandchildren) pa_nil))) (pe_one (pe_cmpR op_eq (pe_fld (pv 0) rfl) (pe_fld (pv 1) rfl) (nomark _)))))), ?_⟩
    refine ⟨_, rfl, _, _, _, _, _, rfl, .own (cl "Grandchildren"), kn_ty T h2, kn_kit T true g', _, rfl, ite2 (fun e => ?_) (fun e => ?_)⟩
    · have e := of_decide_eq_true e
      subst e
      obtain ⟨d1, h1⟩ := h1
      obtain ⟨d2, h2⟩ := h2
      refine ⟨_, rfl, p, _, _, _, _, rfl, h1, kn_cl T _, kn_na T _, rfl, _, rfl, q, _, _, _, _, rfl, h2, kn_cl T _, kn_na T _, rfl, rfl, ?_⟩
      rw [decide_eq_true rfl, Bool.true_and] at k
      rw [show decide (V.str s0 = V.str s1) = decide (s0 = s1) from decide_eq_decide.mpr ⟨V.str.inj, congrArg V.str⟩]
      exact k
    · rw [Bool.eq_false_iff.mpr e, Bool.false_and] at k
      exact k

theorem cal_Grandchildren_eq (T : Txt P w K mg cl) : CalM P w K mg base CX0 1 (cl "Grandchildren") "__eq__" ["self", "other"] (spKnEq cl true) := by
  obtain ⟨f, fd, F, m⟩ := T.d_Grandchildren_eq
  exact ⟨f, fd, ok_Grandchildren_eq F T, m, F.binds fun _ _ _ _ _ _ us hl => match us, hl with | [_, _], _ => rfl⟩
theorem ok_Grandchildren_str {f : Addr} {fd : FuncData} (F : Fun K "__str__" "Grandchildren.__str__" s_Grandchildren_str f fd) (T : Txt P w K mg cl) : FnOk P w K mg base CX0 1 f fd ["self"] (spKnStr cl true) := by
  refine F.ok sc_Grandchildren_str (fun vs H Q E h => ?_) (fun cdv A outer s H vs Q E hr h => ?_)
  · obtain ⟨p, s0, rfl, _⟩ := h
    rfl
  · obtain ⟨p, s0, rfl, h1, hl, k⟩ := h
    refine ⟨_, (pss_one (ps_ret (pe_joined (.cons pe_str (.cons (pe_fmt (pe_fld (pv 0) rfl)) .nil))))), ?_⟩
    obtain ⟨d1, h1⟩ := h1
    have e1 : (Str.empty ++ ("grandchildren of " : Str)).length ≤ 17 := by decide
    refine ⟨_, rfl, Nat.le_trans e1 (by rw [sizeLine_eq]; decide), _, rfl, p, _, _, _, _, rfl, h1, kn_cl T true, kn_na T true, rfl, .inl ⟨s0, rfl, sz8 hl, s0, rfl, ?_, k⟩⟩
    rw [Str.length_append, sizeLine_eq]
    omega

theorem cal_Grandchildren_str (T : Txt P w K mg cl) : CalM P w K mg base CX0 1 (cl "Grandchildren") "__str__" ["self"] (spKnStr cl true) := by
  obtain ⟨f, fd, F, m⟩ := T.d_Grandchildren_str
  exact ⟨f, fd, ok_Grandchildren_str F T, m, F.binds fun _ _ _ _ _ _ us hl => match us, hl with | [_], _ => rfl⟩
end
end My
set_option Elab.async false
set_option linter.all false
set_option maxRecDepth 100000
set_option maxHeartbeats 1000000
namespace My
open PySem L2 Dw Wp
open C8 (pss_cut tCut)
set_option pp.maxSteps 600
/-! takers -/
inductive K3 where
  | told
  | whole
  | living
deriving DecidableEq
inductive Tk where
  | nm (m : Bool) (s : Str)
  | kn (c : K3) (g : Bool) (s : Str)
  | ag (f : Bool) (g : Bool) (s : Str) (a : Int)
deriving DecidableEq
inductive Tc where
  | named
  | mate
  | told
  | whole
  | living
  | reaching
  | first
deriving DecidableEq
def Tk.tc : Tk → Tc
  | .nm false _ => .named
  | .nm true _ => .mate
  | .kn .told _ _ => .told
  | .kn .whole _ _ => .whole
  | .kn .living _ _ => .living
  | .ag false _ _ _ => .reaching
  | .ag true _ _ _ => .first
def Tk.life : Tk → Str
  | .nm _ s => s
  | .kn _ _ s => s
  | .ag _ _ s _ => s
def Tk.kin : Tk → Option Bool
  | .nm _ _ => none
  | .kn _ g _ => some g
  | .ag _ g _ _ => some g
def Tk.age : Tk → Int
  | .ag _ _ _ a => a
  | _ => 0
def tcC (cl : String → Addr) : Tc → Addr
  | .named => cl "Named"
  | .mate => cl "Mate"
  | .told => cl "Told"
  | .whole => cl "Whole"
  | .living => cl "Living"
  | .reaching => cl "Reaching"
  | .first => cl "FirstReaching"
def tkF (t k : Addr) : Tk → List (Str × V)
  | .nm _ s => [("lives_named", .ref t), ("life", .str s)]
  | .kn _ _ _ => [("lives_named", .ref t), ("kin", .ref k)]
  | .ag _ _ _ a => [("lives_named", .ref t), ("kin", .ref k), ("age", .int a)]
def TkAt (cl : String → Addr) (H : Hp) (p : Addr) (x : Tk) : Prop := ∃ dx t k, H p = some (.ins (tcC cl x.tc) dx (tkF t k x)) ∧ H t = some (.tup [.str x.life]) ∧ ∀ g, x.kin = some g → KnAt cl H k g x.life
theorem TkAt.same {cl : String → Addr} {H H' : Hp} {p : Addr} {x : Tk} (h : TkAt cl H p x) (S : Same H H') : TkAt cl H' p x := by
  obtain ⟨dx, t, k, h1, h2, h3⟩ := h
  exact ⟨dx, t, k, S _ _ h1, S _ _ h2, fun g e => (h3 g e).same S⟩
theorem Tk.of_named {x : Tk} (h : x.tc = .named) : ∃ s, x = .nm false s := by
  obtain ⟨m, s⟩ | ⟨c, g, s⟩ | ⟨f, g, s, a⟩ := x
  · cases m <;> first | exact ⟨_, rfl⟩ | cases h
  · cases c <;> first | exact ⟨_, _, rfl⟩ | cases h
  · cases f <;> first | exact ⟨_, _, _, rfl⟩ | cases h
theorem Tk.of_mate {x : Tk} (h : x.tc = .mate) : ∃ s, x = .nm true s := by
  obtain ⟨m, s⟩ | ⟨c, g, s⟩ | ⟨f, g, s, a⟩ := x
  · cases m <;> first | exact ⟨_, rfl⟩ | cases h
  · cases c <;> first | exact ⟨_, _, rfl⟩ | cases h
  · cases f <;> first | exact ⟨_, _, _, rfl⟩ | cases h
theorem Tk.of_told {x : Tk} (h : x.tc = .told) : ∃ g s, x = .kn .told g s := by
  obtain ⟨m, s⟩ | ⟨c, g, s⟩ | ⟨f, g, s, a⟩ := x
  · cases m <;> first | exact ⟨_, rfl⟩ | cases h
  · cases c <;> first | exact ⟨_, _, rfl⟩ | cases h
  · cases f <;> first | exact ⟨_, _, _, rfl⟩ | cases h
theorem Tk.of_whole {x : Tk} (h : x.tc = .whole) : ∃ g s, x = .kn .whole g s := by
  obtain ⟨m, s⟩ | ⟨c, g, s⟩ | ⟨f, g, s, a⟩ := x
  · cases m <;> first | exact ⟨_, rfl⟩ | cases h
  · cases c <;> first | exact ⟨_, _, rfl⟩ | cases h
  · cases f <;> first | exact ⟨_, _, _, rfl⟩ | cases h
theorem Tk.of_living {x : Tk} (h : x.tc = .living) : ∃ g s, x = .kn .living g s := by
  obtain ⟨m, s⟩ | ⟨c, g, s⟩ | ⟨f, g, s, a⟩ := x
  · cases m <;> first | exact ⟨_, rfl⟩ | cases h
  · cases c <;> first | exact ⟨_, _, rfl⟩ | cases h
  · cases f <;> first | exact ⟨_, _, _, rfl⟩ | cases h
theorem Tk.of_reaching {x : Tk} (h : x.tc = .reaching) : ∃ g s a, x = .ag false g s a := by
  obtain ⟨m, s⟩ | ⟨c, g, s⟩ | ⟨f, g, s, a⟩ := x
  · cases m <;> first | exact ⟨_, rfl⟩ | cases h
  · cases c <;> first | exact ⟨_, _, rfl⟩ | cases h
  · cases f <;> first | exact ⟨_, _, _, rfl⟩ | cases h
theorem Tk.of_first {x : Tk} (h : x.tc = .first) : ∃ g s a, x = .ag true g s a := by
  obtain ⟨m, s⟩ | ⟨c, g, s⟩ | ⟨f, g, s, a⟩ := x
  · cases m <;> first | exact ⟨_, rfl⟩ | cases h
  · cases c <;> first | exact ⟨_, _, rfl⟩ | cases h
  · cases f <;> first | exact ⟨_, _, _, rfl⟩ | cases h
/-- what is handed where a kin is due -/
def KdAt (K : PySem.W.Frag) (cl : String → Addr) (H : Hp) (v : V) : Option (Bool × Str) → Prop
  | some r => ∃ k, v = .ref k ∧ KnAt cl H k r.1 r.2
  | none => ∃ t, TyX K H v t ∧ PySem.W.kitOne K t (.ref (cl "Kin")) = some false
/-- what is compared with a taker -/
def OthAt (cl : String → Addr) (H : Hp) (y : V) : Option Tk → Prop
  | some x => ∃ q, y = .ref q ∧ TkAt cl H q x
  | none => (∃ z, y = .str z) ∨ ∃ q xs, y = .ref q ∧ H q = some (.tup xs)
def What (CB : Addr) (E : XK) (H : Hp) (s : Str) : Prop := ∀ e, H e = none → E (.ref CB) (some e) (upd H e (.xd [("what", .str s)]))
def spTkI (K : PySem.W.Frag) : Sp := fun vs H Q _ => ∃ (p C dx : Addr) (s : Str), vs = [.ref p, .str s] ∧ H p = some (.ins C dx []) ∧ Cls K C ∧ NoAttr K C "lives_named" ∧ ∀ H' t, But p H H' → H' t = some (.tup [.str s]) → H' p = some (.ins C dx [("lives_named", .ref t)]) → Q .non H'
def spCkK (K : PySem.W.Frag) (cl : String → Addr) : Sp := fun vs H Q E => ∃ (v : V) (r : Option (Bool × Str)), vs = [v] ∧ KdAt K cl H v r ∧ (r ≠ none → Q .non H) ∧ (r = none → What (cl "BadTaker") E H "kin")
def spCkA (K : PySem.W.Frag) (cl : String → Addr) : Sp := fun vs H Q E => ∃ (v : V) (n : String), vs = [v] ∧ Dm K H v n ∧ (isW 0 1000000 v = true → Q .non H) ∧ (isW 0 1000000 v = false → What (cl "BadTaker") E H "age")
def spNm (K : PySem.W.Frag) (cl : String → Addr) (m : Bool) : Sp := fun vs H Q E => ∃ (p dx : Addr) (v : V) (n : String), vs = [.ref p, v] ∧ H p = some (.ins (tcC cl (Tk.nm m Str.empty).tc) dx []) ∧ Dm K H v n ∧ (∀ s, v = .str s → isN v = true → ∀ H', But p H H' → TkAt cl H' p (.nm m s) → Q .non H') ∧
  (isN v = false → ∀ G, Same H G → What (cl "BadTaker") E G "life")
def spKd (K : PySem.W.Frag) (cl : String → Addr) (c : K3) : Sp := fun vs H Q E => ∃ (p dx : Addr) (v : V) (r : Option (Bool × Str)), vs = [.ref p, v] ∧ H p = some (.ins (tcC cl (Tk.kn c false Str.empty).tc) dx []) ∧ KdAt K cl H v r ∧ (∀ g s, r = some (g, s) → ∀ H', But p H H' → TkAt cl H' p (.kn c g s) → Q .non H') ∧
  (r = none → What (cl "BadTaker") E H "kin")
def spAg (K : PySem.W.Frag) (cl : String → Addr) (f : Bool) : Sp := fun vs H Q E => ∃ (p dx : Addr) (v a : V) (n : String) (r : Option (Bool × Str)), vs = [.ref p, v, a] ∧ H p = some (.ins (tcC cl (Tk.ag f false Str.empty 0).tc) dx []) ∧ KdAt K cl H v r ∧ Dm K H a n ∧
  (∀ g s i, r = some (g, s) → a = .int i → isW 0 1000000 a = true → ∀ H', But p H H' → TkAt cl H' p (.ag f g s i) → Q .non H') ∧ (r = none → What (cl "BadTaker") E H "kin") ∧ (r ≠ none → isW 0 1000000 a = false → What (cl "BadTaker") E H "age")
theorem KnAt.but {cl : String → Addr} {H H' : Hp} {p k : Addr} {g : Bool} {s : Str} (h : KnAt cl H k g s) (B : But p H H') (n : k ≠ p) : KnAt cl H' k g s := h.imp fun _ q => B _ _ q n
section
variable {P : Program} {w : World} {K : PySem.W.Frag} {mg : Str → Option Value} {base : Heap} {cl : String → Addr}
theorem tc_cl (T : Txt P w K mg cl) : ∀ c, Cls K (tcC cl c)
  | .named => T.cl_Named
  | .mate => T.cl_Mate
  | .told => T.cl_Told
  | .whole => T.cl_Whole
  | .living => T.cl_Living
  | .reaching => T.cl_Reaching
  | .first => T.cl_FirstReaching
theorem tc_ln (T : Txt P w K mg cl) : ∀ c, NoAttr K (tcC cl c) "lives_named"
  | .named => T.na_Named _ (by decide)
  | .mate => T.na_Mate _ (by decide)
  | .told => T.na_Told _ (by decide)
  | .whole => T.na_Whole _ (by decide)
  | .living => T.na_Living _ (by decide)
  | .reaching => T.na_Reaching _ (by decide)
  | .first => T.na_FirstReaching _ (by decide)
theorem tc_kit (T : Txt P w K mg cl) : ∀ c c', PySem.W.kitOne K (.ref (tcC cl c')) (.ref (tcC cl c)) = some (decide (c' = c))
  | .named, .named => T.k_Named_Named
  | .named, .mate => T.k_Mate_Named
  | .named, .told => T.k_Told_Named
  | .named, .whole => T.k_Whole_Named
  | .named, .living => T.k_Living_Named
  | .named, .reaching => T.k_Reaching_Named
  | .named, .first => T.k_FirstReaching_Named
  | .mate, .named => T.k_Named_Mate
  | .mate, .mate => T.k_Mate_Mate
  | .mate, .told => T.k_Told_Mate
  | .mate, .whole => T.k_Whole_Mate
  | .mate, .living => T.k_Living_Mate
  | .mate, .reaching => T.k_Reaching_Mate
  | .mate, .first => T.k_FirstReaching_Mate
  | .told, .named => T.k_Named_Told
  | .told, .mate => T.k_Mate_Told
  | .told, .told => T.k_Told_Told
  | .told, .whole => T.k_Whole_Told
  | .told, .living => T.k_Living_Told
  | .told, .reaching => T.k_Reaching_Told
  | .told, .first => T.k_FirstReaching_Told
  | .whole, .named => T.k_Named_Whole
  | .whole, .mate => T.k_Mate_Whole
  | .whole, .told => T.k_Told_Whole
  | .whole, .whole => T.k_Whole_Whole
  | .whole, .living => T.k_Living_Whole
  | .whole, .reaching => T.k_Reaching_Whole
  | .whole, .first => T.k_FirstReaching_Whole
  | .living, .named => T.k_Named_Living
  | .living, .mate => T.k_Mate_Living
  | .living, .told => T.k_Told_Living
  | .living, .whole => T.k_Whole_Living
  | .living, .living => T.k_Living_Living
  | .living, .reaching => T.k_Reaching_Living
  | .living, .first => T.k_FirstReaching_Living
  | .reaching, .named => T.k_Named_Reaching
  | .reaching, .mate => T.k_Mate_Reaching
  | .reaching, .told => T.k_Told_Reaching
  | .reaching, .whole => T.k_Whole_Reaching
  | .reaching, .living => T.k_Living_Reaching
  | .reaching, .reaching => T.k_Reaching_Reaching
  | .reaching, .first => T.k_FirstReaching_Reaching
  | .first, .named => T.k_Named_FirstReaching
  | .first, .mate => T.k_Mate_FirstReaching
  | .first, .told => T.k_Told_FirstReaching
  | .first, .whole => T.k_Whole_FirstReaching
  | .first, .living => T.k_Living_FirstReaching
  | .first, .reaching => T.k_Reaching_FirstReaching
  | .first, .first => T.k_FirstReaching_FirstReaching
theorem tc_nf (T : Txt P w K mg cl) : ∀ c c', PySem.W.notFirst K (tcC cl c) (.ref (tcC cl c')) = true
  | .named, .named => T.nf_Named_Named
  | .named, .mate => T.nf_Named_Mate
  | .named, .told => T.nf_Named_Told
  | .named, .whole => T.nf_Named_Whole
  | .named, .living => T.nf_Named_Living
  | .named, .reaching => T.nf_Named_Reaching
  | .named, .first => T.nf_Named_FirstReaching
  | .mate, .named => T.nf_Mate_Named
  | .mate, .mate => T.nf_Mate_Mate
  | .mate, .told => T.nf_Mate_Told
  | .mate, .whole => T.nf_Mate_Whole
  | .mate, .living => T.nf_Mate_Living
  | .mate, .reaching => T.nf_Mate_Reaching
  | .mate, .first => T.nf_Mate_FirstReaching
  | .told, .named => T.nf_Told_Named
  | .told, .mate => T.nf_Told_Mate
  | .told, .told => T.nf_Told_Told
  | .told, .whole => T.nf_Told_Whole
  | .told, .living => T.nf_Told_Living
  | .told, .reaching => T.nf_Told_Reaching
  | .told, .first => T.nf_Told_FirstReaching
  | .whole, .named => T.nf_Whole_Named
  | .whole, .mate => T.nf_Whole_Mate
  | .whole, .told => T.nf_Whole_Told
  | .whole, .whole => T.nf_Whole_Whole
  | .whole, .living => T.nf_Whole_Living
  | .whole, .reaching => T.nf_Whole_Reaching
  | .whole, .first => T.nf_Whole_FirstReaching
  | .living, .named => T.nf_Living_Named
  | .living, .mate => T.nf_Living_Mate
  | .living, .told => T.nf_Living_Told
  | .living, .whole => T.nf_Living_Whole
  | .living, .living => T.nf_Living_Living
  | .living, .reaching => T.nf_Living_Reaching
  | .living, .first => T.nf_Living_FirstReaching
  | .reaching, .named => T.nf_Reaching_Named
  | .reaching, .mate => T.nf_Reaching_Mate
  | .reaching, .told => T.nf_Reaching_Told
  | .reaching, .whole => T.nf_Reaching_Whole
  | .reaching, .living => T.nf_Reaching_Living
  | .reaching, .reaching => T.nf_Reaching_Reaching
  | .reaching, .first => T.nf_Reaching_FirstReaching
  | .first, .named => T.nf_FirstReaching_Named
  | .first, .mate => T.nf_FirstReaching_Mate
  | .first, .told => T.nf_FirstReaching_Told
  | .first, .whole => T.nf_FirstReaching_Whole
  | .first, .living => T.nf_FirstReaching_Living
  | .first, .reaching => T.nf_FirstReaching_Reaching
  | .first, .first => T.nf_FirstReaching_FirstReaching
theorem tc_kstr (T : Txt P w K mg cl) : ∀ c, PySem.W.kitOne K (.type "str") (.ref (tcC cl c)) = some false
  | .named => T.k_str_Named
  | .mate => T.k_str_Mate
  | .told => T.k_str_Told
  | .whole => T.k_str_Whole
  | .living => T.k_str_Living
  | .reaching => T.k_str_Reaching
  | .first => T.k_str_FirstReaching
theorem tc_nstr (T : Txt P w K mg cl) : ∀ c, PySem.W.notFirst K (tcC cl c) (.type "str") = true
  | .named => T.nf_Named_str
  | .mate => T.nf_Mate_str
  | .told => T.nf_Told_str
  | .whole => T.nf_Whole_str
  | .living => T.nf_Living_str
  | .reaching => T.nf_Reaching_str
  | .first => T.nf_FirstReaching_str
theorem tc_ktup (T : Txt P w K mg cl) : ∀ c, PySem.W.kitOne K (.type "tuple") (.ref (tcC cl c)) = some false
  | .named => T.k_tuple_Named
  | .mate => T.k_tuple_Mate
  | .told => T.k_tuple_Told
  | .whole => T.k_tuple_Whole
  | .living => T.k_tuple_Living
  | .reaching => T.k_tuple_Reaching
  | .first => T.k_tuple_FirstReaching
theorem tc_ntup (T : Txt P w K mg cl) : ∀ c, PySem.W.notFirst K (tcC cl c) (.type "tuple") = true
  | .named => T.nf_Named_tuple
  | .mate => T.nf_Mate_tuple
  | .told => T.nf_Told_tuple
  | .whole => T.nf_Whole_tuple
  | .living => T.nf_Living_tuple
  | .reaching => T.nf_Reaching_tuple
  | .first => T.nf_FirstReaching_tuple
theorem tc_tk (T : Txt P w K mg cl) : ∀ c, PySem.W.kitOne K (.ref (tcC cl c)) (.ref (cl "Taker")) = some true
  | .named => T.k_Named_Taker
  | .mate => T.k_Mate_Taker
  | .told => T.k_Told_Taker
  | .whole => T.k_Whole_Taker
  | .living => T.k_Living_Taker
  | .reaching => T.k_Reaching_Taker
  | .first => T.k_FirstReaching_Taker
theorem tc_ty (T : Txt P w K mg cl) {H : Hp} {p dx : Addr} {fs : List (Str × V)} : ∀ {c}, H p = some (.ins (tcC cl c) dx fs) → TyX K H (.ref p) (.ref (tcC cl c))
  | .named, h => .base (.ins h T.cl_Named T.y_Named T.z1 T.z2 T.z3_Named)
  | .mate, h => .base (.ins h T.cl_Mate T.y_Mate T.z1 T.z2 T.z3_Mate)
  | .told, h => .base (.ins h T.cl_Told T.y_Told T.z1 T.z2 T.z3_Told)
  | .whole, h => .base (.ins h T.cl_Whole T.y_Whole T.z1 T.z2 T.z3_Whole)
  | .living, h => .base (.ins h T.cl_Living T.y_Living T.z1 T.z2 T.z3_Living)
  | .reaching, h => .base (.ins h T.cl_Reaching T.y_Reaching T.z1 T.z2 T.z3_Reaching)
  | .first, h => .base (.ins h T.cl_FirstReaching T.y_FirstReaching T.z1 T.z2 T.z3_FirstReaching)
theorem ok_Taker_init {f : Addr} {fd : FuncData} (F : Fun K "__init__" "Taker.__init__" s_Taker_init f fd) (T : Txt P w K mg cl) : FnOk P w K mg base CX0 1 f fd ["self", "life"] (spTkI K) := by
  refine F.ok sc_Taker_init (fun vs H Q E h => ?_) (fun cdv A outer s H vs Q E hr h => ?_)
  · obtain ⟨p, C, dx, s, rfl, _⟩ := h
    rfl
  · obtain ⟨p, C, dx, s, rfl, hp, hC, hna, k⟩ := h
    refine ⟨_, (pss_one (ps_fld (pv 0) (pe_tup (pa_cons (pv 1) pa_nil)) rfl)), ?_⟩
    refine ⟨_, rfl, (by show 1 ≤ sizeLine; rw [sizeLine_eq]; decide), fun t ht => ?_⟩
    refine ⟨_, rfl, p, _, dx, _, rfl, by rw [upd_ne (ne_of_none hp ht)]; exact hp, hC, hna, (by show 0 < 1000; decide), ?_⟩
    refine k _ t (fun b o e n => by rw [upd_ne n, upd_ne (ne_of_none e ht)]; exact e) (by rw [upd_ne (Ne.symm (ne_of_none hp ht))]; exact upd_same) upd_same
theorem ok_check_kin {f : Addr} {fd : FuncData} (F : Fun K "check_kin" "check_kin" s_check_kin f fd) (T : Txt P w K mg cl) : FnOk P w K mg base (L2.CX P w) 2 f fd ["kin"] (spCkK K cl) := by
  refine F.okX sc_check_kin (fun vs H Q E h => ?_) (fun cdv A outer s H vs Q E hr h => ?_)
  · obtain ⟨v, r, rfl, _⟩ := h
    rfl
  · obtain ⟨v, r, rfl, hd, k, ke⟩ := h
    refine ⟨_, (pss_one (ps_if (pt_not (pt_val (pe_callB call_isi (by rfl) T.n_isinstance (by decide +kernel) (pa_cons (pv 0) (pa_cons (pe_cls T.m_Kin) pa_nil)))))
          (pss_one (ps_raiseErr (k := 1) (okV := fun _ => True) rfl T.e_BadTaker (fun _ _ _ _ => trivial) T.m_BadTaker (hr.mono (by decide)) (takes_of rfl rfl rfl rfl) (by exact (pa_cons pe_str pa_nil)))) pss_nil)), ?_⟩
    cases r with
    | some r =>
      obtain ⟨q, rfl, hq⟩ := hd
      exact ⟨_, rfl, _, _, _, _, _, rfl, .own (cl "Kin"), kn_ty T hq, kn_kin T _, _, rfl, iteF (k (by simp))⟩
    | none =>
      obtain ⟨t, ht, hk⟩ := hd
      exact ⟨_, rfl, _, _, _, _, _, rfl, .own (cl "Kin"), ht, hk, _, rfl, iteT ⟨rfl, trivial, ke rfl⟩⟩
theorem cal_check_kin (T : Txt P w K mg cl) : Cal P w K mg base (L2.CX P w) 2 "check_kin" ["kin"] (spCkK K cl) := by
  obtain ⟨f, fd, F, m⟩ := T.d_check_kin
  exact ⟨f, fd, ok_check_kin F T, m, F.kp, F.binds fun _ _ _ _ _ _ us hl => match us, hl with | [_], _ => rfl⟩
theorem ok_check_age {f : Addr} {fd : FuncData} (F : Fun K "check_age" "check_age" s_check_age f fd) (T : Txt P w K mg cl) : FnOk P w K mg base (L2.CX P w) 2 f fd ["age"] (spCkA K cl) := by
  refine F.okX sc_check_age (fun vs H Q E h => ?_) (fun cdv A outer s H vs Q E hr h => ?_)
  · obtain ⟨v, n, rfl, _⟩ := h
    rfl
  · obtain ⟨v, n, rfl, hd, k, ke⟩ := h
    have C_is_whole : Cal P w K mg base CX0 1 "is_whole" _ (spW K) := cal_is_whole T
    refine ⟨_, (pss_one (ps_if (pt_not (pt_val (pe_cal C_is_whole (hr.mono (by decide)) (pa_cons (pv 0) (pa_cons pe_int (pa_cons (pe_gl T.c_MOST) pa_nil))))))
          (pss_one (ps_raiseErr (k := 1) (okV := fun _ => True) rfl T.e_BadTaker (fun _ _ _ _ => trivial) T.m_BadTaker (hr.mono (by decide)) (takes_of rfl rfl rfl rfl) (by exact (pa_cons pe_str pa_nil)))) pss_nil)), ?_⟩
    refine ⟨_, rfl, _, _, _, _, rfl, hd, ?_⟩
    cases e : isW 0 1000000 v with
    | true => exact ⟨_, rfl, iteF (k e)⟩
    | false => exact ⟨_, rfl, iteT ⟨rfl, trivial, ke e⟩⟩
theorem cal_check_age (T : Txt P w K mg cl) : Cal P w K mg base (L2.CX P w) 2 "check_age" ["age"] (spCkA K cl) := by
  obtain ⟨f, fd, F, m⟩ := T.d_check_age
  exact ⟨f, fd, ok_check_age F T, m, F.kp, F.binds fun _ _ _ _ _ _ us hl => match us, hl with | [_], _ => rfl⟩
theorem ok_Named_init (T : Txt P w K mg cl) : ∃ fd, FnOk P w K mg base (L2.CX P w) 4 (He.ma K (cl "Named") "__init__") fd ["self", "life"] (spNm K cl false) ∧ Binds K fd ["self", "life"] [] := by
  obtain ⟨kV, doc, pm, an, cda, ct, cc, hT⟩ := T.u_Named
  obtain ⟨fdB, FB0⟩ := T.ib_Taker
  have FB := ok_Taker_init (base := base) FB0 T
  have BB : Binds K fdB ["self", "life"] [] := FB0.binds fun _ _ _ _ _ _ us hl => match us, hl with | [_, _], _ => rfl
  refine ⟨_, fn_sup hT sc_Named_init (fun vs H Q E h => ?_) (fun A outer s H vs Q E hr h => ?_), sup_binds hT (fun us hl => match us, hl with | [_, _], _ => rfl)⟩
  · obtain ⟨p, dx, v, n, rfl, _⟩ := h
    rfl
  · obtain ⟨p, dx, v, n, rfl, hp, hd, k, ke⟩ := h
    have C_is_name : Cal P w K mg base CX0 1 "is_name" _ (spN K) := cal_is_name T
    refine ⟨_, (wss_cons (ps_if (pt_not (pt_val (pe_cal C_is_name (hr.mono (by decide)) (pa_cons (pv 1) pa_nil))))
          (pss_one (ps_raiseErr (k := 1) (okV := fun _ => True) rfl T.e_BadTaker (fun _ _ _ _ => trivial) T.m_BadTaker (hr.mono (by decide)) (takes_of rfl rfl rfl rfl) (by exact (pa_cons pe_str pa_nil)))) pss_nil)
        (wss_sup hT sc_Named_init ⟨_, rfl, rfl⟩ T.n_super FB (hr.mono (by decide)) BB (by first | exact pass0 | exact passL) (pa_cons (pv 1) pa_nil)
        (wss_of (pss_one (ps_fld (pv 0) (pv 1) rfl))) rfl rfl rfl ⟨_, rfl⟩ rfl)), ?_⟩
    refine ⟨_, rfl, _, _, rfl, hd, fun H1 S1 => ?_⟩
    cases e : isN v with
    | false => exact ⟨_, rfl, iteT ⟨rfl, trivial, ke e H1 S1⟩⟩
    | true =>
      refine ⟨_, rfl, iteF ?_⟩
      obtain ⟨s0, rfl⟩ : ∃ s, v = .str s := by
        cases v with
        | str s => exact ⟨s, rfl⟩
        | _ => cases e
      refine ⟨p, dx, _, rfl, S1 _ _ hp, _, rfl, p, _, dx, s0, rfl, S1 _ _ hp, T.cl_Named, T.na_Named _ (by decide), fun H2 t B2 ht hp2 => ?_⟩
      refine ⟨_, rfl, _, rfl, p, _, dx, _, rfl, hp2, T.cl_Named, T.na_Named _ (by decide), (by show 1 < 1000; decide), ?_⟩
      have tp : t ≠ p := fun z => by rw [z, hp2] at ht; cases ht
      refine k s0 rfl e _ (but_same S1 fun b o q n => by rw [upd_ne n]; exact B2 _ _ q n) ⟨dx, t, 0, upd_same, by rw [upd_ne tp]; exact ht, fun g z => by cases z⟩

theorem cal_Named_init (T : Txt P w K mg cl) : CalC P w K mg base (L2.CX P w) 4 (cl "Named") ["self", "life"] (spNm K cl false) := by
  obtain ⟨fd, F, b⟩ := ok_Named_init (base := base) T
  exact ⟨_, fd, F, T.mk_Named, b⟩
theorem ok_Mate_init (T : Txt P w K mg cl) : ∃ fd, FnOk P w K mg base (L2.CX P w) 4 (He.ma K (cl "Mate") "__init__") fd ["self", "life"] (spNm K cl true) ∧ Binds K fd ["self", "life"] [] := by
  obtain ⟨kV, doc, pm, an, cda, ct, cc, hT⟩ := T.u_Mate
  obtain ⟨fdB, FB0⟩ := T.ib_Taker
  have FB := ok_Taker_init (base := base) FB0 T
  have BB : Binds K fdB ["self", "life"] [] := FB0.binds fun _ _ _ _ _ _ us hl => match us, hl with | [_, _], _ => rfl
  refine ⟨_, fn_sup hT sc_Mate_init (fun vs H Q E h => ?_) (fun A outer s H vs Q E hr h => ?_), sup_binds hT (fun us hl => match us, hl with | [_, _], _ => rfl)⟩
  · obtain ⟨p, dx, v, n, rfl, _⟩ := h
    rfl
  · obtain ⟨p, dx, v, n, rfl, hp, hd, k, ke⟩ := h
    have C_is_name : Cal P w K mg base CX0 1 "is_name" _ (spN K) := cal_is_name T
    refine ⟨_, (wss_cons (ps_if (pt_not (pt_val (pe_cal C_is_name (hr.mono (by decide)) (pa_cons (pv 1) pa_nil))))
          (pss_one (ps_raiseErr (k := 1) (okV := fun _ => True) rfl T.e_BadTaker (fun _ _ _ _ => trivial) T.m_BadTaker (hr.mono (by decide)) (takes_of rfl rfl rfl rfl) (by exact (pa_cons pe_str pa_nil)))) pss_nil)
        (wss_sup hT sc_Mate_init ⟨_, rfl, rfl⟩ T.n_super FB (hr.mono (by decide)) BB (by first | exact pass0 | exact passL) (pa_cons (pv 1) pa_nil)
        (wss_of (pss_one (ps_fld (pv 0) (pv 1) rfl))) rfl rfl rfl ⟨_, rfl⟩ rfl)), ?_⟩
    refine ⟨_, rfl, _, _, rfl, hd, fun H1 S1 => ?_⟩
    cases e : isN v with
    | false => exact ⟨_, rfl, iteT ⟨rfl, trivial, ke e H1 S1⟩⟩
    | true =>
      refine ⟨_, rfl, iteF ?_⟩
      obtain ⟨s0, rfl⟩ : ∃ s, v = .str s := by
        cases v with
        | str s => exact ⟨s, rfl⟩
        | _ => cases e
      refine ⟨p, dx, _, rfl, S1 _ _ hp, _, rfl, p, _, dx, s0, rfl, S1 _ _ hp, T.cl_Mate, T.na_Mate _ (by decide), fun H2 t B2 ht hp2 => ?_⟩
      refine ⟨_, rfl, _, rfl, p, _, dx, _, rfl, hp2, T.cl_Mate, T.na_Mate _ (by decide), (by show 1 < 1000; decide), ?_⟩
      have tp : t ≠ p := fun z => by rw [z, hp2] at ht; cases ht
      refine k s0 rfl e _ (but_same S1 fun b o q n => by rw [upd_ne n]; exact B2 _ _ q n) ⟨dx, t, 0, upd_same, by rw [upd_ne tp]; exact ht, fun g z => by cases z⟩

theorem cal_Mate_init (T : Txt P w K mg cl) : CalC P w K mg base (L2.CX P w) 4 (cl "Mate") ["self", "life"] (spNm K cl true) := by
  obtain ⟨fd, F, b⟩ := ok_Mate_init (base := base) T
  exact ⟨_, fd, F, T.mk_Mate, b⟩
end
end My
set_option Elab.async false
set_option linter.all false
set_option maxRecDepth 100000
set_option maxHeartbeats 1000000
namespace My
open PySem L2 Dw Wp
open C8 (pss_cut tCut)
set_option pp.maxSteps 600
section
variable {P : Program} {w : World} {K : PySem.W.Frag} {mg : Str → Option Value} {base : Heap} {cl : String → Addr}
theorem ok_Told_init (T : Txt P w K mg cl) : ∃ fd, FnOk P w K mg base (L2.CX P w) 4 (He.ma K (cl "Told") "__init__") fd ["self", "kin"] (spKd K cl .told) ∧ Binds K fd ["self", "kin"] [] := by
  obtain ⟨kV, doc, pm, an, cda, ct, cc, hT⟩ := T.u_Told
  obtain ⟨fdB, FB0⟩ := T.ib_Taker
  have FB := ok_Taker_init (base := base) FB0 T
  have BB : Binds K fdB ["self", "life"] [] := FB0.binds fun _ _ _ _ _ _ us hl => match us, hl with | [_, _], _ => rfl
  refine ⟨_, fn_sup hT sc_Told_init (fun vs H Q E h => ?_) (fun A outer s H vs Q E hr h => ?_), sup_binds hT (fun us hl => match us, hl with | [_, _], _ => rfl)⟩
  · obtain ⟨p, dx, v, r, rfl, _⟩ := h
    rfl
  · obtain ⟨p, dx, v, r, rfl, hp, hd, k, ke⟩ := h
    have C_check_kin : Cal P w K mg base (L2.CX P w) 2 "check_kin" _ (spCkK K cl) := cal_check_kin T
    refine ⟨_, (wss_cons (ps_expr (pe_calS C_check_kin (hr.mono (by decide)) (fun σ => passAt (takes_of rfl rfl rfl rfl) σ) (pa_cons (pv 1) pa_nil)))
        (wss_sup hT sc_Told_init ⟨_, rfl, rfl⟩ T.n_super FB (hr.mono (by decide)) BB (by first | exact pass0 | exact passL) (pa_cons (pe_fld (pv 1) rfl) pa_nil)
        (wss_of (pss_one (ps_fld (pv 0) (pv 1) rfl))) rfl rfl rfl ⟨_, rfl⟩ rfl)), ?_⟩
    refine ⟨_, rfl, _, r, rfl, hd, fun hne => ?_, fun e => ke e⟩
    cases r with
    | none => exact absurd rfl hne
    | some r =>
      obtain ⟨g, s0⟩ := r
      obtain ⟨q, rfl, hq0⟩ := hd
      have hq := hq0
      obtain ⟨dq, hq⟩ := hq
      refine ⟨p, dx, _, rfl, hp, _, rfl, q, _, _, _, _, rfl, hq, kn_cl T _, kn_na T _, rfl, p, _, dx, s0, rfl, hp, T.cl_Told, T.na_Told _ (by decide), fun H2 t B2 ht hp2 => ?_⟩
      refine ⟨_, rfl, _, rfl, p, _, dx, _, rfl, hp2, T.cl_Told, T.na_Told _ (by decide), (by show 1 < 1000; decide), ?_⟩
      have tp : t ≠ p := fun z => by rw [z, hp2] at ht; cases ht
      have qp : q ≠ p := fun z => by
        rw [z, hp] at hq
        have := (HO.ins.inj (Option.some.inj hq)).2.2
        cases this
      refine k g s0 rfl _ (fun b o q n => by rw [upd_ne n]; exact B2 _ _ q n) ⟨dx, t, q, upd_same, by rw [upd_ne tp]; exact ht, fun g' z => ?_⟩
      cases z
      exact (hq0.but B2 qp).but but_upd1 qp

theorem cal_Told_init (T : Txt P w K mg cl) : CalC P w K mg base (L2.CX P w) 4 (cl "Told") ["self", "kin"] (spKd K cl .told) := by
  obtain ⟨fd, F, b⟩ := ok_Told_init (base := base) T
  exact ⟨_, fd, F, T.mk_Told, b⟩
theorem ok_Whole_init (T : Txt P w K mg cl) : ∃ fd, FnOk P w K mg base (L2.CX P w) 4 (He.ma K (cl "Whole") "__init__") fd ["self", "kin"] (spKd K cl .whole) ∧ Binds K fd ["self", "kin"] [] := by
  obtain ⟨kV, doc, pm, an, cda, ct, cc, hT⟩ := T.u_Whole
  obtain ⟨fdB, FB0⟩ := T.ib_Taker
  have FB := ok_Taker_init (base := base) FB0 T
  have BB : Binds K fdB ["self", "life"] [] := FB0.binds fun _ _ _ _ _ _ us hl => match us, hl with | [_, _], _ => rfl
  refine ⟨_, fn_sup hT sc_Whole_init (fun vs H Q E h => ?_) (fun A outer s H vs Q E hr h => ?_), sup_binds hT (fun us hl => match us, hl with | [_, _], _ => rfl)⟩
  · obtain ⟨p, dx, v, r, rfl, _⟩ := h
    rfl
  · obtain ⟨p, dx, v, r, rfl, hp, hd, k, ke⟩ := h
    have C_check_kin : Cal P w K mg base (L2.CX P w) 2 "check_kin" _ (spCkK K cl) := cal_check_kin T
    refine ⟨_, (wss_cons (ps_expr (pe_calS C_check_kin (hr.mono (by decide)) (fun σ => passAt (takes_of rfl rfl rfl rfl) σ) (pa_cons (pv 1) pa_nil)))
        (wss_sup hT sc_Whole_init ⟨_, rfl, rfl⟩ T.n_super FB (hr.mono (by decide)) BB (by first | exact pass0 | exact passL) (pa_cons (pe_fld (pv 1) rfl) pa_nil)
        (wss_of (pss_one (ps_fld (pv 0) (pv 1) rfl))) rfl rfl rfl ⟨_, rfl⟩ rfl)), ?_⟩
    refine ⟨_, rfl, _, r, rfl, hd, fun hne => ?_, fun e => ke e⟩
    cases r with
    | none => exact absurd rfl hne
    | some r =>
      obtain ⟨g, s0⟩ := r
      obtain ⟨q, rfl, hq0⟩ := hd
      have hq := hq0
      obtain ⟨dq, hq⟩ := hq
      refine ⟨p, dx, _, rfl, hp, _, rfl, q, _, _, _, _, rfl, hq, kn_cl T _, kn_na T _, rfl, p, _, dx, s0, rfl, hp, T.cl_Whole, T.na_Whole _ (by decide), fun H2 t B2 ht hp2 => ?_⟩
      refine ⟨_, rfl, _, rfl, p, _, dx, _, rfl, hp2, T.cl_Whole, T.na_Whole _ (by decide), (by show 1 < 1000; decide), ?_⟩
      have tp : t ≠ p := fun z => by rw [z, hp2] at ht; cases ht
      have qp : q ≠ p := fun z => by
        rw [z, hp] at hq
        have := (HO.ins.inj (Option.some.inj hq)).2.2
        cases this
      refine k g s0 rfl _ (fun b o q n => by rw [upd_ne n]; exact B2 _ _ q n) ⟨dx, t, q, upd_same, by rw [upd_ne tp]; exact ht, fun g' z => ?_⟩
      cases z
      exact (hq0.but B2 qp).but but_upd1 qp

theorem cal_Whole_init (T : Txt P w K mg cl) : CalC P w K mg base (L2.CX P w) 4 (cl "Whole") ["self", "kin"] (spKd K cl .whole) := by
  obtain ⟨fd, F, b⟩ := ok_Whole_init (base := base) T
  exact ⟨_, fd, F, T.mk_Whole, b⟩
theorem ok_Living_init (T : Txt P w K mg cl) : ∃ fd, FnOk P w K mg base (L2.CX P w) 4 (He.ma K (cl "Living") "__init__") fd ["self", "kin"] (spKd K cl .living) ∧ Binds K fd ["self", "kin"] [] := by
  obtain ⟨kV, doc, pm, an, cda, ct, cc, hT⟩ := T.u_Living
  obtain ⟨fdB, FB0⟩ := T.ib_Taker
  have FB := ok_Taker_init (base := base) FB0 T
  have BB : Binds K fdB ["self", "life"] [] := FB0.binds fun _ _ _ _ _ _ us hl => match us, hl with | [_, _], _ => rfl
  refine ⟨_, fn_sup hT sc_Living_init (fun vs H Q E h => ?_) (fun A outer s H vs Q E hr h => ?_), sup_binds hT (fun us hl => match us, hl with | [_, _], _ => rfl)⟩
  · obtain ⟨p, dx, v, r, rfl, _⟩ := h
    rfl
  · obtain ⟨p, dx, v, r, rfl, hp, hd, k, ke⟩ := h
    have C_check_kin : Cal P w K mg base (L2.CX P w) 2 "check_kin" _ (spCkK K cl) := cal_check_kin T
    refine ⟨_, (wss_cons (ps_expr (pe_calS C_check_kin (hr.mono (by decide)) (fun σ => passAt (takes_of rfl rfl rfl rfl) σ) (pa_cons (pv 1) pa_nil)))
        (wss_sup hT sc_Living_init ⟨_, rfl, rfl⟩ T.n_super FB (hr.mono (by decide)) BB (by first | exact pass0 | exact passL) (pa_cons (pe_fld (pv 1) rfl) pa_nil)
        (wss_of (pss_one (ps_fld (pv 0) (pv 1) rfl))) rfl rfl rfl ⟨_, rfl⟩ rfl)), ?_⟩
    refine ⟨_, rfl, _, r, rfl, hd, fun hne => ?_, fun e => ke e⟩
    cases r with
    | none => exact absurd rfl hne
    | some r =>
      obtain ⟨g, s0⟩ := r
      obtain ⟨q, rfl, hq0⟩ := hd
      have hq := hq0
      obtain ⟨dq, hq⟩ := hq
      refine ⟨p, dx, _, rfl, hp, _, rfl, q, _, _, _, _, rfl, hq, kn_cl T _, kn_na T _, rfl, p, _, dx, s0, rfl, hp, T.cl_Living, T.na_Living _ (by decide), fun H2 t B2 ht hp2 => ?_⟩
      refine ⟨_, rfl, _, rfl, p, _, dx, _, rfl, hp2, T.cl_Living, T.na_Living _ (by decide), (by show 1 < 1000; decide), ?_⟩
      have tp : t ≠ p := fun z => by rw [z, hp2] at ht; cases ht
      have qp : q ≠ p := fun z => by
        rw [z, hp] at hq
        have := (HO.ins.inj (Option.some.inj hq)).2.2
        cases this
      refine k g s0 rfl _ (fun b o q n => by rw [upd_ne n]; exact B2 _ _ q n) ⟨dx, t, q, upd_same, by rw [upd_ne tp]; exact ht, fun g' z => ?_⟩
      cases z
      exact (hq0.but B2 qp).but but_upd1 qp

theorem cal_Living_init (T : Txt P w K mg cl) : CalC P w K mg base (L2.CX P w) 4 (cl "Living") ["self", "kin"] (spKd K cl .living) := by
  obtain ⟨fd, F, b⟩ := ok_Living_init (base := base) T
  exact ⟨_, fd, F, T.mk_Living, b⟩
theorem ok_Reaching_init (T : Txt P w K mg cl) : ∃ fd, FnOk P w K mg base (L2.CX P w) 4 (He.ma K (cl "Reaching") "__init__") fd ["self", "kin", "age"] (spAg K cl false) ∧ Binds K fd ["self", "kin", "age"] [] := by
  obtain ⟨kV, doc, pm, an, cda, ct, cc, hT⟩ := T.u_Reaching
  obtain ⟨fdB, FB0⟩ := T.ib_Taker
  have FB := ok_Taker_init (base := base) FB0 T
  have BB : Binds K fdB ["self", "life"] [] := FB0.binds fun _ _ _ _ _ _ us hl => match us, hl with | [_, _], _ => rfl
  refine ⟨_, fn_sup hT sc_Reaching_init (fun vs H Q E h => ?_) (fun A outer s H vs Q E hr h => ?_), sup_binds hT (fun us hl => match us, hl with | [_, _, _], _ => rfl)⟩
  · obtain ⟨p, dx, v, a, n, r, rfl, _⟩ := h
    rfl
  · obtain ⟨p, dx, v, a, n, r, rfl, hp, hd, da, k, ke, kf⟩ := h
    have C_check_kin : Cal P w K mg base (L2.CX P w) 2 "check_kin" _ (spCkK K cl) := cal_check_kin T
    have C_check_age : Cal P w K mg base (L2.CX P w) 2 "check_age" _ (spCkA K cl) := cal_check_age T
    refine ⟨_, (wss_cons (ps_expr (pe_calS C_check_kin (hr.mono (by decide)) (fun σ => passAt (takes_of rfl rfl rfl rfl) σ) (pa_cons (pv 1) pa_nil)))
        (wss_cons (ps_expr (pe_calS C_check_age (hr.mono (by decide)) (fun σ => passAt (takes_of rfl rfl rfl rfl) σ) (pa_cons (pv 2) pa_nil)))
        (wss_sup hT sc_Reaching_init ⟨_, rfl, rfl⟩ T.n_super FB (hr.mono (by decide)) BB (by first | exact pass0 | exact passL) (pa_cons (pe_fld (pv 1) rfl) pa_nil)
        (wss_of (pss_cons (ps_fld (pv 0) (pv 1) rfl)
        (pss_one (ps_fld (pv 0) (pv 2) rfl)))) rfl rfl rfl ⟨_, rfl⟩ rfl))), ?_⟩
    refine ⟨_, rfl, _, r, rfl, hd, fun hne => ?_, fun e => ke e⟩
    refine ⟨_, rfl, _, _, rfl, da, fun ha => ?_, fun e => kf hne e⟩
    cases r with
    | none => exact absurd rfl hne
    | some r =>
      obtain ⟨g, s0⟩ := r
      obtain ⟨q, rfl, hq0⟩ := hd
      have hq := hq0
      obtain ⟨dq, hq⟩ := hq
      obtain ⟨i, rfl⟩ : ∃ i, a = .int i := by
        cases a with
        | int i => exact ⟨i, rfl⟩
        | _ => cases ha
      refine ⟨p, dx, _, rfl, hp, _, rfl, q, _, _, _, _, rfl, hq, kn_cl T _, kn_na T _, rfl, p, _, dx, s0, rfl, hp, T.cl_Reaching, T.na_Reaching _ (by decide), fun H2 t B2 ht hp2 => ?_⟩
      refine ⟨_, rfl, _, rfl, p, _, dx, _, rfl, hp2, T.cl_Reaching, T.na_Reaching _ (by decide), (by show 1 < 1000; decide), ?_⟩
      refine ⟨_, rfl, _, rfl, p, _, dx, _, rfl, upd_same, T.cl_Reaching, T.na_Reaching _ (by decide), (by show 2 < 1000; decide), ?_⟩
      have tp : t ≠ p := fun z => by rw [z, hp2] at ht; cases ht
      have qp : q ≠ p := fun z => by
        rw [z, hp] at hq
        have := (HO.ins.inj (Option.some.inj hq)).2.2
        cases this
      rw [upd_upd]
      refine k g s0 i rfl rfl ha _ (fun b o q n => by rw [upd_ne n]; exact B2 _ _ q n) ⟨dx, t, q, upd_same, by rw [upd_ne tp]; exact ht, fun g' z => ?_⟩
      cases z
      exact (hq0.but B2 qp).but but_upd1 qp

theorem cal_Reaching_init (T : Txt P w K mg cl) : CalC P w K mg base (L2.CX P w) 4 (cl "Reaching") ["self", "kin", "age"] (spAg K cl false) := by
  obtain ⟨fd, F, b⟩ := ok_Reaching_init (base := base) T
  exact ⟨_, fd, F, T.mk_Reaching, b⟩
theorem ok_FirstReaching_init (T : Txt P w K mg cl) : ∃ fd, FnOk P w K mg base (L2.CX P w) 4 (He.ma K (cl "FirstReaching") "__init__") fd ["self", "kin", "age"] (spAg K cl true) ∧ Binds K fd ["self", "kin", "age"] [] := by
  obtain ⟨kV, doc, pm, an, cda, ct, cc, hT⟩ := T.u_FirstReaching
  obtain ⟨fdB, FB0⟩ := T.ib_Taker
  have FB := ok_Taker_init (base := base) FB0 T
  have BB : Binds K fdB ["self", "life"] [] := FB0.binds fun _ _ _ _ _ _ us hl => match us, hl with | [_, _], _ => rfl
  refine ⟨_, fn_sup hT sc_FirstReaching_init (fun vs H Q E h => ?_) (fun A outer s H vs Q E hr h => ?_), sup_binds hT (fun us hl => match us, hl with | [_, _, _], _ => rfl)⟩
  · obtain ⟨p, dx, v, a, n, r, rfl, _⟩ := h
    rfl
  · obtain ⟨p, dx, v, a, n, r, rfl, hp, hd, da, k, ke, kf⟩ := h
    have C_check_kin : Cal P w K mg base (L2.CX P w) 2 "check_kin" _ (spCkK K cl) := cal_check_kin T
    have C_check_age : Cal P w K mg base (L2.CX P w) 2 "check_age" _ (spCkA K cl) := cal_check_age T
    refine ⟨_, (wss_cons (ps_expr (pe_calS C_check_kin (hr.mono (by decide)) (fun σ => passAt (takes_of rfl rfl rfl rfl) σ) (pa_cons (pv 1) pa_nil)))
        (wss_cons (ps_expr (pe_calS C_check_age (hr.mono (by decide)) (fun σ => passAt (takes_of rfl rfl rfl rfl) σ) (pa_cons (pv 2) pa_nil)))
        (wss_sup hT sc_FirstReaching_init ⟨_, rfl, rfl⟩ T.n_super FB (hr.mono (by decide)) BB (by first | exact pass0 | exact passL) (pa_cons (pe_fld (pv 1) rfl) pa_nil)
        (wss_of (pss_cons (ps_fld (pv 0) (pv 1) rfl)
        (pss_one (ps_fld (pv 0) (pv 2) rfl)))) rfl rfl rfl ⟨_, rfl⟩ rfl))), ?_⟩
    refine ⟨_, rfl, _, r, rfl, hd, fun hne => ?_, fun e => ke e⟩
    refine ⟨_, rfl, _, _, rfl, da, fun ha => ?_, fun e => kf hne e⟩
    cases r with
    | none => exact absurd rfl hne
    | some r =>
      obtain ⟨g, s0⟩ := r
      obtain ⟨q, rfl, hq0⟩ := hd
      have hq := hq0
      obtain ⟨dq, hq⟩ := hq
      obtain ⟨i, rfl⟩ : ∃ i, a = .int i := by
        cases a with
        | int i => exact ⟨i, rfl⟩
        | _ => cases ha
      refine ⟨p, dx, _, rfl, hp, _, rfl, q, _, _, _, _, rfl, hq, kn_cl T _, kn_na T _, rfl, p, _, dx, s0, rfl, hp, T.cl_FirstReaching, T.na_FirstReaching _ (by decide), fun H2 t B2 ht hp2 => ?_⟩
      refine ⟨_, rfl, _, rfl, p, _, dx, _, rfl, hp2, T.cl_FirstReaching, T.na_FirstReaching _ (by decide), (by show 1 < 1000; decide), ?_⟩
      refine ⟨_, rfl, _, rfl, p, _, dx, _, rfl, upd_same, T.cl_FirstReaching, T.na_FirstReaching _ (by decide), (by show 2 < 1000; decide), ?_⟩
      have tp : t ≠ p := fun z => by rw [z, hp2] at ht; cases ht
      have qp : q ≠ p := fun z => by
        rw [z, hp] at hq
        have := (HO.ins.inj (Option.some.inj hq)).2.2
        cases this
      rw [upd_upd]
      refine k g s0 i rfl rfl ha _ (fun b o q n => by rw [upd_ne n]; exact B2 _ _ q n) ⟨dx, t, q, upd_same, by rw [upd_ne tp]; exact ht, fun g' z => ?_⟩
      cases z
      exact (hq0.but B2 qp).but but_upd1 qp

theorem cal_FirstReaching_init (T : Txt P w K mg cl) : CalC P w K mg base (L2.CX P w) 4 (cl "FirstReaching") ["self", "kin", "age"] (spAg K cl true) := by
  obtain ⟨fd, F, b⟩ := ok_FirstReaching_init (base := base) T
  exact ⟨_, fd, F, T.mk_FirstReaching, b⟩
end
end My
set_option Elab.async false
set_option linter.all false
set_option maxRecDepth 100000
set_option maxHeartbeats 1000000
namespace My
open PySem L2 Dw Wp
open C8 (pss_cut tCut)
set_option pp.maxSteps 600
def kEqs (cl : String → Addr) : CSp := [(knC cl false, spKnEq cl false), (knC cl true, spKnEq cl true)]
theorem rKn {K : PySem.W.Frag} {cl : String → Addr} {H : Hp} {p q : Addr} {g g' : Bool} {s s' : Str} {Q : VK} (ty : TyX K H (.ref q) (.ref (knC cl g'))) (nf : PySem.W.notFirst K (knC cl g) (.ref (knC cl g')) = true) (h1 : KnAt cl H p g s) (h2 : KnAt cl H q g' s') (k : Q (.bl (decide (g' = g) && decide (s = s'))) H) : rOwnU K (kEqs cl) (.ref p) (.ref q) H Q := by
  obtain ⟨dx, hp⟩ := id h1
  refine ⟨knC cl g, spKnEq cl g, ?_, p, dx, _, _, rfl, hp, ty, nf, p, q, g', s, s', rfl, h1, h2, ⟨_, rfl⟩, k⟩
  cases g
  · exact List.mem_cons_self
  · exact List.mem_cons_of_mem _ List.mem_cons_self
theorem rKnNe {K : PySem.W.Frag} {cl : String → Addr} {H : Hp} {p q : Addr} {g g' : Bool} {s s' : Str} {Q : VK} (ty : TyX K H (.ref q) (.ref (knC cl g'))) (nf : PySem.W.notFirst K (knC cl g) (.ref (knC cl g')) = true) (h1 : KnAt cl H p g s) (h2 : KnAt cl H q g' s') (k : Q (.bl (!(decide (g' = g) && decide (s = s')))) H) : rOwnNeU K (kEqs cl) (.ref p) (.ref q) H Q := by
  obtain ⟨dx, hp⟩ := id h1
  refine ⟨knC cl g, spKnEq cl g, ?_, p, dx, _, _, rfl, hp, ty, nf, p, q, g', s, s', rfl, h1, h2, _, rfl, k⟩
  cases g
  · exact List.mem_cons_self
  · exact List.mem_cons_of_mem _ List.mem_cons_self
def spTkEq (cl : String → Addr) (c : Tc) : Sp := fun vs H Q _ => ∃ (p : Addr) (y : V) (x : Tk) (o : Option Tk), vs = [.ref p, y] ∧ TkAt cl H p x ∧ x.tc = c ∧ OthAt cl H y o ∧ Q (.bl (decide (o = some x))) H
theorem eS (s t : Str) : decide (V.str s = V.str t) = decide (s = t) := decide_eq_decide.mpr ⟨V.str.inj, congrArg V.str⟩
theorem eI (s t : Int) : decide (V.int s = V.int t) = decide (s = t) := decide_eq_decide.mpr ⟨V.int.inj, congrArg V.int⟩
section
variable {P : Program} {w : World} {K : PySem.W.Frag} {mg : Str → Option Value} {base : Heap} {cl : String → Addr}
theorem kn_eqs (T : Txt P w K mg cl) : ∀ C sp, (C, sp) ∈ kEqs cl → CalM P w K mg base CX0 1 C "__eq__" ["self", "other"] sp := fun C sp h => by
  simp only [kEqs, List.mem_cons, List.not_mem_nil, or_false, Prod.mk.injEq] at h
  rcases h with ⟨rfl, rfl⟩ | ⟨rfl, rfl⟩
  · exact cal_Children_eq T
  · exact cal_Grandchildren_eq T
theorem kn_nes (T : Txt P w K mg cl) : ∀ C sp, (C, sp) ∈ kEqs cl → CalM P w K mg base CX0 1 C "__eq__" ["self", "other"] sp ∧ NeOf K C := fun C sp h => by
  simp only [kEqs, List.mem_cons, List.not_mem_nil, or_false, Prod.mk.injEq] at h
  rcases h with ⟨rfl, rfl⟩ | ⟨rfl, rfl⟩
  · exact ⟨cal_Children_eq T, T.ne_Children⟩
  · exact ⟨cal_Grandchildren_eq T, T.ne_Grandchildren⟩
theorem ok_Named_eq {f : Addr} {fd : FuncData} (F : Fun K "__eq__" "Named.__eq__" s_Named_eq f fd) (T : Txt P w K mg cl) : FnOk P w K mg base CX0 3 f fd ["self", "other"] (spTkEq cl .named) := by
  refine F.ok sc_Named_eq (fun vs H Q E h => ?_) (fun cdv A outer s H vs Q E hr h => ?_)
  · obtain ⟨p, y, x, o, rfl, _⟩ := h
    rfl
  · obtain ⟨p, y, x, o, rfl, hx, hc, ho, k⟩ := h
    refine ⟨_, (pss_one (ps_ret (pe_and (pe_callB call_isi (by rfl) T.n_isinstance (by decide +kernel) (pa_cons (pv 1) (pa_cons (pe_cls T.m_Named) pa_nil))) (pe_one (pe_cmpR op_eq (pe_fld (pv 0) rfl) (pe_fld (pv 1) rfl) (nomark _)))))), ?_⟩
    obtain ⟨s1, rfl⟩ := Tk.of_named hc
    obtain ⟨dp, tp, kp, hp, _, hk1⟩ := hx
    cases o with
    | none =>
      rw [decide_eq_false (fun z => by cases z)] at k
      rcases ho with ⟨z, rfl⟩ | ⟨q, xs, rfl, hq⟩
      · exact ⟨_, rfl, _, _, _, _, _, rfl, .own (cl "Named"), .base (.str z), tc_kstr T .named, _, rfl, iteF k⟩
      · exact ⟨_, rfl, _, _, _, _, _, rfl, .own (cl "Named"), .base (.tup hq), tc_ktup T .named, _, rfl, iteF k⟩
    | some x2 =>
      obtain ⟨q, rfl, dq, tq, kq, hq, _, hk2⟩ := ho
      refine ⟨_, rfl, _, _, _, _, _, rfl, .own (cl "Named"), tc_ty T hq, tc_kit T .named x2.tc, _, rfl, ite2 (fun e => ?_) (fun e => ?_)⟩
      · obtain ⟨s2, rfl⟩ := Tk.of_named (of_decide_eq_true e)
        refine ⟨_, rfl, p, _, _, _, _, rfl, hp, tc_cl T .named, T.na_Named _ (by decide), rfl, _, rfl, q, _, _, _, _, rfl, hq, tc_cl T .named, T.na_Named _ (by decide), rfl, rfl, ?_⟩
        rw [eS]
        rw [show decide (some (Tk.nm false s2) = some (Tk.nm false s1)) = decide (s1 = s2) from decide_eq_decide.mpr ⟨fun z => by cases z; rfl, fun z => by rw [z]⟩] at k
        exact k
      · rw [decide_eq_false (fun z => e (decide_eq_true (by rw [Option.some.inj z]; exact hc)))] at k
        exact k

theorem cal_Named_eq (T : Txt P w K mg cl) : CalM P w K mg base CX0 3 (cl "Named") "__eq__" ["self", "other"] (spTkEq cl .named) := by
  obtain ⟨f, fd, F, m⟩ := T.d_Named_eq
  exact ⟨f, fd, ok_Named_eq F T, m, F.binds fun _ _ _ _ _ _ us hl => match us, hl with | [_, _], _ => rfl⟩
theorem ok_Mate_eq {f : Addr} {fd : FuncData} (F : Fun K "__eq__" "Mate.__eq__" s_Mate_eq f fd) (T : Txt P w K mg cl) : FnOk P w K mg base CX0 3 f fd ["self", "other"] (spTkEq cl .mate) := by
  refine F.ok sc_Mate_eq (fun vs H Q E h => ?_) (fun cdv A outer s H vs Q E hr h => ?_)
  · obtain ⟨p, y, x, o, rfl, _⟩ := h
    rfl
  · obtain ⟨p, y, x, o, rfl, hx, hc, ho, k⟩ := h
    refine ⟨_, (pss_one (ps_ret (pe_and (pe_callB call_isi (by rfl) T.n_isinstance (by decide +kernel) (pa_cons (pv 1) (pa_cons (pe_cls T.m_Mate) pa_nil))) (pe_one (pe_cmpR op_eq (pe_fld (pv 0) rfl) (pe_fld (pv 1) rfl) (nomark _)))))), ?_⟩
    obtain ⟨s1, rfl⟩ := Tk.of_mate hc
    obtain ⟨dp, tp, kp, hp, _, hk1⟩ := hx
    cases o with
    | none =>
      rw [decide_eq_false (fun z => by cases z)] at k
      rcases ho with ⟨z, rfl⟩ | ⟨q, xs, rfl, hq⟩
      · exact ⟨_, rfl, _, _, _, _, _, rfl, .own (cl "Mate"), .base (.str z), tc_kstr T .mate, _, rfl, iteF k⟩
      · exact ⟨_, rfl, _, _, _, _, _, rfl, .own (cl "Mate"), .base (.tup hq), tc_ktup T .mate, _, rfl, iteF k⟩
    | some x2 =>
      obtain ⟨q, rfl, dq, tq, kq, hq, _, hk2⟩ := ho
      refine ⟨_, rfl, _, _, _, _, _, rfl, .own (cl "Mate"), tc_ty T hq, tc_kit T .mate x2.tc, _, rfl, ite2 (fun e => ?_) (fun e => ?_)⟩
      · obtain ⟨s2, rfl⟩ := Tk.of_mate (of_decide_eq_true e)
        refine ⟨_, rfl, p, _, _, _, _, rfl, hp, tc_cl T .mate, T.na_Mate _ (by decide), rfl, _, rfl, q, _, _, _, _, rfl, hq, tc_cl T .mate, T.na_Mate _ (by decide), rfl, rfl, ?_⟩
        rw [eS]
        rw [show decide (some (Tk.nm true s2) = some (Tk.nm true s1)) = decide (s1 = s2) from decide_eq_decide.mpr ⟨fun z => by cases z; rfl, fun z => by rw [z]⟩] at k
        exact k
      · rw [decide_eq_false (fun z => e (decide_eq_true (by rw [Option.some.inj z]; exact hc)))] at k
        exact k

theorem cal_Mate_eq (T : Txt P w K mg cl) : CalM P w K mg base CX0 3 (cl "Mate") "__eq__" ["self", "other"] (spTkEq cl .mate) := by
  obtain ⟨f, fd, F, m⟩ := T.d_Mate_eq
  exact ⟨f, fd, ok_Mate_eq F T, m, F.binds fun _ _ _ _ _ _ us hl => match us, hl with | [_, _], _ => rfl⟩
theorem ok_Told_eq {f : Addr} {fd : FuncData} (F : Fun K "__eq__" "Told.__eq__" s_Told_eq f fd) (T : Txt P w K mg cl) : FnOk P w K mg base CX0 3 f fd ["self", "other"] (spTkEq cl .told) := by
  refine F.ok sc_Told_eq (fun vs H Q E h => ?_) (fun cdv A outer s H vs Q E hr h => ?_)
  · obtain ⟨p, y, x, o, rfl, _⟩ := h
    rfl
  · obtain ⟨p, y, x, o, rfl, hx, hc, ho, k⟩ := h
    have C_Kin_eqs : ∀ C sp, (C, sp) ∈ kEqs cl → CalM P w K mg base CX0 1 C "__eq__" ["self", "other"] sp := kn_eqs T
    refine ⟨_, (pss_one (ps_ret (pe_and (pe_callB call_isi (by rfl) T.n_isinstance (by decide +kernel) (pa_cons (pv 1) (pa_cons (pe_cls T.m_Told) pa_nil))) (pe_one (pe_cmpR (op_ownU C_Kin_eqs (hr.mono (by decide))) (pe_fld (pv 0) rfl) (pe_fld (pv 1) rfl) (nomark _)))))), ?_⟩
    obtain ⟨g1, s1, rfl⟩ := Tk.of_told hc
    obtain ⟨dp, tp, kp, hp, _, hk1⟩ := hx
    cases o with
    | none =>
      rw [decide_eq_false (fun z => by cases z)] at k
      rcases ho with ⟨z, rfl⟩ | ⟨q, xs, rfl, hq⟩
      · exact ⟨_, rfl, _, _, _, _, _, rfl, .own (cl "Told"), .base (.str z), tc_kstr T .told, _, rfl, iteF k⟩
      · exact ⟨_, rfl, _, _, _, _, _, rfl, .own (cl "Told"), .base (.tup hq), tc_ktup T .told, _, rfl, iteF k⟩
    | some x2 =>
      obtain ⟨q, rfl, dq, tq, kq, hq, _, hk2⟩ := ho
      refine ⟨_, rfl, _, _, _, _, _, rfl, .own (cl "Told"), tc_ty T hq, tc_kit T .told x2.tc, _, rfl, ite2 (fun e => ?_) (fun e => ?_)⟩
      · obtain ⟨g2, s2, rfl⟩ := Tk.of_told (of_decide_eq_true e)
        refine ⟨_, rfl, p, _, _, _, _, rfl, hp, tc_cl T .told, T.na_Told _ (by decide), rfl, _, rfl, q, _, _, _, _, rfl, hq, tc_cl T .told, T.na_Told _ (by decide), rfl, ?_⟩
        refine rKn (kn_ty T (hk2 g2 rfl)) (kn_nf T g1 g2) (hk1 g1 rfl) (hk2 g2 rfl) ?_
        rw [show decide (some (Tk.kn .told g2 s2) = some (Tk.kn .told g1 s1)) = (decide (g2 = g1) && decide (s1 = s2)) from ?_] at k
        · exact k
        · rw [← Bool.decide_and]
          exact decide_eq_decide.mpr ⟨fun z => by cases z; exact ⟨rfl, rfl⟩, fun ⟨a, b⟩ => by rw [a, b]⟩
      · rw [decide_eq_false (fun z => e (decide_eq_true (by rw [Option.some.inj z]; exact hc)))] at k
        exact k

theorem cal_Told_eq (T : Txt P w K mg cl) : CalM P w K mg base CX0 3 (cl "Told") "__eq__" ["self", "other"] (spTkEq cl .told) := by
  obtain ⟨f, fd, F, m⟩ := T.d_Told_eq
  exact ⟨f, fd, ok_Told_eq F T, m, F.binds fun _ _ _ _ _ _ us hl => match us, hl with | [_, _], _ => rfl⟩
theorem ok_Whole_eq {f : Addr} {fd : FuncData} (F : Fun K "__eq__" "Whole.__eq__" s_Whole_eq f fd) (T : Txt P w K mg cl) : FnOk P w K mg base CX0 3 f fd ["self", "other"] (spTkEq cl .whole) := by
  refine F.ok sc_Whole_eq (fun vs H Q E h => ?_) (fun cdv A outer s H vs Q E hr h => ?_)
  · obtain ⟨p, y, x, o, rfl, _⟩ := h
    rfl
  · obtain ⟨p, y, x, o, rfl, hx, hc, ho, k⟩ := h
    have C_Kin_eqs : ∀ C sp, (C, sp) ∈ kEqs cl → CalM P w K mg base CX0 1 C "__eq__" ["self", "other"] sp := kn_eqs T
    refine ⟨_, (pss_one (ps_ret (pe_and (pe_callB call_isi (by rfl) T.n_isinstance (by decide +kernel) (pa_cons (pv 1) (pa_cons (pe_cls T.m_Whole) pa_nil))) (pe_one (pe_cmpR (op_ownU C_Kin_eqs (hr.mono (by decide))) (pe_fld (pv 0) rfl) (pe_fld (pv 1) rfl) (nomark _)))))), ?_⟩
    obtain ⟨g1, s1, rfl⟩ := Tk.of_whole hc
    obtain ⟨dp, tp, kp, hp, _, hk1⟩ := hx
    cases o with
    | none =>
      rw [decide_eq_false (fun z => by cases z)] at k
      rcases ho with ⟨z, rfl⟩ | ⟨q, xs, rfl, hq⟩
      · exact ⟨_, rfl, _, _, _, _, _, rfl, .own (cl "Whole"), .base (.str z), tc_kstr T .whole, _, rfl, iteF k⟩
      · exact ⟨_, rfl, _, _, _, _, _, rfl, .own (cl "Whole"), .base (.tup hq), tc_ktup T .whole, _, rfl, iteF k⟩
    | some x2 =>
      obtain ⟨q, rfl, dq, tq, kq, hq, _, hk2⟩ := ho
      refine ⟨_, rfl, _, _, _, _, _, rfl, .own (cl "Whole"), tc_ty T hq, tc_kit T .whole x2.tc, _, rfl, ite2 (fun e => ?_) (fun e => ?_)⟩
      · obtain ⟨g2, s2, rfl⟩ := Tk.of_whole (of_decide_eq_true e)
        refine ⟨_, rfl, p, _, _, _, _, rfl, hp, tc_cl T .whole, T.na_Whole _ (by decide), rfl, _, rfl, q, _, _, _, _, rfl, hq, tc_cl T .whole, T.na_Whole _ (by decide), rfl, ?_⟩
        refine rKn (kn_ty T (hk2 g2 rfl)) (kn_nf T g1 g2) (hk1 g1 rfl) (hk2 g2 rfl) ?_
        rw [show decide (some (Tk.kn .whole g2 s2) = some (Tk.kn .whole g1 s1)) = (decide (g2 = g1) && decide (s1 = s2)) from ?_] at k
        · exact k
        · rw [← Bool.decide_and]
          exact decide_eq_decide.mpr ⟨fun z => by cases z; exact ⟨rfl, rfl⟩, fun ⟨a, b⟩ => by rw [a, b]⟩
      · rw [decide_eq_false (fun z => e (decide_eq_true (by rw [Option.some.inj z]; exact hc)))] at k
        exact k

theorem cal_Whole_eq (T : Txt P w K mg cl) : CalM P w K mg base CX0 3 (cl "Whole") "__eq__" ["self", "other"] (spTkEq cl .whole) := by
  obtain ⟨f, fd, F, m⟩ := T.d_Whole_eq
  exact ⟨f, fd, ok_Whole_eq F T, m, F.binds fun _ _ _ _ _ _ us hl => match us, hl with | [_, _], _ => rfl⟩
theorem ok_Living_eq {f : Addr} {fd : FuncData} (F : Fun K "__eq__" "Living.__eq__" s_Living_eq f fd) (T : Txt P w K mg cl) : FnOk P w K mg base CX0 3 f fd ["self", "other"] (spTkEq cl .living) := by
  refine F.ok sc_Living_eq (fun vs H Q E h => ?_) (fun cdv A outer s H vs Q E hr h => ?_)
  · obtain ⟨p, y, x, o, rfl, _⟩ := h
    rfl
  · obtain ⟨p, y, x, o, rfl, hx, hc, ho, k⟩ := h
    have C_Kin_eqs : ∀ C sp, (C, sp) ∈ kEqs cl → CalM P w K mg base CX0 1 C "__eq__" ["self", "other"] sp := kn_eqs T
    refine ⟨_, (pss_one (ps_ret (pe_and (pe_callB call_isi (by rfl) T.n_isinstance (by decide +kernel) (pa_cons (pv 1) (pa_cons (pe_cls T.m_Living) pa_nil))) (pe_one (pe_cmpR (op_ownU C_Kin_eqs (hr.mono (by decide))) (pe_fld (pv 0) rfl) (pe_fld (pv 1) rfl) (nomark _)))))), ?_⟩
    obtain ⟨g1, s1, rfl⟩ := Tk.of_living hc
    obtain ⟨dp, tp, kp, hp, _, hk1⟩ := hx
    cases o with
    | none =>
      rw [decide_eq_false (fun z => by cases z)] at k
      rcases ho with ⟨z, rfl⟩ | ⟨q, xs, rfl, hq⟩
      · exact ⟨_, rfl, _, _, _, _, _, rfl, .own (cl "Living"), .base (.str z), tc_kstr T .living, _, rfl, iteF k⟩
      · exact ⟨_, rfl, _, _, _, _, _, rfl, .own (cl "Living"), .base (.tup hq), tc_ktup T .living, _, rfl, iteF k⟩
    | some x2 =>
      obtain ⟨q, rfl, dq, tq, kq, hq, _, hk2⟩ := ho
      refine ⟨_, rfl, _, _, _, _, _, rfl, .own (cl "Living"), tc_ty T hq, tc_kit T .living x2.tc, _, rfl, ite2 (fun e => ?_) (fun e => ?_)⟩
      · obtain ⟨g2, s2, rfl⟩ := Tk.of_living (of_decide_eq_true e)
        refine ⟨_, rfl, p, _, _, _, _, rfl, hp, tc_cl T .living, T.na_Living _ (by decide), rfl, _, rfl, q, _, _, _, _, rfl, hq, tc_cl T .living, T.na_Living _ (by decide), rfl, ?_⟩
        refine rKn (kn_ty T (hk2 g2 rfl)) (kn_nf T g1 g2) (hk1 g1 rfl) (hk2 g2 rfl) ?_
        rw [show decide (some (Tk.kn .living g2 s2) = some (Tk.kn .living g1 s1)) = (decide (g2 = g1) && decide (s1 = s2)) from ?_] at k
        · exact k
        · rw [← Bool.decide_and]
          exact decide_eq_decide.mpr ⟨fun z => by cases z; exact ⟨rfl, rfl⟩, fun ⟨a, b⟩ => by rw [a, b]⟩
      · rw [decide_eq_false (fun z => e (decide_eq_true (by rw [Option.some.inj z]; exact hc)))] at k
        exact k

theorem cal_Living_eq (T : Txt P w K mg cl) : CalM P w K mg base CX0 3 (cl "Living") "__eq__" ["self", "other"] (spTkEq cl .living) := by
  obtain ⟨f, fd, F, m⟩ := T.d_Living_eq
  exact ⟨f, fd, ok_Living_eq F T, m, F.binds fun _ _ _ _ _ _ us hl => match us, hl with | [_, _], _ => rfl⟩
theorem ok_Reaching_eq {f : Addr} {fd : FuncData} (F : Fun K "__eq__" "Reaching.__eq__" s_Reaching_eq f fd) (T : Txt P w K mg cl) : FnOk P w K mg base CX0 3 f fd ["self", "other"] (spTkEq cl .reaching) := by
  refine F.ok sc_Reaching_eq (fun vs H Q E h => ?_) (fun cdv A outer s H vs Q E hr h => ?_)
  · obtain ⟨p, y, x, o, rfl, _⟩ := h
    rfl
  · obtain ⟨p, y, x, o, rfl, hx, hc, ho, k⟩ := h
    have C_Kin_eqs : ∀ C sp, (C, sp) ∈ kEqs cl → CalM P w K mg base CX0 1 C "__eq__" ["self", "other"] sp := kn_eqs T
    refine ⟨_, (pss_one (ps_ret (pe_and (pe_callB call_isi (by rfl) T.n_isinstance (by decide +kernel) (pa_cons (pv 1) (pa_cons (pe_cls T.m_Reaching) pa_nil))) (pe_and (pe_cmpR (op_ownU C_Kin_eqs (hr.mono (by decide))) (pe_fld (pv 0) rfl) (pe_fld (pv 1) rfl) (nomark _)) (pe_one (pe_cmpR op_eq (pe_fld (pv 0) rfl) (pe_fld (pv 1) rfl) (nomark _))))))), ?_⟩
    obtain ⟨g1, s1, a1, rfl⟩ := Tk.of_reaching hc
    obtain ⟨dp, tp, kp, hp, _, hk1⟩ := hx
    cases o with
    | none =>
      rw [decide_eq_false (fun z => by cases z)] at k
      rcases ho with ⟨z, rfl⟩ | ⟨q, xs, rfl, hq⟩
      · exact ⟨_, rfl, _, _, _, _, _, rfl, .own (cl "Reaching"), .base (.str z), tc_kstr T .reaching, _, rfl, iteF k⟩
      · exact ⟨_, rfl, _, _, _, _, _, rfl, .own (cl "Reaching"), .base (.tup hq), tc_ktup T .reaching, _, rfl, iteF k⟩
    | some x2 =>
      obtain ⟨q, rfl, dq, tq, kq, hq, _, hk2⟩ := ho
      refine ⟨_, rfl, _, _, _, _, _, rfl, .own (cl "Reaching"), tc_ty T hq, tc_kit T .reaching x2.tc, _, rfl, ite2 (fun e => ?_) (fun e => ?_)⟩
      · obtain ⟨g2, s2, a2, rfl⟩ := Tk.of_reaching (of_decide_eq_true e)
        refine ⟨_, rfl, p, _, _, _, _, rfl, hp, tc_cl T .reaching, T.na_Reaching _ (by decide), rfl, _, rfl, q, _, _, _, _, rfl, hq, tc_cl T .reaching, T.na_Reaching _ (by decide), rfl, ?_⟩
        refine rKn (kn_ty T (hk2 g2 rfl)) (kn_nf T g1 g2) (hk1 g1 rfl) (hk2 g2 rfl) ?_
        rw [show decide (some (Tk.ag false g2 s2 a2) = some (Tk.ag false g1 s1 a1)) = ((decide (g2 = g1) && decide (s1 = s2)) && decide (a1 = a2)) from ?_] at k
        · refine ⟨_, rfl, ite2 (fun e3 => ?_) (fun e3 => ?_)⟩
          · rw [show (decide (g2 = g1) && decide (s1 = s2)) = true from e3, Bool.true_and] at k
            refine ⟨_, rfl, p, _, _, _, _, rfl, hp, tc_cl T .reaching, T.na_Reaching _ (by decide), rfl, _, rfl, q, _, _, _, _, rfl, hq, tc_cl T .reaching, T.na_Reaching _ (by decide), rfl, rfl, ?_⟩
            rw [eI]
            exact k
          · rw [show (decide (g2 = g1) && decide (s1 = s2)) = false from Bool.eq_false_iff.mpr e3, Bool.false_and] at k
            exact k
        · rw [← Bool.decide_and, ← Bool.decide_and]
          exact decide_eq_decide.mpr ⟨fun z => by cases z; exact ⟨⟨rfl, rfl⟩, rfl⟩, fun ⟨⟨a, b⟩, c⟩ => by rw [a, b, c]⟩
      · rw [decide_eq_false (fun z => e (decide_eq_true (by rw [Option.some.inj z]; exact hc)))] at k
        exact k

theorem cal_Reaching_eq (T : Txt P w K mg cl) : CalM P w K mg base CX0 3 (cl "Reaching") "__eq__" ["self", "other"] (spTkEq cl .reaching) := by
  obtain ⟨f, fd, F, m⟩ := T.d_Reaching_eq
  exact ⟨f, fd, ok_Reaching_eq F T, m, F.binds fun _ _ _ _ _ _ us hl => match us, hl with | [_, _], _ => rfl⟩
theorem ok_FirstReaching_eq {f : Addr} {fd : FuncData} (F : Fun K "__eq__" "FirstReaching.__eq__" s_FirstReaching_eq f fd) (T : Txt P w K mg cl) : FnOk P w K mg base CX0 3 f fd ["self", "other"] (spTkEq cl .first) := by
  refine F.ok sc_FirstReaching_eq (fun vs H Q E h => ?_) (fun cdv A outer s H vs Q E hr h => ?_)
  · obtain ⟨p, y, x, o, rfl, _⟩ := h
    rfl
  · obtain ⟨p, y, x, o, rfl, hx, hc, ho, k⟩ := h
    have C_Kin_eqs : ∀ C sp, (C, sp) ∈ kEqs cl → CalM P w K mg base CX0 1 C "__eq__" ["self", "other"] sp := kn_eqs T
    refine ⟨_, (pss_one (ps_ret (pe_and (pe_callB call_isi (by rfl) T.n_isinstance (by decide +kernel) (pa_cons (pv 1) (pa_cons (pe_cls T.m_FirstReaching) pa_nil))) (pe_and (pe_cmpR (op_ownU C_Kin_eqs (hr.mono (by decide))) (pe_fld (pv 0) rfl) (pe_fld (pv 1) rfl) (nomark _)) (pe_one (pe_cmpR op_eq (pe_fld (pv 0) rfl) (pe_fld (pv 1) rfl) (nomark _))))))), ?_⟩
    obtain ⟨g1, s1, a1, rfl⟩ := Tk.of_first hc
    obtain ⟨dp, tp, kp, hp, _, hk1⟩ := hx
    cases o with
    | none =>
      rw [decide_eq_false (fun z => by cases z)] at k
      rcases ho with ⟨z, rfl⟩ | ⟨q, xs, rfl, hq⟩
      · exact ⟨_, rfl, _, _, _, _, _, rfl, .own (cl "FirstReaching"), .base (.str z), tc_kstr T .first, _, rfl, iteF k⟩
      · exact ⟨_, rfl, _, _, _, _, _, rfl, .own (cl "FirstReaching"), .base (.tup hq), tc_ktup T .first, _, rfl, iteF k⟩
    | some x2 =>
      obtain ⟨q, rfl, dq, tq, kq, hq, _, hk2⟩ := ho
      refine ⟨_, rfl, _, _, _, _, _, rfl, .own (cl "FirstReaching"), tc_ty T hq, tc_kit T .first x2.tc, _, rfl, ite2 (fun e => ?_) (fun e => ?_)⟩
      · obtain ⟨g2, s2, a2, rfl⟩ := Tk.of_first (of_decide_eq_true e)
        refine ⟨_, rfl, p, _, _, _, _, rfl, hp, tc_cl T .first, T.na_FirstReaching _ (by decide), rfl, _, rfl, q, _, _, _, _, rfl, hq, tc_cl T .first, T.na_FirstReaching _ (by decide), rfl, ?_⟩
        refine rKn (kn_ty T (hk2 g2 rfl)) (kn_nf T g1 g2) (hk1 g1 rfl) (hk2 g2 rfl) ?_
        rw [show decide (some (Tk.ag true g2 s2 a2) = some (Tk.ag true g1 s1 a1)) = ((decide (g2 = g1) && decide (s1 = s2)) && decide (a1 = a2)) from ?_] at k
        · refine ⟨_, rfl, ite2 (fun e3 => ?_) (fun e3 => ?_)⟩
          · rw [show (decide (g2 = g1) && decide (s1 = s2)) = true from e3, Bool.true_and] at k
            refine ⟨_, rfl, p, _, _, _, _, rfl, hp, tc_cl T .first, T.na_FirstReaching _ (by decide), rfl, _, rfl, q, _, _, _, _, rfl, hq, tc_cl T .first, T.na_FirstReaching _ (by decide), rfl, rfl, ?_⟩
            rw [eI]
            exact k
          · rw [show (decide (g2 = g1) && decide (s1 = s2)) = false from Bool.eq_false_iff.mpr e3, Bool.false_and] at k
            exact k
        · rw [← Bool.decide_and, ← Bool.decide_and]
          exact decide_eq_decide.mpr ⟨fun z => by cases z; exact ⟨⟨rfl, rfl⟩, rfl⟩, fun ⟨⟨a, b⟩, c⟩ => by rw [a, b, c]⟩
      · rw [decide_eq_false (fun z => e (decide_eq_true (by rw [Option.some.inj z]; exact hc)))] at k
        exact k

theorem cal_FirstReaching_eq (T : Txt P w K mg cl) : CalM P w K mg base CX0 3 (cl "FirstReaching") "__eq__" ["self", "other"] (spTkEq cl .first) := by
  obtain ⟨f, fd, F, m⟩ := T.d_FirstReaching_eq
  exact ⟨f, fd, ok_FirstReaching_eq F T, m, F.binds fun _ _ _ _ _ _ us hl => match us, hl with | [_, _], _ => rfl⟩
end
end My
set_option Elab.async false
set_option linter.all false
set_option maxRecDepth 100000
set_option maxHeartbeats 1000000
namespace My
open PySem L2 Dw Wp
open C8 (pss_cut tCut)
set_option pp.maxSteps 600
def tkPre : Tc → Str
  | .named => "life "
  | .mate => "mate of "
  | .told => "told "
  | .whole => "whole "
  | .living => "living "
  | .reaching => "reaching "
  | .first => "first reaching "
def tkText (x : Tk) : Str := match x with
  | .nm _ s => Str.empty ++ tkPre x.tc ++ s
  | .kn _ g s => Str.empty ++ tkPre x.tc ++ kText g s
  | .ag _ g s a => Str.empty ++ tkPre x.tc ++ toString a ++ " " ++ kText g s
/-- its texts are short -/
structure TkOk (x : Tk) : Prop where
  nm : isN (.str x.life) = true
  lo : 0 ≤ x.age
  hi : x.age ≤ 1000000
def kStrs (cl : String → Addr) : CSp := [(knC cl false, spKnStr cl false), (knC cl true, spKnStr cl true)]
theorem pre_len : ∀ c, (Str.empty ++ tkPre c).length ≤ 20
  | .named => by decide
  | .mate => by decide
  | .told => by decide
  | .whole => by decide
  | .living => by decide
  | .reaching => by decide
  | .first => by decide
theorem kText_len {g : Bool} {s : Str} (h : s.length ≤ 8) : (kText g s).length ≤ 30 := by
  unfold kText
  rw [Str.length_append]
  have : (Str.empty ++ (if g = true then ("grandchildren of " : Str) else ("children of " : Str))).length ≤ 17 := by cases g <;> decide
  omega
theorem age_len {a : Int} (h0 : 0 ≤ a) (h1 : a ≤ 1000000) : (toString a : Str).length ≤ 7 := PyProof.Rows.toString_length_le h0 (by decide) (Int.lt_of_le_of_lt h1 (by decide))
theorem age_log {a : Int} (h0 : 0 ≤ a) (h1 : a ≤ 1000000) : a.natAbs.log2 < 1920 := by
  have h : a.natAbs < 2 ^ 20 := by show a.natAbs < 1048576; omega
  rcases Nat.eq_zero_or_pos a.natAbs with z | z
  · rw [z]
    decide
  · exact (Nat.log2_lt (by omega)).mpr (Nat.lt_of_lt_of_le h (Nat.pow_le_pow_right (by decide) (by decide)))
theorem szN {n : Nat} (h : n ≤ 200) : n ≤ sizeLine := by rw [sizeLine_eq]; omega
def spTkStr (cl : String → Addr) (c : Tc) : Sp := fun vs H Q _ => ∃ (p : Addr) (x : Tk), vs = [.ref p] ∧ TkAt cl H p x ∧ x.tc = c ∧ TkOk x ∧ Q (.str (tkText x)) H
section
variable {P : Program} {w : World} {K : PySem.W.Frag} {mg : Str → Option Value} {base : Heap} {cl : String → Addr}
theorem kn_strs (T : Txt P w K mg cl) : ∀ C sp, (C, sp) ∈ kStrs cl → CalM P w K mg base CX0 1 C "__str__" ["self"] sp ∧ FmtOf K C := fun C sp h => by
  simp only [kStrs, List.mem_cons, List.not_mem_nil, or_false, Prod.mk.injEq] at h
  rcases h with ⟨rfl, rfl⟩ | ⟨rfl, rfl⟩
  · exact ⟨cal_Children_str T, T.fm_Children⟩
  · exact ⟨cal_Grandchildren_str T, T.fm_Grandchildren⟩
theorem kn_mem {cl : String → Addr} : ∀ g, (knC cl g, spKnStr cl g) ∈ kStrs cl
  | false => List.mem_cons_self
  | true => List.mem_cons_of_mem _ List.mem_cons_self
theorem ok_Named_str {f : Addr} {fd : FuncData} (F : Fun K "__str__" "Named.__str__" s_Named_str f fd) (T : Txt P w K mg cl) : FnOk P w K mg base CX0 4 f fd ["self"] (spTkStr cl .named) := by
  refine F.ok sc_Named_str (fun vs H Q E h => ?_) (fun cdv A outer s H vs Q E hr h => ?_)
  · obtain ⟨p, x, rfl, _⟩ := h
    rfl
  · obtain ⟨p, x, rfl, hx, hc, ho, k⟩ := h
    refine ⟨_, (pss_one (ps_ret (pe_joined (.cons pe_str (.cons (pe_fmt (pe_fld (pv 0) rfl)) .nil))))), ?_⟩
    obtain ⟨s1, rfl⟩ := Tk.of_named hc
    obtain ⟨dp, tp, kp, hp, _, hk1⟩ := hx
    have sl : s1.length ≤ 8 := isN_len ho.nm
    have pl : (Str.empty ++ ("life " : Str)).length ≤ 20 := pre_len .named
    refine ⟨_, rfl, szN (Nat.le_trans pl (by decide)), _, rfl, p, _, _, _, _, rfl, hp, tc_cl T .named, T.na_Named _ (by decide), rfl, .inl ⟨s1, rfl, szN (by omega), s1, rfl, ?_, k⟩⟩
    rw [Str.length_append]
    exact szN (by omega)

theorem cal_Named_str (T : Txt P w K mg cl) : CalM P w K mg base CX0 4 (cl "Named") "__str__" ["self"] (spTkStr cl .named) := by
  obtain ⟨f, fd, F, m⟩ := T.d_Named_str
  exact ⟨f, fd, ok_Named_str F T, m, F.binds fun _ _ _ _ _ _ us hl => match us, hl with | [_], _ => rfl⟩
theorem ok_Mate_str {f : Addr} {fd : FuncData} (F : Fun K "__str__" "Mate.__str__" s_Mate_str f fd) (T : Txt P w K mg cl) : FnOk P w K mg base CX0 4 f fd ["self"] (spTkStr cl .mate) := by
  refine F.ok sc_Mate_str (fun vs H Q E h => ?_) (fun cdv A outer s H vs Q E hr h => ?_)
  · obtain ⟨p, x, rfl, _⟩ := h
    rfl
  · obtain ⟨p, x, rfl, hx, hc, ho, k⟩ := h
    refine ⟨_, (pss_one (ps_ret (pe_joined (.cons pe_str (.cons (pe_fmt (pe_fld (pv 0) rfl)) .nil))))), ?_⟩
    obtain ⟨s1, rfl⟩ := Tk.of_mate hc
    obtain ⟨dp, tp, kp, hp, _, hk1⟩ := hx
    have sl : s1.length ≤ 8 := isN_len ho.nm
    have pl : (Str.empty ++ ("mate of " : Str)).length ≤ 20 := pre_len .mate
    refine ⟨_, rfl, szN (Nat.le_trans pl (by decide)), _, rfl, p, _, _, _, _, rfl, hp, tc_cl T .mate, T.na_Mate _ (by decide), rfl, .inl ⟨s1, rfl, szN (by omega), s1, rfl, ?_, k⟩⟩
    rw [Str.length_append]
    exact szN (by omega)

theorem cal_Mate_str (T : Txt P w K mg cl) : CalM P w K mg base CX0 4 (cl "Mate") "__str__" ["self"] (spTkStr cl .mate) := by
  obtain ⟨f, fd, F, m⟩ := T.d_Mate_str
  exact ⟨f, fd, ok_Mate_str F T, m, F.binds fun _ _ _ _ _ _ us hl => match us, hl with | [_], _ => rfl⟩
theorem ok_Told_str {f : Addr} {fd : FuncData} (F : Fun K "__str__" "Told.__str__" s_Told_str f fd) (T : Txt P w K mg cl) : FnOk P w K mg base CX0 4 f fd ["self"] (spTkStr cl .told) := by
  refine F.ok sc_Told_str (fun vs H Q E h => ?_) (fun cdv A outer s H vs Q E hr h => ?_)
  · obtain ⟨p, x, rfl, _⟩ := h
    rfl
  · obtain ⟨p, x, rfl, hx, hc, ho, k⟩ := h
    have C_Kin_strs : ∀ C sp, (C, sp) ∈ kStrs cl → CalM P w K mg base CX0 1 C "__str__" ["self"] sp ∧ FmtOf K C := kn_strs T
    refine ⟨_, (pss_one (ps_ret (pe_joined (.cons pe_str (.cons (pe_fmtU C_Kin_strs (hr.mono (by decide)) (pe_fld (pv 0) rfl)) .nil))))), ?_⟩
    obtain ⟨g1, s1, rfl⟩ := Tk.of_told hc
    obtain ⟨dp, tp, kp, hp, _, hk1⟩ := hx
    have sl : s1.length ≤ 8 := isN_len ho.nm
    have pl : (Str.empty ++ ("told " : Str)).length ≤ 20 := pre_len .told
    obtain ⟨dk, hk⟩ := hk1 g1 rfl
    refine ⟨_, rfl, szN (Nat.le_trans pl (by decide)), _, rfl, p, _, _, _, _, rfl, hp, tc_cl T .told, T.na_Told _ (by decide), rfl, _, _, kp, dk, _, kn_mem g1, rfl, hk, kp, s1, rfl, ⟨dk, hk⟩, sl, _, rfl, _, rfl, ?_, k⟩
    rw [Str.length_append]
    have := kText_len (g := g1) sl
    exact szN (by omega)

theorem cal_Told_str (T : Txt P w K mg cl) : CalM P w K mg base CX0 4 (cl "Told") "__str__" ["self"] (spTkStr cl .told) := by
  obtain ⟨f, fd, F, m⟩ := T.d_Told_str
  exact ⟨f, fd, ok_Told_str F T, m, F.binds fun _ _ _ _ _ _ us hl => match us, hl with | [_], _ => rfl⟩
theorem ok_Whole_str {f : Addr} {fd : FuncData} (F : Fun K "__str__" "Whole.__str__" s_Whole_str f fd) (T : Txt P w K mg cl) : FnOk P w K mg base CX0 4 f fd ["self"] (spTkStr cl .whole) := by
  refine F.ok sc_Whole_str (fun vs H Q E h => ?_) (fun cdv A outer s H vs Q E hr h => ?_)
  · obtain ⟨p, x, rfl, _⟩ := h
    rfl
  · obtain ⟨p, x, rfl, hx, hc, ho, k⟩ := h
    have C_Kin_strs : ∀ C sp, (C, sp) ∈ kStrs cl → CalM P w K mg base CX0 1 C "__str__" ["self"] sp ∧ FmtOf K C := kn_strs T
    refine ⟨_, (pss_one (ps_ret (pe_joined (.cons pe_str (.cons (pe_fmtU C_Kin_strs (hr.mono (by decide)) (pe_fld (pv 0) rfl)) .nil))))), ?_⟩
    obtain ⟨g1, s1, rfl⟩ := Tk.of_whole hc
    obtain ⟨dp, tp, kp, hp, _, hk1⟩ := hx
    have sl : s1.length ≤ 8 := isN_len ho.nm
    have pl : (Str.empty ++ ("whole " : Str)).length ≤ 20 := pre_len .whole
    obtain ⟨dk, hk⟩ := hk1 g1 rfl
    refine ⟨_, rfl, szN (Nat.le_trans pl (by decide)), _, rfl, p, _, _, _, _, rfl, hp, tc_cl T .whole, T.na_Whole _ (by decide), rfl, _, _, kp, dk, _, kn_mem g1, rfl, hk, kp, s1, rfl, ⟨dk, hk⟩, sl, _, rfl, _, rfl, ?_, k⟩
    rw [Str.length_append]
    have := kText_len (g := g1) sl
    exact szN (by omega)

theorem cal_Whole_str (T : Txt P w K mg cl) : CalM P w K mg base CX0 4 (cl "Whole") "__str__" ["self"] (spTkStr cl .whole) := by
  obtain ⟨f, fd, F, m⟩ := T.d_Whole_str
  exact ⟨f, fd, ok_Whole_str F T, m, F.binds fun _ _ _ _ _ _ us hl => match us, hl with | [_], _ => rfl⟩
theorem ok_Living_str {f : Addr} {fd : FuncData} (F : Fun K "__str__" "Living.__str__" s_Living_str f fd) (T : Txt P w K mg cl) : FnOk P w K mg base CX0 4 f fd ["self"] (spTkStr cl .living) := by
  refine F.ok sc_Living_str (fun vs H Q E h => ?_) (fun cdv A outer s H vs Q E hr h => ?_)
  · obtain ⟨p, x, rfl, _⟩ := h
    rfl
  · obtain ⟨p, x, rfl, hx, hc, ho, k⟩ := h
    have C_Kin_strs : ∀ C sp, (C, sp) ∈ kStrs cl → CalM P w K mg base CX0 1 C "__str__" ["self"] sp ∧ FmtOf K C := kn_strs T
    refine ⟨_, (pss_one (ps_ret (pe_joined (.cons pe_str (.cons (pe_fmtU C_Kin_strs (hr.mono (by decide)) (pe_fld (pv 0) rfl)) .nil))))), ?_⟩
    obtain ⟨g1, s1, rfl⟩ := Tk.of_living hc
    obtain ⟨dp, tp, kp, hp, _, hk1⟩ := hx
    have sl : s1.length ≤ 8 := isN_len ho.nm
    have pl : (Str.empty ++ ("living " : Str)).length ≤ 20 := pre_len .living
    obtain ⟨dk, hk⟩ := hk1 g1 rfl
    refine ⟨_, rfl, szN (Nat.le_trans pl (by decide)), _, rfl, p, _, _, _, _, rfl, hp, tc_cl T .living, T.na_Living _ (by decide), rfl, _, _, kp, dk, _, kn_mem g1, rfl, hk, kp, s1, rfl, ⟨dk, hk⟩, sl, _, rfl, _, rfl, ?_, k⟩
    rw [Str.length_append]
    have := kText_len (g := g1) sl
    exact szN (by omega)

theorem cal_Living_str (T : Txt P w K mg cl) : CalM P w K mg base CX0 4 (cl "Living") "__str__" ["self"] (spTkStr cl .living) := by
  obtain ⟨f, fd, F, m⟩ := T.d_Living_str
  exact ⟨f, fd, ok_Living_str F T, m, F.binds fun _ _ _ _ _ _ us hl => match us, hl with | [_], _ => rfl⟩
theorem ok_Reaching_str {f : Addr} {fd : FuncData} (F : Fun K "__str__" "Reaching.__str__" s_Reaching_str f fd) (T : Txt P w K mg cl) : FnOk P w K mg base CX0 4 f fd ["self"] (spTkStr cl .reaching) := by
  refine F.ok sc_Reaching_str (fun vs H Q E h => ?_) (fun cdv A outer s H vs Q E hr h => ?_)
  · obtain ⟨p, x, rfl, _⟩ := h
    rfl
  · obtain ⟨p, x, rfl, hx, hc, ho, k⟩ := h
    have C_Kin_strs : ∀ C sp, (C, sp) ∈ kStrs cl → CalM P w K mg base CX0 1 C "__str__" ["self"] sp ∧ FmtOf K C := kn_strs T
    refine ⟨_, (pss_one (ps_ret (pe_joined (.cons pe_str (.cons (pe_fmt (pe_fld (pv 0) rfl)) (.cons pe_str (.cons (pe_fmtU C_Kin_strs (hr.mono (by decide)) (pe_fld (pv 0) rfl)) .nil))))))), ?_⟩
    obtain ⟨g1, s1, a1, rfl⟩ := Tk.of_reaching hc
    obtain ⟨dp, tp, kp, hp, _, hk1⟩ := hx
    have sl : s1.length ≤ 8 := isN_len ho.nm
    have pl : (Str.empty ++ ("reaching " : Str)).length ≤ 20 := pre_len .reaching
    obtain ⟨dk, hk⟩ := hk1 g1 rfl
    have l1 := age_len ho.lo ho.hi
    have l2 := kText_len (g := g1) sl
    have l1 : (toString a1 : Str).length ≤ 7 := l1
    refine ⟨_, rfl, szN (Nat.le_trans pl (by decide)), _, rfl, p, _, _, _, _, rfl, hp, tc_cl T .reaching, T.na_Reaching _ (by decide), rfl, .inr ⟨a1, rfl, age_log ho.lo ho.hi, _, rfl, ?_, ?_⟩⟩
    · rw [Str.length_append]
      exact szN (by omega)
    refine ⟨_, rfl, ?_, _, rfl, p, _, _, _, _, rfl, hp, tc_cl T .reaching, T.na_Reaching _ (by decide), rfl, _, _, kp, dk, _, kn_mem g1, rfl, hk, kp, s1, rfl, ⟨dk, hk⟩, sl, _, rfl, _, rfl, ?_, k⟩
    · rw [Str.length_append, Str.length_append]
      exact szN (by have : ((" " : Str)).length = 1 := rfl; omega)
    · rw [Str.length_append, Str.length_append, Str.length_append]
      exact szN (by have : ((" " : Str)).length = 1 := rfl; omega)

theorem cal_Reaching_str (T : Txt P w K mg cl) : CalM P w K mg base CX0 4 (cl "Reaching") "__str__" ["self"] (spTkStr cl .reaching) := by
  obtain ⟨f, fd, F, m⟩ := T.d_Reaching_str
  exact ⟨f, fd, ok_Reaching_str F T, m, F.binds fun _ _ _ _ _ _ us hl => match us, hl with | [_], _ => rfl⟩
theorem ok_FirstReaching_str {f : Addr} {fd : FuncData} (F : Fun K "__str__" "FirstReaching.__str__" s_FirstReaching_str f fd) (T : Txt P w K mg cl) : FnOk P w K mg base CX0 4 f fd ["self"] (spTkStr cl .first) := by
  refine F.ok sc_FirstReaching_str (fun vs H Q E h => ?_) (fun cdv A outer s H vs Q E hr h => ?_)
  · obtain ⟨p, x, rfl, _⟩ := h
    rfl
  · obtain ⟨p, x, rfl, hx, hc, ho, k⟩ := h
    have C_Kin_strs : ∀ C sp, (C, sp) ∈ kStrs cl → CalM P w K mg base CX0 1 C "__str__" ["self"] sp ∧ FmtOf K C := kn_strs T
    refine ⟨_, (pss_one (ps_ret (pe_joined (.cons pe_str (.cons (pe_fmt (pe_fld (pv 0) rfl)) (.cons pe_str (.cons (pe_fmtU C_Kin_strs (hr.mono (by decide)) (pe_fld (pv 0) rfl)) .nil))))))), ?_⟩
    obtain ⟨g1, s1, a1, rfl⟩ := Tk.of_first hc
    obtain ⟨dp, tp, kp, hp, _, hk1⟩ := hx
    have sl : s1.length ≤ 8 := isN_len ho.nm
    have pl : (Str.empty ++ ("first reaching " : Str)).length ≤ 20 := pre_len .first
    obtain ⟨dk, hk⟩ := hk1 g1 rfl
    have l1 := age_len ho.lo ho.hi
    have l2 := kText_len (g := g1) sl
    have l1 : (toString a1 : Str).length ≤ 7 := l1
    refine ⟨_, rfl, szN (Nat.le_trans pl (by decide)), _, rfl, p, _, _, _, _, rfl, hp, tc_cl T .first, T.na_FirstReaching _ (by decide), rfl, .inr ⟨a1, rfl, age_log ho.lo ho.hi, _, rfl, ?_, ?_⟩⟩
    · rw [Str.length_append]
      exact szN (by omega)
    refine ⟨_, rfl, ?_, _, rfl, p, _, _, _, _, rfl, hp, tc_cl T .first, T.na_FirstReaching _ (by decide), rfl, _, _, kp, dk, _, kn_mem g1, rfl, hk, kp, s1, rfl, ⟨dk, hk⟩, sl, _, rfl, _, rfl, ?_, k⟩
    · rw [Str.length_append, Str.length_append]
      exact szN (by have : ((" " : Str)).length = 1 := rfl; omega)
    · rw [Str.length_append, Str.length_append, Str.length_append]
      exact szN (by have : ((" " : Str)).length = 1 := rfl; omega)

theorem cal_FirstReaching_str (T : Txt P w K mg cl) : CalM P w K mg base CX0 4 (cl "FirstReaching") "__str__" ["self"] (spTkStr cl .first) := by
  obtain ⟨f, fd, F, m⟩ := T.d_FirstReaching_str
  exact ⟨f, fd, ok_FirstReaching_str F T, m, F.binds fun _ _ _ _ _ _ us hl => match us, hl with | [_], _ => rfl⟩
end
end My
set_option Elab.async false
set_option linter.all false
set_option maxRecDepth 100000
set_option maxHeartbeats 4000000
/-! max([], default=d) -/
namespace L2
open PySem PySem.Spec PyProof.Rows
theorem args_maxD (a d : Value) : argsOk "max" ⟨[a], [(Str.ofString "default", d)]⟩ := by unfold argsOk; kernel_rfl
section
variable {prog : Program} {w : World} {A : Around} {E : Value → Shared → Prop} {s : Shared}
theorem call_tree_kw {id : String} {b : Builtin} {args : List Value} {kw : List (Str × Value)} {Q : Value → Shared → Prop} (hk : builtinKind id = none) (hp : plainId id = true)
    (hb : entryFor table id = some b) (ha : argsOk id ⟨args, kw⟩)
    (hc : wpAny (model prog w) A.in1 (b ⟨args, kw⟩) (fun fin s' => match fin with
      | .done f => (match (Except.ok f : Result) with | .ok (.ret v) => Q v s' | .ok _ => False | .error e => E e s')
      | .again c' => c'.quiet = true ∧ codeAny (model prog w) A c' (fun r s' => match r with | .ok (.ret v) => Q v s' | .ok _ => False | .error e => E e s') s') E s) :
    wpAny (model prog w) A (call (.builtin id) args kw) Q E s := by
  refine wpAny_call (codeAny_call_builtin hp hb ?_)
  simp only [checkBuiltinCall, hk]
  cases hsig : Manifest.signature? id with
  | none => exact wpAny_pure hc
  | some sig =>
    have ha' : Bind.checkArgs id sig ⟨args, kw⟩ = pure () := by simpa only [argsOk, hsig] using ha
    simp only [ha']
    exact wpAny_pure hc
theorem codeAny_max_loop_none {R : Result → Shared → Prop} {I : Addr} {fp wr : List Addr} {n : Nat} {P : Nat → Value → Prop} {St : Nat → Heap → Prop} (W : Walks prog w A.in1 I fp wr n P St) (S : Addr) (hn : n = 0) {s : Shared} {c : Nat} {d : Value} (hst : St 0 s.heap)
    (hS : s.heap.get? S = some { cls := .type "list", dict := none, data := .seq #[] c, slots := #[] })
    (hR : ∀ h' tk, (∀ b o, b ∉ wr → s.heap.get? b = some o → h'.get? b = some o) → R (.ok (.ret d)) { s with heap := h', toks := tk }) :
    codeAny (model prog w) A (.builtin "max.loop" ⟨[.ref I, .none, .ref S], [(Str.ofString "default", d)]⟩) R s := by
  refine codeAny_builtin PySem.F.entry_max_loop ?_
  rw [Around.under_plainId PySem.F.plain_max_loop _]
  show wpAny _ A.in1 (seqItems? (.ref S) >>= _) _ _ s
  refine wpAny_bind (wpAny_seqItems hS rfl ?_)
  show wpAny _ A.in1 (tryCatch (pyNext (.ref I)) _ >>= _) _ _ s
  refine wpAny_bind (wpAny_tryCatch (W.done s _ _ (hn ▸ hst) fun h' tk hk' => ?_))
  exact wpAny_bind (wpAny_rule (wpAny_pure (hR h' tk hk')))
theorem max_dflt0 {l : Addr} {d : Value} {Q : Value → Shared → Prop} (hh : A.handled = none) (hl : s.heap.IsList l #[]) (h : ∀ h' tk, (∀ b o, s.heap.get? b = some o → h'.get? b = some o) → Q d { s with heap := h', toks := tk }) :
    wpAny (model prog w) A (call (.builtin "max") [.ref l] [(Str.ofString "default", d)]) Q E s := by
  have hname : (toString "max" ++ toString ".loop" : String) = "max.loop" := by decide
  refine call_tree_kw PySem.F.kind_max PySem.F.plain_max PySem.F.entry_max (args_maxD _ _) ?_
  show wpAny _ A.in1 (Builtin.Builtins.bindParams "max" ["key", "default"] 0 ⟨[], [(Str.ofString "default", d)]⟩ >>= _) _ _ s
  refine wpAny_bind (wpAny_of_eq (show Builtin.Builtins.bindParams "max" ["key", "default"] 0 ⟨[], [(Str.ofString "default", d)]⟩ = pure [none, some d] from rfl) ?_)
  refine wpAny_bind (wpAny_pure ?_)
  refine wpAny_bind (iter_intList (xs := #[]) (by rw [show intItems #[] = #[] by simp [intItems]]; exact hl) fun s₂ e st hfp hlI => ?_)
  subst e
  refine wpAny_bind (wpAny_newObj_type ?_)
  rw [hname]
  have W := Walks.list (prog := prog) (w := w) (A := A.in1) hh s.heap.objs.size l hlI (intItems #[])
  refine wpAny_pure ⟨plainId_quiet PySem.F.plain_max_loop _, codeAny_max_loop_none W _ (by simp [intItems]) (W.frame _ _ _ st fun b _ o e => Heap.get?_push_of_some _ e) (Heap.get?_push_size _ rfl) fun h' tk hk => ?_⟩
  refine h h' tk fun b o e => hk b o ?_ (Heap.get?_push_of_some _ (Heap.get?_push_of_some _ e))
  intro z
  obtain rfl : b = s.heap.objs.size := by simpa using z
  exact absurd (Heap.lt_size e) (Nat.lt_irrefl _)
end
/-- max(xs, default=d) of an empty list -/
def rMaxD0 (K : PySem.W.Frag) : List V → List V → Hp → VK → Prop := fun xs zs H Q => ∃ (a : Addr) (d : V), xs = [.ref a] ∧ zs = [d] ∧ SqL K H a [] ∧ Q d H
theorem crk_maxD0 {X : Cx} (hc : X.calm = true) : CallRK X (.builtin "max") ["default"] (rMaxD0 X.K) := by
  intro pins s σ H xs zs us ws Q I r1 r2 h
  obtain ⟨a, d, rfl, rfl, hs, q⟩ := h
  obtain ⟨its, rv, hl, _⟩ := I.list hs
  rw [Vals.ref1 r1]
  cases rv
  obtain ⟨u, rfl, ru⟩ := vals1 r2
  exact max_dflt0 (I.ok.hd hc) hl.isList fun h' tk hk => ⟨d, H, I.kept hk, ru, q⟩
end L2
set_option Elab.async false
set_option linter.all false
set_option maxRecDepth 100000
set_option maxHeartbeats 1000000
namespace My
open PySem L2 Dw Wp
open C8 (pss_cut tCut)
set_option pp.maxSteps 600
/-! dates -/
abbrev Rws := List (Addr × List Str)
def spMg : Sp := fun vs H Q _ => ∃ (a : Addr) (rs : Rws), vs = [.ref a] ∧ H a = some (.lst (rs.map fun r => .ref r.1)) ∧ (∀ r ∈ rs, H r.1 = some (.tup (r.2.map V.str))) ∧ (rs.flatMap (·.2)).length ≤ 1 ∧
  ∀ t H', H t = none → Same H H' → H' t = some (.tup ((rs.flatMap (·.2)).map V.str)) → Q (.ref t) H'
def dtF (t u : Addr) (x : List (Str × V)) : List (Str × V) := ("depth", .int 1) :: ("lives_named", .ref t) :: ("happenings", .ref u) :: ("class_dates", .int 0) :: x
def spDtI (K : PySem.W.Frag) : Sp := fun vs H Q _ => ∃ (p C dx i l h : Addr) (ls : List Str), vs = [.ref p, .ref i, .ref l, .ref h] ∧ H p = some (.ins C dx []) ∧ Cls K C ∧ (∀ f : Str, f ∈ ([("depth"), ("lives_named"), ("happenings"), ("class_dates")] : List Str) → NoAttr K C f) ∧
  H i = some (.tup []) ∧ H l = some (.tup (ls.map V.str)) ∧ H h = some (.tup []) ∧ ls.length ≤ 1 ∧ ∀ H' t u, But p H H' → H' t = some (.tup (ls.map V.str)) → H' u = some (.tup []) → H' p = some (.ins C dx (dtF t u [])) → Q .non H'
theorem flat_take {rs : Rws} {i : Nat} {r : Addr × List Str} (h : rs[i]? = some r) : (rs.take (i + 1)).flatMap (·.2) = (rs.take i).flatMap (·.2) ++ r.2 := by
  rw [take_snoc h, List.flatMap_append]
  simp
theorem flat_le {rs : Rws} {i : Nat} {r : Addr × List Str} (h : rs[i]? = some r) : ((rs.take i).flatMap (·.2)).length + r.2.length ≤ (rs.flatMap (·.2)).length := by
  have e : rs.flatMap (·.2) = (rs.take (i + 1)).flatMap (·.2) ++ (rs.drop (i + 1)).flatMap (·.2) := by rw [← List.flatMap_append, List.take_append_drop]
  rw [e, flat_take h, List.length_append, List.length_append]
  omega
section
variable {P : Program} {w : World} {K : PySem.W.Frag} {mg : Str → Option Value} {base : Heap} {cl : String → Addr}
theorem ok_merged {f : Addr} {fd : FuncData} (F : Fun K "merged" "merged" s_merged f fd) (T : Txt P w K mg cl) : FnOk P w K mg base CX0 1 f fd ["rows"] spMg := by
  refine F.ok sc_merged (fun vs H Q E h => ?_) (fun cdv A outer s H vs Q E hr h => ?_)
  · obtain ⟨a, rs, rfl, _⟩ := h
    rfl
  · obtain ⟨a, rs, rfl, ha, hr1, tot, k⟩ := h
    refine ⟨_, (pss_cons (ps_set (i := 1) sc_merged.nd rfl (Or.inl rfl) (pe_lst pa_nil))
        (pss_cons (ps_for PassesOwn.never rfl (pi_list (pv 0)) (pg_name (i := 2) sc_merged.nd rfl (Or.inl rfl))
          (pss_one (ps_for PassesOwn.never rfl (pi_tup (pv 2)) (pg_name (i := 3) sc_merged.nd rfl (Or.inl rfl))
              (pss_one (ps_if (pt_cmpR op_notIn_seq (pv 3) (pv 1) (by rfl))
                  (pss_one (ps_expr (pe_app1 (by exact (pv 1)) (by exact (pa_cons (pv 3) pa_nil))))) pss_nil)))))
        (pss_one (ps_ret (pe_callTy call_tuple_of (by rfl) T.n_tuple (by decide +kernel) (pa_cons (pv 1) pa_nil)))))), ?_⟩
    refine ⟨Nat.zero_le _, fun D nD => ?_⟩
    have S0 : Same H (upd H D (.lst [])) := sNew nD
    refine ⟨_, rfl, a, rfl, ⟨_, SqL.of (S0 _ _ ha)⟩, for_list (K := K) (a := a) (xs := rs.map fun r => .ref r.1) (fun i σ H1 => Same H H1 ∧ H1 D = some (.lst (((rs.take i).flatMap (·.2)).map V.str)) ∧ ∃ (v2 v3 : Option V), σ = [some (.ref a), some (.ref D), v2, v3]) ⟨S0, upd_same, _, _, rfl⟩ (fun j σ H1 _ q => SqL.of (q.1 _ _ ha)) ?_ ?_⟩
    · rintro i x σ H1 hx ⟨S1, hD, v2, v3, rfl⟩
      rw [List.getElem?_map] at hx
      obtain ⟨r, hr2, rfl⟩ : ∃ r, rs[i]? = some r ∧ V.ref r.1 = x := by
        cases e : rs[i]? with
        | none => rw [e] at hx; cases hx
        | some r => rw [e] at hx; exact ⟨r, rfl, Option.some.inj hx⟩
      have hrow := hr1 r (List.mem_of_getElem? hr2)
      have le := flat_le hr2
      refine ⟨_, rfl, r.1, rfl, ⟨_, SqT.of (S1 _ _ hrow)⟩, for_tup (K := K) (a := r.1) (xs := r.2.map V.str) (fun j σ H2 => Same H H2 ∧ H2 D = some (.lst (((rs.take i).flatMap (·.2) ++ r.2.take j).map V.str)) ∧ ∃ (v3 : Option V), σ = [some (.ref a), some (.ref D), some (.ref r.1), v3]) ⟨S1, by rw [List.take_zero, List.append_nil]; exact hD, _, rfl⟩ (fun j σ H2 _ q => SqT.of (q.1 _ _ hrow)) ?_ ?_⟩
      · rintro j y σ H2 hy ⟨S2, hD2, v3, rfl⟩
        rw [List.getElem?_map] at hy
        obtain ⟨z, hz, rfl⟩ : ∃ z, r.2[j]? = some z ∧ V.str z = y := by
          cases e : r.2[j]? with
          | none => rw [e] at hy; cases hy
          | some z => rw [e] at hy; exact ⟨z, rfl, Option.some.inj hy⟩
        have jl : j < r.2.length := (List.getElem?_eq_some_iff.mp hz).1
        have e1 : (rs.take i).flatMap (·.2) = [] := List.eq_nil_of_length_eq_zero (by omega)
        have j0 : j = 0 := by omega
        subst j0
        rw [e1] at hD2
        have hD2 : H2 D = some (.lst []) := hD2
        refine ⟨_, rfl, _, rfl, D, _, rfl, .inl (SqL.of hD2), rfl, rfl, ?_⟩
        refine ⟨_, rfl, iteT ?_⟩
        refine ⟨_, rfl, .inl ⟨rfl, _, SqL.of hD2⟩, _, rfl, D, [], _, rfl, rfl, hD2, (by show 0 < sizeLine; rw [sizeLine_eq]; decide), ?_⟩
        refine ⟨fun b o e => by rw [upd_ne (ne_of_none e nD)]; exact S2 _ _ e, ?_, _, rfl⟩
        rw [upd_same, e1, take_snoc hz]
        rfl
      · rintro σ H2 ⟨S2, hD2, v3, rfl⟩
        refine ⟨S2, ?_, _, _, rfl⟩
        rw [List.length_map, List.take_length] at hD2
        rw [flat_take hr2]
        exact hD2
    · rintro σ H1 ⟨S1, hD, v2, v3, rfl⟩
      rw [List.length_map, List.take_length] at hD
      refine ⟨_, rfl, D, _, rfl, .inl ⟨SqL.of hD, fun t ht => ?_⟩⟩
      refine k t _ ?_ (fun b o e => by rw [upd_ne (ne_of_none (S1 _ _ e) ht)]; exact S1 _ _ e) upd_same
      cases e : H t with
      | none => rfl
      | some o => rw [S1 _ _ e] at ht; cases ht
theorem cal_merged (T : Txt P w K mg cl) : Cal P w K mg base CX0 1 "merged" ["rows"] spMg := by
  obtain ⟨f, fd, F, m⟩ := T.d_merged
  exact ⟨f, fd, ok_merged F T, m, F.kp, F.binds fun _ _ _ _ _ _ us hl => match us, hl with | [_], _ => rfl⟩
theorem ok_Date_init {f : Addr} {fd : FuncData} (F : Fun K "__init__" "Date.__init__" s_Date_init f fd) (T : Txt P w K mg cl) : FnOk P w K mg base (L2.CX P w) 3 f fd ["self", "inner", "lives_named", "happenings"] (spDtI K) := by
  refine F.okX sc_Date_init (fun vs H Q E h => ?_) (fun cdv A outer s H vs Q E hr h => ?_)
  · obtain ⟨p, C, dx, i, l, h, ls, rfl, _⟩ := h
    rfl
  · obtain ⟨p, C, dx, i, l, h, ls, rfl, hp, hC, hna, hi, hl, hh, hz, k⟩ := h
    have C_merged : Cal P w K mg base CX0 1 "merged" _ spMg := cal_merged T
    refine ⟨_, (pss_cons (ps_set (i := 4) sc_Date_init.nd rfl (Or.inl rfl) (pe_op op_add pe_int (pe_callBK (crk_maxD0 rfl) (by rfl) T.n_max (by decide +kernel) (pa_cons (pe_lc (own := [("date", 5)]) (g := gName 5) (tt := tYes) rfl sc_Date_init.nd (pi_tup (pv 1)) (blkOk_by (own := [("date", 5)]) (N := ["self", "inner", "lives_named", "happenings", "depth", "date"]) (sc := defScope s_Date_init) (by decide +kernel)) (fun _ _ _ _ _ => pg_name (i := 5) sc_Date_init.nd rfl (Or.inl rfl)) (fun _ _ _ _ _ => pts_nil) (fun _ _ _ _ _ => (pe_fldK (K := K) rfl (pv 5) rfl))) pa_nil) (pk_cons pe_int pk_nil))))
        (pss_cons (ps_if (pt_cmpR op_gt (pv 4) (pe_gl T.c_MOST_DEPTH) (nomark _))
          (pss_one (ps_raiseErr (k := 1) (okV := fun _ => True) rfl T.e_BadDate (fun _ _ _ _ => trivial) T.m_BadDate (hr.mono (by decide)) (takes_of rfl rfl rfl rfl) (by exact (pa_cons pe_str pa_nil)))) pss_nil)
        (pss_cons (ps_fld (pv 0) (pv 4) rfl)
        (pss_cons (ps_fld (pv 0) (pe_cal C_merged (hr.mono (by decide)) (pa_cons (pe_op op_cat (pe_lst (pa_cons (pv 2) pa_nil)) (pe_lc (own := [("date", 5)]) (g := gName 5) (tt := tYes) rfl sc_Date_init.nd (pi_tup (pv 1)) (blkOk_by (own := [("date", 5)]) (N := ["self", "inner", "lives_named", "happenings", "depth", "date"]) (sc := defScope s_Date_init) (by decide +kernel)) (fun _ _ _ _ _ => pg_name (i := 5) sc_Date_init.nd rfl (Or.inl rfl)) (fun _ _ _ _ _ => pts_nil) (fun _ _ _ _ _ => (pe_fldK (K := K) rfl (pv 5) rfl)))) pa_nil)) rfl)
        (pss_cons (ps_fld (pv 0) (pe_cal C_merged (hr.mono (by decide)) (pa_cons (pe_op op_cat (pe_lst (pa_cons (pv 3) pa_nil)) (pe_lc (own := [("date", 5)]) (g := gName 5) (tt := tYes) rfl sc_Date_init.nd (pi_tup (pv 1)) (blkOk_by (own := [("date", 5)]) (N := ["self", "inner", "lives_named", "happenings", "depth", "date"]) (sc := defScope s_Date_init) (by decide +kernel)) (fun _ _ _ _ _ => pg_name (i := 5) sc_Date_init.nd rfl (Or.inl rfl)) (fun _ _ _ _ _ => pts_nil) (fun _ _ _ _ _ => (pe_fldK (K := K) rfl (pv 5) rfl)))) pa_nil)) rfl)
        (pss_one (ps_fld (pv 0) (pe_callB (cr_sum rfl) (by rfl) T.n_sum (by decide +kernel) (pa_cons (pe_lc (own := [("date", 5)]) (g := gName 5) (tt := tYes) rfl sc_Date_init.nd (pi_tup (pv 1)) (blkOk_by (own := [("date", 5)]) (N := ["self", "inner", "lives_named", "happenings", "depth", "date"]) (sc := defScope s_Date_init) (by decide +kernel)) (fun _ _ _ _ _ => pg_name (i := 5) sc_Date_init.nd rfl (Or.inl rfl)) (fun _ _ _ _ _ => pts_nil) (fun _ _ _ _ _ => (pe_fldK (K := K) rfl (pv 5) rfl))) pa_nil)) rfl))))))), ?_⟩
    refine ⟨_, rfl, i, rfl, ⟨_, SqT.of hi⟩, fun D nD => lc_tup (K := K) (a := i) (xs := []) (fun j H' => H' = upd H D (.lst [])) rfl (fun j H' _ e => by rw [e]; exact SqT.of (sNew nD _ _ hi)) (fun j x H' hx => (by cases hx)) ?_⟩
    rintro H3 rfl
    have S3 : Same H (upd H D (.lst [])) := sNew nD
    refine ⟨D, _, rfl, rfl, SqL.of upd_same, _, _, rfl, rfl, ?_⟩
    refine ⟨_, rfl, _, _, rfl, rfl, _, rfl, iteF ?_⟩
    have ip : i ≠ p := fun z => by rw [z, hp] at hi; cases hi
    have lp : l ≠ p := fun z => by rw [z, hp] at hl; cases hl
    have hp' : h ≠ p := fun z => by rw [z, hp] at hh; cases hh
    refine ⟨_, rfl, _, rfl, p, _, dx, _, rfl, S3 _ _ hp, hC, hna _ (by decide), (by show 0 < 1000; decide), ?_⟩
    have B1 : But p H (upd (upd H D (.lst [])) p (.ins C dx (putF "depth" (.int (1 + 0)) []))) := fun b o e n => by rw [upd_ne n]; exact S3 _ _ e
    have P1 : (upd (upd H D (.lst [])) p (.ins C dx (putF "depth" (.int (1 + 0)) []))) p = some (.ins C dx [("depth", .int 1)]) := upd_same
    generalize upd (upd H D (.lst [])) p (.ins C dx (putF "depth" (.int (1 + 0)) [])) = G1 at B1 P1
    -- lives_named
    refine ⟨_, rfl, (by show 1 ≤ sizeLine; rw [sizeLine_eq]; decide), fun A2 nA2 => ?_⟩
    have SA2 := sNew (o := .lst [.ref l]) nA2
    refine ⟨_, rfl, i, rfl, ⟨_, SqT.of (SA2 _ _ (B1 _ _ hi ip))⟩, fun D2 nD2 => lc_tup (K := K) (a := i) (xs := []) (fun j H' => H' = upd (upd G1 A2 (.lst [.ref l])) D2 (.lst [])) rfl (fun j H' _ e => by rw [e]; exact SqT.of (sNew nD2 _ _ (SA2 _ _ (B1 _ _ hi ip)))) (fun j x H' hx => (by cases hx)) ?_⟩
    rintro H4 rfl
    have SD2 := sNew (o := .lst []) nD2
    refine ⟨A2, D2, [.ref l], [], rfl, rfl, SD2 _ _ upd_same, upd_same, (by show 1 ≤ sizeLine; rw [sizeLine_eq]; decide), fun M2 nM2 => ?_⟩
    have SM2 := sNew (o := .lst ([.ref l] ++ [])) nM2
    have SG2 : Same G1 (upd (upd (upd G1 A2 (.lst [.ref l])) D2 (.lst [])) M2 (.lst ([.ref l] ++ []))) := fun b o e => SM2 _ _ (SD2 _ _ (SA2 _ _ e))
    refine ⟨M2, [(l, ls)], rfl, upd_same, (fun r hr => by
      obtain rfl : r = (l, ls) := by simpa using hr
      exact SG2 _ _ (B1 _ _ hl lp)), (by simpa using hz), fun t H2 nt SH2 ht => ?_⟩
    have SZ2 : Same G1 H2 := fun b o e => SH2 _ _ (SG2 _ _ e)
    have ht : H2 t = some (.tup ((ls : List Str).map V.str)) := by simpa using ht
    have P2 := SZ2 _ _ P1
    have tp : t ≠ p := fun z => by rw [z, P2] at ht; cases ht
    refine ⟨_, rfl, p, _, dx, _, rfl, P2, hC, hna _ (by decide), (by show 1 < 1000; decide), ?_⟩
    have B3 : But p H (upd H2 p (.ins C dx (putF "lives_named" (.ref t) [("depth", .int 1)]))) := fun b o e n => by rw [upd_ne n]; exact SZ2 _ _ (B1 _ _ e n)
    have P3 : (upd H2 p (.ins C dx (putF "lives_named" (.ref t) [("depth", .int 1)]))) p = some (.ins C dx [("depth", .int 1), ("lives_named", .ref t)]) := upd_same
    have T3 : (upd H2 p (.ins C dx (putF "lives_named" (.ref t) [("depth", .int 1)]))) t = some (.tup (ls.map V.str)) := by rw [upd_ne tp]; exact ht
    generalize upd H2 p (.ins C dx (putF "lives_named" (.ref t) [("depth", .int 1)])) = G3 at B3 P3 T3
    -- happenings
    have hz : ([] : List Str).length ≤ 1 := by decide
    refine ⟨_, rfl, (by show 1 ≤ sizeLine; rw [sizeLine_eq]; decide), fun A4 nA4 => ?_⟩
    have SA4 := sNew (o := .lst [.ref h]) nA4
    refine ⟨_, rfl, i, rfl, ⟨_, SqT.of (SA4 _ _ (B3 _ _ hi ip))⟩, fun D4 nD4 => lc_tup (K := K) (a := i) (xs := []) (fun j H' => H' = upd (upd G3 A4 (.lst [.ref h])) D4 (.lst [])) rfl (fun j H' _ e => by rw [e]; exact SqT.of (sNew nD4 _ _ (SA4 _ _ (B3 _ _ hi ip)))) (fun j x H' hx => (by cases hx)) ?_⟩
    rintro H6 rfl
    have SD4 := sNew (o := .lst []) nD4
    refine ⟨A4, D4, [.ref h], [], rfl, rfl, SD4 _ _ upd_same, upd_same, (by show 1 ≤ sizeLine; rw [sizeLine_eq]; decide), fun M4 nM4 => ?_⟩
    have SM4 := sNew (o := .lst ([.ref h] ++ [])) nM4
    have SG4 : Same G3 (upd (upd (upd G3 A4 (.lst [.ref h])) D4 (.lst [])) M4 (.lst ([.ref h] ++ []))) := fun b o e => SM4 _ _ (SD4 _ _ (SA4 _ _ e))
    refine ⟨M4, [(h, [])], rfl, upd_same, (fun r hr => by
      obtain rfl : r = (h, []) := by simpa using hr
      exact SG4 _ _ (B3 _ _ hh hp')), (by simpa using hz), fun u H4 nu SH4 hu => ?_⟩
    have SZ4 : Same G3 H4 := fun b o e => SH4 _ _ (SG4 _ _ e)
    have hu : H4 u = some (.tup (([] : List Str).map V.str)) := by simpa using hu
    have P4 := SZ4 _ _ P3
    have up : u ≠ p := fun z => by rw [z, P4] at hu; cases hu
    refine ⟨_, rfl, p, _, dx, _, rfl, P4, hC, hna _ (by decide), (by show 2 < 1000; decide), ?_⟩
    have B5 : But p H (upd H4 p (.ins C dx (putF "happenings" (.ref u) [("depth", .int 1), ("lives_named", .ref t)]))) := fun b o e n => by rw [upd_ne n]; exact SZ4 _ _ (B3 _ _ e n)
    have P5 : (upd H4 p (.ins C dx (putF "happenings" (.ref u) [("depth", .int 1), ("lives_named", .ref t)]))) p = some (.ins C dx [("depth", .int 1), ("lives_named", .ref t), ("happenings", .ref u)]) := upd_same
    have T5 : (upd H4 p (.ins C dx (putF "happenings" (.ref u) [("depth", .int 1), ("lives_named", .ref t)]))) t = some (.tup (ls.map V.str)) := by rw [upd_ne tp]; exact SZ4 _ _ T3
    have U5 : (upd H4 p (.ins C dx (putF "happenings" (.ref u) [("depth", .int 1), ("lives_named", .ref t)]))) u = some (.tup []) := by rw [upd_ne up]; exact hu
    generalize upd H4 p (.ins C dx (putF "happenings" (.ref u) [("depth", .int 1), ("lives_named", .ref t)])) = G5 at B5 P5 T5 U5
    -- class_dates
    refine ⟨_, rfl, i, rfl, ⟨_, SqT.of (B5 _ _ hi ip)⟩, fun D6 nD6 => lc_tup (K := K) (a := i) (xs := []) (fun j H' => H' = upd G5 D6 (.lst [])) rfl (fun j H' _ e => by rw [e]; exact SqT.of (sNew nD6 _ _ (B5 _ _ hi ip))) (fun j x H' hx => (by cases hx)) ?_⟩
    rintro H8 rfl
    have SD6 := sNew (o := .lst []) nD6
    refine ⟨D6, [], rfl, SqL.of upd_same, ?_⟩
    have P6 := SD6 _ _ P5
    refine ⟨_, rfl, p, _, dx, _, rfl, P6, hC, hna _ (by decide), (by show 3 < 1000; decide), ?_⟩
    exact k _ t u (fun b o e n => by rw [upd_ne n]; exact SD6 _ _ (B5 _ _ e n)) (by rw [upd_ne tp]; exact SD6 _ _ T5) (by rw [upd_ne up]; exact SD6 _ _ U5) upd_same
end
end My
set_option Elab.async false
set_option linter.all false
set_option maxRecDepth 100000
set_option maxHeartbeats 1000000
namespace My
open PySem L2 Dw Wp
open C8 (pss_cut tCut)
set_option pp.maxSteps 600
def YrAt (cl : String → Addr) (H : Hp) (p : Addr) (n : Int) : Prop := ∃ dx t u, H p = some (.ins (cl "Year") dx (dtF t u [("number", .int n)])) ∧ H t = some (.tup []) ∧ H u = some (.tup [])
def DeAt (cl : String → Addr) (H : Hp) (p : Addr) (s : Str) : Prop := ∃ dx t u, H p = some (.ins (cl "Death") dx (dtF t u [("life", .str s)])) ∧ H t = some (.tup [.str s]) ∧ H u = some (.tup [])
theorem YrAt.same {cl : String → Addr} {H H' : Hp} {p : Addr} {n : Int} (h : YrAt cl H p n) (S : Same H H') : YrAt cl H' p n := by
  obtain ⟨dx, t, u, a, b, c⟩ := h
  exact ⟨dx, t, u, S _ _ a, S _ _ b, S _ _ c⟩
theorem DeAt.same {cl : String → Addr} {H H' : Hp} {p : Addr} {s : Str} (h : DeAt cl H p s) (S : Same H H') : DeAt cl H' p s := by
  obtain ⟨dx, t, u, a, b, c⟩ := h
  exact ⟨dx, t, u, S _ _ a, S _ _ b, S _ _ c⟩
def spYr (cl : String → Addr) : Sp := fun vs H Q _ => ∃ (p dx : Addr) (n : Int), vs = [.ref p, .int n] ∧ H p = some (.ins (cl "Year") dx []) ∧ 0 ≤ n ∧ n ≤ 1000 ∧ ∀ H', But p H H' → YrAt cl H' p n → Q .non H'
def spDe (cl : String → Addr) : Sp := fun vs H Q _ => ∃ (p dx : Addr) (s : Str), vs = [.ref p, .str s] ∧ H p = some (.ins (cl "Death") dx []) ∧ isN (.str s) = true ∧ ∀ H', But p H H' → DeAt cl H' p s → Q .non H'
def spYrEq (cl : String → Addr) : Sp := fun vs H Q _ => ∃ (p q : Addr) (n m : Int), vs = [.ref p, .ref q] ∧ YrAt cl H p n ∧ YrAt cl H q m ∧ Q (.bl (decide (n = m))) H
def spDeEq (cl : String → Addr) : Sp := fun vs H Q _ => ∃ (p q : Addr) (n m : Str), vs = [.ref p, .ref q] ∧ DeAt cl H p n ∧ DeAt cl H q m ∧ Q (.bl (decide (n = m))) H
theorem but_new {d a : Addr} {H : Hp} {o : HO} (n : H a = none) : But d H (upd H a o) := fun b u e _ => by rw [upd_ne (ne_of_none e n)]; exact e
section
variable {P : Program} {w : World} {K : PySem.W.Frag} {mg : Str → Option Value} {base : Heap} {cl : String → Addr}
theorem ok_Year_init (T : Txt P w K mg cl) : ∃ fd, FnOk P w K mg base (L2.CX P w) 5 (He.ma K (cl "Year") "__init__") fd ["self", "number"] (spYr cl) ∧ Binds K fd ["self", "number"] [] := by
  obtain ⟨kV, doc, pm, an, cda, ct, cc, hT⟩ := T.u_Year
  obtain ⟨fdB, FB0⟩ := T.ib_Date
  have FB := ok_Date_init (base := base) FB0 T
  have BB : Binds K fdB ["self", "inner", "lives_named", "happenings"] [] := FB0.binds fun _ _ _ _ _ _ us hl => match us, hl with | [_, _, _, _], _ => rfl
  refine ⟨_, fn_sup hT sc_Year_init (fun vs H Q E h => ?_) (fun A outer s H vs Q E hr h => ?_), sup_binds hT (fun us hl => match us, hl with | [_, _], _ => rfl)⟩
  · obtain ⟨p, dx, v, rfl, _⟩ := h
    rfl
  · obtain ⟨p, dx, v, rfl, hp, n0, n1, k⟩ := h
    have C_is_whole : Cal P w K mg base CX0 1 "is_whole" _ (spW K) := cal_is_whole T
    refine ⟨_, (wss_cons (ps_if (pt_not (pt_val (pe_cal C_is_whole (hr.mono (by decide)) (pa_cons (pv 1) (pa_cons (pe_un un_neg (pe_gl T.c_MOST)) (pa_cons (pe_gl T.c_MOST) pa_nil))))))
          (pss_one (ps_raiseErr (k := 1) (okV := fun _ => True) rfl T.e_BadDate (fun _ _ _ _ => trivial) T.m_BadDate (hr.mono (by decide)) (takes_of rfl rfl rfl rfl) (by exact (pa_cons pe_str pa_nil)))) pss_nil)
        (wss_sup hT sc_Year_init ⟨_, rfl, rfl⟩ T.n_super FB (hr.mono (by decide)) BB (by first | exact pass0 | exact passL) (pa_cons (pe_tup pa_nil) (pa_cons (pe_tup pa_nil) (pa_cons (pe_tup pa_nil) pa_nil)))
        (wss_of (pss_one (ps_fld (pv 0) (pv 1) rfl))) rfl rfl rfl ⟨_, rfl⟩ rfl)), ?_⟩
    refine ⟨_, rfl, _, rfl, _, _, _, _, rfl, (.int v : Dm K H (.int v) "int"), _, rfl, ?_⟩
    rw [show isW (-1000000) 1000000 (.int v) = true by show (decide (-1000000 ≤ v) && decide (v ≤ 1000000)) = true; rw [decide_eq_true (by omega), decide_eq_true (by omega)]; rfl]
    refine iteF ?_
    have S0 : Same H H := Same.refl H
    refine ⟨p, dx, _, rfl, hp, ?_⟩
    refine ⟨(by show 0 ≤ sizeLine; exact Nat.zero_le _), fun a1 n1 => ?_⟩
    have S1 := sNew (o := .tup []) n1
    refine ⟨(by show 0 ≤ sizeLine; rw [sizeLine_eq]; decide), fun a2 n2 => ?_⟩
    have S2 := sNew (o := .tup []) n2
    refine ⟨(by show 0 ≤ sizeLine; exact Nat.zero_le _), fun a3 n3 => ?_⟩
    have S3 := sNew (o := .tup []) n3
    have SS : Same H (upd (upd (upd H a1 (.tup [])) a2 (.tup [])) a3 (.tup [])) := fun b o e => S3 _ _ (S2 _ _ (S1 _ _ e))
    refine ⟨p, _, dx, a1, a2, a3, [], rfl, SS _ _ hp, T.cl_Year, fun f hf => T.na_Year _ ?_, S3 _ _ (S2 _ _ upd_same), S3 _ _ upd_same, upd_same, (by show 0 ≤ 1; decide), fun H' t u B ht hu hp' => ?_⟩
    · simp only [List.mem_cons, List.not_mem_nil, or_false] at hf
      rcases hf with rfl | rfl | rfl | rfl <;> decide
    refine ⟨_, rfl, _, rfl, p, _, dx, _, rfl, hp', T.cl_Year, T.na_Year _ (by decide), (by show 4 < 1000; decide), ?_⟩
    have tp : t ≠ p := fun z => by rw [z, hp'] at ht; cases ht
    have up : u ≠ p := fun z => by rw [z, hp'] at hu; cases hu
    exact k _ (fun b o e n => by rw [upd_ne n]; exact B _ _ (SS _ _ (S0 _ _ e)) n) ⟨dx, t, u, upd_same, by rw [upd_ne tp]; exact ht, by rw [upd_ne up]; exact hu⟩

theorem cal_Year_init (T : Txt P w K mg cl) : CalC P w K mg base (L2.CX P w) 5 (cl "Year") ["self", "number"] (spYr cl) := by
  obtain ⟨fd, F, b⟩ := ok_Year_init (base := base) T
  exact ⟨_, fd, F, T.mk_Year, b⟩
theorem ok_Death_init (T : Txt P w K mg cl) : ∃ fd, FnOk P w K mg base (L2.CX P w) 5 (He.ma K (cl "Death") "__init__") fd ["self", "life"] (spDe cl) ∧ Binds K fd ["self", "life"] [] := by
  obtain ⟨kV, doc, pm, an, cda, ct, cc, hT⟩ := T.u_Death
  obtain ⟨fdB, FB0⟩ := T.ib_Date
  have FB := ok_Date_init (base := base) FB0 T
  have BB : Binds K fdB ["self", "inner", "lives_named", "happenings"] [] := FB0.binds fun _ _ _ _ _ _ us hl => match us, hl with | [_, _, _, _], _ => rfl
  refine ⟨_, fn_sup hT sc_Death_init (fun vs H Q E h => ?_) (fun A outer s H vs Q E hr h => ?_), sup_binds hT (fun us hl => match us, hl with | [_, _], _ => rfl)⟩
  · obtain ⟨p, dx, v, rfl, _⟩ := h
    rfl
  · obtain ⟨p, dx, v, rfl, hp, hn, k⟩ := h
    have C_is_name : Cal P w K mg base CX0 1 "is_name" _ (spN K) := cal_is_name T
    refine ⟨_, (wss_cons (ps_if (pt_not (pt_val (pe_cal C_is_name (hr.mono (by decide)) (pa_cons (pv 1) pa_nil))))
          (pss_one (ps_raiseErr (k := 1) (okV := fun _ => True) rfl T.e_BadDate (fun _ _ _ _ => trivial) T.m_BadDate (hr.mono (by decide)) (takes_of rfl rfl rfl rfl) (by exact (pa_cons pe_str pa_nil)))) pss_nil)
        (wss_sup hT sc_Death_init ⟨_, rfl, rfl⟩ T.n_super FB (hr.mono (by decide)) BB (by first | exact pass0 | exact passL) (pa_cons (pe_tup pa_nil) (pa_cons (pe_tup (pa_cons (pv 1) pa_nil)) (pa_cons (pe_tup pa_nil) pa_nil)))
        (wss_of (pss_one (ps_fld (pv 0) (pv 1) rfl))) rfl rfl rfl ⟨_, rfl⟩ rfl)), ?_⟩
    refine ⟨_, rfl, _, _, rfl, isN_dm hn, fun H0 S0 => ?_⟩
    rw [hn]
    refine ⟨_, rfl, iteF ?_⟩
    have hp := S0 _ _ hp
    refine ⟨p, dx, _, rfl, hp, ?_⟩
    refine ⟨(by show 0 ≤ sizeLine; exact Nat.zero_le _), fun a1 n1 => ?_⟩
    have S1 := sNew (o := .tup []) n1
    refine ⟨_, rfl, (by show 1 ≤ sizeLine; rw [sizeLine_eq]; decide), fun a2 n2 => ?_⟩
    have S2 := sNew (o := .tup [.str v]) n2
    refine ⟨(by show 0 ≤ sizeLine; exact Nat.zero_le _), fun a3 n3 => ?_⟩
    have S3 := sNew (o := .tup []) n3
    have SS : Same H0 (upd (upd (upd H0 a1 (.tup [])) a2 (.tup [.str v])) a3 (.tup [])) := fun b o e => S3 _ _ (S2 _ _ (S1 _ _ e))
    refine ⟨p, _, dx, a1, a2, a3, [v], rfl, SS _ _ hp, T.cl_Death, fun f hf => T.na_Death _ ?_, S3 _ _ (S2 _ _ upd_same), S3 _ _ upd_same, upd_same, (by show 1 ≤ 1; decide), fun H' t u B ht hu hp' => ?_⟩
    · simp only [List.mem_cons, List.not_mem_nil, or_false] at hf
      rcases hf with rfl | rfl | rfl | rfl <;> decide
    refine ⟨_, rfl, _, rfl, p, _, dx, _, rfl, hp', T.cl_Death, T.na_Death _ (by decide), (by show 4 < 1000; decide), ?_⟩
    have tp : t ≠ p := fun z => by rw [z, hp'] at ht; cases ht
    have up : u ≠ p := fun z => by rw [z, hp'] at hu; cases hu
    exact k _ (fun b o e n => by rw [upd_ne n]; exact B _ _ (SS _ _ (S0 _ _ e)) n) ⟨dx, t, u, upd_same, by rw [upd_ne tp]; exact ht, by rw [upd_ne up]; exact hu⟩

theorem cal_Death_init (T : Txt P w K mg cl) : CalC P w K mg base (L2.CX P w) 5 (cl "Death") ["self", "life"] (spDe cl) := by
  obtain ⟨fd, F, b⟩ := ok_Death_init (base := base) T
  exact ⟨_, fd, F, T.mk_Death, b⟩
theorem ok_Year_eq {f : Addr} {fd : FuncData} (F : Fun K "__eq__" "Year.__eq__" s_Year_eq f fd) (T : Txt P w K mg cl) : FnOk P w K mg base CX0 1 f fd ["self", "other"] (spYrEq cl) := by
  refine F.ok sc_Year_eq (fun vs H Q E h => ?_) (fun cdv A outer s H vs Q E hr h => ?_)
  · obtain ⟨p, q, n0, m0, rfl, _⟩ := h
    rfl
  · obtain ⟨p, q, n0, m0, rfl, h1, h2, k⟩ := h
    refine ⟨_, (pss_one (ps_ret (pe_and (pe_callB call_isi (by rfl) T.n_isinstance (by decide +kernel) (pa_cons (pv 1) (pa_cons (pe_cls T.m_Year) pa_nil))) (pe_one (pe_cmpR op_eq (pe_fld (pv 0) rfl) (pe_fld (pv 1) rfl) (nomark _)))))), ?_⟩
    obtain ⟨d1, t1, u1, h1, _⟩ := h1
    obtain ⟨d2, t2, u2, h2, _⟩ := h2
    refine ⟨_, rfl, _, _, _, _, _, rfl, .own (cl "Year"), .base (.ins h2 T.cl_Year T.y_Year T.z1 T.z2 T.z3_Year), T.k_Year_Year, _, rfl, iteT ?_⟩
    refine ⟨_, rfl, p, _, _, _, _, rfl, h1, T.cl_Year, T.na_Year _ (by decide), rfl, _, rfl, q, _, _, _, _, rfl, h2, T.cl_Year, T.na_Year _ (by decide), rfl, rfl, ?_⟩
    rw [eI]
    exact k

theorem cal_Year_eq (T : Txt P w K mg cl) : CalM P w K mg base CX0 1 (cl "Year") "__eq__" ["self", "other"] (spYrEq cl) := by
  obtain ⟨f, fd, F, m⟩ := T.d_Year_eq
  exact ⟨f, fd, ok_Year_eq F T, m, F.binds fun _ _ _ _ _ _ us hl => match us, hl with | [_, _], _ => rfl⟩
theorem ok_Death_eq {f : Addr} {fd : FuncData} (F : Fun K "__eq__" "Death.__eq__" s_Death_eq f fd) (T : Txt P w K mg cl) : FnOk P w K mg base CX0 1 f fd ["self", "other"] (spDeEq cl) := by
  refine F.ok sc_Death_eq (fun vs H Q E h => ?_) (fun cdv A outer s H vs Q E hr h => ?_)
  · obtain ⟨p, q, n0, m0, rfl, _⟩ := h
    rfl
  · obtain ⟨p, q, n0, m0, rfl, h1, h2, k⟩ := h
    refine ⟨_, (pss_one (ps_ret (pe_and (pe_callB call_isi (by rfl) T.n_isinstance (by decide +kernel) (pa_cons (pv 1) (pa_cons (pe_cls T.m_Death) pa_nil))) (pe_one (pe_cmpR op_eq (pe_fld (pv 0) rfl) (pe_fld (pv 1) rfl) (nomark _)))))), ?_⟩
    obtain ⟨d1, t1, u1, h1, _⟩ := h1
    obtain ⟨d2, t2, u2, h2, _⟩ := h2
    refine ⟨_, rfl, _, _, _, _, _, rfl, .own (cl "Death"), .base (.ins h2 T.cl_Death T.y_Death T.z1 T.z2 T.z3_Death), T.k_Death_Death, _, rfl, iteT ?_⟩
    refine ⟨_, rfl, p, _, _, _, _, rfl, h1, T.cl_Death, T.na_Death _ (by decide), rfl, _, rfl, q, _, _, _, _, rfl, h2, T.cl_Death, T.na_Death _ (by decide), rfl, rfl, ?_⟩
    rw [eS]
    exact k

theorem cal_Death_eq (T : Txt P w K mg cl) : CalM P w K mg base CX0 1 (cl "Death") "__eq__" ["self", "other"] (spDeEq cl) := by
  obtain ⟨f, fd, F, m⟩ := T.d_Death_eq
  exact ⟨f, fd, ok_Death_eq F T, m, F.binds fun _ _ _ _ _ _ us hl => match us, hl with | [_, _], _ => rfl⟩
end
end My
set_option Elab.async false
set_option linter.all false
set_option maxRecDepth 100000
set_option maxHeartbeats 1000000
namespace My
open PySem L2 Dw Wp
open C8 (pss_cut tCut)
set_option pp.maxSteps 600
def YdAt (K : PySem.W.Frag) (cl : String → Addr) (H : Hp) (v : V) : Option Int → Prop
  | some n => ∃ q, v = .ref q ∧ YrAt cl H q n
  | none => ∃ t, TyX K H v t ∧ PySem.W.kitOne K t (.ref (cl "Date")) = some false
def DdAt (K : PySem.W.Frag) (cl : String → Addr) (H : Hp) (v : V) : Option Str → Prop
  | some s => ∃ q, v = .ref q ∧ DeAt cl H q s
  | none => ∃ t, TyX K H v t ∧ PySem.W.kitOne K t (.ref (cl "Date")) = some false
theorem YrAt.but {cl : String → Addr} {H H' : Hp} {p q dx : Addr} {C : Addr} {fs : List (Str × V)} {n : Int} (h : YrAt cl H q n) (hp : H p = some (.ins C dx fs)) (qp : q ≠ p) (B : But p H H') : YrAt cl H' q n := by
  obtain ⟨d, t, u, a, b, c⟩ := h
  refine ⟨d, t, u, B _ _ a qp, B _ _ b ?_, B _ _ c ?_⟩
  · intro z; rw [z, hp] at b; cases b
  · intro z; rw [z, hp] at c; cases c
theorem DeAt.but {cl : String → Addr} {H H' : Hp} {p q dx : Addr} {C : Addr} {fs : List (Str × V)} {n : Str} (h : DeAt cl H q n) (hp : H p = some (.ins C dx fs)) (qp : q ≠ p) (B : But p H H') : DeAt cl H' q n := by
  obtain ⟨d, t, u, a, b, c⟩ := h
  refine ⟨d, t, u, B _ _ a qp, B _ _ b ?_, B _ _ c ?_⟩
  · intro z; rw [z, hp] at b; cases b
  · intro z; rw [z, hp] at c; cases c
def cnF (q1 q2 t : Addr) : List (Str × V) := [("one", .ref q1), ("other", .ref q2), ("lives_named", .ref t)]
def spCdI (K : PySem.W.Frag) (cl : String → Addr) : Sp := fun vs H Q E => ∃ (p C dx : Addr) (v1 v2 : V) (r1 : Option Int) (r2 : Option Str), vs = [.ref p, v1, v2] ∧ H p = some (.ins C dx []) ∧ Cls K C ∧ (∀ f : Str, f ∈ ([("one"), ("other"), ("lives_named")] : List Str) → NoAttr K C f) ∧ YdAt K cl H v1 r1 ∧ DdAt K cl H v2 r2 ∧
  (r1 = none → What (cl "BadCondition") E H "one") ∧ (r1 ≠ none → r2 = none → What (cl "BadCondition") E H "other") ∧
  ∀ n s q1 q2, r1 = some n → r2 = some s → v1 = .ref q1 → v2 = .ref q2 → ∀ H' t, But p H H' → H' t = some (.tup [.str s]) → H' p = some (.ins C dx (cnF q1 q2 t)) → YrAt cl H' q1 n → DeAt cl H' q2 s → Q .non H'
def cnC (cl : String → Addr) (c : Bool) : Addr := if c = true then cl "Unless" else cl "By"
def CnAt (cl : String → Addr) (c : Bool) (H : Hp) (p : Addr) (n : Int) (s : Str) (q1 q2 : Addr) : Prop := ∃ dx t, H p = some (.ins (cnC cl c) dx (cnF q1 q2 t)) ∧ H t = some (.tup [.str s]) ∧ YrAt cl H q1 n ∧ DeAt cl H q2 s
def spCn (K : PySem.W.Frag) (cl : String → Addr) (c : Bool) : Sp := fun vs H Q E => ∃ (p dx : Addr) (v1 v2 : V) (r1 : Option Int) (r2 : Option Str), vs = [.ref p, v1, v2] ∧ H p = some (.ins (cnC cl c) dx []) ∧ YdAt K cl H v1 r1 ∧ DdAt K cl H v2 r2 ∧
  (r1 = none → What (cl "BadCondition") E H "one") ∧ (r1 ≠ none → r2 = none → What (cl "BadCondition") E H "other") ∧
  ∀ n s q1 q2, r1 = some n → r2 = some s → v1 = .ref q1 → v2 = .ref q2 → ∀ H', But p H H' → CnAt cl c H' p n s q1 q2 → Q .non H'
theorem ins_ne {H : Hp} {p q C C' d d' : Addr} {a : Str × V} {fs : List (Str × V)} (hp : H p = some (.ins C d [])) (hq : H q = some (.ins C' d' (a :: fs))) : q ≠ p := fun z => by
  rw [z, hp] at hq
  cases (HO.ins.inj (Option.some.inj hq)).2.2
section
variable {P : Program} {w : World} {K : PySem.W.Frag} {mg : Str → Option Value} {base : Heap} {cl : String → Addr}
theorem ok_Condition_init {f : Addr} {fd : FuncData} (F : Fun K "__init__" "Condition.__init__" s_Condition_init f fd) (T : Txt P w K mg cl) : FnOk P w K mg base (L2.CX P w) 2 f fd ["self", "one", "other"] (spCdI K cl) := by
  refine F.okX sc_Condition_init (fun vs H Q E h => ?_) (fun cdv A outer s H vs Q E hr h => ?_)
  · obtain ⟨p, C, dx, v1, v2, r1, r2, rfl, _⟩ := h
    rfl
  · obtain ⟨p, C, dx, v1, v2, r1, r2, rfl, hp, hC, hna, h1, h2, e1, e2, k⟩ := h
    have C_merged : Cal P w K mg base CX0 1 "merged" _ spMg := cal_merged T
    refine ⟨_, (pss_cons (ps_if (pt_not (pt_val (pe_callB call_isi (by rfl) T.n_isinstance (by decide +kernel) (pa_cons (pv 1) (pa_cons (pe_cls T.m_Date) pa_nil)))))
          (pss_one (ps_raiseErr (k := 1) (okV := fun _ => True) rfl T.e_BadCondition (fun _ _ _ _ => trivial) T.m_BadCondition (hr.mono (by decide)) (takes_of rfl rfl rfl rfl) (by exact (pa_cons pe_str pa_nil)))) pss_nil)
        (pss_cons (ps_if (pt_not (pt_val (pe_callB call_isi (by rfl) T.n_isinstance (by decide +kernel) (pa_cons (pv 2) (pa_cons (pe_cls T.m_Date) pa_nil)))))
          (pss_one (ps_raiseErr (k := 1) (okV := fun _ => True) rfl T.e_BadCondition (fun _ _ _ _ => trivial) T.m_BadCondition (hr.mono (by decide)) (takes_of rfl rfl rfl rfl) (by exact (pa_cons pe_str pa_nil)))) pss_nil)
        (pss_cons (ps_fld (pv 0) (pv 1) rfl)
        (pss_cons (ps_fld (pv 0) (pv 2) rfl)
        (pss_one (ps_fld (pv 0) (pe_cal C_merged (hr.mono (by decide)) (pa_cons (pe_lst (pa_cons (pe_fld (pv 1) rfl) (pa_cons (pe_fld (pv 2) rfl) pa_nil))) pa_nil)) rfl)))))), ?_⟩
    cases r1 with
    | none =>
      obtain ⟨t, ht, hk⟩ := h1
      exact ⟨_, rfl, _, _, _, _, _, rfl, .own (cl "Date"), ht, hk, _, rfl, iteT ⟨rfl, trivial, e1 rfl⟩⟩
    | some n =>
    obtain ⟨q1, rfl, hy⟩ := h1
    obtain ⟨dy, ty, uy, hy1, hy2, hy3⟩ := id hy
    refine ⟨_, rfl, _, _, _, _, _, rfl, .own (cl "Date"), .base (.ins hy1 T.cl_Year T.y_Year T.z1 T.z2 T.z3_Year), T.k_Year_Date, _, rfl, iteF ?_⟩
    cases r2 with
    | none =>
      obtain ⟨t, ht, hk⟩ := h2
      exact ⟨_, rfl, _, _, _, _, _, rfl, .own (cl "Date"), ht, hk, _, rfl, iteT ⟨rfl, trivial, e2 (by simp) rfl⟩⟩
    | some s0 =>
    obtain ⟨q2, rfl, hd⟩ := h2
    obtain ⟨dd, td, ud, hd1, hd2, hd3⟩ := id hd
    refine ⟨_, rfl, _, _, _, _, _, rfl, .own (cl "Date"), .base (.ins hd1 T.cl_Death T.y_Death T.z1 T.z2 T.z3_Death), T.k_Death_Date, _, rfl, iteF ?_⟩
    have qp1 := ins_ne hp hy1
    have qp2 := ins_ne hp hd1
    refine ⟨_, rfl, _, rfl, p, _, dx, _, rfl, hp, hC, hna _ (by decide), (by show 0 < 1000; decide), ?_⟩
    refine ⟨_, rfl, _, rfl, p, _, dx, _, rfl, upd_same, hC, hna _ (by decide), (by show 1 < 1000; decide), ?_⟩
    rw [upd_upd]
    have B1 : But p H (upd H p (.ins C dx (putF "other" (.ref q2) (putF "one" (.ref q1) [])))) := but_upd1
    have P1 : (upd H p (.ins C dx (putF "other" (.ref q2) (putF "one" (.ref q1) [])))) p = some (.ins C dx [("one", .ref q1), ("other", .ref q2)]) := upd_same
    generalize upd H p (.ins C dx (putF "other" (.ref q2) (putF "one" (.ref q1) []))) = G1 at B1 P1
    have Y1 := hy.but hp qp1 B1
    have D1 := hd.but hp qp2 B1
    obtain ⟨dy, ty, uy, hy1, hy2, hy3⟩ := id Y1
    obtain ⟨dd, td, ud, hd1, hd2, hd3⟩ := id D1
    refine ⟨_, rfl, q1, _, _, _, _, rfl, hy1, T.cl_Year, T.na_Year _ (by decide), rfl, _, rfl, q2, _, _, _, _, rfl, hd1, T.cl_Death, T.na_Death _ (by decide), rfl, (by show 2 ≤ sizeLine; rw [sizeLine_eq]; decide), fun A nA => ?_⟩
    have SA := sNew (o := .lst [.ref ty, .ref td]) nA
    refine ⟨A, [(ty, []), (td, [s0])], rfl, upd_same, (fun r hr => by
      simp only [List.mem_cons, List.not_mem_nil, or_false] at hr
      rcases hr with rfl | rfl
      · exact SA _ _ hy2
      · exact SA _ _ hd2), (Nat.le_refl 1), fun t H' nt S' ht => ?_⟩
    have SZ : Same G1 H' := fun b o e => S' _ _ (SA _ _ e)
    have P2 := SZ _ _ P1
    have tp : t ≠ p := fun z => by rw [z, P2] at ht; cases ht
    refine ⟨_, rfl, p, _, dx, _, rfl, P2, hC, hna _ (by decide), (by show 2 < 1000; decide), ?_⟩
    exact k n s0 q1 q2 rfl rfl rfl rfl _ t (fun b o e n => by rw [upd_ne n]; exact SZ _ _ (B1 _ _ e n)) (by rw [upd_ne tp]; exact ht) upd_same ((Y1.same SZ).but P2 qp1 but_upd1) ((D1.same SZ).but P2 qp2 but_upd1)
theorem ok_By_init (T : Txt P w K mg cl) : ∃ fd, FnOk P w K mg base (L2.CX P w) 4 (He.ma K (cl "By") "__init__") fd ["self", "one", "other"] (spCn K cl false) ∧ Binds K fd ["self", "one", "other"] [] := by
  obtain ⟨kV, doc, pm, an, cda, ct, cc, hT⟩ := T.u_By
  obtain ⟨fdB, FB0⟩ := T.ib_Condition
  have FB := ok_Condition_init (base := base) FB0 T
  have BB : Binds K fdB ["self", "one", "other"] [] := FB0.binds fun _ _ _ _ _ _ us hl => match us, hl with | [_, _, _], _ => rfl
  refine ⟨_, fn_sup hT sc_By_init (fun vs H Q E h => ?_) (fun A outer s H vs Q E hr h => ?_), sup_binds hT (fun us hl => match us, hl with | [_, _, _], _ => rfl)⟩
  · obtain ⟨p, dx, v1, v2, r1, r2, rfl, _⟩ := h
    rfl
  · obtain ⟨p, dx, v1, v2, r1, r2, rfl, hp, h1, h2, e1, e2, k⟩ := h
    refine ⟨_, (wss_sup hT sc_By_init ⟨_, rfl, rfl⟩ T.n_super FB (hr.mono (by decide)) BB (passes_call (takes_of rfl rfl rfl rfl) (fun _ _ _ _ h => h)) (pa_cons (pv 1) (pa_cons (pv 2) pa_nil))
        (wss_of pss_nil) rfl rfl rfl ⟨_, rfl⟩ rfl), ?_⟩
    refine ⟨p, dx, _, rfl, hp, _, rfl, _, rfl, p, _, dx, v1, v2, r1, r2, rfl, hp, T.cl_By, fun f hf => T.na_By _ hf, h1, h2, e1, e2, ?_⟩
    exact fun n s0 q1 q2 a1 a2 a3 a4 H' t B ht hp' hy hd => k n s0 q1 q2 a1 a2 a3 a4 H' B ⟨dx, t, hp', ht, hy, hd⟩

theorem cal_By_init (T : Txt P w K mg cl) : CalC P w K mg base (L2.CX P w) 4 (cl "By") ["self", "one", "other"] (spCn K cl false) := by
  obtain ⟨fd, F, b⟩ := ok_By_init (base := base) T
  exact ⟨_, fd, F, T.mk_By, b⟩
theorem ok_Unless_init (T : Txt P w K mg cl) : ∃ fd, FnOk P w K mg base (L2.CX P w) 4 (He.ma K (cl "Unless") "__init__") fd ["self", "one", "other"] (spCn K cl true) ∧ Binds K fd ["self", "one", "other"] [] := by
  obtain ⟨kV, doc, pm, an, cda, ct, cc, hT⟩ := T.u_Unless
  obtain ⟨fdB, FB0⟩ := T.ib_Condition
  have FB := ok_Condition_init (base := base) FB0 T
  have BB : Binds K fdB ["self", "one", "other"] [] := FB0.binds fun _ _ _ _ _ _ us hl => match us, hl with | [_, _, _], _ => rfl
  refine ⟨_, fn_sup hT sc_Unless_init (fun vs H Q E h => ?_) (fun A outer s H vs Q E hr h => ?_), sup_binds hT (fun us hl => match us, hl with | [_, _, _], _ => rfl)⟩
  · obtain ⟨p, dx, v1, v2, r1, r2, rfl, _⟩ := h
    rfl
  · obtain ⟨p, dx, v1, v2, r1, r2, rfl, hp, h1, h2, e1, e2, k⟩ := h
    refine ⟨_, (wss_sup hT sc_Unless_init ⟨_, rfl, rfl⟩ T.n_super FB (hr.mono (by decide)) BB (passes_call (takes_of rfl rfl rfl rfl) (fun _ _ _ _ h => h)) (pa_cons (pv 1) (pa_cons (pv 2) pa_nil))
        (wss_of pss_nil) rfl rfl rfl ⟨_, rfl⟩ rfl), ?_⟩
    refine ⟨p, dx, _, rfl, hp, _, rfl, _, rfl, p, _, dx, v1, v2, r1, r2, rfl, hp, T.cl_Unless, fun f hf => T.na_Unless _ hf, h1, h2, e1, e2, ?_⟩
    exact fun n s0 q1 q2 a1 a2 a3 a4 H' t B ht hp' hy hd => k n s0 q1 q2 a1 a2 a3 a4 H' B ⟨dx, t, hp', ht, hy, hd⟩

theorem cal_Unless_init (T : Txt P w K mg cl) : CalC P w K mg base (L2.CX P w) 4 (cl "Unless") ["self", "one", "other"] (spCn K cl true) := by
  obtain ⟨fd, F, b⟩ := ok_Unless_init (base := base) T
  exact ⟨_, fd, F, T.mk_Unless, b⟩
end
end My
set_option Elab.async false
set_option linter.all false
set_option maxRecDepth 100000
set_option maxHeartbeats 1000000
namespace My
open PySem L2 Dw Wp
open C8 (pss_cut tCut)
set_option pp.maxSteps 600
/-! the law's draws: a bag -/
def BgAt (H : Hp) (b : Addr) : Prop := ∃ c s n : Int, H b = some (.lst [.int c, .int s, .int n]) ∧ 0 ≤ c ∧ 0 ≤ s ∧ s < 4294967296
theorem BgAt.same {H H' : Hp} {b : Addr} (h : BgAt H b) (S : Same H H') : BgAt H' b := by
  obtain ⟨c, s, n, h1, h2⟩ := h
  exact ⟨c, s, n, S _ _ h1, h2⟩
theorem BgAt.ne {H : Hp} {b a : Addr} (h : BgAt H b) (n : H a = none) : a ≠ b := by
  obtain ⟨c, s, n, h1, _⟩ := h
  exact Ne.symm (ne_of_none h1 ‹H a = none›)
def spTake : Sp := fun vs H Q _ => ∃ (b : Addr) (m : Int), vs = [.ref b, .int m] ∧ BgAt H b ∧ 1 ≤ m ∧ m < 1073741824 ∧ ∀ (k : Int) (H' : Hp), 0 ≤ k → k < m → BgAt H' b → But b H H' → Q (.int k) H'
def spPick : Sp := fun vs H Q _ => ∃ (b a : Addr) (xs : List V), vs = [.ref b, .ref a] ∧ BgAt H b ∧ H a = some (.lst xs) ∧ a ≠ b ∧ 1 ≤ xs.length ∧ xs.length ≤ 900 ∧ ∀ (j : Nat) (x : V) (H' : Hp), xs[j]? = some x → BgAt H' b → But b H H' → Q x H'
def spBag (K : PySem.W.Frag) : Sp := fun vs H Q _ => ∃ (a : Addr) (ns : List Int) (i : Nat), vs = [.ref a, .int (i : Nat)] ∧ SqL K H a (ns.map V.int) ∧ ns.length ≤ 63 ∧ i ≤ 3 ∧ ∀ b H', H b = none → BgAt H' b → Same H H' → Q (.ref b) H'
section
variable {P : Program} {w : World} {K : PySem.W.Frag} {mg : Str → Option Value} {base : Heap} {cl : String → Addr}
theorem ok_take {f : Addr} {fd : FuncData} (F : Fun K "_law_take" "_law_take" s_take f fd) (T : Txt P w K mg cl) : FnOk P w K mg base CX0 1 f fd ["_law_bag_here", "_law_many"] (spTake) := by
  refine F.ok sc_take (fun vs H Q E h => ?_) (fun cdv A outer s H vs Q E hr h => ?_)
  · obtain ⟨b, m, rfl, _⟩ := h
    rfl
  · obtain ⟨b, m, rfl, ⟨c, s0, n, hb, c0, s1, s2⟩, m1, m2, k⟩ := h
    refine ⟨_, (pss_cons (ps_if (pt_cmpR op_gt (pe_ix ix_list (pv 0) pe_int (fun _ _ => rfl)) pe_int (nomark _))
          (pss_cons (ps_set (i := 2) sc_take.nd rfl (Or.inl rfl) (pe_op op_mod (pe_callTy call_int1 (by rfl) T.n_int (by decide +kernel) (pa_cons (pe_ix ix_list (pv 0) pe_int (fun _ _ => rfl)) pa_nil)) (pv 1)))
            (pss_cons (ps_asg (pe_op op_fdiv (pe_ix ix_list (pv 0) pe_int (fun _ _ => rfl)) (pv 1)) (pg_sub (pv 0) pe_int set_list))
            (pss_one (ps_ret (pv 2))))) pss_nil)
        (pss_cons (ps_asg (pe_op op_add (pe_ix ix_list (pv 0) pe_int (fun _ _ => rfl)) pe_int) (pg_sub (pv 0) pe_int set_list))
        (pss_cons (ps_asg (pe_op op_mod (pe_callTy call_int1 (by rfl) T.n_int (by decide +kernel) (pa_cons (pe_op op_add (pe_op op_add (pe_op op_mul (pe_ix ix_list (pv 0) pe_int (fun _ _ => rfl)) pe_int) (pe_op op_mul pe_int (pe_ix ix_list (pv 0) pe_int (fun _ _ => rfl)))) pe_int) pa_nil)) pe_int) (pg_sub (pv 0) pe_int set_list))
        (pss_one (ps_ret (pe_op op_mod (pe_op op_fdiv (pe_op op_mod (pe_callTy call_int1 (by rfl) T.n_int (by decide +kernel) (pa_cons (pe_op op_mul (pe_ix ix_list (pv 0) pe_int (fun _ _ => rfl)) pe_int) pa_nil)) pe_int) pe_int) (pv 1))))))), ?_⟩
    refine ⟨_, rfl, b, _, _, _, rfl, rfl, SqL.of hb, atI_nat (j := 0) rfl, _, _, rfl, rfl, _, rfl, ?_⟩
    refine ite2 (fun g => ?_) (fun g => ?_)
    · refine ⟨_, rfl, b, _, _, _, rfl, rfl, SqL.of hb, atI_nat (j := 0) rfl, .inl ⟨_, rfl, _, rfl, _, _, rfl, rfl, by omega, ?_⟩⟩
      refine ⟨_, rfl, b, _, _, _, rfl, rfl, SqL.of hb, atI_nat (j := 0) rfl, _, rfl, _, _, rfl, rfl, by unfold CDiv; omega, ?_⟩
      refine ⟨_, rfl, b, _, 0, 0, rfl, rfl, hb, rfl, _, rfl, k _ _ (Int.emod_nonneg _ (by omega)) (Int.emod_lt_of_pos _ (by omega)) ⟨c / m, s0, n, upd_same, ?_, s1, s2⟩ fun x o e n => by rw [upd_ne n]; exact e⟩
      exact Int.ediv_nonneg c0 (by omega)
    · refine ⟨_, rfl, b, _, _, _, rfl, rfl, SqL.of hb, atI_nat (j := 2) rfl, _, _, rfl, rfl, ?_⟩
      refine ⟨_, rfl, b, _, 2, 2, rfl, rfl, hb, rfl, ?_⟩
      have hb1 : (upd H b (.lst ([V.int c, .int s0, .int n].set 2 ((fun i j : Int => V.int (i + j)) n 1)))) b = some (.lst [.int c, .int s0, .int (n + 1)]) := upd_same
      have B1 : But b H (upd H b (.lst ([V.int c, .int s0, .int n].set 2 ((fun i j : Int => V.int (i + j)) n 1)))) := fun x o e n => by rw [upd_ne n]; exact e
      generalize upd H b (.lst ([V.int c, .int s0, .int n].set 2 ((fun i j : Int => V.int (i + j)) n 1))) = H1 at hb1 B1
      refine ⟨_, rfl, b, _, _, _, rfl, rfl, SqL.of hb1, atI_nat (j := 1) rfl, _, _, rfl, rfl, .inr ⟨by decide, by decide⟩, _, rfl, b, _, _, _, rfl, rfl, SqL.of hb1, atI_nat (j := 2) rfl, _, _, rfl, rfl, .inl ⟨by decide, by decide⟩, _, _, rfl, rfl, _, _, rfl, rfl, .inl ⟨_, rfl, _, _, rfl, rfl, (by show (0 : Int) < 2147483647; decide), ?_⟩⟩
      refine ⟨_, rfl, b, _, 1, 1, rfl, rfl, hb1, rfl, ?_⟩
      have n0 : (0 : Int) ≤ (s0 * 48271 + 13 * (n + 1) + 5) % 2147483647 := Int.emod_nonneg _ (by decide)
      have n1 : (s0 * 48271 + 13 * (n + 1) + 5) % 2147483647 < 2147483647 := Int.emod_lt_of_pos _ (by decide)
      have hb2 : (upd H1 b (.lst ([V.int c, .int s0, .int (n + 1)].set 1 (.int ((s0 * 48271 + 13 * (n + 1) + 5) % 2147483647))))) b = some (.lst [.int c, .int ((s0 * 48271 + 13 * (n + 1) + 5) % 2147483647), .int (n + 1)]) := upd_same
      have B2 : But b H (upd H1 b (.lst ([V.int c, .int s0, .int (n + 1)].set 1 (.int ((s0 * 48271 + 13 * (n + 1) + 5) % 2147483647))))) := fun x o e z => by rw [upd_ne z]; exact B1 _ _ e z
      refine ⟨_, rfl, b, _, _, _, rfl, rfl, SqL.of hb2, atI_nat (j := 1) rfl, _, _, rfl, rfl, .inr ⟨by decide, by decide⟩, .inl ⟨_, rfl, _, _, rfl, rfl, (by show (0 : Int) < 2147483629; decide), _, _, rfl, rfl, by unfold CDiv; omega, _, rfl, _, _, rfl, rfl, by omega, ?_⟩⟩
      exact k _ _ (Int.emod_nonneg _ (by omega)) (Int.emod_lt_of_pos _ (by omega)) ⟨c, _, n + 1, hb2, c0, n0, Int.lt_trans n1 (by decide)⟩ B2
theorem cal_take (T : Txt P w K mg cl) : Cal P w K mg base CX0 1 "_law_take" ["_law_bag_here", "_law_many"] (spTake) := by
  obtain ⟨f, fd, F, m⟩ := T.d_take
  exact ⟨f, fd, ok_take F T, m, F.kp, F.binds fun _ _ _ _ _ _ us hl => match us, hl with | [_, _], _ => rfl⟩
theorem ok_pick {f : Addr} {fd : FuncData} (F : Fun K "_law_pick" "_law_pick" s_pick f fd) (T : Txt P w K mg cl) : FnOk P w K mg base CX0 2 f fd ["_law_bag_here", "_law_some"] (spPick) := by
  refine F.ok sc_pick (fun vs H Q E h => ?_) (fun cdv A outer s H vs Q E hr h => ?_)
  · obtain ⟨b, a, xs, rfl, _⟩ := h
    rfl
  · obtain ⟨b, a, xs, rfl, B, ha, nab, l1, l2, k⟩ := h
    have C_take : Cal P w K mg base CX0 1 "_law_take" _ spTake := cal_take T
    refine ⟨_, (pss_one (ps_ret (pe_ix ix_list (pv 1) (pe_cal C_take (hr.mono (by decide)) (pa_cons (pv 0) (pa_cons (pe_callB call_len_seq (by rfl) T.n_len PySem.boot_len (pa_cons (pv 1) pa_nil)) pa_nil))) (fun _ _ => rfl)))), ?_⟩
    refine ⟨_, rfl, _, rfl, _, rfl, a, _, rfl, .inl (SqL.of ha), b, _, rfl, B, by omega, by omega, fun j H' j0 j1 B' D => ?_⟩
    obtain ⟨jn, rfl⟩ : ∃ jn : Nat, j = (jn : Int) := ⟨j.toNat, by omega⟩
    have hj : jn < xs.length := by omega
    exact ⟨a, _, _, _, rfl, rfl, SqL.of (D _ _ ha nab), atI_nat (j := jn) (List.getElem?_eq_getElem hj), k jn _ H' (List.getElem?_eq_getElem hj) B' D⟩
theorem cal_pick (T : Txt P w K mg cl) : Cal P w K mg base CX0 2 "_law_pick" ["_law_bag_here", "_law_some"] (spPick) := by
  obtain ⟨f, fd, F, m⟩ := T.d_pick
  exact ⟨f, fd, ok_pick F T, m, F.kp, F.binds fun _ _ _ _ _ _ us hl => match us, hl with | [_, _], _ => rfl⟩
theorem ok_bag {f : Addr} {fd : FuncData} (F : Fun K "_law_bag" "_law_bag" s_bag f fd) (T : Txt P w K mg cl) : FnOk P w K mg base CX0 1 f fd ["_law_script", "_law_at"] (spBag K) := by
  refine F.ok sc_bag (fun vs H Q E h => ?_) (fun cdv A outer s H vs Q E hr h => ?_)
  · obtain ⟨a, ns, i, rfl, _⟩ := h
    rfl
  · obtain ⟨a, ns, i, rfl, hS, hl, i3, k⟩ := h
    refine ⟨_, (pss_cons (ps_set (i := 2) sc_bag.nd rfl (Or.inl rfl) (pe_cut (pe_ifExp (pt_cmpR op_lt (pv 1) (pe_callB call_len_seq (by rfl) T.n_len PySem.boot_len (pa_cons (pv 0) pa_nil)) (nomark _)) (pe_callB call_abs (by rfl) T.n_abs (by decide +kernel) (pa_cons (pe_callTy call_int1 (by rfl) T.n_int (by decide +kernel) (pa_cons (pe_ix ix_list (pv 0) (pv 1) (fun _ _ => rfl)) pa_nil)) pa_nil)) pe_int)))
        (pss_cons (ps_set (i := 3) sc_bag.nd rfl (Or.inl rfl) (pe_op op_add pe_int (pe_op op_mul pe_int (pv 1))))
        (pss_cons (ps_for PassesOwn.never rfl (pi_enum (by rfl) T.n_enumerate (pa_cons (pe_slice sl_list (pv 0) po_none (po_some pe_int)) pa_nil)) (pg_tup rfl (pgs_cons (pg_name (i := 4) sc_bag.nd rfl (Or.inl rfl)) (pgs_cons (pg_name (i := 5) sc_bag.nd rfl (Or.inl rfl)) pgs_nil)))
          (pss_one (ps_set (i := 3) sc_bag.nd rfl (Or.inl rfl) (pe_op op_mod (pe_callTy call_int1 (by rfl) T.n_int (by decide +kernel) (pa_cons (pe_op op_add (pe_op op_add (pe_op op_mul (pv 3) pe_int) (pe_op op_mod (pe_callTy call_int1 (by rfl) T.n_int (by decide +kernel) (pa_cons (pv 5) pa_nil)) pe_int)) (pe_op op_mul pe_int (pv 4))) pa_nil)) pe_int))))
        (pss_one (ps_ret (pe_lst (pa_cons (pe_ifExp (pt_cmpR op_ge (pv 2) (pe_op op_pow pe_int pe_int) (nomark _)) (pv 2) pe_int) (pa_cons (pv 3) (pa_cons pe_int pa_nil))))))))), ?_⟩
    refine ⟨fun v H' => H' = H ∧ ∃ c0 : Int, v = .int c0 ∧ 0 ≤ c0, ?_, fun v H1 ⟨e, c0, hv, hc0⟩ => ?_⟩
    · refine ⟨_, rfl, _, rfl, a, _, rfl, .inl hS, _, _, rfl, rfl, _, rfl, ite2 (fun g => ?_) (fun g => ?_)⟩
      · have g : (i : Int) < ((ns.map V.int).length : Nat) := of_decide_eq_true g
        have hi : i < ns.length := by rw [List.length_map] at g; omega
        refine ⟨_, rfl, _, rfl, a, _, _, _, rfl, rfl, hS, atI_nat (j := i) (by rw [List.getElem?_map, List.getElem?_eq_getElem hi]; rfl), .inl ⟨_, rfl, _, rfl, rfl, _, rfl, ?_⟩⟩
        split <;> omega
      · exact ⟨rfl, _, rfl, Int.le_refl _⟩
    subst e hv
    refine ⟨_, rfl, _, _, rfl, rfl, .inl ⟨by decide, by decide⟩, _, _, rfl, rfl, ?_⟩
    refine ⟨_, rfl, _, rfl, a, _, rfl, hS, fun p np => ?_⟩
    have Sq := sNew (o := .lst (cutV (ns.map V.int) none (some 63))) np
    have allI : ∀ x ∈ cutV (ns.map V.int) none (some 63), ∃ z, x = V.int z := fun x hx => by
      unfold cutV at hx
      obtain ⟨z, _, rfl⟩ := List.mem_map.mp (List.mem_of_mem_drop (List.mem_of_mem_take hx))
      exact ⟨z, rfl⟩
    refine ⟨p, cutV (ns.map V.int) none (some 63), rfl, SqL.of upd_same, for_it walk_enum (fun j σ H2 => Same (upd H1 p (.lst (cutV (ns.map V.int) none (some 63)))) H2 ∧ ∃ (z : Int) (v4 v5 : Option V), 0 ≤ z ∧ z < 4294967296 ∧ σ = [some (.ref a), some (.int (i : Nat)), some (.int c0), some (.int z), v4, v5]) ⟨Same.refl _, _, _, _, ?_, ?_, rfl⟩ (fun j σ H2 _ q => SqL.of (q.1 _ _ upd_same)) ?_ ?_⟩
    · omega
    · omega
    · rintro j x σ H2 H3 hj ⟨S2, z, v4, v5, z0, z1, rfl⟩ ⟨t, x1, x2, rfl, nt, rfl, h1, h2⟩
      cases h1
      obtain ⟨y, rfl⟩ := allI x2 (List.mem_of_getElem? h2)
      have S3 := sNew (o := .tup [.int (j : Nat), .int y]) nt
      refine ⟨t, _, rfl, SqT.of upd_same, rfl, _, _, rfl, _, _, rfl, rfl, ?_⟩
      refine ⟨_, rfl, _, _, rfl, rfl, .inr ⟨by decide, by decide⟩, _, rfl, .inl ⟨_, rfl, _, _, rfl, rfl, (by show (0 : Int) < 2147483549; decide), _, _, rfl, rfl, _, rfl, _, _, rfl, rfl, .inl ⟨by decide, by decide⟩, _, _, rfl, rfl, .inl ⟨_, rfl, _, _, rfl, rfl, (by show (0 : Int) < 2147483563; decide), ?_⟩⟩⟩
      refine ⟨fun b o e => S3 _ _ (S2 _ _ e), _, _, _, Int.emod_nonneg _ (by decide), ?_, rfl⟩
      exact Int.lt_trans (Int.emod_lt_of_pos _ (by decide)) (by decide)
    · rintro σ H2 ⟨S2, z, v4, v5, z0, z1, rfl⟩
      have SF : Same H1 H2 := fun b o e => S2 _ _ (Sq _ _ e)
      have fin : ∀ c1 : Int, 0 ≤ c1 → (3 : Nat) ≤ sizeLine ∧ ∀ b, H2 b = none → Q (.ref b) (upd H2 b (.lst [.int c1, .int z, .int 0])) := fun c1 hc1 => ⟨by rw [sizeLine_eq]; decide, fun b nb => k b _ (by
        cases e : H1 b with
        | none => rfl
        | some o => rw [SF _ _ e] at nb; cases nb) ⟨_, _, _, upd_same, hc1, z0, z1⟩ (fun x o e => sNew nb _ _ (SF _ _ e))⟩
      refine ⟨_, rfl, _, _, rfl, rfl, ⟨by decide, by decide, by decide⟩, _, _, rfl, rfl, _, rfl, ite2 (fun _ => ?_) (fun _ => ?_)⟩
      · exact ⟨_, rfl, _, rfl, fin _ hc0⟩
      · exact ⟨_, rfl, fin _ (Int.le_refl _)⟩
theorem cal_bag (T : Txt P w K mg cl) : Cal P w K mg base CX0 1 "_law_bag" ["_law_script", "_law_at"] (spBag K) := by
  obtain ⟨f, fd, F, m⟩ := T.d_bag
  exact ⟨f, fd, ok_bag F T, m, F.kp, F.binds fun _ _ _ _ _ _ us hl => match us, hl with | [_, _], _ => rfl⟩
end
end My
set_option Elab.async false
set_option linter.all false
set_option maxRecDepth 100000
set_option maxHeartbeats 1000000
namespace My
open PySem L2 Dw Wp
open C8 (pss_cut tCut)
set_option pp.maxSteps 600
def kw (g : Bool) : Str := if g = true then "grandchildren" else "children"
def tw : Tc → Str
  | .named => "named"
  | .mate => "mate"
  | .told => "told"
  | .whole => "whole"
  | .living => "living"
  | .reaching => "reaching"
  | .first => "firstreaching"
def plF (k : Addr) : Tk → List V
  | .nm m s => [.str (tw (Tk.nm m s).tc), .str s]
  | .kn c g s => [.str (tw (Tk.kn c g s).tc), .ref k]
  | .ag f g s a => [.str (tw (Tk.ag f g s a).tc), .ref k, .int a]
def PkAt (H : Hp) (v : V) (g : Bool) (s : Str) : Prop := ∃ k, v = .ref k ∧ H k = some (.tup [.str (kw g), .str s])
def PlAt (H : Hp) (v : V) (x : Tk) : Prop := ∃ t k, v = .ref t ∧ H t = some (.tup (plF k x)) ∧ ∀ g, x.kin = some g → H k = some (.tup [.str (kw g), .str x.life])
theorem PlAt.same {H H' : Hp} {v : V} {x : Tk} (h : PlAt H v x) (S : Same H H') : PlAt H' v x := by
  obtain ⟨t, k, e, h1, h2⟩ := h
  exact ⟨t, k, e, S _ _ h1, fun g z => S _ _ (h2 g z)⟩
theorem PlAt.but {H H' : Hp} {b : Addr} {v : V} {x : Tk} {ws : List V} (h : PlAt H v x) (hb : H b = some (.lst ws)) (B : But b H H') : PlAt H' v x := by
  obtain ⟨t, k, e, h1, h2⟩ := h
  exact ⟨t, k, e, B _ _ h1 (fun z => by rw [z, hb] at h1; cases h1), fun g z => B _ _ (h2 g z) (fun z' => by have := h2 g z; rw [z', hb] at this; cases this)⟩
def spLKin (cl : String → Addr) : Sp := fun vs H Q _ => ∃ (v : V) (g : Bool) (s : Str), vs = [v] ∧ PkAt H v g s ∧ isN (.str s) = true ∧ ∀ p H', H p = none → Same H H' → KnAt cl H' p g s → Q (.ref p) H'
def spLTk (cl : String → Addr) : Sp := fun vs H Q _ => ∃ (v : V) (x : Tk), vs = [v] ∧ PlAt H v x ∧ TkOk x ∧ ∀ p H', H p = none → Same H H' → TkAt cl H' p x → Q (.ref p) H'
theorem same_of_but {p : Addr} {H H1 H' : Hp} (n : H p = none) (S : Same H H1) (B : But p H1 H') : Same H H' := fun b o e => B b o (S b o e) (ne_of_none e n)
theorem same_mk {x dx : Addr} {H : Hp} {o o' : HO} (nx : H x = none) (nd : H dx = none) : Same H (upd (upd H dx o) x o') := fun b u e => by rw [upd_ne (ne_of_none e nx), upd_ne (ne_of_none e nd)]; exact e
theorem none_back {x : Addr} {H H' : Hp} (S : Same H H') (n : H' x = none) : H x = none := by
  cases e : H x with
  | none => rfl
  | some o => rw [S _ _ e] at n; cases n
section
variable {P : Program} {w : World} {K : PySem.W.Frag} {mg : Str → Option Value} {base : Heap} {cl : String → Addr}
theorem ok_kin {f : Addr} {fd : FuncData} (F : Fun K "_law_kin" "_law_kin" s_kin f fd) (T : Txt P w K mg cl) : FnOk P w K mg base CX0 6 f fd ["_law_kin_here"] (spLKin cl) := by
  refine F.ok sc_kin (fun vs H Q E h => ?_) (fun cdv A outer s H vs Q E hr h => ?_)
  · obtain ⟨v, g, s0, rfl, _⟩ := h
    rfl
  · obtain ⟨v, g, s0, rfl, hk, hn, k⟩ := h
    have I_Children : CalC P w K mg base (L2.CX P w) 4 (cl "Children") ["self", "life"] (spKn (cl "Children")) := cal_Children_init T
    have I_Grandchildren : CalC P w K mg base (L2.CX P w) 4 (cl "Grandchildren") ["self", "life"] (spKn (cl "Grandchildren")) := cal_Grandchildren_init T
    refine ⟨_, (pss_one (ps_ret (pe_ifExp (pt_cmpR op_eq (pe_ix ix_tup (pv 0) pe_int (fun _ _ => rfl)) pe_str (nomark _)) (pe_mk I_Children T.m_Children (hr.mono (by decide))  (pa_cons (pe_ix ix_tup (pv 0) pe_int (fun _ _ => rfl)) pa_nil)) (pe_mk I_Grandchildren T.m_Grandchildren (hr.mono (by decide))  (pa_cons (pe_ix ix_tup (pv 0) pe_int (fun _ _ => rfl)) pa_nil))))), ?_⟩
    obtain ⟨a, rfl, ha⟩ := hk
    cases g with
    | false =>
      refine ⟨_, rfl, a, _, _, _, rfl, rfl, SqT.of ha, atI_nat (j := 0) rfl, rfl, _, rfl, iteT ?_⟩
      refine ⟨_, rfl, a, _, _, _, rfl, rfl, SqT.of ha, atI_nat (j := 1) rfl, fun x dx nx nd ne => ⟨x, dx, s0, rfl, upd_same, hn, fun H' B hx => ⟨rfl, k x H' nx ?_ ⟨dx, hx⟩⟩⟩⟩
      exact same_of_but nx (same_mk nx nd) B
    | true =>
      refine ⟨_, rfl, a, _, _, _, rfl, rfl, SqT.of ha, atI_nat (j := 0) rfl, rfl, _, rfl, iteF ?_⟩
      refine ⟨_, rfl, a, _, _, _, rfl, rfl, SqT.of ha, atI_nat (j := 1) rfl, fun x dx nx nd ne => ⟨x, dx, s0, rfl, upd_same, hn, fun H' B hx => ⟨rfl, k x H' nx ?_ ⟨dx, hx⟩⟩⟩⟩
      exact same_of_but nx (same_mk nx nd) B
theorem cal_kin (T : Txt P w K mg cl) : Cal P w K mg base CX0 6 "_law_kin" ["_law_kin_here"] (spLKin cl) := by
  obtain ⟨f, fd, F, m⟩ := T.d_kin
  exact ⟨f, fd, ok_kin F T, m, F.kp, F.binds fun _ _ _ _ _ _ us hl => match us, hl with | [_], _ => rfl⟩
theorem ok_taker {f : Addr} {fd : FuncData} (F : Fun K "_law_taker" "_law_taker" s_taker f fd) (T : Txt P w K mg cl) : FnOk P w K mg base CX0 7 f fd ["_law_taker_here"] (spLTk cl) := by
  refine F.ok sc_taker (fun vs H Q E h => ?_) (fun cdv A outer s H vs Q E hr h => ?_)
  · obtain ⟨v, x, rfl, _⟩ := h
    rfl
  · obtain ⟨v, x, rfl, hp, ho, k⟩ := h
    have I_Named : CalC P w K mg base (L2.CX P w) 4 (cl "Named") ["self", "life"] (spNm K cl false) := cal_Named_init T
    have I_Mate : CalC P w K mg base (L2.CX P w) 4 (cl "Mate") ["self", "life"] (spNm K cl true) := cal_Mate_init T
    have I_Told : CalC P w K mg base (L2.CX P w) 4 (cl "Told") ["self", "kin"] (spKd K cl .told) := cal_Told_init T
    have I_Whole : CalC P w K mg base (L2.CX P w) 4 (cl "Whole") ["self", "kin"] (spKd K cl .whole) := cal_Whole_init T
    have I_Living : CalC P w K mg base (L2.CX P w) 4 (cl "Living") ["self", "kin"] (spKd K cl .living) := cal_Living_init T
    have I_Reaching : CalC P w K mg base (L2.CX P w) 4 (cl "Reaching") ["self", "kin", "age"] (spAg K cl false) := cal_Reaching_init T
    have I_FirstReaching : CalC P w K mg base (L2.CX P w) 4 (cl "FirstReaching") ["self", "kin", "age"] (spAg K cl true) := cal_FirstReaching_init T
    have C_kin : Cal P w K mg base CX0 6 "_law_kin" ["_law_kin_here"] (spLKin cl) := cal_kin T
    refine ⟨_, (pss_cons (ps_set (i := 1) sc_taker.nd rfl (Or.inl rfl) (pe_ix ix_tup (pv 0) pe_int (fun _ _ => rfl)))
        (pss_cons (ps_if (pt_cmpR op_eq (pv 1) pe_str (nomark _))
          (pss_one (ps_ret (pe_mk I_Named T.m_Named (hr.mono (by decide))  (pa_cons (pe_ix ix_tup (pv 0) pe_int (fun _ _ => rfl)) pa_nil)))) pss_nil)
        (pss_cons (ps_if (pt_cmpR op_eq (pv 1) pe_str (nomark _))
          (pss_one (ps_ret (pe_mk I_Mate T.m_Mate (hr.mono (by decide))  (pa_cons (pe_ix ix_tup (pv 0) pe_int (fun _ _ => rfl)) pa_nil)))) pss_nil)
        (pss_cons (ps_set (i := 2) sc_taker.nd rfl (Or.inl rfl) (pe_cal C_kin (hr.mono (by decide)) (pa_cons (pe_ix ix_tup (pv 0) pe_int (fun _ _ => rfl)) pa_nil)))
        (pss_cons (ps_if (pt_cmpR op_eq (pv 1) pe_str (nomark _))
          (pss_one (ps_ret (pe_mk I_Told T.m_Told (hr.mono (by decide))  (pa_cons (pv 2) pa_nil)))) pss_nil)
        (pss_cons (ps_if (pt_cmpR op_eq (pv 1) pe_str (nomark _))
          (pss_one (ps_ret (pe_mk I_Whole T.m_Whole (hr.mono (by decide))  (pa_cons (pv 2) pa_nil)))) pss_nil)
        (pss_cons (ps_if (pt_cmpR op_eq (pv 1) pe_str (nomark _))
          (pss_one (ps_ret (pe_mk I_Living T.m_Living (hr.mono (by decide))  (pa_cons (pv 2) pa_nil)))) pss_nil)
        (pss_one (ps_ret (pe_ifExp (pt_cmpR op_eq (pv 1) pe_str (nomark _)) (pe_mk I_Reaching T.m_Reaching (hr.mono (by decide))  (pa_cons (pv 2) (pa_cons (pe_ix ix_tup (pv 0) pe_int (fun _ _ => rfl)) pa_nil))) (pe_mk I_FirstReaching T.m_FirstReaching (hr.mono (by decide))  (pa_cons (pv 2) (pa_cons (pe_ix ix_tup (pv 0) pe_int (fun _ _ => rfl)) pa_nil))))))))))))), ?_⟩
    rcases x with ⟨_ | _, s1⟩ | ⟨_ | _ | _, g1, s1⟩ | ⟨_ | _, g1, s1, a1⟩
    · obtain ⟨t, q, rfl, ht, hq⟩ := hp
      refine ⟨_, rfl, t, _, _, _, rfl, rfl, SqT.of ht, atI_nat (j := 0) rfl, ?_⟩
      refine ⟨_, rfl, rfl, _, rfl, iteT ?_⟩
      refine ⟨_, rfl, t, _, _, _, rfl, rfl, SqT.of ht, atI_nat (j := 1) rfl, fun x dx nx nd ne => ⟨x, dx, _, _, rfl, upd_same, isN_dm ho.nm, fun s' e1 _ H' B hx => ⟨rfl, ?_⟩, fun e => absurd (show isN (.str s1) = true from ho.nm) (by rw [show isN (.str s1) = false from e]; decide)⟩⟩
      cases e1
      exact k x H' nx (same_of_but nx (same_mk nx nd) B) hx
    · obtain ⟨t, q, rfl, ht, hq⟩ := hp
      refine ⟨_, rfl, t, _, _, _, rfl, rfl, SqT.of ht, atI_nat (j := 0) rfl, ?_⟩
      refine ⟨_, rfl, rfl, _, rfl, iteF ?_⟩
      refine ⟨_, rfl, rfl, _, rfl, iteT ?_⟩
      refine ⟨_, rfl, t, _, _, _, rfl, rfl, SqT.of ht, atI_nat (j := 1) rfl, fun x dx nx nd ne => ⟨x, dx, _, _, rfl, upd_same, isN_dm ho.nm, fun s' e1 _ H' B hx => ⟨rfl, ?_⟩, fun e => absurd (show isN (.str s1) = true from ho.nm) (by rw [show isN (.str s1) = false from e]; decide)⟩⟩
      cases e1
      exact k x H' nx (same_of_but nx (same_mk nx nd) B) hx
    · obtain ⟨t, q, rfl, ht, hq⟩ := hp
      refine ⟨_, rfl, t, _, _, _, rfl, rfl, SqT.of ht, atI_nat (j := 0) rfl, ?_⟩
      refine ⟨_, rfl, rfl, _, rfl, iteF ?_⟩
      refine ⟨_, rfl, rfl, _, rfl, iteF ?_⟩
      refine ⟨_, rfl, t, _, _, _, rfl, rfl, SqT.of ht, atI_nat (j := 1) rfl, _, g1, s1, rfl, ⟨q, rfl, hq g1 rfl⟩, ho.nm, fun p H1 np S1 K1 => ?_⟩
      refine ⟨_, rfl, rfl, _, rfl, iteT ?_⟩
      refine ⟨_, rfl, fun x dx nx nd ne => ⟨x, dx, _, some (g1, s1), rfl, upd_same, ⟨p, rfl, K1.same (same_mk nx nd)⟩, fun g' s' e1 H' B hx => ⟨rfl, ?_⟩, fun e => by cases e⟩⟩
      cases e1
      exact k x H' (none_back S1 nx) (same_of_but (none_back S1 nx) (fun b o e => same_mk nx nd _ _ (S1 _ _ e)) B) hx
    · obtain ⟨t, q, rfl, ht, hq⟩ := hp
      refine ⟨_, rfl, t, _, _, _, rfl, rfl, SqT.of ht, atI_nat (j := 0) rfl, ?_⟩
      refine ⟨_, rfl, rfl, _, rfl, iteF ?_⟩
      refine ⟨_, rfl, rfl, _, rfl, iteF ?_⟩
      refine ⟨_, rfl, t, _, _, _, rfl, rfl, SqT.of ht, atI_nat (j := 1) rfl, _, g1, s1, rfl, ⟨q, rfl, hq g1 rfl⟩, ho.nm, fun p H1 np S1 K1 => ?_⟩
      refine ⟨_, rfl, rfl, _, rfl, iteF ?_⟩
      refine ⟨_, rfl, rfl, _, rfl, iteT ?_⟩
      refine ⟨_, rfl, fun x dx nx nd ne => ⟨x, dx, _, some (g1, s1), rfl, upd_same, ⟨p, rfl, K1.same (same_mk nx nd)⟩, fun g' s' e1 H' B hx => ⟨rfl, ?_⟩, fun e => by cases e⟩⟩
      cases e1
      exact k x H' (none_back S1 nx) (same_of_but (none_back S1 nx) (fun b o e => same_mk nx nd _ _ (S1 _ _ e)) B) hx
    · obtain ⟨t, q, rfl, ht, hq⟩ := hp
      refine ⟨_, rfl, t, _, _, _, rfl, rfl, SqT.of ht, atI_nat (j := 0) rfl, ?_⟩
      refine ⟨_, rfl, rfl, _, rfl, iteF ?_⟩
      refine ⟨_, rfl, rfl, _, rfl, iteF ?_⟩
      refine ⟨_, rfl, t, _, _, _, rfl, rfl, SqT.of ht, atI_nat (j := 1) rfl, _, g1, s1, rfl, ⟨q, rfl, hq g1 rfl⟩, ho.nm, fun p H1 np S1 K1 => ?_⟩
      refine ⟨_, rfl, rfl, _, rfl, iteF ?_⟩
      refine ⟨_, rfl, rfl, _, rfl, iteF ?_⟩
      refine ⟨_, rfl, rfl, _, rfl, iteT ?_⟩
      refine ⟨_, rfl, fun x dx nx nd ne => ⟨x, dx, _, some (g1, s1), rfl, upd_same, ⟨p, rfl, K1.same (same_mk nx nd)⟩, fun g' s' e1 H' B hx => ⟨rfl, ?_⟩, fun e => by cases e⟩⟩
      cases e1
      exact k x H' (none_back S1 nx) (same_of_but (none_back S1 nx) (fun b o e => same_mk nx nd _ _ (S1 _ _ e)) B) hx
    · obtain ⟨t, q, rfl, ht, hq⟩ := hp
      refine ⟨_, rfl, t, _, _, _, rfl, rfl, SqT.of ht, atI_nat (j := 0) rfl, ?_⟩
      refine ⟨_, rfl, rfl, _, rfl, iteF ?_⟩
      refine ⟨_, rfl, rfl, _, rfl, iteF ?_⟩
      refine ⟨_, rfl, t, _, _, _, rfl, rfl, SqT.of ht, atI_nat (j := 1) rfl, _, g1, s1, rfl, ⟨q, rfl, hq g1 rfl⟩, ho.nm, fun p H1 np S1 K1 => ?_⟩
      refine ⟨_, rfl, rfl, _, rfl, iteF ?_⟩
      refine ⟨_, rfl, rfl, _, rfl, iteF ?_⟩
      refine ⟨_, rfl, rfl, _, rfl, iteF ?_⟩
      refine ⟨_, rfl, rfl, _, rfl, iteT ?_⟩
      refine ⟨_, rfl, _, rfl, t, _, _, _, rfl, rfl, SqT.of (S1 _ _ ht), atI_nat (j := 2) rfl, fun x dx nx nd ne => ⟨x, dx, _, _, _, some (g1, s1), rfl, upd_same, ⟨p, rfl, K1.same (same_mk nx nd)⟩, .int a1, fun g' s' i' e1 e2 _ H' B hx => ⟨rfl, ?_⟩, (fun e => by cases e), fun _ e => ?_⟩⟩
      · cases e1
        cases e2
        exact k x H' (none_back S1 nx) (same_of_but (none_back S1 nx) (fun b o e => same_mk nx nd _ _ (S1 _ _ e)) B) hx
      · exact absurd (show isW 0 1000000 (.int a1) = true from by show (decide (0 ≤ a1) && decide (a1 ≤ 1000000)) = true; rw [decide_eq_true (show 0 ≤ a1 from ho.lo), decide_eq_true (show a1 ≤ 1000000 from ho.hi)]; rfl) (by rw [e]; decide)
    · obtain ⟨t, q, rfl, ht, hq⟩ := hp
      refine ⟨_, rfl, t, _, _, _, rfl, rfl, SqT.of ht, atI_nat (j := 0) rfl, ?_⟩
      refine ⟨_, rfl, rfl, _, rfl, iteF ?_⟩
      refine ⟨_, rfl, rfl, _, rfl, iteF ?_⟩
      refine ⟨_, rfl, t, _, _, _, rfl, rfl, SqT.of ht, atI_nat (j := 1) rfl, _, g1, s1, rfl, ⟨q, rfl, hq g1 rfl⟩, ho.nm, fun p H1 np S1 K1 => ?_⟩
      refine ⟨_, rfl, rfl, _, rfl, iteF ?_⟩
      refine ⟨_, rfl, rfl, _, rfl, iteF ?_⟩
      refine ⟨_, rfl, rfl, _, rfl, iteF ?_⟩
      refine ⟨_, rfl, rfl, _, rfl, iteF ?_⟩
      refine ⟨_, rfl, _, rfl, t, _, _, _, rfl, rfl, SqT.of (S1 _ _ ht), atI_nat (j := 2) rfl, fun x dx nx nd ne => ⟨x, dx, _, _, _, some (g1, s1), rfl, upd_same, ⟨p, rfl, K1.same (same_mk nx nd)⟩, .int a1, fun g' s' i' e1 e2 _ H' B hx => ⟨rfl, ?_⟩, (fun e => by cases e), fun _ e => ?_⟩⟩
      · cases e1
        cases e2
        exact k x H' (none_back S1 nx) (same_of_but (none_back S1 nx) (fun b o e => same_mk nx nd _ _ (S1 _ _ e)) B) hx
      · exact absurd (show isW 0 1000000 (.int a1) = true from by show (decide (0 ≤ a1) && decide (a1 ≤ 1000000)) = true; rw [decide_eq_true (show 0 ≤ a1 from ho.lo), decide_eq_true (show a1 ≤ 1000000 from ho.hi)]; rfl) (by rw [e]; decide)
theorem cal_taker (T : Txt P w K mg cl) : Cal P w K mg base CX0 7 "_law_taker" ["_law_taker_here"] (spLTk cl) := by
  obtain ⟨f, fd, F, m⟩ := T.d_taker
  exact ⟨f, fd, ok_taker F T, m, F.kp, F.binds fun _ _ _ _ _ _ us hl => match us, hl with | [_], _ => rfl⟩
end
end My
set_option Elab.async false
set_option linter.all false
set_option maxRecDepth 100000
set_option maxHeartbeats 1000000
namespace My
open PySem L2 Dw Wp
open C8 (pss_cut tCut)
set_option pp.maxSteps 600
def Lt (s : Str) : Prop := ∀ c ∈ s.cps.toList, c ∈ letters
theorem isN_of {s : Str} (h1 : 1 ≤ s.length) (h8 : s.length ≤ 8) (h : Lt s) : isN (.str s) = true := by
  show (decide (1 ≤ s.length) && decide (s.length ≤ 8) && s.cps.toList.all fun c => decide (c ∈ letters)) = true
  rw [decide_eq_true h1, decide_eq_true h8, Bool.true_and, Bool.true_and]
  exact List.all_eq_true.mpr fun c hc => decide_eq_true (h c hc)
theorem isN_lt {s : Str} (h : isN (.str s) = true) : 1 ≤ s.length ∧ s.length ≤ 8 ∧ Lt s := by
  have h : (decide (1 ≤ s.length) && decide (s.length ≤ 8) && s.cps.toList.all fun c => decide (c ∈ letters)) = true := h
  obtain ⟨h1, h2⟩ := Bool.and_eq_true_iff.mp h
  obtain ⟨h3, h4⟩ := Bool.and_eq_true_iff.mp h1
  exact ⟨of_decide_eq_true h3, of_decide_eq_true h4, fun c hc => of_decide_eq_true (List.all_eq_true.mp h2 c hc)⟩
def spWord : Sp := fun vs H Q _ => ∃ (b : Addr), vs = [.ref b] ∧ BgAt H b ∧ ∀ (s : Str) (H' : Hp), isN (.str s) = true → BgAt H' b → But b H H' → Q (.str s) H'
theorem but_but {d : Addr} {H H1 H' : Hp} (k : But d H H1) (k' : But d H1 H') : But d H H' := fun b o e n => k' _ _ (k _ _ e n) n
theorem BgAt.upd {H : Hp} {b a : Addr} {o : HO} (h : BgAt H b) (n : a ≠ b) : BgAt (L2.upd H a o) b := by
  obtain ⟨c, s, z, h1, h2⟩ := h
  exact ⟨c, s, z, by rw [upd_ne (Ne.symm n)]; exact h1, h2⟩
def lettersS : Str := "abcdefghijklmnopqrstuvwxyz"
section
variable {P : Program} {w : World} {K : PySem.W.Frag} {mg : Str → Option Value} {base : Heap} {cl : String → Addr}
theorem ok_word {f : Addr} {fd : FuncData} (F : Fun K "_law_word" "_law_word" s_word f fd) (T : Txt P w K mg cl) : FnOk P w K mg base CX0 3 f fd ["_law_bag_here"] (spWord) := by
  refine F.ok sc_word (fun vs H Q E h => ?_) (fun cdv A outer s H vs Q E hr h => ?_)
  · obtain ⟨b, rfl, _⟩ := h
    rfl
  · obtain ⟨b, rfl, B, k⟩ := h
    have C_take : Cal P w K mg base CX0 1 "_law_take" _ spTake := cal_take T
    have C_pick : Cal P w K mg base CX0 2 "_law_pick" _ spPick := cal_pick T
    refine ⟨_, (pss_cons (ps_asg (pe_tup (pa_cons pe_str (pa_cons pe_str pa_nil))) (pg_tup rfl (pgs_cons (pg_name (i := 1) sc_word.nd rfl (Or.inl rfl)) (pgs_cons (pg_name (i := 2) sc_word.nd rfl (Or.inl rfl)) pgs_nil))))
        (pss_cons (ps_for PassesOwn.never rfl (pi_range1 rfl T.n_range (pa_cons (pe_cal C_pick (hr.mono (by decide)) (pa_cons (pv 0) (pa_cons (pe_lst (pa_cons pe_int (pa_cons pe_int (pa_cons pe_int (pa_cons pe_int (pa_cons pe_int pa_nil)))))) pa_nil))) pa_nil)) (pg_name (i := 3) sc_word.nd rfl (Or.inl rfl))
          (pss_one (ps_set (i := 2) sc_word.nd rfl (Or.inl rfl) (pe_op op_add_str (pv 2) (pe_ix ix_str (pv 1) (pe_cal C_take (hr.mono (by decide)) (pa_cons (pv 0) (pa_cons pe_int pa_nil))) (fun _ _ => rfl))))))
        (pss_one (ps_ret (pv 2))))), ?_⟩
    refine ⟨(by show 2 ≤ sizeLine; rw [sizeLine_eq]; decide), fun t nt => ⟨t, _, rfl, SqT.of upd_same, rfl, _, _, rfl, _, _, rfl, rfl, ?_⟩⟩
    have S1 := sNew (o := .tup [.str lettersS, .str ""]) nt
    refine ⟨_, rfl, (by show 5 ≤ sizeLine; rw [sizeLine_eq]; decide), fun a na => ?_⟩
    have S2 := sNew (o := .lst [.int 1, .int 1, .int 2, .int 3, .int 8]) na
    have B2 := (B.same S1).same S2
    refine ⟨b, a, _, rfl, B2, upd_same, (B.same S1).ne na, by decide, by decide, fun j x H3 hx B3 D3 => ?_⟩
    obtain ⟨n, rfl, n1, n8⟩ : ∃ n : Int, x = .int n ∧ 1 ≤ n ∧ n ≤ 8 := by
      have := List.mem_of_getElem? hx
      simp only [List.mem_cons, List.not_mem_nil, or_false] at this
      rcases this with rfl | rfl | rfl | rfl | rfl <;> exact ⟨_, rfl, by decide, by decide⟩
    have D0 : But b H H3 := fun x o e n => D3 _ _ (S2 _ _ (S1 _ _ e)) n
    refine ⟨n, rfl, by omega, by omega, ?_⟩
    refine for_range (fun j σ H' => But b H H' ∧ BgAt H' b ∧ ∃ (s : Str) (v3 : Option V), s.length = j ∧ Lt s ∧ σ = [some (.ref b), some (.str lettersS), some (.str s), v3]) ⟨D0, B3, "", _, rfl, (fun c hc => by cases hc), rfl⟩ ?_ ?_
    · rintro j σ H4 hj ⟨D4, B4, s1, v3, l1, t1, rfl⟩
      refine ⟨_, rfl, _, rfl, _, rfl, b, 26, rfl, B4, by decide, by decide, fun q H5 q0 q1 B5 D5 => ?_⟩
      obtain ⟨qn, rfl⟩ : ∃ qn : Nat, q = (qn : Int) := ⟨q.toNat, by omega⟩
      have hq : qn < lettersS.cps.toList.length := by show qn < 26; omega
      refine ⟨lettersS, _, _, rfl, rfl, (by rw [show lettersS.length = 26 from rfl, sizeLine_eq]; decide), atI_nat (j := qn) (List.getElem?_eq_getElem hq), ?_⟩
      have hj8 : j < 8 := by omega
      refine ⟨s1, _, rfl, rfl, (by rw [show (⟨#[lettersS.cps.toList[qn]]⟩ : Str).length = 1 from rfl, sizeLine_eq]; omega), ?_⟩
      refine ⟨but_but D4 D5, B5, s1 ++ ⟨#[lettersS.cps.toList[qn]]⟩, _, ?_, ?_, rfl⟩
      · rw [Str.length_append, show (⟨#[lettersS.cps.toList[qn]]⟩ : Str).length = 1 from rfl, l1]
      · intro c hc
        rw [Str.cps_append, Array.toList_append] at hc
        rcases List.mem_append.mp hc with z | z
        · exact t1 c z
        · have z : c ∈ [lettersS.cps.toList[qn]] := z
          rw [List.mem_singleton.mp z]
          exact List.getElem_mem hq
    · rintro σ H4 ⟨D4, B4, s1, v3, l1, t1, rfl⟩
      exact ⟨_, rfl, k s1 H4 (isN_of (by omega) (by omega) t1) B4 D4⟩
theorem cal_word (T : Txt P w K mg cl) : Cal P w K mg base CX0 3 "_law_word" ["_law_bag_here"] (spWord) := by
  obtain ⟨f, fd, F, m⟩ := T.d_word
  exact ⟨f, fd, ok_word F T, m, F.kp, F.binds fun _ _ _ _ _ _ us hl => match us, hl with | [_], _ => rfl⟩
end
end My
set_option Elab.async false
set_option linter.all false
set_option maxRecDepth 100000
set_option maxHeartbeats 1000000
namespace My
open PySem L2 Dw Wp
open C8 (pss_cut tCut)
set_option pp.maxSteps 600
theorem mulOk9 {s : Str} (h : s.length ≤ 8) : MulOk s 9 := by
  refine ⟨by decide, fun _ _ => ?_, fun _ _ => ?_⟩
  · have : (((2 : Int) ^ 63 - 1) / 9) = 1024819115206086200 := by decide
    rw [this]
    omega
  · unfold PySem.Builtin.Str.tooLong
    have : s.length * (9 : Int).toNat = s.length * 9 := rfl
    rw [this]
    exact decide_eq_false (by have := sizeLine_eq; omega)
theorem no_long {t : Str} (h : 8 < t.length) : isN (.str t) = false := by
  show (decide (1 ≤ t.length) && decide (t.length ≤ 8) && t.cps.toList.all fun c => decide (c ∈ letters)) = false
  rw [decide_eq_false (show ¬ t.length ≤ 8 by omega), Bool.and_false, Bool.false_and]
theorem no_sign {t : Str} {c : Nat} (h : c ∈ t.cps.toList) (n : c ∉ letters) : isN (.str t) = false := by
  show (decide (1 ≤ t.length) && decide (t.length ≤ 8) && t.cps.toList.all fun c => decide (c ∈ letters)) = false
  rw [show (t.cps.toList.all fun c => decide (c ∈ letters)) = false from ?_, Bool.and_false]
  rw [Bool.eq_false_iff]
  intro z
  exact n (of_decide_eq_true (List.all_eq_true.mp z c h))
theorem no_back (a : Str) {c : Nat} (n : c ∉ letters) : isN (.str (a ++ ⟨#[c]⟩)) = false := no_sign (by rw [Str.cps_append, Array.toList_append]; exact List.mem_append_right _ List.mem_cons_self) n
theorem no_front (a : Str) {c : Nat} (n : c ∉ letters) : isN (.str (⟨#[c]⟩ ++ a)) = false := no_sign (by rw [Str.cps_append, Array.toList_append]; exact List.mem_append_left _ List.mem_cons_self) n
theorem cut9 {z : Str} (h : 9 ≤ z.length) : (cutS z none (some 9)).length = 9 := by
  unfold cutS
  show (List.toArray _).size = 9
  rw [List.size_toArray, HT.sIx_none, show HT.sIx z.length z.length (some 9) = min 9 z.length from HT.sIx_nat z.length z.length 9, List.length_take, List.length_drop, show z.cps.toList.length = z.length from Array.length_toList]
  omega
theorem odd1 {s : Str} (h : 1 ≤ s.length) : isN (.str (s ++ "123456789")) = false := no_long (by rw [Str.length_append, show ("123456789" : Str).length = 9 from rfl]; omega)
theorem odd2 {s : Str} (h : 1 ≤ s.length) : isN (.str (cutS (PySem.Txt.mul s 9) none (some 9))) = false := no_long (by
  have := PyProof.Rows.len_mul s 9
  rw [show (if decide ((9 : Int) < 0) = true then (0 : Int) else 9) = 9 from rfl] at this
  rw [cut9 (by omega)]
  decide)
theorem len7 (s : Str) (h : s.length ≤ 8) : (cutS s none (some 7)).length ≤ 8 := Nat.le_trans (cutS_length s _ _) h
def spOdd (K : PySem.W.Frag) : Sp := fun vs H Q _ => ∃ (b : Addr) (s : Str), vs = [.ref b, .str s] ∧ BgAt H b ∧ isN (.str s) = true ∧ ∀ (v : V) (n : String) (H' : Hp), isN v = false → Dm K H' v n → BgAt H' b → But b H H' → Q v H'
section
variable {P : Program} {w : World} {K : PySem.W.Frag} {mg : Str → Option Value} {base : Heap} {cl : String → Addr}
theorem ok_odd_name {f : Addr} {fd : FuncData} (F : Fun K "_law_odd_name" "_law_odd_name" s_odd_name f fd) (T : Txt P w K mg cl) : FnOk P w K mg base CX0 3 f fd ["_law_bag_here", "_law_good"] (spOdd K) := by
  refine F.ok sc_odd_name (fun vs H Q E h => ?_) (fun cdv A outer s H vs Q E hr h => ?_)
  · obtain ⟨b, s0, rfl, _⟩ := h
    rfl
  · obtain ⟨b, s0, rfl, B, hn, k⟩ := h
    have C_pick : Cal P w K mg base CX0 2 "_law_pick" _ spPick := cal_pick T
    refine ⟨_, (pss_cons (ps_set (i := 2) sc_odd_name.nd rfl (Or.inl rfl) (pe_lst (pa_cons pe_str (pa_cons pe_non (pa_cons pe_int (pa_cons pe_bl (pa_cons (pe_tup (pa_cons (pv 1) pa_nil)) (pa_cons (pe_lst (pa_cons (pv 1) pa_nil)) (pa_cons (pe_op op_add_str (pv 1) pe_str) (pa_cons (pe_slice sl_str (pe_op op_repS (pv 1) pe_int) po_none (po_some pe_int)) (pa_cons (pe_op op_add_str (pe_slice sl_str (pv 1) po_none (po_some pe_int)) pe_str) (pa_cons (pe_op op_add_str (pe_slice sl_str (pv 1) po_none (po_some pe_int)) pe_str) pa_nil))))))))))))
        (pss_one (ps_ret (pe_cal C_pick (hr.mono (by decide)) (pa_cons (pv 0) (pa_cons (pe_op op_cat (pv 2) (pe_lst (pa_cons (pe_op op_add_str (pe_slice sl_str (pv 1) po_none (po_some pe_int)) pe_str) (pa_cons (pe_op op_add_str pe_str (pe_slice sl_str (pv 1) po_none (po_some pe_int))) (pa_cons (pe_op op_add_str (pe_slice sl_str (pv 1) po_none (po_some pe_int)) pe_str) (pa_cons (pe_op op_add_str pe_str (pe_slice sl_str (pv 1) po_none (po_some pe_int))) pa_nil)))))) pa_nil)))))), ?_⟩
    obtain ⟨l1, l8, _⟩ := isN_lt hn
    have z1 : 1 ≤ sizeLine := by rw [sizeLine_eq]; decide
    have z14 : 14 ≤ sizeLine := by rw [sizeLine_eq]; decide
    have c7 := len7 s0 l8
    have zs : s0.length ≤ sizeLine := sz8 l8
    have za : ∀ (x y : Str), x.length ≤ 9 → y.length ≤ 9 → x.length + y.length ≤ sizeLine := fun x y a b => by rw [sizeLine_eq]; omega
    have zm : (PySem.Txt.mul s0 9).length ≤ sizeLine := by
      have := PyProof.Rows.len_mul s0 9
      rw [show (if decide ((9 : Int) < 0) = true then (0 : Int) else 9) = 9 from rfl] at this
      rw [sizeLine_eq]
      omega
    refine ⟨_, rfl, z1, fun t nt => ?_⟩
    have S1 := sNew (o := .tup [.str s0]) nt
    refine ⟨_, rfl, z1, fun a na => ?_⟩
    have S2 := sNew (o := .lst [.str s0]) na
    refine ⟨_, rfl, s0, _, rfl, rfl, za _ _ (by omega) (by decide), ?_⟩
    refine ⟨_, rfl, s0, 9, rfl, rfl, mulOk9 l8, _, rfl, _, rfl, zm, ?_⟩
    refine ⟨_, rfl, _, rfl, _, rfl, zs, _, _, rfl, rfl, za _ _ (by omega) (by decide), ?_⟩
    refine ⟨_, rfl, _, rfl, _, rfl, zs, _, _, rfl, rfl, za _ _ (by omega) (by decide), ?_⟩
    refine ⟨(by show 10 ≤ sizeLine; rw [sizeLine_eq]; decide), fun d nd => ?_⟩
    refine ⟨_, rfl, _, rfl, ?_⟩
    refine ⟨_, rfl, _, rfl, _, rfl, zs, _, _, rfl, rfl, za _ _ (by omega) (by decide), ?_⟩
    refine ⟨_, rfl, _, rfl, _, rfl, zs, _, _, rfl, rfl, za _ _ (by decide) (by omega), ?_⟩
    refine ⟨_, rfl, _, rfl, _, rfl, zs, _, _, rfl, rfl, za _ _ (by omega) (by decide), ?_⟩
    refine ⟨_, rfl, _, rfl, _, rfl, zs, _, _, rfl, rfl, za _ _ (by decide) (by omega), ?_⟩
    refine ⟨(by show 4 ≤ sizeLine; rw [sizeLine_eq]; decide), fun e ne => ?_⟩
    generalize hl1 : ([V.str (Str.ofString ""), V.non, V.int 5, V.bl true, V.ref t, V.ref a, V.str (s0 ++ Str.ofString "123456789"), V.str (cutS (PySem.Txt.mul s0 9) none (some 9)), V.str (cutS s0 none (some 7) ++ Str.ofString "A"), V.str (cutS s0 none (some 7) ++ Str.ofString "1")] : List V) = L1 at nd ne ⊢
    generalize hl2 : ([V.str (cutS s0 none (some 7) ++ Str.ofString " "), V.str (Str.ofString " " ++ cutS s0 none (some 7)), V.str (cutS s0 none (some 7) ++ Str.ofString "_"), V.str (Str.ofString "B" ++ cutS s0 none (some 7))] : List V) = L2 at ne ⊢
    have S3 := sNew (o := .lst L1) nd
    have S4 := sNew (o := .lst L2) ne
    have n1 : L1.length = 10 := by rw [← hl1]; rfl
    have n2 : L2.length = 4 := by rw [← hl2]; rfl
    refine ⟨d, e, L1, L2, rfl, rfl, S4 _ _ upd_same, upd_same, (by omega), fun f nf => ?_⟩
    have S5 := sNew (o := .lst (L1 ++ L2)) nf
    have SS : Same H _ := fun b o e => S5 _ _ (S4 _ _ (S3 _ _ (S2 _ _ (S1 _ _ e))))
    have B4 := ((((B.same S1).same S2).same S3).same S4)
    have ht := S5 _ _ (S4 _ _ (S3 _ _ (S2 _ _ (upd_same : (upd H t (.tup [.str s0])) t = _))))
    have ha := S5 _ _ (S4 _ _ (S3 _ _ (upd_same : (upd (upd H t (.tup [.str s0])) a (.lst [.str s0])) a = _)))
    refine ⟨b, f, _, rfl, B4.same S5, upd_same, B4.ne nf, (by rw [List.length_append]; omega), (by rw [List.length_append]; omega), fun j x H' hx B' D' => ?_⟩
    have tb : t ≠ b := B.ne nt
    have ab : a ≠ b := (B.same S1).ne na
    have fin : ∀ n, isN x = false → Dm K H' x n → Q x H' := fun n h1 h2 => k x n H' h1 h2 B' fun q o e n => D' _ _ (SS _ _ e) n
    have lx : ∀ z : Str, z.length ≤ 20 → Dm K H' (.str z) "str" := fun z hz => .str z (by rw [sizeLine_eq]; omega)
    have lm : (PySem.Txt.mul s0 9).length ≤ 72 := by
      have := PyProof.Rows.len_mul s0 9
      rw [show (if decide ((9 : Int) < 0) = true then (0 : Int) else 9) = 9 from rfl] at this
      omega
    have hm := List.mem_append.mp (List.mem_of_getElem? hx)
    rw [← hl1, ← hl2] at hm
    simp only [List.mem_cons, List.not_mem_nil, or_false] at hm
    have lA : ∀ z : Str, z.length ≤ 9 → ((cutS s0 none (some 7)) ++ z).length ≤ 20 := fun z hz => by rw [Str.length_append]; omega
    have lB : ∀ z : Str, z.length ≤ 9 → (z ++ (cutS s0 none (some 7))).length ≤ 20 := fun z hz => by rw [Str.length_append]; omega
    rcases hm with (rfl | rfl | rfl | rfl | rfl | rfl | rfl | rfl | rfl | rfl) | (rfl | rfl | rfl | rfl)
    · exact fin _ (by decide) (lx _ (by decide))
    · exact fin _ rfl .non
    · exact fin _ rfl (.int 5)
    · exact fin _ rfl (.bl true)
    · exact fin _ rfl (.tup (D' _ _ ht tb))
    · exact fin _ rfl (.lst (D' _ _ ha ab))
    · exact fin _ (odd1 l1) (lx _ (by rw [Str.length_append, show ("123456789" : Str).length = 9 from rfl]; omega))
    · exact fin _ (odd2 l1) (.str _ (Nat.le_trans (cutS_length _ _ _) (by rw [sizeLine_eq]; omega)))
    · exact fin _ (no_back _ (c := 65) (by decide)) (lx _ (lA _ (by decide)))
    · exact fin _ (no_back _ (c := 49) (by decide)) (lx _ (lA _ (by decide)))
    · exact fin _ (no_back _ (c := 32) (by decide)) (lx _ (lA _ (by decide)))
    · exact fin _ (no_front _ (c := 32) (by decide)) (lx _ (lB _ (by decide)))
    · exact fin _ (no_back _ (c := 95) (by decide)) (lx _ (lA _ (by decide)))
    · exact fin _ (no_front _ (c := 66) (by decide)) (lx _ (lB _ (by decide)))
theorem cal_odd_name (T : Txt P w K mg cl) : Cal P w K mg base CX0 3 "_law_odd_name" ["_law_bag_here", "_law_good"] (spOdd K) := by
  obtain ⟨f, fd, F, m⟩ := T.d_odd_name
  exact ⟨f, fd, ok_odd_name F T, m, F.kp, F.binds fun _ _ _ _ _ _ us hl => match us, hl with | [_, _], _ => rfl⟩
end
end My
set_option Elab.async false
set_option linter.all false
set_option maxRecDepth 100000
set_option maxHeartbeats 1000000
namespace My
open PySem L2 Dw Wp
open C8 (pss_cut tCut)
set_option pp.maxSteps 600
def spDrawn : Sp := fun vs H Q _ => ∃ (b : Addr), vs = [.ref b] ∧ BgAt H b ∧ ∀ (v : V) (x : Tk) (H' : Hp), PlAt H' v x → TkOk x → BgAt H' b → But b H H' → Q v H'
section
variable {P : Program} {w : World} {K : PySem.W.Frag} {mg : Str → Option Value} {base : Heap} {cl : String → Addr}
theorem ok_drawn {f : Addr} {fd : FuncData} (F : Fun K "_law_drawn" "_law_drawn" s_drawn f fd) (T : Txt P w K mg cl) : FnOk P w K mg base CX0 4 f fd ["_law_bag_here"] (spDrawn) := by
  refine F.ok sc_drawn (fun vs H Q E h => ?_) (fun cdv A outer s H vs Q E hr h => ?_)
  · obtain ⟨b, rfl, _⟩ := h
    rfl
  · obtain ⟨b, rfl, B, k⟩ := h
    have C_take : Cal P w K mg base CX0 1 "_law_take" _ spTake := cal_take T
    have C_pick : Cal P w K mg base CX0 2 "_law_pick" _ spPick := cal_pick T
    have C_word : Cal P w K mg base CX0 3 "_law_word" _ spWord := cal_word T
    refine ⟨_, (pss_cons (ps_par (i := 1) (j := 2) rfl sc_drawn.nd rfl rfl (by decide) rfl rfl (pa_cons (pe_cal C_take (hr.mono (by decide)) (pa_cons (pv 0) (pa_cons pe_int pa_nil))) (pa_cons (pe_cal C_word (hr.mono (by decide)) (pa_cons (pv 0) pa_nil)) pa_nil)) (by rfl))
        (pss_cons (ps_if (pt_cmpR op_le (pv 1) pe_int (nomark _))
          (pss_one (ps_ret (pe_tup (pa_cons (pe_ix ix_list (pe_lst (pa_cons pe_str (pa_cons pe_str pa_nil))) (pv 1) (fun _ _ => rfl)) (pa_cons (pv 2) pa_nil))))) pss_nil)
        (pss_cons (ps_set (i := 3) sc_drawn.nd rfl (Or.inl rfl) (pe_tup (pa_cons (pe_cal C_pick (hr.mono (by decide)) (pa_cons (pv 0) (pa_cons (pe_lst (pa_cons pe_str (pa_cons pe_str pa_nil))) pa_nil))) (pa_cons (pv 2) pa_nil))))
        (pss_cons (ps_if (pt_cmpR op_le (pv 1) pe_int (nomark _))
          (pss_one (ps_ret (pe_tup (pa_cons (pe_ix ix_list (pe_lst (pa_cons pe_str (pa_cons pe_str (pa_cons pe_str pa_nil)))) (pe_op op_sub (pv 1) pe_int) (fun _ _ => rfl)) (pa_cons (pv 3) pa_nil))))) pss_nil)
        (pss_one (ps_ret (pe_tup (pa_cons (pe_ix ix_list (pe_lst (pa_cons pe_str (pa_cons pe_str pa_nil))) (pe_op op_sub (pv 1) pe_int) (fun _ _ => rfl)) (pa_cons (pv 3) (pa_cons (pe_cal C_pick (hr.mono (by decide)) (pa_cons (pv 0) (pa_cons (pe_lst (pa_cons pe_int (pa_cons (pe_op op_pow pe_int pe_int) (pa_cons (pe_cal C_take (hr.mono (by decide)) (pa_cons (pv 0) (pa_cons (pe_op op_add (pe_op op_pow pe_int pe_int) pe_int) pa_nil))) (pa_cons pe_int pa_nil))))) pa_nil))) pa_nil)))))))))), ?_⟩
    have z3 : ∀ n : Nat, n ≤ 10 → n ≤ sizeLine := fun n h => by rw [sizeLine_eq]; omega
    refine ⟨_, rfl, b, 7, rfl, B, by decide, by decide, fun q H1 q0 q7 B1 D1 => ?_⟩
    refine ⟨_, rfl, b, rfl, B1, fun s0 H2 hn B2 D2 => ?_⟩
    have D02 := but_but D1 D2
    refine ⟨_, _, rfl, _, rfl, _, _, rfl, rfl, _, rfl, ite2 (fun g => ?_) (fun g => ?_)⟩
    · have g : q ≤ 1 := of_decide_eq_true g
      refine ⟨z3 2 (by decide), fun a na => ?_⟩
      have S1 := sNew (o := .lst [.str "named", .str "mate"]) na
      have hq : q = 0 ∨ q = 1 := by omega
      rcases hq with rfl | rfl
      · refine ⟨_, rfl, a, _, _, _, rfl, rfl, SqL.of upd_same, atI_nat (j := 0) rfl, _, rfl, z3 2 (by decide), fun t nt => ?_⟩
        have S2 := sNew (o := .tup [.str "named", .str s0]) nt
        exact k _ (.nm false s0) _ ⟨t, 0, rfl, upd_same, fun g z => by cases z⟩ ⟨hn, Int.le_refl 0, (by show (0 : Int) ≤ 1000000; decide)⟩ ((B2.same S1).same S2) (fun x o e n => S2 _ _ (S1 _ _ (D02 _ _ e n)))
      · refine ⟨_, rfl, a, _, _, _, rfl, rfl, SqL.of upd_same, atI_nat (j := 1) rfl, _, rfl, z3 2 (by decide), fun t nt => ?_⟩
        have S2 := sNew (o := .tup [.str "mate", .str s0]) nt
        exact k _ (.nm true s0) _ ⟨t, 0, rfl, upd_same, fun g z => by cases z⟩ ⟨hn, Int.le_refl 0, (by show (0 : Int) ≤ 1000000; decide)⟩ ((B2.same S1).same S2) (fun x o e n => S2 _ _ (S1 _ _ (D02 _ _ e n)))
    have g : ¬ q ≤ 1 := fun z => g (decide_eq_true z)
    refine ⟨_, rfl, z3 2 (by decide), fun a na => ?_⟩
    have S1 := sNew (o := .lst [.str "children", .str "grandchildren"]) na
    refine ⟨b, a, _, rfl, B2.same S1, upd_same, B2.ne na, by decide, by decide, fun j x H3 hx B3 D3 => ?_⟩
    obtain ⟨gg, rfl⟩ : ∃ gg, x = .str (kw gg) := by
      have := List.mem_of_getElem? hx
      simp only [List.mem_cons, List.not_mem_nil, or_false] at this
      rcases this with rfl | rfl
      · exact ⟨false, rfl⟩
      · exact ⟨true, rfl⟩
    have D03 : But b H H3 := fun x o e n => D3 _ _ (S1 _ _ (D02 _ _ e n)) n
    refine ⟨_, rfl, z3 2 (by decide), fun kk nk => ?_⟩
    have S4 := sNew (o := .tup [.str (kw gg), .str s0]) nk
    have B4 := B3.same S4
    have D04 : But b H (upd H3 kk (.tup [.str (kw gg), .str s0])) := fun x o e n => S4 _ _ (D03 _ _ e n)
    have hk : (upd H3 kk (.tup [.str (kw gg), .str s0])) kk = some (.tup [.str (kw gg), .str s0]) := upd_same
    have kb : kk ≠ b := B3.ne nk
    generalize upd H3 kk (.tup [.str (kw gg), .str s0]) = H4 at B4 D04 hk ⊢
    refine ⟨_, rfl, _, _, rfl, rfl, _, rfl, ite2 (fun g4 => ?_) (fun g4 => ?_)⟩
    · have g4 : q ≤ 4 := of_decide_eq_true g4
      refine ⟨z3 3 (by decide), fun a2 na2 => ?_⟩
      have S5 := sNew (o := .lst [.str "told", .str "whole", .str "living"]) na2
      have hq : q = 2 ∨ q = 3 ∨ q = 4 := by omega
      rcases hq with rfl | rfl | rfl
      · refine ⟨_, rfl, _, _, rfl, rfl, a2, _, _, _, rfl, rfl, SqL.of upd_same, atI_nat (j := 0) rfl, _, rfl, z3 2 (by decide), fun t nt => ?_⟩
        have S6 := sNew (o := .tup [.str "told", .ref kk]) nt
        refine k _ (.kn .told gg s0) _ ⟨t, kk, rfl, upd_same, fun g z => ?_⟩ ⟨hn, Int.le_refl 0, (by show (0 : Int) ≤ 1000000; decide)⟩ ((B4.same S5).same S6) (fun x o e n => S6 _ _ (S5 _ _ (D04 _ _ e n)))
        cases z
        exact S6 _ _ (S5 _ _ hk)
      · refine ⟨_, rfl, _, _, rfl, rfl, a2, _, _, _, rfl, rfl, SqL.of upd_same, atI_nat (j := 1) rfl, _, rfl, z3 2 (by decide), fun t nt => ?_⟩
        have S6 := sNew (o := .tup [.str "whole", .ref kk]) nt
        refine k _ (.kn .whole gg s0) _ ⟨t, kk, rfl, upd_same, fun g z => ?_⟩ ⟨hn, Int.le_refl 0, (by show (0 : Int) ≤ 1000000; decide)⟩ ((B4.same S5).same S6) (fun x o e n => S6 _ _ (S5 _ _ (D04 _ _ e n)))
        cases z
        exact S6 _ _ (S5 _ _ hk)
      · refine ⟨_, rfl, _, _, rfl, rfl, a2, _, _, _, rfl, rfl, SqL.of upd_same, atI_nat (j := 2) rfl, _, rfl, z3 2 (by decide), fun t nt => ?_⟩
        have S6 := sNew (o := .tup [.str "living", .ref kk]) nt
        refine k _ (.kn .living gg s0) _ ⟨t, kk, rfl, upd_same, fun g z => ?_⟩ ⟨hn, Int.le_refl 0, (by show (0 : Int) ≤ 1000000; decide)⟩ ((B4.same S5).same S6) (fun x o e n => S6 _ _ (S5 _ _ (D04 _ _ e n)))
        cases z
        exact S6 _ _ (S5 _ _ hk)
    have g4 : ¬ q ≤ 4 := fun z => g4 (decide_eq_true z)
    refine ⟨z3 2 (by decide), fun a2 na2 => ?_⟩
    have S5 := sNew (o := .lst [.str "reaching", .str "firstreaching"]) na2
    obtain ⟨ff, hq, hw⟩ : ∃ ff : Bool, q = 5 + (if ff = true then 1 else 0) ∧ ([V.str "reaching", V.str "firstreaching"] : List V)[if ff = true then 1 else 0]? = some (.str (tw (Tk.ag ff gg s0 0).tc)) := by
      have hq : q = 5 ∨ q = 6 := by omega
      rcases hq with rfl | rfl
      · exact ⟨false, rfl, rfl⟩
      · exact ⟨true, rfl, rfl⟩
    have at_ : atI ([V.str "reaching", V.str "firstreaching"] : List V) (q - 5) = some (.str (tw (Tk.ag ff gg s0 0).tc)) := by
      rw [show q - 5 = ((if ff = true then 1 else 0 : Nat) : Int) from by rw [hq]; cases ff <;> rfl]
      exact atI_nat hw
    refine ⟨_, rfl, _, _, rfl, rfl, a2, _, _, _, rfl, rfl, SqL.of upd_same, at_, _, rfl, _, rfl, ?_⟩
    have B5 := B4.same S5
    have D05 : But b H (upd H4 a2 (.lst [.str "reaching", .str "firstreaching"])) := fun x o e n => S5 _ _ (D04 _ _ e n)
    have hk5 := S5 _ _ hk
    generalize upd H4 a2 (.lst [.str "reaching", .str "firstreaching"]) = H5 at B5 D05 hk5 ⊢
    refine ⟨_, _, rfl, rfl, ⟨by decide, by decide, by decide⟩, ?_⟩
    refine ⟨_, rfl, _, _, rfl, rfl, ⟨by decide, by decide, by decide⟩, _, _, rfl, rfl, b, _, rfl, B5, by decide, by decide, fun z H6 z0 z1 B6 D6 => ?_⟩
    refine ⟨z3 4 (by decide), fun l nl => ?_⟩
    have S7 := sNew (o := .lst [.int 0, .int (10 ^ (6 : Int).toNat), .int z, .int 18]) nl
    refine ⟨b, l, _, rfl, B6.same S7, upd_same, B6.ne nl, (by show 1 ≤ 4; decide), (by show 4 ≤ 900; decide), fun j y H8 hy B8 D8 => ?_⟩
    obtain ⟨i, rfl, i0, i1⟩ : ∃ i : Int, y = .int i ∧ 0 ≤ i ∧ i ≤ 1000000 := by
      have h6 : (10 : Int) ^ (6 : Int).toNat = 1000000 := by decide
      have hy : ([.int 0, .int (10 ^ (6 : Int).toNat), .int z, .int 18] : List V)[j]? = some y := hy
      have z1 : z < 10 ^ (6 : Int).toNat + 1 := z1
      have := List.mem_of_getElem? hy
      rw [h6] at this z1
      simp only [List.mem_cons, List.not_mem_nil, or_false] at this
      rcases this with rfl | rfl | rfl | rfl
      · exact ⟨_, rfl, by decide, by decide⟩
      · exact ⟨_, rfl, by decide, by decide⟩
      · exact ⟨_, rfl, z0, by omega⟩
      · exact ⟨_, rfl, by decide, by decide⟩
    have D68 : But b H5 H8 := fun x o e n => D8 _ _ (S7 _ _ (D6 _ _ e n)) n
    refine ⟨z3 3 (by decide), fun t nt => ?_⟩
    have S9 := sNew (o := .tup [.str (tw (Tk.ag ff gg s0 0).tc), .ref kk, .int i]) nt
    have etc : (Tk.ag ff gg s0 0).tc = (Tk.ag ff gg s0 i).tc := by cases ff <;> rfl
    refine k _ (.ag ff gg s0 i) _ ⟨t, kk, rfl, upd_same.trans (by rw [etc]; rfl), fun g z => ?_⟩ ⟨hn, i0, i1⟩ (B8.same S9) (fun x o e n => S9 _ _ (D68 _ _ (D05 _ _ e n) n))
    cases z
    exact S9 _ _ (D68 _ _ hk5 kb)
theorem cal_drawn (T : Txt P w K mg cl) : Cal P w K mg base CX0 4 "_law_drawn" ["_law_bag_here"] (spDrawn) := by
  obtain ⟨f, fd, F, m⟩ := T.d_drawn
  exact ⟨f, fd, ok_drawn F T, m, F.kp, F.binds fun _ _ _ _ _ _ us hl => match us, hl with | [_], _ => rfl⟩
end
end My
set_option Elab.async false
set_option linter.all false
set_option maxRecDepth 100000
set_option maxHeartbeats 1000000
namespace My
open PySem L2 Dw Wp
open C8 (pss_cut tCut)
set_option pp.maxSteps 600
theorem emp_app (s : Str) : Str.empty ++ s = s := PySem.Str.ext' (by rw [Str.cps_append]; exact Array.empty_append)
theorem kText_eq (g : Bool) (s : Str) : kText g s = kw g ++ " of " ++ s := by
  unfold kText
  rw [emp_app]
  cases g <;> rfl
theorem tw_len : ∀ c, (tw c).length ≤ 13
  | .named => by decide
  | .mate => by decide
  | .told => by decide
  | .whole => by decide
  | .living => by decide
  | .reaching => by decide
  | .first => by decide
theorem kw_len (g : Bool) : (kw g).length ≤ 13 := by cases g <;> decide
def spText : Sp := fun vs H Q _ => ∃ (v : V) (x : Tk), vs = [v] ∧ PlAt H v x ∧ TkOk x ∧ Q (.str (tkText x)) H
section
variable {P : Program} {w : World} {K : PySem.W.Frag} {mg : Str → Option Value} {base : Heap} {cl : String → Addr}
theorem ok_text {f : Addr} {fd : FuncData} (F : Fun K "_law_text" "_law_text" s_text f fd) (T : Txt P w K mg cl) : FnOk P w K mg base CX0 1 f fd ["_law_taker_here"] (spText) := by
  refine F.ok sc_text (fun vs H Q E h => ?_) (fun cdv A outer s H vs Q E hr h => ?_)
  · obtain ⟨v, x, rfl, _⟩ := h
    rfl
  · obtain ⟨v, x, rfl, hp, ho, k⟩ := h
    refine ⟨_, (pss_cons (ps_if (pt_cmpR op_eq (pe_ix ix_tup (pv 0) pe_int (fun _ _ => rfl)) pe_str (nomark _))
          (pss_one (ps_ret (pe_op op_add_str pe_str (pe_ix ix_tup (pv 0) pe_int (fun _ _ => rfl))))) pss_nil)
        (pss_cons (ps_if (pt_cmpR op_eq (pe_ix ix_tup (pv 0) pe_int (fun _ _ => rfl)) pe_str (nomark _))
          (pss_one (ps_ret (pe_op op_add_str pe_str (pe_ix ix_tup (pv 0) pe_int (fun _ _ => rfl))))) pss_nil)
        (pss_cons (ps_set (i := 1) sc_text.nd rfl (Or.inl rfl) (pe_op op_add_str (pe_op op_add_str (pe_ix ix_tup (pe_ix ix_tup (pv 0) pe_int (fun _ _ => rfl)) pe_int (fun _ _ => rfl)) pe_str) (pe_ix ix_tup (pe_ix ix_tup (pv 0) pe_int (fun _ _ => rfl)) pe_int (fun _ _ => rfl))))
        (pss_cons (ps_if (pt_cmpR op_eq (pe_ix ix_tup (pv 0) pe_int (fun _ _ => rfl)) pe_str (nomark _))
          (pss_one (ps_ret (pe_op op_add_str (pe_op op_add_str (pe_op op_add_str pe_str (pe_callTy call_str_int (by rfl) T.n_str (by decide +kernel) (pa_cons (pe_ix ix_tup (pv 0) pe_int (fun _ _ => rfl)) pa_nil))) pe_str) (pv 1)))) pss_nil)
        (pss_cons (ps_if (pt_cmpR op_eq (pe_ix ix_tup (pv 0) pe_int (fun _ _ => rfl)) pe_str (nomark _))
          (pss_one (ps_ret (pe_op op_add_str (pe_op op_add_str (pe_op op_add_str pe_str (pe_callTy call_str_int (by rfl) T.n_str (by decide +kernel) (pa_cons (pe_ix ix_tup (pv 0) pe_int (fun _ _ => rfl)) pa_nil))) pe_str) (pv 1)))) pss_nil)
        (pss_one (ps_ret (pe_op op_add_str (pe_op op_add_str (pe_ix ix_tup (pv 0) pe_int (fun _ _ => rfl)) pe_str) (pv 1))))))))), ?_⟩
    have za : ∀ (x y : Str), x.length + y.length ≤ 200 → x.length + y.length ≤ sizeLine := fun x y a => by rw [sizeLine_eq]; omega
    have sl : x.life.length ≤ 8 := isN_len ho.nm
    have o4 : (" of " : Str).length = 4 := rfl
    have o1 : (" " : Str).length = 1 := rfl
    rcases x with ⟨_ | _, s1⟩ | ⟨_ | _ | _, g1, s1⟩ | ⟨_ | _, g1, s1, a1⟩
    · obtain ⟨t, q, rfl, ht, hq⟩ := hp
      have sl : s1.length ≤ 8 := sl
      refine ⟨_, rfl, t, _, _, _, rfl, rfl, SqT.of ht, atI_nat (j := 0) rfl, rfl, _, rfl, iteT ?_⟩
      have lp : ("life " : Str).length ≤ 20 := by decide
      refine ⟨_, rfl, t, _, _, _, rfl, rfl, SqT.of ht, atI_nat (j := 1) rfl, _, _, rfl, rfl, za _ _ (Nat.le_trans (Nat.add_le_add lp sl) (by decide)), ?_⟩
      rw [show tkText (.nm false s1) = ("life " : Str) ++ s1 from by show Str.empty ++ _ ++ _ = _; rw [emp_app]; rfl] at k
      exact k
    · obtain ⟨t, q, rfl, ht, hq⟩ := hp
      have sl : s1.length ≤ 8 := sl
      refine ⟨_, rfl, t, _, _, _, rfl, rfl, SqT.of ht, atI_nat (j := 0) rfl, rfl, _, rfl, iteF ?_⟩
      refine ⟨_, rfl, t, _, _, _, rfl, rfl, SqT.of ht, atI_nat (j := 0) rfl, rfl, _, rfl, iteT ?_⟩
      have lp : ("mate of " : Str).length ≤ 20 := by decide
      refine ⟨_, rfl, t, _, _, _, rfl, rfl, SqT.of ht, atI_nat (j := 1) rfl, _, _, rfl, rfl, za _ _ (Nat.le_trans (Nat.add_le_add lp sl) (by decide)), ?_⟩
      rw [show tkText (.nm true s1) = ("mate of " : Str) ++ s1 from by show Str.empty ++ _ ++ _ = _; rw [emp_app]; rfl] at k
      exact k
    · obtain ⟨t, q, rfl, ht, hq⟩ := hp
      have sl : s1.length ≤ 8 := sl
      refine ⟨_, rfl, t, _, _, _, rfl, rfl, SqT.of ht, atI_nat (j := 0) rfl, rfl, _, rfl, iteF ?_⟩
      refine ⟨_, rfl, t, _, _, _, rfl, rfl, SqT.of ht, atI_nat (j := 0) rfl, rfl, _, rfl, iteF ?_⟩
      have hq := hq g1 rfl
      have lk := kw_len g1
      have lk2 : (kw g1 ++ " of " : Str).length ≤ 17 := by rw [Str.length_append]; omega
      have lk3 : (kw g1 ++ " of " ++ s1 : Str).length ≤ 30 := by rw [Str.length_append]; omega
      refine ⟨_, rfl, t, _, _, _, rfl, rfl, SqT.of ht, atI_nat (j := 1) rfl, q, _, _, _, rfl, rfl, SqT.of hq, atI_nat (j := 0) rfl, _, _, rfl, rfl, za _ _ (by omega), ?_⟩
      refine ⟨_, rfl, t, _, _, _, rfl, rfl, SqT.of ht, atI_nat (j := 1) rfl, q, _, _, _, rfl, rfl, SqT.of hq, atI_nat (j := 1) rfl, _, _, rfl, rfl, za _ _ (by omega), ?_⟩
      refine ⟨_, rfl, t, _, _, _, rfl, rfl, SqT.of ht, atI_nat (j := 0) rfl, rfl, _, rfl, iteF ?_⟩
      refine ⟨_, rfl, t, _, _, _, rfl, rfl, SqT.of ht, atI_nat (j := 0) rfl, rfl, _, rfl, iteF ?_⟩
      have l5 : (tw .told ++ " " : Str).length ≤ 14 := by rw [Str.length_append]; have := tw_len .told; omega
      refine ⟨_, rfl, t, _, _, _, rfl, rfl, SqT.of ht, atI_nat (j := 0) rfl, _, _, rfl, rfl, za _ _ (Nat.le_trans (Nat.add_le_add (tw_len .told) (Nat.le_of_eq o1)) (by decide)), _, rfl, _, _, rfl, rfl, za _ _ (Nat.le_trans (Nat.add_le_add l5 lk3) (by decide)), ?_⟩
      rw [show tkText (.kn .told g1 s1) = (tw .told ++ " ") ++ (kw g1 ++ " of " ++ s1) from by show Str.empty ++ _ ++ _ = _; rw [emp_app, kText_eq]; rfl] at k
      exact k
    · obtain ⟨t, q, rfl, ht, hq⟩ := hp
      have sl : s1.length ≤ 8 := sl
      refine ⟨_, rfl, t, _, _, _, rfl, rfl, SqT.of ht, atI_nat (j := 0) rfl, rfl, _, rfl, iteF ?_⟩
      refine ⟨_, rfl, t, _, _, _, rfl, rfl, SqT.of ht, atI_nat (j := 0) rfl, rfl, _, rfl, iteF ?_⟩
      have hq := hq g1 rfl
      have lk := kw_len g1
      have lk2 : (kw g1 ++ " of " : Str).length ≤ 17 := by rw [Str.length_append]; omega
      have lk3 : (kw g1 ++ " of " ++ s1 : Str).length ≤ 30 := by rw [Str.length_append]; omega
      refine ⟨_, rfl, t, _, _, _, rfl, rfl, SqT.of ht, atI_nat (j := 1) rfl, q, _, _, _, rfl, rfl, SqT.of hq, atI_nat (j := 0) rfl, _, _, rfl, rfl, za _ _ (by omega), ?_⟩
      refine ⟨_, rfl, t, _, _, _, rfl, rfl, SqT.of ht, atI_nat (j := 1) rfl, q, _, _, _, rfl, rfl, SqT.of hq, atI_nat (j := 1) rfl, _, _, rfl, rfl, za _ _ (by omega), ?_⟩
      refine ⟨_, rfl, t, _, _, _, rfl, rfl, SqT.of ht, atI_nat (j := 0) rfl, rfl, _, rfl, iteF ?_⟩
      refine ⟨_, rfl, t, _, _, _, rfl, rfl, SqT.of ht, atI_nat (j := 0) rfl, rfl, _, rfl, iteF ?_⟩
      have l5 : (tw .whole ++ " " : Str).length ≤ 14 := by rw [Str.length_append]; have := tw_len .whole; omega
      refine ⟨_, rfl, t, _, _, _, rfl, rfl, SqT.of ht, atI_nat (j := 0) rfl, _, _, rfl, rfl, za _ _ (Nat.le_trans (Nat.add_le_add (tw_len .whole) (Nat.le_of_eq o1)) (by decide)), _, rfl, _, _, rfl, rfl, za _ _ (Nat.le_trans (Nat.add_le_add l5 lk3) (by decide)), ?_⟩
      rw [show tkText (.kn .whole g1 s1) = (tw .whole ++ " ") ++ (kw g1 ++ " of " ++ s1) from by show Str.empty ++ _ ++ _ = _; rw [emp_app, kText_eq]; rfl] at k
      exact k
    · obtain ⟨t, q, rfl, ht, hq⟩ := hp
      have sl : s1.length ≤ 8 := sl
      refine ⟨_, rfl, t, _, _, _, rfl, rfl, SqT.of ht, atI_nat (j := 0) rfl, rfl, _, rfl, iteF ?_⟩
      refine ⟨_, rfl, t, _, _, _, rfl, rfl, SqT.of ht, atI_nat (j := 0) rfl, rfl, _, rfl, iteF ?_⟩
      have hq := hq g1 rfl
      have lk := kw_len g1
      have lk2 : (kw g1 ++ " of " : Str).length ≤ 17 := by rw [Str.length_append]; omega
      have lk3 : (kw g1 ++ " of " ++ s1 : Str).length ≤ 30 := by rw [Str.length_append]; omega
      refine ⟨_, rfl, t, _, _, _, rfl, rfl, SqT.of ht, atI_nat (j := 1) rfl, q, _, _, _, rfl, rfl, SqT.of hq, atI_nat (j := 0) rfl, _, _, rfl, rfl, za _ _ (by omega), ?_⟩
      refine ⟨_, rfl, t, _, _, _, rfl, rfl, SqT.of ht, atI_nat (j := 1) rfl, q, _, _, _, rfl, rfl, SqT.of hq, atI_nat (j := 1) rfl, _, _, rfl, rfl, za _ _ (by omega), ?_⟩
      refine ⟨_, rfl, t, _, _, _, rfl, rfl, SqT.of ht, atI_nat (j := 0) rfl, rfl, _, rfl, iteF ?_⟩
      refine ⟨_, rfl, t, _, _, _, rfl, rfl, SqT.of ht, atI_nat (j := 0) rfl, rfl, _, rfl, iteF ?_⟩
      have l5 : (tw .living ++ " " : Str).length ≤ 14 := by rw [Str.length_append]; have := tw_len .living; omega
      refine ⟨_, rfl, t, _, _, _, rfl, rfl, SqT.of ht, atI_nat (j := 0) rfl, _, _, rfl, rfl, za _ _ (Nat.le_trans (Nat.add_le_add (tw_len .living) (Nat.le_of_eq o1)) (by decide)), _, rfl, _, _, rfl, rfl, za _ _ (Nat.le_trans (Nat.add_le_add l5 lk3) (by decide)), ?_⟩
      rw [show tkText (.kn .living g1 s1) = (tw .living ++ " ") ++ (kw g1 ++ " of " ++ s1) from by show Str.empty ++ _ ++ _ = _; rw [emp_app, kText_eq]; rfl] at k
      exact k
    · obtain ⟨t, q, rfl, ht, hq⟩ := hp
      have sl : s1.length ≤ 8 := sl
      refine ⟨_, rfl, t, _, _, _, rfl, rfl, SqT.of ht, atI_nat (j := 0) rfl, rfl, _, rfl, iteF ?_⟩
      refine ⟨_, rfl, t, _, _, _, rfl, rfl, SqT.of ht, atI_nat (j := 0) rfl, rfl, _, rfl, iteF ?_⟩
      have hq := hq g1 rfl
      have lk := kw_len g1
      have lk2 : (kw g1 ++ " of " : Str).length ≤ 17 := by rw [Str.length_append]; omega
      have lk3 : (kw g1 ++ " of " ++ s1 : Str).length ≤ 30 := by rw [Str.length_append]; omega
      refine ⟨_, rfl, t, _, _, _, rfl, rfl, SqT.of ht, atI_nat (j := 1) rfl, q, _, _, _, rfl, rfl, SqT.of hq, atI_nat (j := 0) rfl, _, _, rfl, rfl, za _ _ (by omega), ?_⟩
      refine ⟨_, rfl, t, _, _, _, rfl, rfl, SqT.of ht, atI_nat (j := 1) rfl, q, _, _, _, rfl, rfl, SqT.of hq, atI_nat (j := 1) rfl, _, _, rfl, rfl, za _ _ (by omega), ?_⟩
      refine ⟨_, rfl, t, _, _, _, rfl, rfl, SqT.of ht, atI_nat (j := 0) rfl, rfl, _, rfl, iteT ?_⟩
      have la : (toString a1 : Str).length ≤ 7 := age_len ho.lo ho.hi
      have lp : ("reaching " : Str).length ≤ 20 := by decide
      have l5 : ("reaching " ++ toString a1 : Str).length ≤ 27 := by rw [Str.length_append]; omega
      have l6 : ("reaching " ++ toString a1 ++ " " : Str).length ≤ 28 := by rw [Str.length_append]; omega
      refine ⟨_, rfl, t, _, _, _, rfl, rfl, SqT.of ht, atI_nat (j := 2) rfl, a1, rfl, age_log ho.lo ho.hi, _, _, rfl, rfl, za _ _ (Nat.le_trans (Nat.add_le_add lp la) (by decide)), _, _, rfl, rfl, za _ _ (by omega), _, rfl, _, _, rfl, rfl, za _ _ (Nat.le_trans (Nat.add_le_add l6 lk3) (by decide)), ?_⟩
      rw [show tkText (.ag false g1 s1 a1) = ("reaching " ++ toString a1 ++ " ") ++ (kw g1 ++ " of " ++ s1) from by show Str.empty ++ _ ++ _ ++ _ ++ _ = _; rw [emp_app, kText_eq]; rfl] at k
      exact k
    · obtain ⟨t, q, rfl, ht, hq⟩ := hp
      have sl : s1.length ≤ 8 := sl
      refine ⟨_, rfl, t, _, _, _, rfl, rfl, SqT.of ht, atI_nat (j := 0) rfl, rfl, _, rfl, iteF ?_⟩
      refine ⟨_, rfl, t, _, _, _, rfl, rfl, SqT.of ht, atI_nat (j := 0) rfl, rfl, _, rfl, iteF ?_⟩
      have hq := hq g1 rfl
      have lk := kw_len g1
      have lk2 : (kw g1 ++ " of " : Str).length ≤ 17 := by rw [Str.length_append]; omega
      have lk3 : (kw g1 ++ " of " ++ s1 : Str).length ≤ 30 := by rw [Str.length_append]; omega
      refine ⟨_, rfl, t, _, _, _, rfl, rfl, SqT.of ht, atI_nat (j := 1) rfl, q, _, _, _, rfl, rfl, SqT.of hq, atI_nat (j := 0) rfl, _, _, rfl, rfl, za _ _ (by omega), ?_⟩
      refine ⟨_, rfl, t, _, _, _, rfl, rfl, SqT.of ht, atI_nat (j := 1) rfl, q, _, _, _, rfl, rfl, SqT.of hq, atI_nat (j := 1) rfl, _, _, rfl, rfl, za _ _ (by omega), ?_⟩
      refine ⟨_, rfl, t, _, _, _, rfl, rfl, SqT.of ht, atI_nat (j := 0) rfl, rfl, _, rfl, iteF ?_⟩
      refine ⟨_, rfl, t, _, _, _, rfl, rfl, SqT.of ht, atI_nat (j := 0) rfl, rfl, _, rfl, iteT ?_⟩
      have la : (toString a1 : Str).length ≤ 7 := age_len ho.lo ho.hi
      have lp : ("first reaching " : Str).length ≤ 20 := by decide
      have l5 : ("first reaching " ++ toString a1 : Str).length ≤ 27 := by rw [Str.length_append]; omega
      have l6 : ("first reaching " ++ toString a1 ++ " " : Str).length ≤ 28 := by rw [Str.length_append]; omega
      refine ⟨_, rfl, t, _, _, _, rfl, rfl, SqT.of ht, atI_nat (j := 2) rfl, a1, rfl, age_log ho.lo ho.hi, _, _, rfl, rfl, za _ _ (Nat.le_trans (Nat.add_le_add lp la) (by decide)), _, _, rfl, rfl, za _ _ (by omega), _, rfl, _, _, rfl, rfl, za _ _ (Nat.le_trans (Nat.add_le_add l6 lk3) (by decide)), ?_⟩
      rw [show tkText (.ag true g1 s1 a1) = ("first reaching " ++ toString a1 ++ " ") ++ (kw g1 ++ " of " ++ s1) from by show Str.empty ++ _ ++ _ ++ _ ++ _ = _; rw [emp_app, kText_eq]; rfl] at k
      exact k
theorem cal_text (T : Txt P w K mg cl) : Cal P w K mg base CX0 1 "_law_text" ["_law_taker_here"] (spText) := by
  obtain ⟨f, fd, F, m⟩ := T.d_text
  exact ⟨f, fd, ok_text F T, m, F.kp, F.binds fun _ _ _ _ _ _ us hl => match us, hl with | [_], _ => rfl⟩
end
end My
set_option Elab.async false
set_option linter.all false
set_option maxRecDepth 100000
set_option maxHeartbeats 1000000
namespace My
open PySem L2 Dw Wp
open C8 (pss_cut tCut)
set_option pp.maxSteps 600
theorem lt_ok {s : Str} (h : Lt s) : PyData.strOk s = true := by
  unfold PyData.strOk
  rw [← Array.all_toList, List.all_eq_true]
  intro c hc
  have : ∀ c ∈ letters, c < 1114112 := by decide
  exact decide_eq_true (this c (h c hc))
theorem isN_ok {s : Str} (h : isN (.str s) = true) : PyData.strOk s = true := lt_ok (isN_lt h).2.2
theorem okT {s : Str} (h : isN (.str s) = true) : ∀ x ∈ ([.str s] : List V), okV x = true := fun x hx => by
  rw [List.mem_singleton.mp hx]
  exact isN_ok h
theorem eqT {K : PySem.W.Frag} {H : Hp} {p q : Addr} {s : Str} {Q : VK} (hs : isN (.str s) = true) (hp : H p = some (.tup [.str s])) (hq : H q = some (.tup [.str s])) (h : Q (.bl true) H) : rEqD K (.ref p) (.ref q) H Q :=
  ⟨_, _, dp_tup (SqT.of hp) (dpvs fun x hx => okV.flat (okT hs x hx)), dp_tup (SqT.of hq) (dpvs fun x hx => okV.flat (okT hs x hx)), row_shaped false (okT hs), row_shaped false (okT hs), by rw [row_self]; exact h⟩
theorem neT {K : PySem.W.Frag} {H : Hp} {p q : Addr} {s : Str} {Q : VK} (hs : isN (.str s) = true) (hp : H p = some (.tup [.str s])) (hq : H q = some (.tup [.str s])) (h : Q (.bl false) H) : rNeD K (.ref p) (.ref q) H Q :=
  ⟨_, _, dp_tup (SqT.of hp) (dpvs fun x hx => okV.flat (okT hs x hx)), dp_tup (SqT.of hq) (dpvs fun x hx => okV.flat (okT hs x hx)), row_shaped false (okT hs), row_shaped false (okT hs), by rw [row_self]; exact h⟩
theorem eqS {K : PySem.W.Frag} {H : Hp} {s : Str} {Q : VK} (hs : isN (.str s) = true) (h : Q (.bl true) H) : rEqD K (.str s) (.str s) H Q :=
  ⟨_, _, dpv rfl, dpv rfl, vD_shaped (v := .str s) (isN_ok hs), vD_shaped (v := .str s) (isN_ok hs), by rw [vD_self]; exact h⟩
theorem neS {K : PySem.W.Frag} {H : Hp} {s : Str} {Q : VK} (hs : isN (.str s) = true) (h : Q (.bl false) H) : rNeD K (.str s) (.str s) H Q :=
  ⟨_, _, dpv rfl, dpv rfl, vD_shaped (v := .str s) (isN_ok hs), vD_shaped (v := .str s) (isN_ok hs), by rw [vD_self]; exact h⟩
theorem rKnSame {K : PySem.W.Frag} {cl : String → Addr} {H : Hp} {p q : Addr} {g : Bool} {s : Str} {Q : VK} (ty : TyX K H (.ref q) (.ref (knC cl g))) (nf : PySem.W.notFirst K (knC cl g) (.ref (knC cl g)) = true) (h1 : KnAt cl H p g s) (h2 : KnAt cl H q g s) (k : Q (.bl false) H) : rOwnNeU K (kEqs cl) (.ref p) (.ref q) H Q := by
  refine rKnNe ty nf h1 h2 ?_
  rw [decide_eq_true (rfl : g = g), decide_eq_true (rfl : s = s)]
  exact k
def tStrs (cl : String → Addr) : CSp := [(tcC cl .named, spTkStr cl .named), (tcC cl .mate, spTkStr cl .mate), (tcC cl .told, spTkStr cl .told), (tcC cl .whole, spTkStr cl .whole), (tcC cl .living, spTkStr cl .living), (tcC cl .reaching, spTkStr cl .reaching), (tcC cl .first, spTkStr cl .first)]
theorem tc_mem {cl : String → Addr} : ∀ c, (tcC cl c, spTkStr cl c) ∈ tStrs cl := fun c => by
  cases c <;> simp [tStrs]
def spFields (cl : String → Addr) : Sp := fun vs H Q _ => ∃ (p : Addr) (v : V) (x : Tk), vs = [.ref p, v] ∧ TkAt cl H p x ∧ PlAt H v x ∧ TkOk x ∧ ∀ H', Same H H' → Q (.bl true) H'
section
variable {P : Program} {w : World} {K : PySem.W.Frag} {mg : Str → Option Value} {base : Heap} {cl : String → Addr}
theorem tc_strs (T : Txt P w K mg cl) : ∀ C sp, (C, sp) ∈ tStrs cl → CalM P w K mg base CX0 4 C "__str__" ["self"] sp := fun C sp h => by
  simp only [tStrs, List.mem_cons, List.not_mem_nil, or_false, Prod.mk.injEq] at h
  rcases h with ⟨rfl, rfl⟩ | ⟨rfl, rfl⟩ | ⟨rfl, rfl⟩ | ⟨rfl, rfl⟩ | ⟨rfl, rfl⟩ | ⟨rfl, rfl⟩ | ⟨rfl, rfl⟩
  · exact cal_Named_str T
  · exact cal_Mate_str T
  · exact cal_Told_str T
  · exact cal_Whole_str T
  · exact cal_Living_str T
  · exact cal_Reaching_str T
  · exact cal_FirstReaching_str T
theorem tc_na (T : Txt P w K mg cl) : ∀ x : Tk, ∀ f ∈ ((match x with | .nm _ _ => ["life"] | .kn _ _ _ => ["kin"] | .ag _ _ _ _ => ["kin", "age"]) : List Str), NoAttr K (tcC cl x.tc) f := fun x f hf => by
  rcases x with ⟨_ | _, s1⟩ | ⟨_ | _ | _, g1, s1⟩ | ⟨_ | _, g1, s1, a1⟩
  · exact T.na_Named f (by simp only [List.mem_cons, List.not_mem_nil, or_false] at hf ⊢; subst hf; simp)
  · exact T.na_Mate f (by simp only [List.mem_cons, List.not_mem_nil, or_false] at hf ⊢; subst hf; simp)
  · exact T.na_Told f (by simp only [List.mem_cons, List.not_mem_nil, or_false] at hf ⊢; subst hf; simp)
  · exact T.na_Whole f (by simp only [List.mem_cons, List.not_mem_nil, or_false] at hf ⊢; subst hf; simp)
  · exact T.na_Living f (by simp only [List.mem_cons, List.not_mem_nil, or_false] at hf ⊢; subst hf; simp)
  · exact T.na_Reaching f (by simp only [List.mem_cons, List.not_mem_nil, or_false] at hf ⊢; rcases hf with rfl | rfl <;> simp)
  · exact T.na_FirstReaching f (by simp only [List.mem_cons, List.not_mem_nil, or_false] at hf ⊢; rcases hf with rfl | rfl <;> simp)
theorem ok_fields {f : Addr} {fd : FuncData} (F : Fun K "_law_fields" "_law_fields" s_fields f fd) (T : Txt P w K mg cl) : FnOk P w K mg base CX0 7 f fd ["_law_thing", "_law_taker_here"] (spFields cl) := by
  refine F.ok sc_fields (fun vs H Q E h => ?_) (fun cdv A outer s H vs Q E hr h => ?_)
  · obtain ⟨p, v, x, rfl, _⟩ := h
    rfl
  · obtain ⟨p, v, x, rfl, hx, hp, ho, k⟩ := h
    have C_Taker_strs : ∀ C sp, (C, sp) ∈ tStrs cl → CalM P w K mg base CX0 4 C "__str__" ["self"] sp := tc_strs T
    have C_text : Cal P w K mg base CX0 1 "_law_text" ["_law_taker_here"] spText := cal_text T
    have C_kin : Cal P w K mg base CX0 6 "_law_kin" ["_law_kin_here"] (spLKin cl) := cal_kin T
    have C_Kin_nes : ∀ C sp, (C, sp) ∈ kEqs cl → CalM P w K mg base CX0 1 C "__eq__" ["self", "other"] sp ∧ NeOf K C := kn_nes T
    refine ⟨_, (pss_cons (ps_if (PW.pt (pw_or (pt_not (pt_val (pe_callB call_isi (by rfl) T.n_isinstance (by decide +kernel) (pa_cons (pv 0) (pa_cons (pe_cls T.m_Taker) pa_nil))))) (pw_or1 (pt_cmpR op_ne (pe_callTy (call_strU C_Taker_strs (hr.mono (by decide))) (by rfl) T.n_str (by decide +kernel) (pa_cons (pv 0) pa_nil)) (pe_cal C_text (hr.mono (by decide)) (pa_cons (pv 1) pa_nil)) (nomark _)))))
          (pss_one (ps_ret pe_bl)) pss_nil)
        (pss_cons (ps_if (pt_cmpR op_in_seq (pe_ix ix_tup (pv 1) pe_int (fun _ _ => rfl)) (pe_tup (pa_cons pe_str (pa_cons pe_str pa_nil))) (by rfl))
          (pss_one (ps_ret (pe_and (pe_cmpR (op_eqD hr.units) (pe_fld (pv 0) rfl) (pe_ix ix_tup (pv 1) pe_int (fun _ _ => rfl)) (nomark _)) (pe_one (pe_cmpR (op_eqD hr.units) (pe_fld (pv 0) rfl) (pe_tup (pa_cons (pe_ix ix_tup (pv 1) pe_int (fun _ _ => rfl)) pa_nil)) (nomark _)))))) pss_nil)
        (pss_cons (ps_if (PW.pt (pw_or (pt_cmpR (op_ownNeU C_Kin_nes (hr.mono (by decide))) (pe_fld (pv 0) rfl) (pe_cal C_kin (hr.mono (by decide)) (pa_cons (pe_ix ix_tup (pv 1) pe_int (fun _ _ => rfl)) pa_nil)) (nomark _)) (pw_or (pt_cmpR op_ne (pe_fld (pe_fld (pv 0) rfl) rfl) (pe_ix ix_tup (pe_ix ix_tup (pv 1) pe_int (fun _ _ => rfl)) pe_int (fun _ _ => rfl)) (nomark _)) (pw_or1 (pt_cmpR (op_neD hr.units) (pe_fld (pv 0) rfl) (pe_tup (pa_cons (pe_ix ix_tup (pe_ix ix_tup (pv 1) pe_int (fun _ _ => rfl)) pe_int (fun _ _ => rfl)) pa_nil)) (nomark _))))))
          (pss_one (ps_ret pe_bl)) pss_nil)
        (pss_one (ps_ret (pe_or (pe_cmpR op_eq (pe_callB call_len_seq (by rfl) T.n_len PySem.boot_len (pa_cons (pv 1) pa_nil)) pe_int (nomark _)) (pe_one (pe_and (pe_cmpR op_eq (pe_fld (pv 0) rfl) (pe_ix ix_tup (pv 1) pe_int (fun _ _ => rfl)) (nomark _)) (pe_one (pe_callB call_isi (by rfl) T.n_isinstance (by decide +kernel) (pa_cons (pe_fld (pv 0) rfl) (pa_cons (pe_ty "int" T.n_int) pa_nil)))))))))))), ?_⟩
    obtain ⟨dp, tp, kp, hx1, hx2, hx3⟩ := id hx
    refine ⟨_, rfl, _, _, _, _, _, rfl, .own (cl "Taker"), tc_ty T hx1, tc_tk T _, _, rfl, iteF ?_⟩
    refine ⟨_, rfl, _, _, p, dp, _, tc_mem x.tc, rfl, hx1, p, x, rfl, hx, rfl, ho, _, rfl, ?_⟩
    refine ⟨_, rfl, v, x, rfl, hp, ho, rfl, _, rfl, ?_⟩
    rw [decide_eq_true (rfl : V.str (tkText x) = V.str (tkText x))]
    refine iteF ?_
    obtain ⟨t, q, rfl, ht, hq⟩ := hp
    rcases x with ⟨m, s1⟩ | ⟨c, g1, s1⟩ | ⟨f', g1, s1, a1⟩
    · refine ⟨_, rfl, t, _, _, _, rfl, rfl, SqT.of ht, atI_nat (j := 0) rfl, (by rw [sizeLine_eq]; decide), fun u nu => ?_⟩
      have Su := sNew (o := .tup [.str "named", .str "mate"]) nu
      refine ⟨u, _, rfl, .inr (SqT.of upd_same), rfl, rfl, _, rfl, ?_⟩
      rw [show inV (V.str (tw (Tk.nm m s1).tc)) [V.str (Str.ofString "named"), V.str (Str.ofString "mate")] = true by cases m <;> rfl]
      refine iteT ?_
      have hs : isN (.str s1) = true := ho.nm
      have na := fun f hf => tc_na T (.nm m s1) f hf
      refine ⟨_, rfl, p, _, _, _, _, rfl, Su _ _ hx1, tc_cl T _, na _ (by simp), rfl, _, rfl, t, _, _, _, rfl, rfl, SqT.of (Su _ _ ht), atI_nat (j := 1) rfl, ?_⟩
      refine eqS hs ?_
      refine ⟨_, rfl, iteT ?_⟩
      refine ⟨_, rfl, p, _, _, _, _, rfl, Su _ _ hx1, tc_cl T _, tc_ln T _, rfl, _, rfl, t, _, _, _, rfl, rfl, SqT.of (Su _ _ ht), atI_nat (j := 1) rfl, (by show 1 ≤ sizeLine; rw [sizeLine_eq]; decide), fun u2 nu2 => ?_⟩
      have Su2 := sNew (o := .tup [.str s1]) nu2
      exact eqT hs (Su2 _ _ (Su _ _ hx2)) upd_same (k _ fun b o e => Su2 _ _ (Su _ _ e))
    · refine ⟨_, rfl, t, _, _, _, rfl, rfl, SqT.of ht, atI_nat (j := 0) rfl, (by rw [sizeLine_eq]; decide), fun u nu => ?_⟩
      have Su := sNew (o := .tup [.str "named", .str "mate"]) nu
      refine ⟨u, _, rfl, .inr (SqT.of upd_same), rfl, rfl, _, rfl, ?_⟩
      rw [show inV (V.str (tw (Tk.kn c g1 s1).tc)) [V.str (Str.ofString "named"), V.str (Str.ofString "mate")] = false by cases c <;> rfl]
      refine iteF ?_
      have hs : isN (.str s1) = true := ho.nm
      have na := fun f hf => tc_na T (.kn c g1 s1) f hf
      refine ⟨_, rfl, p, _, _, _, _, rfl, Su _ _ hx1, tc_cl T _, na _ (by simp), rfl, _, rfl, t, _, _, _, rfl, rfl, SqT.of (Su _ _ ht), atI_nat (j := 1) rfl, _, g1, s1, rfl, ⟨q, rfl, Su _ _ (hq g1 rfl)⟩, hs, fun y H2 ny S2 K2 => ?_⟩
      have S02 : Same H H2 := fun b o e => S2 _ _ (Su _ _ e)
      have K1 : KnAt cl H2 kp g1 s1 := (hx3 g1 rfl).same S02
      refine rKnSame (kn_ty T K2) (kn_nf T g1 g1) K1 K2 ?_
      refine ⟨_, rfl, iteF ?_⟩
      obtain ⟨dk, hk1⟩ := id K1
      have hq2 : H2 q = some (.tup [.str (kw g1), .str s1]) := S02 _ _ (hq g1 rfl)
      have ht2 := S02 _ _ ht
      have hx12 := S02 _ _ hx1
      refine ⟨_, rfl, p, _, _, _, _, rfl, hx12, tc_cl T _, na _ (by simp), rfl, kp, _, _, _, _, rfl, hk1, kn_cl T _, kn_na T _, rfl, _, rfl, t, _, _, _, rfl, rfl, SqT.of ht2, atI_nat (j := 1) rfl, q, _, _, _, rfl, rfl, SqT.of hq2, atI_nat (j := 1) rfl, rfl, _, rfl, ?_⟩
      rw [decide_eq_true (rfl : V.str s1 = V.str s1)]
      refine iteF ?_
      refine ⟨_, rfl, p, _, _, _, _, rfl, hx12, tc_cl T _, tc_ln T _, rfl, _, rfl, t, _, _, _, rfl, rfl, SqT.of ht2, atI_nat (j := 1) rfl, q, _, _, _, rfl, rfl, SqT.of hq2, atI_nat (j := 1) rfl, (by show 1 ≤ sizeLine; rw [sizeLine_eq]; decide), fun u2 nu2 => ?_⟩
      have Su2 := sNew (o := .tup [.str s1]) nu2
      have SF : Same H (upd H2 u2 (.tup [.str s1])) := fun b o e => Su2 _ _ (S02 _ _ e)
      refine neT hs (SF _ _ hx2) upd_same ?_
      refine ⟨_, rfl, iteF ?_⟩
      exact ⟨_, rfl, t, _, rfl, .inr (SqT.of (SF _ _ ht)), rfl, _, rfl, iteT (k _ SF)⟩
    · refine ⟨_, rfl, t, _, _, _, rfl, rfl, SqT.of ht, atI_nat (j := 0) rfl, (by rw [sizeLine_eq]; decide), fun u nu => ?_⟩
      have Su := sNew (o := .tup [.str "named", .str "mate"]) nu
      refine ⟨u, _, rfl, .inr (SqT.of upd_same), rfl, rfl, _, rfl, ?_⟩
      rw [show inV (V.str (tw (Tk.ag f' g1 s1 a1).tc)) [V.str (Str.ofString "named"), V.str (Str.ofString "mate")] = false by cases f' <;> rfl]
      refine iteF ?_
      have hs : isN (.str s1) = true := ho.nm
      have na := fun f hf => tc_na T (.ag f' g1 s1 a1) f hf
      refine ⟨_, rfl, p, _, _, _, _, rfl, Su _ _ hx1, tc_cl T _, na _ (by simp), rfl, _, rfl, t, _, _, _, rfl, rfl, SqT.of (Su _ _ ht), atI_nat (j := 1) rfl, _, g1, s1, rfl, ⟨q, rfl, Su _ _ (hq g1 rfl)⟩, hs, fun y H2 ny S2 K2 => ?_⟩
      have S02 : Same H H2 := fun b o e => S2 _ _ (Su _ _ e)
      have K1 : KnAt cl H2 kp g1 s1 := (hx3 g1 rfl).same S02
      refine rKnSame (kn_ty T K2) (kn_nf T g1 g1) K1 K2 ?_
      refine ⟨_, rfl, iteF ?_⟩
      obtain ⟨dk, hk1⟩ := id K1
      have hq2 : H2 q = some (.tup [.str (kw g1), .str s1]) := S02 _ _ (hq g1 rfl)
      have ht2 := S02 _ _ ht
      have hx12 := S02 _ _ hx1
      refine ⟨_, rfl, p, _, _, _, _, rfl, hx12, tc_cl T _, na _ (by simp), rfl, kp, _, _, _, _, rfl, hk1, kn_cl T _, kn_na T _, rfl, _, rfl, t, _, _, _, rfl, rfl, SqT.of ht2, atI_nat (j := 1) rfl, q, _, _, _, rfl, rfl, SqT.of hq2, atI_nat (j := 1) rfl, rfl, _, rfl, ?_⟩
      rw [decide_eq_true (rfl : V.str s1 = V.str s1)]
      refine iteF ?_
      refine ⟨_, rfl, p, _, _, _, _, rfl, hx12, tc_cl T _, tc_ln T _, rfl, _, rfl, t, _, _, _, rfl, rfl, SqT.of ht2, atI_nat (j := 1) rfl, q, _, _, _, rfl, rfl, SqT.of hq2, atI_nat (j := 1) rfl, (by show 1 ≤ sizeLine; rw [sizeLine_eq]; decide), fun u2 nu2 => ?_⟩
      have Su2 := sNew (o := .tup [.str s1]) nu2
      have SF : Same H (upd H2 u2 (.tup [.str s1])) := fun b o e => Su2 _ _ (S02 _ _ e)
      refine neT hs (SF _ _ hx2) upd_same ?_
      refine ⟨_, rfl, iteF ?_⟩
      refine ⟨_, rfl, t, _, rfl, .inr (SqT.of (SF _ _ ht)), rfl, _, rfl, iteF ?_⟩
      refine ⟨_, rfl, p, _, _, _, _, rfl, SF _ _ hx1, tc_cl T _, na _ (by simp), rfl, _, rfl, t, _, _, _, rfl, rfl, SqT.of (SF _ _ ht), atI_nat (j := 2) rfl, rfl, _, rfl, ?_⟩
      rw [decide_eq_true (rfl : V.int a1 = V.int a1)]
      exact iteT ⟨_, rfl, p, _, _, _, _, rfl, SF _ _ hx1, tc_cl T _, na _ (by simp), rfl, _, _, _, _, _, rfl, .ty "int", .base (.int a1), kit_ty (by decide +kernel), k _ SF⟩
theorem cal_fields (T : Txt P w K mg cl) : Cal P w K mg base CX0 7 "_law_fields" ["_law_thing", "_law_taker_here"] (spFields cl) := by
  obtain ⟨f, fd, F, m⟩ := T.d_fields
  exact ⟨f, fd, ok_fields F T, m, F.kp, F.binds fun _ _ _ _ _ _ us hl => match us, hl with | [_, _], _ => rfl⟩
end
end My
set_option Elab.async false
set_option linter.all false
set_option maxRecDepth 100000
set_option maxHeartbeats 4000000
/-! isinstance(e, (c1, c2, ..)) of a caught error that has its own dict -/
namespace L2
open PySem PySem.Spec PyProof.Rows
def rIsErrT (K : PySem.W.Frag) (cls : Value) (d : Option Addr) (a : Addr) : List V → Hp → VK → Prop := fun xs H Q => ∃ (tp : Addr) (cs : List V) (us : List Value) (b : Bool) (D dd : Addr) (fs : List (Str × V)), xs = [.ref a, .ref tp] ∧ cls = .ref D ∧ d = some dd ∧ H dd = some (.xd fs) ∧ ExcC K D ∧ H tp = some (.tup cs) ∧ Paired ClsV cs us ∧ PySem.W.kitAny K (.ref D) us = some b ∧ Q (.bl b) H
theorem call_isErrT {X : Cx} {a : Addr} {cls : Value} {d : Option Addr} {oe : Obj} {pn : List (Addr × Obj)} (hz : Zc cls d oe) (hf : ∃ vs, oe.data = .fields vs) : CallR (X.suite a ((a, oe) :: pn)) (.builtin "isinstance") (rIsErrT X.K cls d a) := by
  intro pins s σ H xs us Q I r h
  obtain ⟨tp, cs, ws, b, D, dd, fs, rfl, rfl, rfl, hdd, T, hT, k, e, q⟩ := h
  obtain ⟨u1, u2, rfl, r1, r2⟩ := vals2 r
  obtain rfl : u1 = Value.ref a := r1
  cases (show u2 = Value.ref tp from r2)
  obtain ⟨hget, _⟩ := I.pin (a, oe) (List.mem_append.mpr (.inl List.mem_cons_self))
  obtain ⟨vs, hv⟩ := hf
  obtain ⟨mA, hns, _⟩ := (show ObjOk X.prog X.w H s.heap dd (.xd fs) from I.hok dd _ hdd)
  obtain ⟨o', es, ep, ho, _⟩ := hns
  have J : PySem.W.InstAt s.heap a oe D (some o') := ⟨hget, hz.1, by unfold PySem.W.notCls; rw [hv] <;> rfl, by rw [hz.2]; exact ho⟩
  obtain ⟨_, its, rv, o, h1, h2, n, h3⟩ := (show ObjOk X.prog X.w H s.heap tp (.tup cs) from I.hok tp _ hT)
  have e3 := ClsV.all k rv
  subst e3
  obtain ⟨oc, od, dt, sl⟩ := o
  simp only at h2 h3
  subst h2 h3
  exact PySem.W.kia_tup (PySem.ErrL.kitx_err T) I.kIn J h1 e (fun z => nomatch z) fun tk => ⟨.bl b, H, I.kept (t' := tk) fun _ _ z => z, rfl, q⟩
theorem call_isErrTK {X : Cx} {K : PySem.W.Frag} {a : Addr} {cls : Value} {d : Option Addr} {oe : Obj} {pn : List (Addr × Obj)} (h : X.K = K) (hz : Zc cls d oe) (hf : ∃ vs, oe.data = .fields vs) : CallR (X.suite a ((a, oe) :: pn)) (.builtin "isinstance") (rIsErrT K cls d a) := h ▸ call_isErrT hz hf
end L2
set_option Elab.async false
set_option linter.all false
set_option maxRecDepth 100000
set_option maxHeartbeats 1000000
namespace My
open PySem L2 Dw Wp
open C8 (pss_cut tCut)
set_option pp.maxSteps 600
inductive Bad (K : PySem.W.Frag) (cl : String → Addr) (H : Hp) : Tc → V → V → Str → Prop where
  | nm {m : Bool} {v a : V} {n : String} (d : Dm K H v n) (h : isN v = false) : Bad K cl H (Tk.nm m Str.empty).tc v a "life"
  | kn {c : K3} {v a : V} (h : KdAt K cl H v none) : Bad K cl H (Tk.kn c false Str.empty).tc v a "kin"
  | ak {f : Bool} {v a : V} {n : String} (h : KdAt K cl H v none) (d : Dm K H a n) : Bad K cl H (Tk.ag f false Str.empty 0).tc v a "kin"
  | ag {f : Bool} {v a : V} {n : String} {r : Bool × Str} (h : KdAt K cl H v (some r)) (d : Dm K H a n) (w : isW 0 1000000 a = false) : Bad K cl H (Tk.ag f false Str.empty 0).tc v a "age"
theorem TyX.same2 {K : PySem.W.Frag} {H H' : Hp} {v : V} {t : Value} (h : TyX K H v t) (S : Same H H') : TyX K H' v t := by
  cases h with
  | base h =>
    cases h with
    | non => exact .base .non
    | bl x => exact .base (.bl x)
    | int i => exact .base (.int i)
    | str x => exact .base (.str x)
    | flt x => exact .base (.flt x)
    | lst e => exact .base (.lst (S _ _ e))
    | frz e => exact .base (.frz (S _ _ e))
    | tup e => exact .base (.tup (S _ _ e))
    | dK e => exact .base (.dK (S _ _ e))
    | dT e => exact .base (.dT (S _ _ e))
    | ins e a b c d f => exact .base (.ins (S _ _ e) a b c d f)
  | byt b => exact .byt b
  | set e => exact .set (S _ _ e)
  | kList e c => exact .kList e c
  | kTuple e c => exact .kTuple e c
  | kDict e c => exact .kDict e c
  | fTuple e => exact .fTuple (S _ _ e)
  | fDict e => exact .fDict (S _ _ e)
theorem KdAt.same {K : PySem.W.Frag} {cl : String → Addr} {H H' : Hp} {v : V} {r : Option (Bool × Str)} (h : KdAt K cl H v r) (S : Same H H') : KdAt K cl H' v r := by
  cases r with
  | none => exact h.imp fun t q => ⟨TyX.same2 q.1 S, q.2⟩
  | some r => exact h.imp fun k q => ⟨q.1, q.2.same S⟩
def spMade (K : PySem.W.Frag) (cl : String → Addr) : Sp := fun vs H Q _ => ∃ (c : Tc) (v a : V) (wd : Str), vs = [.str (tw c), v, a] ∧ Bad K cl H c v a wd ∧ ∀ t H', Same H H' → H' t = some (.tup [.str wd, .bl true]) → Q (.ref t) H'
section
variable {P : Program} {w : World} {K : PySem.W.Frag} {mg : Str → Option Value} {base : Heap} {cl : String → Addr}
theorem k_btT (T : Txt P w K mg cl) : PySem.W.kitAny K (.ref (cl "BadTaker")) [.ref (cl "BadCondition"), .ref (cl "NoLife")] = some false :=
  kitAny_cons T.k_BadTaker_BadCondition (fun _ => kitAny_cons T.k_BadTaker_NoLife (fun _ => rfl) (fun z => by cases z)) (fun z => by cases z)
theorem ok_made {f : Addr} {fd : FuncData} (F : Fun K "_law_made" "_law_made" s_made f fd) (T : Txt P w K mg cl) : FnOk P w K mg base CX0 7 f fd ["_law_word_here", "_law_first", "_law_age"] (spMade K cl) := by
  refine F.ok sc_made (fun vs H Q E h => ?_) (fun cdv A outer s H vs Q E hr h => ?_)
  · obtain ⟨c, v, a, wd, rfl, _⟩ := h
    rfl
  · obtain ⟨c, v, a, wd, rfl, hb, k⟩ := h
    have I_Named : CalC P w K mg base (L2.CX P w) 4 (cl "Named") ["self", "life"] (spNm K cl false) := cal_Named_init T
    have I_Mate : CalC P w K mg base (L2.CX P w) 4 (cl "Mate") ["self", "life"] (spNm K cl true) := cal_Mate_init T
    have I_Told : CalC P w K mg base (L2.CX P w) 4 (cl "Told") ["self", "kin"] (spKd K cl .told) := cal_Told_init T
    have I_Whole : CalC P w K mg base (L2.CX P w) 4 (cl "Whole") ["self", "kin"] (spKd K cl .whole) := cal_Whole_init T
    have I_Living : CalC P w K mg base (L2.CX P w) 4 (cl "Living") ["self", "kin"] (spKd K cl .living) := cal_Living_init T
    have I_Reaching : CalC P w K mg base (L2.CX P w) 4 (cl "Reaching") ["self", "kin", "age"] (spAg K cl false) := cal_Reaching_init T
    have I_FirstReaching : CalC P w K mg base (L2.CX P w) 4 (cl "FirstReaching") ["self", "kin", "age"] (spAg K cl true) := cal_FirstReaching_init T
    refine ⟨_, (pss_one (ps_try_as (i := 3) (Wout := fun _ _ _ _ => False) rfl rfl sc_made.nd rfl rfl ⟨rfl, by decide, Or.inl T.m_BadTaker⟩ takes0
            (fun W pn xe tk po => (pss_cons (ps_if (pt_cmpR op_eq (pv 0) pe_str (nomark _))
                (pss_one (ps_ret (pe_mkS I_Named T.m_Named (hr.mono (by decide)) (fun σ => passAt tk σ) (pa_cons (pv 1) pa_nil)))) pss_nil)
              (pss_cons (ps_if (pt_cmpR op_eq (pv 0) pe_str (nomark _))
                (pss_one (ps_ret (pe_mkS I_Mate T.m_Mate (hr.mono (by decide)) (fun σ => passAt tk σ) (pa_cons (pv 1) pa_nil)))) pss_nil)
              (pss_cons (ps_if (pt_cmpR op_eq (pv 0) pe_str (nomark _))
                (pss_one (ps_ret (pe_mkS I_Told T.m_Told (hr.mono (by decide)) (fun σ => passAt tk σ) (pa_cons (pv 1) pa_nil)))) pss_nil)
              (pss_cons (ps_if (pt_cmpR op_eq (pv 0) pe_str (nomark _))
                (pss_one (ps_ret (pe_mkS I_Whole T.m_Whole (hr.mono (by decide)) (fun σ => passAt tk σ) (pa_cons (pv 1) pa_nil)))) pss_nil)
              (pss_cons (ps_if (pt_cmpR op_eq (pv 0) pe_str (nomark _))
                (pss_one (ps_ret (pe_mkS I_Living T.m_Living (hr.mono (by decide)) (fun σ => passAt tk σ) (pa_cons (pv 1) pa_nil)))) pss_nil)
              (pss_one (ps_ret (pe_ifExp (pt_cmpR op_eq (pv 0) pe_str (nomark _)) (pe_mkS I_Reaching T.m_Reaching (hr.mono (by decide)) (fun σ => passAt tk σ) (pa_cons (pv 1) (pa_cons (pv 2) pa_nil))) (pe_mkS I_FirstReaching T.m_FirstReaching (hr.mono (by decide)) (fun σ => passAt tk σ) (pa_cons (pv 1) (pa_cons (pv 2) pa_nil))))))))))))
            (fun a oe cls d pn hz hf => (pss_one (ps_ret (pe_tup (pa_cons (pe_xf (T.x_BadTaker).xf T.xf_BadTaker_what hz hf (pv 3)) (pa_cons (pe_and (pe_callB (call_isErrK (K := K) (by rfl) hz hf) (by rfl) T.n_isinstance (by decide +kernel) (pa_cons (pv 3) (pa_cons (pe_cls T.m_DeedError) pa_nil))) (pe_one (pe_not (pe_callB (call_isErrTK (K := K) (by rfl) hz hf) (by rfl) T.n_isinstance (by decide +kernel) (pa_cons (pv 3) (pa_cons (pe_tup (pa_cons (pe_cls T.m_BadCondition) (pa_cons (pe_cls T.m_NoLife) pa_nil))) pa_nil)))))) pa_nil)))))))), ?_⟩
    have fin : True := trivial
    rcases hb with @⟨m, v, a, n, d, h⟩ | @⟨c, v, a, h⟩ | @⟨f', v, a, n, h, d⟩ | @⟨f', v, a, n, r, h, d, hw⟩
    · cases m with
      | false =>
        refine ⟨_, rfl, rfl, _, rfl, iteT ?_⟩
        refine ⟨_, rfl, fun x dx nx nd ne => ⟨x, dx, v, n, rfl, upd_same, d.same (same_mk nx nd), fun s hv hn => absurd hn (by rw [h]; decide), fun _ G S e he => ?_⟩⟩
        have SG : Same H G := fun b o q => S _ _ (same_mk nx nd _ _ q)
        refine ⟨true, T.is_BadTaker, fun _ a0 _ => ?_, fun q => Bool.noConfusion q⟩
        refine ⟨_, rfl, rfl, rfl, e, _, _, rfl, upd_same, rfl, ?_⟩
        refine ⟨_, rfl, _, _, true, _, e, _, rfl, rfl, rfl, upd_same, T.x_BadTaker, .own _, T.k_BadTaker_DeedError, _, rfl, iteT ?_⟩
        refine ⟨_, rfl, (by show 2 ≤ sizeLine; rw [sizeLine_eq]; decide), fun u nu => ?_⟩
        have Su := sNew (o := .tup [.ref (cl "BadCondition"), .ref (cl "NoLife")]) nu
        refine ⟨u, _, _, false, _, e, _, rfl, rfl, rfl, Su _ _ upd_same, T.x_BadTaker, upd_same, .cons (.own _) (.cons (.own _) .nil), k_btT T, ?_⟩
        refine ⟨_, rfl, (by show 2 ≤ sizeLine; rw [sizeLine_eq]; decide), fun t nt => ?_⟩
        have St := sNew (o := .tup [.str "life", .bl true]) nt
        exact k t _ (fun b o q => St _ _ (Su _ _ (sNew he _ _ (SG _ _ q)))) upd_same
      | true =>
        refine ⟨_, rfl, rfl, _, rfl, iteF ?_⟩
        refine ⟨_, rfl, rfl, _, rfl, iteT ?_⟩
        refine ⟨_, rfl, fun x dx nx nd ne => ⟨x, dx, v, n, rfl, upd_same, d.same (same_mk nx nd), fun s hv hn => absurd hn (by rw [h]; decide), fun _ G S e he => ?_⟩⟩
        have SG : Same H G := fun b o q => S _ _ (same_mk nx nd _ _ q)
        refine ⟨true, T.is_BadTaker, fun _ a0 _ => ?_, fun q => Bool.noConfusion q⟩
        refine ⟨_, rfl, rfl, rfl, e, _, _, rfl, upd_same, rfl, ?_⟩
        refine ⟨_, rfl, _, _, true, _, e, _, rfl, rfl, rfl, upd_same, T.x_BadTaker, .own _, T.k_BadTaker_DeedError, _, rfl, iteT ?_⟩
        refine ⟨_, rfl, (by show 2 ≤ sizeLine; rw [sizeLine_eq]; decide), fun u nu => ?_⟩
        have Su := sNew (o := .tup [.ref (cl "BadCondition"), .ref (cl "NoLife")]) nu
        refine ⟨u, _, _, false, _, e, _, rfl, rfl, rfl, Su _ _ upd_same, T.x_BadTaker, upd_same, .cons (.own _) (.cons (.own _) .nil), k_btT T, ?_⟩
        refine ⟨_, rfl, (by show 2 ≤ sizeLine; rw [sizeLine_eq]; decide), fun t nt => ?_⟩
        have St := sNew (o := .tup [.str "life", .bl true]) nt
        exact k t _ (fun b o q => St _ _ (Su _ _ (sNew he _ _ (SG _ _ q)))) upd_same
    · cases c with
      | told =>
        refine ⟨_, rfl, rfl, _, rfl, iteF ?_⟩
        refine ⟨_, rfl, rfl, _, rfl, iteF ?_⟩
        refine ⟨_, rfl, rfl, _, rfl, iteT ?_⟩
        refine ⟨_, rfl, fun x dx nx nd ne => ⟨x, dx, v, none, rfl, upd_same, h.same (same_mk nx nd), (fun g s z => by cases z), fun _ e he => ?_⟩⟩
        have SG := same_mk (o := .own x) (o' := .ins (cl "Told") dx []) nx nd
        refine ⟨true, T.is_BadTaker, fun _ a0 _ => ?_, fun q => Bool.noConfusion q⟩
        refine ⟨_, rfl, rfl, rfl, e, _, _, rfl, upd_same, rfl, ?_⟩
        refine ⟨_, rfl, _, _, true, _, e, _, rfl, rfl, rfl, upd_same, T.x_BadTaker, .own _, T.k_BadTaker_DeedError, _, rfl, iteT ?_⟩
        refine ⟨_, rfl, (by show 2 ≤ sizeLine; rw [sizeLine_eq]; decide), fun u nu => ?_⟩
        have Su := sNew (o := .tup [.ref (cl "BadCondition"), .ref (cl "NoLife")]) nu
        refine ⟨u, _, _, false, _, e, _, rfl, rfl, rfl, Su _ _ upd_same, T.x_BadTaker, upd_same, .cons (.own _) (.cons (.own _) .nil), k_btT T, ?_⟩
        refine ⟨_, rfl, (by show 2 ≤ sizeLine; rw [sizeLine_eq]; decide), fun t nt => ?_⟩
        have St := sNew (o := .tup [.str "kin", .bl true]) nt
        exact k t _ (fun b o q => St _ _ (Su _ _ (sNew he _ _ (SG _ _ q)))) upd_same
      | whole =>
        refine ⟨_, rfl, rfl, _, rfl, iteF ?_⟩
        refine ⟨_, rfl, rfl, _, rfl, iteF ?_⟩
        refine ⟨_, rfl, rfl, _, rfl, iteF ?_⟩
        refine ⟨_, rfl, rfl, _, rfl, iteT ?_⟩
        refine ⟨_, rfl, fun x dx nx nd ne => ⟨x, dx, v, none, rfl, upd_same, h.same (same_mk nx nd), (fun g s z => by cases z), fun _ e he => ?_⟩⟩
        have SG := same_mk (o := .own x) (o' := .ins (cl "Whole") dx []) nx nd
        refine ⟨true, T.is_BadTaker, fun _ a0 _ => ?_, fun q => Bool.noConfusion q⟩
        refine ⟨_, rfl, rfl, rfl, e, _, _, rfl, upd_same, rfl, ?_⟩
        refine ⟨_, rfl, _, _, true, _, e, _, rfl, rfl, rfl, upd_same, T.x_BadTaker, .own _, T.k_BadTaker_DeedError, _, rfl, iteT ?_⟩
        refine ⟨_, rfl, (by show 2 ≤ sizeLine; rw [sizeLine_eq]; decide), fun u nu => ?_⟩
        have Su := sNew (o := .tup [.ref (cl "BadCondition"), .ref (cl "NoLife")]) nu
        refine ⟨u, _, _, false, _, e, _, rfl, rfl, rfl, Su _ _ upd_same, T.x_BadTaker, upd_same, .cons (.own _) (.cons (.own _) .nil), k_btT T, ?_⟩
        refine ⟨_, rfl, (by show 2 ≤ sizeLine; rw [sizeLine_eq]; decide), fun t nt => ?_⟩
        have St := sNew (o := .tup [.str "kin", .bl true]) nt
        exact k t _ (fun b o q => St _ _ (Su _ _ (sNew he _ _ (SG _ _ q)))) upd_same
      | living =>
        refine ⟨_, rfl, rfl, _, rfl, iteF ?_⟩
        refine ⟨_, rfl, rfl, _, rfl, iteF ?_⟩
        refine ⟨_, rfl, rfl, _, rfl, iteF ?_⟩
        refine ⟨_, rfl, rfl, _, rfl, iteF ?_⟩
        refine ⟨_, rfl, rfl, _, rfl, iteT ?_⟩
        refine ⟨_, rfl, fun x dx nx nd ne => ⟨x, dx, v, none, rfl, upd_same, h.same (same_mk nx nd), (fun g s z => by cases z), fun _ e he => ?_⟩⟩
        have SG := same_mk (o := .own x) (o' := .ins (cl "Living") dx []) nx nd
        refine ⟨true, T.is_BadTaker, fun _ a0 _ => ?_, fun q => Bool.noConfusion q⟩
        refine ⟨_, rfl, rfl, rfl, e, _, _, rfl, upd_same, rfl, ?_⟩
        refine ⟨_, rfl, _, _, true, _, e, _, rfl, rfl, rfl, upd_same, T.x_BadTaker, .own _, T.k_BadTaker_DeedError, _, rfl, iteT ?_⟩
        refine ⟨_, rfl, (by show 2 ≤ sizeLine; rw [sizeLine_eq]; decide), fun u nu => ?_⟩
        have Su := sNew (o := .tup [.ref (cl "BadCondition"), .ref (cl "NoLife")]) nu
        refine ⟨u, _, _, false, _, e, _, rfl, rfl, rfl, Su _ _ upd_same, T.x_BadTaker, upd_same, .cons (.own _) (.cons (.own _) .nil), k_btT T, ?_⟩
        refine ⟨_, rfl, (by show 2 ≤ sizeLine; rw [sizeLine_eq]; decide), fun t nt => ?_⟩
        have St := sNew (o := .tup [.str "kin", .bl true]) nt
        exact k t _ (fun b o q => St _ _ (Su _ _ (sNew he _ _ (SG _ _ q)))) upd_same
    · cases f' with
      | false =>
        refine ⟨_, rfl, rfl, _, rfl, iteF ?_⟩
        refine ⟨_, rfl, rfl, _, rfl, iteF ?_⟩
        refine ⟨_, rfl, rfl, _, rfl, iteF ?_⟩
        refine ⟨_, rfl, rfl, _, rfl, iteF ?_⟩
        refine ⟨_, rfl, rfl, _, rfl, iteF ?_⟩
        refine ⟨_, rfl, rfl, _, rfl, iteT ?_⟩
        refine ⟨_, rfl, _, rfl, fun x dx nx nd ne => ⟨x, dx, v, a, n, none, rfl, upd_same, h.same (same_mk nx nd), d.same (same_mk nx nd), ?_, ?_, ?_⟩⟩
        all_goals have SG := same_mk (H := H) (o := .own x) (o' := .ins (cl "Reaching") dx []) nx nd
        · exact fun g s i z => by cases z
        · intro _ e he
          refine ⟨true, T.is_BadTaker, fun _ a0 _ => ?_, fun q => Bool.noConfusion q⟩
          refine ⟨_, rfl, rfl, rfl, e, _, _, rfl, upd_same, rfl, ?_⟩
          refine ⟨_, rfl, _, _, true, _, e, _, rfl, rfl, rfl, upd_same, T.x_BadTaker, .own _, T.k_BadTaker_DeedError, _, rfl, iteT ?_⟩
          refine ⟨_, rfl, (by show 2 ≤ sizeLine; rw [sizeLine_eq]; decide), fun u nu => ?_⟩
          have Su := sNew (o := .tup [.ref (cl "BadCondition"), .ref (cl "NoLife")]) nu
          refine ⟨u, _, _, false, _, e, _, rfl, rfl, rfl, Su _ _ upd_same, T.x_BadTaker, upd_same, .cons (.own _) (.cons (.own _) .nil), k_btT T, ?_⟩
          refine ⟨_, rfl, (by show 2 ≤ sizeLine; rw [sizeLine_eq]; decide), fun t nt => ?_⟩
          have St := sNew (o := .tup [.str "kin", .bl true]) nt
          exact k t _ (fun b o q => St _ _ (Su _ _ (sNew he _ _ (SG _ _ q)))) upd_same
        · exact fun z => absurd rfl z
      | true =>
        refine ⟨_, rfl, rfl, _, rfl, iteF ?_⟩
        refine ⟨_, rfl, rfl, _, rfl, iteF ?_⟩
        refine ⟨_, rfl, rfl, _, rfl, iteF ?_⟩
        refine ⟨_, rfl, rfl, _, rfl, iteF ?_⟩
        refine ⟨_, rfl, rfl, _, rfl, iteF ?_⟩
        refine ⟨_, rfl, rfl, _, rfl, iteF ?_⟩
        refine ⟨_, rfl, _, rfl, fun x dx nx nd ne => ⟨x, dx, v, a, n, none, rfl, upd_same, h.same (same_mk nx nd), d.same (same_mk nx nd), ?_, ?_, ?_⟩⟩
        all_goals have SG := same_mk (H := H) (o := .own x) (o' := .ins (cl "FirstReaching") dx []) nx nd
        · exact fun g s i z => by cases z
        · intro _ e he
          refine ⟨true, T.is_BadTaker, fun _ a0 _ => ?_, fun q => Bool.noConfusion q⟩
          refine ⟨_, rfl, rfl, rfl, e, _, _, rfl, upd_same, rfl, ?_⟩
          refine ⟨_, rfl, _, _, true, _, e, _, rfl, rfl, rfl, upd_same, T.x_BadTaker, .own _, T.k_BadTaker_DeedError, _, rfl, iteT ?_⟩
          refine ⟨_, rfl, (by show 2 ≤ sizeLine; rw [sizeLine_eq]; decide), fun u nu => ?_⟩
          have Su := sNew (o := .tup [.ref (cl "BadCondition"), .ref (cl "NoLife")]) nu
          refine ⟨u, _, _, false, _, e, _, rfl, rfl, rfl, Su _ _ upd_same, T.x_BadTaker, upd_same, .cons (.own _) (.cons (.own _) .nil), k_btT T, ?_⟩
          refine ⟨_, rfl, (by show 2 ≤ sizeLine; rw [sizeLine_eq]; decide), fun t nt => ?_⟩
          have St := sNew (o := .tup [.str "kin", .bl true]) nt
          exact k t _ (fun b o q => St _ _ (Su _ _ (sNew he _ _ (SG _ _ q)))) upd_same
        · exact fun z => absurd rfl z
    · cases f' with
      | false =>
        refine ⟨_, rfl, rfl, _, rfl, iteF ?_⟩
        refine ⟨_, rfl, rfl, _, rfl, iteF ?_⟩
        refine ⟨_, rfl, rfl, _, rfl, iteF ?_⟩
        refine ⟨_, rfl, rfl, _, rfl, iteF ?_⟩
        refine ⟨_, rfl, rfl, _, rfl, iteF ?_⟩
        refine ⟨_, rfl, rfl, _, rfl, iteT ?_⟩
        refine ⟨_, rfl, _, rfl, fun x dx nx nd ne => ⟨x, dx, v, a, n, some r, rfl, upd_same, h.same (same_mk nx nd), d.same (same_mk nx nd), ?_, ?_, ?_⟩⟩
        all_goals have SG := same_mk (H := H) (o := .own x) (o' := .ins (cl "Reaching") dx []) nx nd
        · exact fun g s i _ _ z => absurd z (by rw [hw]; decide)
        · exact fun z => by cases z
        · intro _ _ e he
          refine ⟨true, T.is_BadTaker, fun _ a0 _ => ?_, fun q => Bool.noConfusion q⟩
          refine ⟨_, rfl, rfl, rfl, e, _, _, rfl, upd_same, rfl, ?_⟩
          refine ⟨_, rfl, _, _, true, _, e, _, rfl, rfl, rfl, upd_same, T.x_BadTaker, .own _, T.k_BadTaker_DeedError, _, rfl, iteT ?_⟩
          refine ⟨_, rfl, (by show 2 ≤ sizeLine; rw [sizeLine_eq]; decide), fun u nu => ?_⟩
          have Su := sNew (o := .tup [.ref (cl "BadCondition"), .ref (cl "NoLife")]) nu
          refine ⟨u, _, _, false, _, e, _, rfl, rfl, rfl, Su _ _ upd_same, T.x_BadTaker, upd_same, .cons (.own _) (.cons (.own _) .nil), k_btT T, ?_⟩
          refine ⟨_, rfl, (by show 2 ≤ sizeLine; rw [sizeLine_eq]; decide), fun t nt => ?_⟩
          have St := sNew (o := .tup [.str "age", .bl true]) nt
          exact k t _ (fun b o q => St _ _ (Su _ _ (sNew he _ _ (SG _ _ q)))) upd_same
      | true =>
        refine ⟨_, rfl, rfl, _, rfl, iteF ?_⟩
        refine ⟨_, rfl, rfl, _, rfl, iteF ?_⟩
        refine ⟨_, rfl, rfl, _, rfl, iteF ?_⟩
        refine ⟨_, rfl, rfl, _, rfl, iteF ?_⟩
        refine ⟨_, rfl, rfl, _, rfl, iteF ?_⟩
        refine ⟨_, rfl, rfl, _, rfl, iteF ?_⟩
        refine ⟨_, rfl, _, rfl, fun x dx nx nd ne => ⟨x, dx, v, a, n, some r, rfl, upd_same, h.same (same_mk nx nd), d.same (same_mk nx nd), ?_, ?_, ?_⟩⟩
        all_goals have SG := same_mk (H := H) (o := .own x) (o' := .ins (cl "FirstReaching") dx []) nx nd
        · exact fun g s i _ _ z => absurd z (by rw [hw]; decide)
        · exact fun z => by cases z
        · intro _ _ e he
          refine ⟨true, T.is_BadTaker, fun _ a0 _ => ?_, fun q => Bool.noConfusion q⟩
          refine ⟨_, rfl, rfl, rfl, e, _, _, rfl, upd_same, rfl, ?_⟩
          refine ⟨_, rfl, _, _, true, _, e, _, rfl, rfl, rfl, upd_same, T.x_BadTaker, .own _, T.k_BadTaker_DeedError, _, rfl, iteT ?_⟩
          refine ⟨_, rfl, (by show 2 ≤ sizeLine; rw [sizeLine_eq]; decide), fun u nu => ?_⟩
          have Su := sNew (o := .tup [.ref (cl "BadCondition"), .ref (cl "NoLife")]) nu
          refine ⟨u, _, _, false, _, e, _, rfl, rfl, rfl, Su _ _ upd_same, T.x_BadTaker, upd_same, .cons (.own _) (.cons (.own _) .nil), k_btT T, ?_⟩
          refine ⟨_, rfl, (by show 2 ≤ sizeLine; rw [sizeLine_eq]; decide), fun t nt => ?_⟩
          have St := sNew (o := .tup [.str "age", .bl true]) nt
          exact k t _ (fun b o q => St _ _ (Su _ _ (sNew he _ _ (SG _ _ q)))) upd_same
theorem cal_made (T : Txt P w K mg cl) : Cal P w K mg base CX0 7 "_law_made" ["_law_word_here", "_law_first", "_law_age"] (spMade K cl) := by
  obtain ⟨f, fd, F, m⟩ := T.d_made
  exact ⟨f, fd, ok_made F T, m, F.kp, F.binds fun _ _ _ _ _ _ us hl => match us, hl with | [_, _, _], _ => rfl⟩
end
end My
set_option Elab.async false
set_option linter.all false
set_option maxRecDepth 100000
set_option maxHeartbeats 1000000
namespace My
open PySem L2 Dw Wp
open C8 (pss_cut tCut)
set_option pp.maxSteps 600
theorem tc_nm (m : Bool) (s : Str) : (Tk.nm m s).tc = (Tk.nm m Str.empty).tc := by cases m <;> rfl
theorem tc_kn (c : K3) (g : Bool) (s : Str) : (Tk.kn c g s).tc = (Tk.kn c false Str.empty).tc := by cases c <;> rfl
theorem tc_ag (f g : Bool) (s : Str) (a : Int) : (Tk.ag f g s a).tc = (Tk.ag f false Str.empty 0).tc := by cases f <;> rfl
theorem okW {w : Str} (h : PyData.strOk w = true) : ∀ x ∈ ([.str w, .bl true] : List V), okV x = true := fun x hx => by
  rcases (show x = .str w ∨ x = .bl true by simpa using hx) with rfl | rfl
  · exact h
  · rfl
theorem eqW {K : PySem.W.Frag} {H : Hp} {p q : Addr} {w : Str} {Q : VK} (h : PyData.strOk w = true) (hp : H p = some (.tup [.str w, .bl true])) (hq : H q = some (.tup [.str w, .bl true])) (k : Q (.bl true) H) : rEqD K (.ref p) (.ref q) H Q :=
  ⟨_, _, dp_tup (SqT.of hp) (dpvs fun x hx => okV.flat (okW h x hx)), dp_tup (SqT.of hq) (dpvs fun x hx => okV.flat (okW h x hx)), row_shaped false (okW h), row_shaped false (okW h), by rw [row_self]; exact k⟩
theorem neW {K : PySem.W.Frag} {H : Hp} {p q : Addr} {w : Str} {Q : VK} (h : PyData.strOk w = true) (hp : H p = some (.tup [.str w, .bl true])) (hq : H q = some (.tup [.str w, .bl true])) (k : Q (.bl false) H) : rNeD K (.ref p) (.ref q) H Q :=
  ⟨_, _, dp_tup (SqT.of hp) (dpvs fun x hx => okV.flat (okW h x hx)), dp_tup (SqT.of hq) (dpvs fun x hx => okV.flat (okW h x hx)), row_shaped false (okW h), row_shaped false (okW h), by rw [row_self]; exact k⟩
def spRefused (K : PySem.W.Frag) : Sp := fun vs H Q _ => ∃ (b : Addr) (v : V) (x : Tk), vs = [.ref b, v] ∧ BgAt H b ∧ PlAt H v x ∧ TkOk x ∧ ∀ H', BgAt H' b → But b H H' → Q (.bl true) H'
theorem PlAt.bb {H H' : Hp} {b : Addr} {v : V} {x : Tk} (h : PlAt H v x) (B : BgAt H b) (D : But b H H') : PlAt H' v x := by
  obtain ⟨c, s, n, hb, _⟩ := B
  exact h.but hb D
theorem TyX.bb {K : PySem.W.Frag} {H H' : Hp} {b : Addr} {v : V} {t : Value} (h : TyX K H v t) (hv : v ≠ .ref b) (D : But b H H') : TyX K H' v t := by
  cases h with
  | base h =>
    cases h with
    | non => exact .base .non
    | bl x => exact .base (.bl x)
    | int i => exact .base (.int i)
    | str x => exact .base (.str x)
    | flt x => exact .base (.flt x)
    | lst e => exact .base (.lst (D _ _ e fun z => hv (by rw [z])))
    | frz e => exact .base (.frz (D _ _ e fun z => hv (by rw [z])))
    | tup e => exact .base (.tup (D _ _ e fun z => hv (by rw [z])))
    | dK e => exact .base (.dK (D _ _ e fun z => hv (by rw [z])))
    | dT e => exact .base (.dT (D _ _ e fun z => hv (by rw [z])))
    | ins e a b c d f => exact .base (.ins (D _ _ e fun z => hv (by rw [z])) a b c d f)
  | byt b => exact .byt b
  | set e => exact .set (D _ _ e fun z => hv (by rw [z]))
  | kList e c => exact .kList e c
  | kTuple e c => exact .kTuple e c
  | kDict e c => exact .kDict e c
  | fTuple e => exact .fTuple (D _ _ e fun z => hv (by rw [z]))
  | fDict e => exact .fDict (D _ _ e fun z => hv (by rw [z]))
theorem ins_bb {H H' : Hp} {b t C d : Addr} {xs : List (Str × V)} (h : H t = some (.ins C d xs)) (B : BgAt H b) (D : But b H H') : H' t = some (.ins C d xs) := by
  obtain ⟨c, s, n, hb, _⟩ := B
  exact D _ _ h fun z => by rw [z, hb] at h; cases h
theorem tup_bb {H H' : Hp} {b t : Addr} {xs : List V} (h : H t = some (.tup xs)) (B : BgAt H b) (D : But b H H') : H' t = some (.tup xs) := by
  obtain ⟨c, s, n, hb, _⟩ := B
  exact D _ _ h fun z => by rw [z, hb] at h; cases h
section
variable {P : Program} {w : World} {K : PySem.W.Frag} {mg : Str → Option Value} {base : Heap} {cl : String → Addr}
theorem ok_refused {f : Addr} {fd : FuncData} (F : Fun K "_law_refused" "_law_refused" s_refused f fd) (T : Txt P w K mg cl) : FnOk P w K mg base CX0 8 f fd ["_law_bag_here", "_law_taker_here"] (spRefused K) := by
  refine F.ok sc_refused (fun vs H Q E h => ?_) (fun cdv A outer s H vs Q E hr h => ?_)
  · obtain ⟨b, v, x, rfl, _⟩ := h
    rfl
  · obtain ⟨b, v, x, rfl, B, hp, ho, k⟩ := h
    have C_pick : Cal P w K mg base CX0 2 "_law_pick" _ spPick := cal_pick T
    have C_odd_name : Cal P w K mg base CX0 3 "_law_odd_name" _ (spOdd K) := cal_odd_name T
    have C_made : Cal P w K mg base CX0 7 "_law_made" _ (spMade K cl) := cal_made T
    have C_kin : Cal P w K mg base CX0 6 "_law_kin" ["_law_kin_here"] (spLKin cl) := cal_kin T
    have I_Year : CalC P w K mg base (L2.CX P w) 5 (cl "Year") ["self", "number"] (spYr cl) := cal_Year_init T
    have I_Death : CalC P w K mg base (L2.CX P w) 5 (cl "Death") ["self", "life"] (spDe cl) := cal_Death_init T
    have I_Named : CalC P w K mg base (L2.CX P w) 4 (cl "Named") ["self", "life"] (spNm K cl false) := cal_Named_init T
    refine ⟨_, (pss_cons (ps_if (pt_cmpR op_in_seq (pe_ix ix_tup (pv 1) pe_int (fun _ _ => rfl)) (pe_tup (pa_cons pe_str (pa_cons pe_str pa_nil))) (by rfl))
          (pss_one (ps_ret (pe_cmpR (op_eqD hr.units) (pe_cal C_made (hr.mono (by decide)) (pa_cons (pe_ix ix_tup (pv 1) pe_int (fun _ _ => rfl)) (pa_cons (pe_cal C_odd_name (hr.mono (by decide)) (pa_cons (pv 0) (pa_cons (pe_ix ix_tup (pv 1) pe_int (fun _ _ => rfl)) pa_nil))) (pa_cons pe_int pa_nil)))) (pe_tup (pa_cons pe_str (pa_cons pe_bl pa_nil))) (nomark _)))) pss_nil)
        (pss_cons (ps_set (i := 2) sc_refused.nd rfl (Or.inl rfl) (pe_cal C_pick (hr.mono (by decide)) (pa_cons (pv 0) (pa_cons (pe_lst (pa_cons pe_non (pa_cons (pe_ix ix_tup (pe_ix ix_tup (pv 1) pe_int (fun _ _ => rfl)) pe_int (fun _ _ => rfl)) (pa_cons pe_int (pa_cons (pe_tup pa_nil) (pa_cons (pe_mk I_Year T.m_Year (hr.mono (by decide))  (pa_cons pe_int pa_nil)) (pa_cons (pe_mk I_Death T.m_Death (hr.mono (by decide))  (pa_cons (pe_ix ix_tup (pe_ix ix_tup (pv 1) pe_int (fun _ _ => rfl)) pe_int (fun _ _ => rfl)) pa_nil)) (pa_cons (pe_mk I_Named T.m_Named (hr.mono (by decide))  (pa_cons (pe_ix ix_tup (pe_ix ix_tup (pv 1) pe_int (fun _ _ => rfl)) pe_int (fun _ _ => rfl)) pa_nil)) pa_nil)))))))) pa_nil))))
        (pss_cons (ps_set (i := 3) sc_refused.nd rfl (Or.inl rfl) (pe_cal C_pick (hr.mono (by decide)) (pa_cons (pv 0) (pa_cons (pe_lst (pa_cons (pe_un un_neg pe_int) (pa_cons (pe_op op_add (pe_op op_pow pe_int pe_int) pe_int) (pa_cons (pe_un un_neg (pe_op op_pow pe_int pe_int)) (pa_cons (pe_op op_pow pe_int pe_int) (pa_cons pe_bl (pa_cons pe_bl (pa_cons pe_non (pa_cons pe_str (pa_cons (pe_tup (pa_cons pe_int pa_nil)) pa_nil)))))))))) pa_nil))))
        (pss_cons (ps_set (i := 4) sc_refused.nd rfl (Or.inl rfl) (pe_cut (pe_ifExp (pt_cmpR op_eq (pe_callB call_len_seq (by rfl) T.n_len PySem.boot_len (pa_cons (pv 1) pa_nil)) pe_int (nomark _)) pe_int (pe_ix ix_tup (pv 1) pe_int (fun _ _ => rfl)))))
        (pss_cons (ps_if (pt_cmpR (op_neD hr.units) (pe_cal C_made (hr.mono (by decide)) (pa_cons (pe_ix ix_tup (pv 1) pe_int (fun _ _ => rfl)) (pa_cons (pv 2) (pa_cons (pv 4) pa_nil)))) (pe_tup (pa_cons pe_str (pa_cons pe_bl pa_nil))) (nomark _))
          (pss_one (ps_ret pe_bl)) pss_nil)
        (pss_cons (ps_if (pt_cmpR op_eq (pe_callB call_len_seq (by rfl) T.n_len PySem.boot_len (pa_cons (pv 1) pa_nil)) pe_int (nomark _))
          (pss_one (ps_ret pe_bl)) pss_nil)
        (pss_cons (ps_if (pt_cmpR (op_neD hr.units) (pe_cal C_made (hr.mono (by decide)) (pa_cons (pe_ix ix_tup (pv 1) pe_int (fun _ _ => rfl)) (pa_cons (pv 2) (pa_cons (pv 3) pa_nil)))) (pe_tup (pa_cons pe_str (pa_cons pe_bl pa_nil))) (nomark _))
          (pss_one (ps_ret pe_bl)) pss_nil)
        (pss_one (ps_ret (pe_cmpR (op_eqD hr.units) (pe_cal C_made (hr.mono (by decide)) (pa_cons (pe_ix ix_tup (pv 1) pe_int (fun _ _ => rfl)) (pa_cons (pe_cal C_kin (hr.mono (by decide)) (pa_cons (pe_ix ix_tup (pv 1) pe_int (fun _ _ => rfl)) pa_nil)) (pa_cons (pv 3) pa_nil)))) (pe_tup (pa_cons pe_str (pa_cons pe_bl pa_nil))) (nomark _))))))))))), ?_⟩
    have z3 : ∀ n : Nat, n ≤ 10 → n ≤ sizeLine := fun n h => by rw [sizeLine_eq]; omega
    have okL : PyData.strOk "life" = true := by decide +kernel
    have okK : PyData.strOk "kin" = true := by decide +kernel
    have okA : PyData.strOk "age" = true := by decide +kernel
    obtain ⟨t, q, rfl, ht, hq⟩ := hp
    have hn : isN (.str x.life) = true := ho.nm
    cases x with
    | nm m s1 =>
      refine ⟨_, rfl, t, _, _, _, rfl, rfl, SqT.of ht, atI_nat (j := 0) rfl, z3 2 (by decide), fun u nu => ?_⟩
      have Su := sNew (o := .tup [.str "named", .str "mate"]) nu
      refine ⟨u, _, rfl, .inr (SqT.of upd_same), rfl, rfl, _, rfl, ?_⟩
      rw [show inV (V.str (tw (Tk.nm m s1).tc)) [V.str (Str.ofString "named"), V.str (Str.ofString "mate")] = true by cases m <;> rfl]
      refine iteT ?_
      refine ⟨_, rfl, t, _, _, _, rfl, rfl, SqT.of (Su _ _ ht), atI_nat (j := 0) rfl, _, rfl, _, rfl, t, _, _, _, rfl, rfl, SqT.of (Su _ _ ht), atI_nat (j := 1) rfl, b, s1, rfl, B.same Su, hn, fun y n H2 ny dy B2 D2 => ?_⟩
      refine ⟨_, _, _, "life", by rw [tc_nm m s1]; rfl, .nm dy ny, fun t3 H3 S3 h3 => ⟨z3 2 (by decide), fun u4 nu4 => ?_⟩⟩
      have S4 := sNew (o := .tup [.str "life", .bl true]) nu4
      exact eqW okL (S4 _ _ h3) upd_same (k _ ((B2.same S3).same S4) fun a o e z => S4 _ _ (S3 _ _ (D2 _ _ (Su _ _ e) z)))
    | kn c g1 s1 =>
      have hs : isN (.str s1) = true := hn
      have hq : H q = some (.tup [.str (kw g1), .str s1]) := hq g1 rfl
      refine ⟨_, rfl, t, _, _, _, rfl, rfl, SqT.of ht, atI_nat (j := 0) rfl, z3 2 (by decide), fun u nu => ?_⟩
      have Su := sNew (o := .tup [.str "named", .str "mate"]) nu
      refine ⟨u, _, rfl, .inr (SqT.of upd_same), rfl, rfl, _, rfl, ?_⟩
      rw [show inV (V.str (tw (Tk.kn c g1 s1).tc)) [V.str (Str.ofString "named"), V.str (Str.ofString "mate")] = false by cases c <;> rfl]
      refine iteF ?_
      generalize upd H u (.tup [.str "named", .str "mate"]) = H1 at Su ⊢
      refine ⟨_, rfl, _, rfl, t, _, _, _, rfl, rfl, SqT.of (Su _ _ ht), atI_nat (j := 1) rfl, q, _, _, _, rfl, rfl, SqT.of (Su _ _ hq), atI_nat (j := 1) rfl, z3 0 (by decide), fun e0 ne0 => ?_⟩
      have S2 := sNew (o := .tup []) ne0
      have E2 : (upd H1 e0 (.tup [])) e0 = some (.tup []) := upd_same
      have S02 : Same H (upd H1 e0 (.tup [])) := fun b o e => S2 _ _ (Su _ _ e)
      generalize upd H1 e0 (.tup []) = H2 at E2 S02 ⊢
      refine fun x3 dx3 nx3 nd3 ne3 => ⟨x3, dx3, 5, rfl, upd_same, by decide, by decide, fun H3 B3 Y3 => ⟨rfl, ?_⟩⟩
      have S23 : Same H2 H3 := same_of_but nx3 (same_mk nx3 nd3) B3
      have S03 : Same H H3 := fun b o e => S23 _ _ (S02 _ _ e)
      refine ⟨_, rfl, t, _, _, _, rfl, rfl, SqT.of (S03 _ _ ht), atI_nat (j := 1) rfl, q, _, _, _, rfl, rfl, SqT.of (S03 _ _ hq), atI_nat (j := 1) rfl, fun x4 dx4 nx4 nd4 ne4 => ⟨x4, dx4, s1, rfl, upd_same, hs, fun H4 B4 D4 => ⟨rfl, ?_⟩⟩⟩
      have S34 : Same H3 H4 := same_of_but nx4 (same_mk nx4 nd4) B4
      have S04 : Same H H4 := fun b o e => S34 _ _ (S03 _ _ e)
      refine ⟨_, rfl, t, _, _, _, rfl, rfl, SqT.of (S04 _ _ ht), atI_nat (j := 1) rfl, q, _, _, _, rfl, rfl, SqT.of (S04 _ _ hq), atI_nat (j := 1) rfl, fun x5 dx5 nx5 nd5 ne5 => ⟨x5, dx5, _, _, rfl, upd_same, isN_dm hs, fun s' e1 _ H5 B5 T5 => ⟨rfl, ?_⟩, fun e => absurd hs (by rw [show isN (.str s1) = false from e]; decide)⟩⟩
      have S45 : Same H4 H5 := same_of_but nx5 (same_mk nx5 nd5) B5
      have S05 : Same H H5 := fun b o e => S45 _ _ (S04 _ _ e)
      refine ⟨z3 7 (by decide), fun l nl => ?_⟩
      have S6 := sNew (o := .lst [.non, .str s1, .int 5, .ref e0, .ref x3, .ref x4, .ref x5]) nl
      have B6 := (B.same S05)
      refine ⟨b, l, _, rfl, B6.same S6, upd_same, B6.ne nl, (by show 1 ≤ 7; decide), (by show 7 ≤ 900; decide), fun j o H7 hoo B7 D7 => ?_⟩
      have D07 : But b H H7 := fun a o e z => D7 _ _ (S6 _ _ (S05 _ _ e)) z
      have odd : KdAt K cl H7 o none := by
        have hm := List.mem_of_getElem? hoo
        simp only [List.mem_cons, List.not_mem_nil, or_false] at hm
        rcases hm with rfl | rfl | rfl | rfl | rfl | rfl | rfl
        · exact ⟨_, .base .non, T.k_NoneType_Kin⟩
        · exact ⟨_, .base (.str _), T.k_str_Kin⟩
        · exact ⟨_, .base (.int _), T.k_int_Kin⟩
        · exact ⟨_, .base (.tup (tup_bb (S6 _ _ (S45 _ _ (S34 _ _ (S23 _ _ E2)))) (B6.same S6) D7)), T.k_tuple_Kin⟩
        · obtain ⟨d, t, u, h, _⟩ := Y3
          exact ⟨_, .base (.ins (ins_bb (S6 _ _ (S45 _ _ (S34 _ _ h))) (B6.same S6) D7) T.cl_Year T.y_Year T.z1 T.z2 T.z3_Year), T.k_Year_Kin⟩
        · obtain ⟨d, t, u, h, _⟩ := D4
          exact ⟨_, .base (.ins (ins_bb (S6 _ _ (S45 _ _ h)) (B6.same S6) D7) T.cl_Death T.y_Death T.z1 T.z2 T.z3_Death), T.k_Death_Kin⟩
        · obtain ⟨d, t, u, h, _⟩ := T5
          exact ⟨_, .base (.ins (ins_bb (S6 _ _ h) (B6.same S6) D7) T.cl_Named T.y_Named T.z1 T.z2 T.z3_Named), T.k_Named_Kin⟩
      have ob : o ≠ .ref b := by
        have hm := List.mem_of_getElem? hoo
        simp only [List.mem_cons, List.not_mem_nil, or_false] at hm
        obtain ⟨c', s', n', hb', _⟩ := B6.same S6
        rcases hm with rfl | rfl | rfl | rfl | rfl | rfl | rfl
        · exact fun z => by cases z
        · exact fun z => by cases z
        · exact fun z => by cases z
        · intro z
          cases z
          rw [S6 _ _ (S45 _ _ (S34 _ _ (S23 _ _ E2)))] at hb'
          cases hb'
        · intro z
          cases z
          obtain ⟨d, t, u, h, _⟩ := Y3
          rw [S6 _ _ (S45 _ _ (S34 _ _ h))] at hb'
          cases hb'
        · intro z
          cases z
          obtain ⟨d, t, u, h, _⟩ := D4
          rw [S6 _ _ (S45 _ _ h)] at hb'
          cases hb'
        · intro z
          cases z
          obtain ⟨d, t, u, h, _⟩ := T5
          rw [S6 _ _ h] at hb'
          cases hb'
      have ht7 := tup_bb ht B D07
      have hq7 := tup_bb hq B D07
      clear S02 S03 S04 S05 S6 S23 S34 S45
      refine ⟨_, rfl, 1, rfl, _, _, rfl, rfl, ⟨by decide, by decide, by decide⟩, _, _, rfl, rfl, _, _, rfl, rfl, ⟨by decide, by decide, by decide⟩, _, rfl, _, _, rfl, rfl, ⟨by decide, by decide, by decide⟩, z3 1 (by decide), fun w8 nw8 => ?_⟩
      have S8 := sNew (o := .tup [.int 18]) nw8
      have B8 := B7.same S8
      have W8 : (upd H7 w8 (.tup [.int 18])) w8 = some (.tup [.int 18]) := upd_same
      refine ⟨z3 9 (by decide), fun l9 nl9 => ?_⟩
      have S9 := sNew (o := .lst [.int (-1), .int (10 ^ (6 : Int).toNat + 1), .int (-(10 ^ (30 : Int).toNat)), .int (10 ^ (30 : Int).toNat), .bl true, .bl false, .non, .str "18", .ref w8]) nl9
      refine ⟨b, l9, _, rfl, B8.same S9, upd_same, B8.ne nl9, (by show 1 ≤ 9; decide), (by show 9 ≤ 900; decide), fun j2 ag H10 hag B10 D10 => ?_⟩
      have D710 : But b H7 H10 := fun a o e z => D10 _ _ (S9 _ _ (S8 _ _ e)) z
      have D010 : But b H H10 := but_but D07 D710
      have hW : ∃ n, Dm K H10 ag n ∧ isW 0 1000000 ag = false := by
        have hag : ([.int (-1), .int (10 ^ (6 : Int).toNat + 1), .int (-(10 ^ (30 : Int).toNat)), .int (10 ^ (30 : Int).toNat), .bl true, .bl false, .non, .str "18", .ref w8] : List V)[j2]? = some ag := hag
        have hm := List.mem_of_getElem? hag
        simp only [List.mem_cons, List.not_mem_nil, or_false] at hm
        rcases hm with rfl | rfl | rfl | rfl | rfl | rfl | rfl | rfl | rfl
        · exact ⟨_, .int _, by decide⟩
        · exact ⟨_, .int _, by decide⟩
        · exact ⟨_, .int _, by decide⟩
        · exact ⟨_, .int _, by decide⟩
        · exact ⟨_, .bl _, rfl⟩
        · exact ⟨_, .bl _, rfl⟩
        · exact ⟨_, .non, rfl⟩
        · exact ⟨_, .str _ (by rw [sizeLine_eq]; decide), rfl⟩
        · exact ⟨_, .tup (tup_bb (S9 _ _ W8) (B8.same S9) D10), rfl⟩
      have odd10 : KdAt K cl H10 o none := odd.imp fun t q => ⟨TyX.bb q.1 ob D710, q.2⟩
      have ht10 := tup_bb ht B D010
      have hq10 := tup_bb hq B D010
      clear hag S8 S9 odd ht7 hq7
      obtain ⟨nW, dW, hW⟩ := hW
      refine ⟨fun v H' => H' = H10 ∧ v = .int 18, ?_, fun v H' ⟨e1, e2⟩ => ?_⟩
      · refine ⟨_, rfl, t, _, rfl, .inr (SqT.of ht10), rfl, _, rfl, iteT ?_⟩
        exact ⟨rfl, rfl⟩
      subst e1 e2
      refine ⟨_, rfl, t, _, _, _, rfl, rfl, SqT.of ht10, atI_nat (j := 0) rfl, _, rfl, _, rfl, _, _, _, "kin", by rw [tc_kn c g1 s1]; rfl, .kn odd10, fun t3 H3 S3 h3 => ⟨z3 2 (by decide), fun u4 nu4 => ?_⟩⟩
      have S4 := sNew (o := .tup [.str "kin", .bl true]) nu4
      have S34 : Same H' _ := fun b o e => S4 _ _ (S3 _ _ e)
      refine neW okK (S4 _ _ h3) upd_same ?_
      refine ⟨_, rfl, iteF ?_⟩
      refine ⟨_, rfl, t, _, rfl, .inr (SqT.of (S34 _ _ ht10)), rfl, _, rfl, iteT ?_⟩
      exact k _ (B10.same S34) fun a o e z => S34 _ _ (D010 _ _ e z)
    | ag f' g1 s1 a1 =>
      have hs : isN (.str s1) = true := hn
      have hq : H q = some (.tup [.str (kw g1), .str s1]) := hq g1 rfl
      refine ⟨_, rfl, t, _, _, _, rfl, rfl, SqT.of ht, atI_nat (j := 0) rfl, z3 2 (by decide), fun u nu => ?_⟩
      have Su := sNew (o := .tup [.str "named", .str "mate"]) nu
      refine ⟨u, _, rfl, .inr (SqT.of upd_same), rfl, rfl, _, rfl, ?_⟩
      rw [show inV (V.str (tw (Tk.ag f' g1 s1 a1).tc)) [V.str (Str.ofString "named"), V.str (Str.ofString "mate")] = false by cases f' <;> rfl]
      refine iteF ?_
      generalize upd H u (.tup [.str "named", .str "mate"]) = H1 at Su ⊢
      refine ⟨_, rfl, _, rfl, t, _, _, _, rfl, rfl, SqT.of (Su _ _ ht), atI_nat (j := 1) rfl, q, _, _, _, rfl, rfl, SqT.of (Su _ _ hq), atI_nat (j := 1) rfl, z3 0 (by decide), fun e0 ne0 => ?_⟩
      have S2 := sNew (o := .tup []) ne0
      have E2 : (upd H1 e0 (.tup [])) e0 = some (.tup []) := upd_same
      have S02 : Same H (upd H1 e0 (.tup [])) := fun b o e => S2 _ _ (Su _ _ e)
      generalize upd H1 e0 (.tup []) = H2 at E2 S02 ⊢
      refine fun x3 dx3 nx3 nd3 ne3 => ⟨x3, dx3, 5, rfl, upd_same, by decide, by decide, fun H3 B3 Y3 => ⟨rfl, ?_⟩⟩
      have S23 : Same H2 H3 := same_of_but nx3 (same_mk nx3 nd3) B3
      have S03 : Same H H3 := fun b o e => S23 _ _ (S02 _ _ e)
      refine ⟨_, rfl, t, _, _, _, rfl, rfl, SqT.of (S03 _ _ ht), atI_nat (j := 1) rfl, q, _, _, _, rfl, rfl, SqT.of (S03 _ _ hq), atI_nat (j := 1) rfl, fun x4 dx4 nx4 nd4 ne4 => ⟨x4, dx4, s1, rfl, upd_same, hs, fun H4 B4 D4 => ⟨rfl, ?_⟩⟩⟩
      have S34 : Same H3 H4 := same_of_but nx4 (same_mk nx4 nd4) B4
      have S04 : Same H H4 := fun b o e => S34 _ _ (S03 _ _ e)
      refine ⟨_, rfl, t, _, _, _, rfl, rfl, SqT.of (S04 _ _ ht), atI_nat (j := 1) rfl, q, _, _, _, rfl, rfl, SqT.of (S04 _ _ hq), atI_nat (j := 1) rfl, fun x5 dx5 nx5 nd5 ne5 => ⟨x5, dx5, _, _, rfl, upd_same, isN_dm hs, fun s' e1 _ H5 B5 T5 => ⟨rfl, ?_⟩, fun e => absurd hs (by rw [show isN (.str s1) = false from e]; decide)⟩⟩
      have S45 : Same H4 H5 := same_of_but nx5 (same_mk nx5 nd5) B5
      have S05 : Same H H5 := fun b o e => S45 _ _ (S04 _ _ e)
      refine ⟨z3 7 (by decide), fun l nl => ?_⟩
      have S6 := sNew (o := .lst [.non, .str s1, .int 5, .ref e0, .ref x3, .ref x4, .ref x5]) nl
      have B6 := (B.same S05)
      refine ⟨b, l, _, rfl, B6.same S6, upd_same, B6.ne nl, (by show 1 ≤ 7; decide), (by show 7 ≤ 900; decide), fun j o H7 hoo B7 D7 => ?_⟩
      have D07 : But b H H7 := fun a o e z => D7 _ _ (S6 _ _ (S05 _ _ e)) z
      have odd : KdAt K cl H7 o none := by
        have hm := List.mem_of_getElem? hoo
        simp only [List.mem_cons, List.not_mem_nil, or_false] at hm
        rcases hm with rfl | rfl | rfl | rfl | rfl | rfl | rfl
        · exact ⟨_, .base .non, T.k_NoneType_Kin⟩
        · exact ⟨_, .base (.str _), T.k_str_Kin⟩
        · exact ⟨_, .base (.int _), T.k_int_Kin⟩
        · exact ⟨_, .base (.tup (tup_bb (S6 _ _ (S45 _ _ (S34 _ _ (S23 _ _ E2)))) (B6.same S6) D7)), T.k_tuple_Kin⟩
        · obtain ⟨d, t, u, h, _⟩ := Y3
          exact ⟨_, .base (.ins (ins_bb (S6 _ _ (S45 _ _ (S34 _ _ h))) (B6.same S6) D7) T.cl_Year T.y_Year T.z1 T.z2 T.z3_Year), T.k_Year_Kin⟩
        · obtain ⟨d, t, u, h, _⟩ := D4
          exact ⟨_, .base (.ins (ins_bb (S6 _ _ (S45 _ _ h)) (B6.same S6) D7) T.cl_Death T.y_Death T.z1 T.z2 T.z3_Death), T.k_Death_Kin⟩
        · obtain ⟨d, t, u, h, _⟩ := T5
          exact ⟨_, .base (.ins (ins_bb (S6 _ _ h) (B6.same S6) D7) T.cl_Named T.y_Named T.z1 T.z2 T.z3_Named), T.k_Named_Kin⟩
      have ob : o ≠ .ref b := by
        have hm := List.mem_of_getElem? hoo
        simp only [List.mem_cons, List.not_mem_nil, or_false] at hm
        obtain ⟨c', s', n', hb', _⟩ := B6.same S6
        rcases hm with rfl | rfl | rfl | rfl | rfl | rfl | rfl
        · exact fun z => by cases z
        · exact fun z => by cases z
        · exact fun z => by cases z
        · intro z
          cases z
          rw [S6 _ _ (S45 _ _ (S34 _ _ (S23 _ _ E2)))] at hb'
          cases hb'
        · intro z
          cases z
          obtain ⟨d, t, u, h, _⟩ := Y3
          rw [S6 _ _ (S45 _ _ (S34 _ _ h))] at hb'
          cases hb'
        · intro z
          cases z
          obtain ⟨d, t, u, h, _⟩ := D4
          rw [S6 _ _ (S45 _ _ h)] at hb'
          cases hb'
        · intro z
          cases z
          obtain ⟨d, t, u, h, _⟩ := T5
          rw [S6 _ _ h] at hb'
          cases hb'
      have ht7 := tup_bb ht B D07
      have hq7 := tup_bb hq B D07
      clear S02 S03 S04 S05 S6 S23 S34 S45
      refine ⟨_, rfl, 1, rfl, _, _, rfl, rfl, ⟨by decide, by decide, by decide⟩, _, _, rfl, rfl, _, _, rfl, rfl, ⟨by decide, by decide, by decide⟩, _, rfl, _, _, rfl, rfl, ⟨by decide, by decide, by decide⟩, z3 1 (by decide), fun w8 nw8 => ?_⟩
      have S8 := sNew (o := .tup [.int 18]) nw8
      have B8 := B7.same S8
      have W8 : (upd H7 w8 (.tup [.int 18])) w8 = some (.tup [.int 18]) := upd_same
      refine ⟨z3 9 (by decide), fun l9 nl9 => ?_⟩
      have S9 := sNew (o := .lst [.int (-1), .int (10 ^ (6 : Int).toNat + 1), .int (-(10 ^ (30 : Int).toNat)), .int (10 ^ (30 : Int).toNat), .bl true, .bl false, .non, .str "18", .ref w8]) nl9
      refine ⟨b, l9, _, rfl, B8.same S9, upd_same, B8.ne nl9, (by show 1 ≤ 9; decide), (by show 9 ≤ 900; decide), fun j2 ag H10 hag B10 D10 => ?_⟩
      have D710 : But b H7 H10 := fun a o e z => D10 _ _ (S9 _ _ (S8 _ _ e)) z
      have D010 : But b H H10 := but_but D07 D710
      have hW : ∃ n, Dm K H10 ag n ∧ isW 0 1000000 ag = false := by
        have hag : ([.int (-1), .int (10 ^ (6 : Int).toNat + 1), .int (-(10 ^ (30 : Int).toNat)), .int (10 ^ (30 : Int).toNat), .bl true, .bl false, .non, .str "18", .ref w8] : List V)[j2]? = some ag := hag
        have hm := List.mem_of_getElem? hag
        simp only [List.mem_cons, List.not_mem_nil, or_false] at hm
        rcases hm with rfl | rfl | rfl | rfl | rfl | rfl | rfl | rfl | rfl
        · exact ⟨_, .int _, by decide⟩
        · exact ⟨_, .int _, by decide⟩
        · exact ⟨_, .int _, by decide⟩
        · exact ⟨_, .int _, by decide⟩
        · exact ⟨_, .bl _, rfl⟩
        · exact ⟨_, .bl _, rfl⟩
        · exact ⟨_, .non, rfl⟩
        · exact ⟨_, .str _ (by rw [sizeLine_eq]; decide), rfl⟩
        · exact ⟨_, .tup (tup_bb (S9 _ _ W8) (B8.same S9) D10), rfl⟩
      have odd10 : KdAt K cl H10 o none := odd.imp fun t q => ⟨TyX.bb q.1 ob D710, q.2⟩
      have ht10 := tup_bb ht B D010
      have hq10 := tup_bb hq B D010
      clear hag S8 S9 odd ht7 hq7
      obtain ⟨nW, dW, hW⟩ := hW
      refine ⟨fun v H' => H' = H10 ∧ v = .int a1, ?_, fun v H' ⟨e1, e2⟩ => ?_⟩
      · refine ⟨_, rfl, t, _, rfl, .inr (SqT.of ht10), rfl, _, rfl, iteF ?_⟩
        exact ⟨_, rfl, t, _, _, _, rfl, rfl, SqT.of ht10, atI_nat (j := 2) rfl, rfl, rfl⟩
      subst e1 e2
      refine ⟨_, rfl, t, _, _, _, rfl, rfl, SqT.of ht10, atI_nat (j := 0) rfl, _, rfl, _, rfl, _, _, _, "kin", by rw [tc_ag f' g1 s1 a1]; rfl, .ak odd10 (.int a1), fun t3 H3 S3 h3 => ⟨z3 2 (by decide), fun u4 nu4 => ?_⟩⟩
      have S4 := sNew (o := .tup [.str "kin", .bl true]) nu4
      have S34 : Same H' _ := fun b o e => S4 _ _ (S3 _ _ e)
      refine neW okK (S4 _ _ h3) upd_same ?_
      refine ⟨_, rfl, iteF ?_⟩
      refine ⟨_, rfl, t, _, rfl, .inr (SqT.of (S34 _ _ ht10)), rfl, _, rfl, iteF ?_⟩
      refine ⟨_, rfl, t, _, _, _, rfl, rfl, SqT.of (S34 _ _ ht10), atI_nat (j := 0) rfl, _, rfl, _, rfl, _, _, _, "kin", by rw [tc_ag f' g1 s1 a1]; rfl, .ak (odd10.same S34) (dW.same S34), fun t5 H5 S5 h5 => ⟨z3 2 (by decide), fun u6 nu6 => ?_⟩⟩
      have S6 := sNew (o := .tup [.str "kin", .bl true]) nu6
      have S36 : Same H' _ := fun b o e => S6 _ _ (S5 _ _ (S34 _ _ e))
      refine neW okK (S6 _ _ h5) upd_same ?_
      refine ⟨_, rfl, iteF ?_⟩
      refine ⟨_, rfl, t, _, _, _, rfl, rfl, SqT.of (S36 _ _ ht10), atI_nat (j := 0) rfl, _, rfl, t, _, _, _, rfl, rfl, SqT.of (S36 _ _ ht10), atI_nat (j := 1) rfl, _, g1, s1, rfl, ⟨q, rfl, S36 _ _ hq10⟩, hs, fun y H7' ny S7 K7 => ?_⟩
      have S37 : Same H' H7' := fun b o e => S7 _ _ (S36 _ _ e)
      refine ⟨_, rfl, _, _, _, "age", by rw [tc_ag f' g1 s1 a1]; rfl, .ag (r := (g1, s1)) ⟨y, rfl, K7⟩ (dW.same S37) hW, fun t8 H8 S8 h8 => ⟨z3 2 (by decide), fun u9 nu9 => ?_⟩⟩
      have S9 := sNew (o := .tup [.str "age", .bl true]) nu9
      have S39 : Same H' _ := fun b o e => S9 _ _ (S8 _ _ (S37 _ _ e))
      exact eqW okA (S9 _ _ h8) upd_same (k _ (B10.same S39) fun a o e z => S39 _ _ (D010 _ _ e z))
theorem cal_refused (T : Txt P w K mg cl) : Cal P w K mg base CX0 8 "_law_refused" ["_law_bag_here", "_law_taker_here"] (spRefused K) := by
  obtain ⟨f, fd, F, m⟩ := T.d_refused
  exact ⟨f, fd, ok_refused F T, m, F.kp, F.binds fun _ _ _ _ _ _ us hl => match us, hl with | [_, _], _ => rfl⟩
end
end My
set_option Elab.async false
set_option linter.all false
set_option maxRecDepth 100000
set_option maxHeartbeats 1000000
namespace My
open PySem L2 Dw Wp
open C8 (pss_cut tCut)
set_option pp.maxSteps 600
def cw (c : Bool) : Str := if c = true then "unless" else "by"
theorem YdAt.same {K : PySem.W.Frag} {cl : String → Addr} {H H' : Hp} {v : V} {r : Option Int} (h : YdAt K cl H v r) (S : Same H H') : YdAt K cl H' v r := by
  cases r with
  | none => exact h.imp fun t q => ⟨TyX.same2 q.1 S, q.2⟩
  | some r => exact h.imp fun k q => ⟨q.1, q.2.same S⟩
theorem DdAt.same {K : PySem.W.Frag} {cl : String → Addr} {H H' : Hp} {v : V} {r : Option Str} (h : DdAt K cl H v r) (S : Same H H') : DdAt K cl H' v r := by
  cases r with
  | none => exact h.imp fun t q => ⟨TyX.same2 q.1 S, q.2⟩
  | some r => exact h.imp fun k q => ⟨q.1, q.2.same S⟩
def spCMade (K : PySem.W.Frag) (cl : String → Addr) : Sp := fun vs H Q _ => ∃ (c : Bool) (v1 v2 : V) (r1 : Option Int) (r2 : Option Str), vs = [.str (cw c), v1, v2] ∧ YdAt K cl H v1 r1 ∧ DdAt K cl H v2 r2 ∧
  (r1 = none → ∀ t H', Same H H' → H' t = some (.tup [.str "one", .bl true]) → Q (.ref t) H') ∧ (r1 ≠ none → r2 = none → ∀ t H', Same H H' → H' t = some (.tup [.str "other", .bl true]) → Q (.ref t) H') ∧
  (∀ n s q1 q2, r1 = some n → r2 = some s → v1 = .ref q1 → v2 = .ref q2 → ∀ p H', Same H H' → CnAt cl c H' p n s q1 q2 → Q (.ref p) H')
section
variable {P : Program} {w : World} {K : PySem.W.Frag} {mg : Str → Option Value} {base : Heap} {cl : String → Addr}
theorem ok_condition_made {f : Addr} {fd : FuncData} (F : Fun K "_law_condition_made" "_law_condition_made" s_condition_made f fd) (T : Txt P w K mg cl) : FnOk P w K mg base CX0 6 f fd ["_law_word_here", "_law_one", "_law_other"] (spCMade K cl) := by
  refine F.ok sc_condition_made (fun vs H Q E h => ?_) (fun cdv A outer s H vs Q E hr h => ?_)
  · obtain ⟨c, v1, v2, r1, r2, rfl, _⟩ := h
    rfl
  · obtain ⟨c, v1, v2, r1, r2, rfl, h1, h2, k1, k2, k⟩ := h
    have I_By : CalC P w K mg base (L2.CX P w) 4 (cl "By") ["self", "one", "other"] (spCn K cl false) := cal_By_init T
    have I_Unless : CalC P w K mg base (L2.CX P w) 4 (cl "Unless") ["self", "one", "other"] (spCn K cl true) := cal_Unless_init T
    refine ⟨_, (pss_one (ps_try_as (i := 3) (Wout := fun _ _ _ _ => False) rfl rfl sc_condition_made.nd rfl rfl ⟨rfl, by decide, Or.inl T.m_BadCondition⟩ takes0
            (fun W pn xe tk po => (pss_one (ps_ret (pe_ifExp (pt_cmpR op_eq (pv 0) pe_str (nomark _)) (pe_mkS I_By T.m_By (hr.mono (by decide)) (fun σ => passAt tk σ) (pa_cons (pv 1) (pa_cons (pv 2) pa_nil))) (pe_mkS I_Unless T.m_Unless (hr.mono (by decide)) (fun σ => passAt tk σ) (pa_cons (pv 1) (pa_cons (pv 2) pa_nil)))))))
            (fun a oe cls d pn hz hf => (pss_one (ps_ret (pe_tup (pa_cons (pe_xf (T.x_BadCondition).xf T.xf_BadCondition_what hz hf (pv 3)) (pa_cons (pe_and (pe_callB (call_isErrK (K := K) (by rfl) hz hf) (by rfl) T.n_isinstance (by decide +kernel) (pa_cons (pv 3) (pa_cons (pe_cls T.m_DeedError) pa_nil))) (pe_one (pe_not (pe_callB (call_isErrK (K := K) (by rfl) hz hf) (by rfl) T.n_isinstance (by decide +kernel) (pa_cons (pv 3) (pa_cons (pe_cls T.m_BadTaker) pa_nil)))))) pa_nil)))))))), ?_⟩
    cases c with
    | false =>
      refine ⟨_, rfl, rfl, _, rfl, iteT ?_⟩
      refine ⟨_, rfl, _, rfl, fun x dx nx nd ne => ⟨x, dx, v1, v2, r1, r2, rfl, upd_same, h1.same (same_mk nx nd), h2.same (same_mk nx nd), fun z e he => ?_, fun z1 z2 e he => ?_, fun n s q1 q2 a1 a2 a3 a4 H' B hx => ⟨rfl, k n s q1 q2 a1 a2 a3 a4 x H' (same_of_but nx (same_mk nx nd) B) hx⟩⟩⟩
      all_goals have SG := same_mk (H := H) (o := .own x) (o' := .ins (cl "By") dx []) nx nd
      · refine ⟨true, T.is_BadCondition, fun _ a0 _ => ?_, fun q => Bool.noConfusion q⟩
        refine ⟨_, rfl, rfl, rfl, e, _, _, rfl, upd_same, rfl, ?_⟩
        refine ⟨_, rfl, _, _, true, _, e, _, rfl, rfl, rfl, upd_same, T.x_BadCondition, .own _, T.k_BadCondition_DeedError, _, rfl, iteT ?_⟩
        refine ⟨_, rfl, _, _, false, _, e, _, rfl, rfl, rfl, upd_same, T.x_BadCondition, .own _, T.k_BadCondition_BadTaker, ?_⟩
        refine ⟨_, rfl, (by show 2 ≤ sizeLine; rw [sizeLine_eq]; decide), fun t nt => ?_⟩
        have St := sNew (o := .tup [.str "one", .bl true]) nt
        exact k1 z t _ (fun b o q => St _ _ (sNew he _ _ (SG _ _ q))) upd_same
      · refine ⟨true, T.is_BadCondition, fun _ a0 _ => ?_, fun q => Bool.noConfusion q⟩
        refine ⟨_, rfl, rfl, rfl, e, _, _, rfl, upd_same, rfl, ?_⟩
        refine ⟨_, rfl, _, _, true, _, e, _, rfl, rfl, rfl, upd_same, T.x_BadCondition, .own _, T.k_BadCondition_DeedError, _, rfl, iteT ?_⟩
        refine ⟨_, rfl, _, _, false, _, e, _, rfl, rfl, rfl, upd_same, T.x_BadCondition, .own _, T.k_BadCondition_BadTaker, ?_⟩
        refine ⟨_, rfl, (by show 2 ≤ sizeLine; rw [sizeLine_eq]; decide), fun t nt => ?_⟩
        have St := sNew (o := .tup [.str "other", .bl true]) nt
        exact k2 z1 z2 t _ (fun b o q => St _ _ (sNew he _ _ (SG _ _ q))) upd_same
    | true =>
      refine ⟨_, rfl, rfl, _, rfl, iteF ?_⟩
      refine ⟨_, rfl, _, rfl, fun x dx nx nd ne => ⟨x, dx, v1, v2, r1, r2, rfl, upd_same, h1.same (same_mk nx nd), h2.same (same_mk nx nd), fun z e he => ?_, fun z1 z2 e he => ?_, fun n s q1 q2 a1 a2 a3 a4 H' B hx => ⟨rfl, k n s q1 q2 a1 a2 a3 a4 x H' (same_of_but nx (same_mk nx nd) B) hx⟩⟩⟩
      all_goals have SG := same_mk (H := H) (o := .own x) (o' := .ins (cl "Unless") dx []) nx nd
      · refine ⟨true, T.is_BadCondition, fun _ a0 _ => ?_, fun q => Bool.noConfusion q⟩
        refine ⟨_, rfl, rfl, rfl, e, _, _, rfl, upd_same, rfl, ?_⟩
        refine ⟨_, rfl, _, _, true, _, e, _, rfl, rfl, rfl, upd_same, T.x_BadCondition, .own _, T.k_BadCondition_DeedError, _, rfl, iteT ?_⟩
        refine ⟨_, rfl, _, _, false, _, e, _, rfl, rfl, rfl, upd_same, T.x_BadCondition, .own _, T.k_BadCondition_BadTaker, ?_⟩
        refine ⟨_, rfl, (by show 2 ≤ sizeLine; rw [sizeLine_eq]; decide), fun t nt => ?_⟩
        have St := sNew (o := .tup [.str "one", .bl true]) nt
        exact k1 z t _ (fun b o q => St _ _ (sNew he _ _ (SG _ _ q))) upd_same
      · refine ⟨true, T.is_BadCondition, fun _ a0 _ => ?_, fun q => Bool.noConfusion q⟩
        refine ⟨_, rfl, rfl, rfl, e, _, _, rfl, upd_same, rfl, ?_⟩
        refine ⟨_, rfl, _, _, true, _, e, _, rfl, rfl, rfl, upd_same, T.x_BadCondition, .own _, T.k_BadCondition_DeedError, _, rfl, iteT ?_⟩
        refine ⟨_, rfl, _, _, false, _, e, _, rfl, rfl, rfl, upd_same, T.x_BadCondition, .own _, T.k_BadCondition_BadTaker, ?_⟩
        refine ⟨_, rfl, (by show 2 ≤ sizeLine; rw [sizeLine_eq]; decide), fun t nt => ?_⟩
        have St := sNew (o := .tup [.str "other", .bl true]) nt
        exact k2 z1 z2 t _ (fun b o q => St _ _ (sNew he _ _ (SG _ _ q))) upd_same
theorem cal_condition_made (T : Txt P w K mg cl) : Cal P w K mg base CX0 6 "_law_condition_made" ["_law_word_here", "_law_one", "_law_other"] (spCMade K cl) := by
  obtain ⟨f, fd, F, m⟩ := T.d_condition_made
  exact ⟨f, fd, ok_condition_made F T, m, F.kp, F.binds fun _ _ _ _ _ _ us hl => match us, hl with | [_, _, _], _ => rfl⟩
end
end My
set_option Elab.async false
set_option linter.all false
set_option maxRecDepth 100000
set_option maxHeartbeats 1000000
namespace My
open PySem L2 Dw Wp
open C8 (pss_cut tCut)
set_option pp.maxSteps 600
def cnFs : List Str := ["one", "other", "lives_named"]
def spConds : Sp := fun vs H Q _ => ∃ (b : Addr) (s : Str), vs = [.ref b, .str s] ∧ BgAt H b ∧ isN (.str s) = true ∧ ∀ H', Q (.bl true) H'
section
variable {P : Program} {w : World} {K : PySem.W.Frag} {mg : Str → Option Value} {base : Heap} {cl : String → Addr}
theorem cn_cl (T : Txt P w K mg cl) : ∀ c, Cls K (cnC cl c)
  | false => T.cl_By
  | true => T.cl_Unless
theorem cn_na (T : Txt P w K mg cl) : ∀ c (f : Str), f ∈ cnFs → NoAttr K (cnC cl c) f
  | false, f, h => T.na_By f h
  | true, f, h => T.na_Unless f h
theorem yr_ty (T : Txt P w K mg cl) {H : Hp} {q : Addr} {n : Int} (h : YrAt cl H q n) : TyX K H (.ref q) (.ref (cl "Year")) := by
  obtain ⟨d, t, u, h, _⟩ := h
  exact .base (.ins h T.cl_Year T.y_Year T.z1 T.z2 T.z3_Year)
theorem de_ty (T : Txt P w K mg cl) {H : Hp} {q : Addr} {n : Str} (h : DeAt cl H q n) : TyX K H (.ref q) (.ref (cl "Death")) := by
  obtain ⟨d, t, u, h, _⟩ := h
  exact .base (.ins h T.cl_Death T.y_Death T.z1 T.z2 T.z3_Death)
theorem ok_conditions {f : Addr} {fd : FuncData} (F : Fun K "_law_conditions" "_law_conditions" s_conditions f fd) (T : Txt P w K mg cl) : FnOk P w K mg base CX0 7 f fd ["_law_bag_here", "_law_life"] (spConds) := by
  refine F.ok sc_conditions (fun vs H Q E h => ?_) (fun cdv A outer s H vs Q E hr h => ?_)
  · obtain ⟨b, s0, rfl, _⟩ := h
    rfl
  · obtain ⟨b, s0, rfl, B, hs, k⟩ := h
    have C_take : Cal P w K mg base CX0 1 "_law_take" _ spTake := cal_take T
    have C_pick : Cal P w K mg base CX0 2 "_law_pick" _ spPick := cal_pick T
    have C_condition_made : Cal P w K mg base CX0 6 "_law_condition_made" _ (spCMade K cl) := cal_condition_made T
    have I_Year : CalC P w K mg base (L2.CX P w) 5 (cl "Year") ["self", "number"] (spYr cl) := cal_Year_init T
    have I_Death : CalC P w K mg base (L2.CX P w) 5 (cl "Death") ["self", "life"] (spDe cl) := cal_Death_init T
    have I_Named : CalC P w K mg base (L2.CX P w) 4 (cl "Named") ["self", "life"] (spNm K cl false) := cal_Named_init T
    have I_Children : CalC P w K mg base (L2.CX P w) 4 (cl "Children") ["self", "life"] (spKn (cl "Children")) := cal_Children_init T
    have I_By : CalC P w K mg base (L2.CX P w) 4 (cl "By") ["self", "one", "other"] (spCn K cl false) := cal_By_init T
    have C_Year_eq : CalM P w K mg base CX0 1 (cl "Year") "__eq__" ["self", "other"] (spYrEq cl) := cal_Year_eq T
    have C_Death_eq : CalM P w K mg base CX0 1 (cl "Death") "__eq__" ["self", "other"] (spDeEq cl) := cal_Death_eq T
    refine ⟨_, (pss_cons (ps_par3 (i := 2) (j := 3) (l := 4) rfl sc_conditions.nd rfl rfl rfl (by decide) (by decide) (by decide) rfl rfl rfl (pa_cons (pe_cal C_pick (hr.mono (by decide)) (pa_cons (pv 0) (pa_cons (pe_lst (pa_cons pe_str (pa_cons pe_str pa_nil))) pa_nil))) (pa_cons (pe_mk I_Year T.m_Year (hr.mono (by decide))  (pa_cons (pe_cal C_take (hr.mono (by decide)) (pa_cons (pv 0) (pa_cons pe_int pa_nil))) pa_nil)) (pa_cons (pe_mk I_Death T.m_Death (hr.mono (by decide))  (pa_cons (pv 1) pa_nil)) pa_nil))) (by rfl))
        (pss_cons (ps_set (i := 5) sc_conditions.nd rfl (Or.inl rfl) (pe_cal C_pick (hr.mono (by decide)) (pa_cons (pv 0) (pa_cons (pe_lst (pa_cons pe_non (pa_cons pe_int (pa_cons (pv 1) (pa_cons (pe_mk I_Children T.m_Children (hr.mono (by decide))  (pa_cons (pv 1) pa_nil)) (pa_cons (pe_mk I_Named T.m_Named (hr.mono (by decide))  (pa_cons (pv 1) pa_nil)) (pa_cons (pe_tup (pa_cons (pv 3) pa_nil)) (pa_cons (pe_mk I_By T.m_By (hr.mono (by decide))  (pa_cons (pv 3) (pa_cons (pv 4) pa_nil))) pa_nil)))))))) pa_nil))))
        (pss_cons (ps_if (pt_cmpR (op_neD hr.units) (pe_cal C_condition_made (hr.mono (by decide)) (pa_cons (pv 2) (pa_cons (pv 5) (pa_cons (pv 4) pa_nil)))) (pe_tup (pa_cons pe_str (pa_cons pe_bl pa_nil))) (nomark _))
          (pss_one (ps_ret pe_bl)) pss_nil)
        (pss_cons (ps_if (pt_cmpR (op_neD hr.units) (pe_cal C_condition_made (hr.mono (by decide)) (pa_cons (pv 2) (pa_cons (pv 5) (pa_cons (pv 5) pa_nil)))) (pe_tup (pa_cons pe_str (pa_cons pe_bl pa_nil))) (nomark _))
          (pss_one (ps_ret pe_bl)) pss_nil)
        (pss_cons (ps_if (pt_cmpR (op_neD hr.units) (pe_cal C_condition_made (hr.mono (by decide)) (pa_cons (pv 2) (pa_cons (pv 3) (pa_cons (pv 5) pa_nil)))) (pe_tup (pa_cons pe_str (pa_cons pe_bl pa_nil))) (nomark _))
          (pss_one (ps_ret pe_bl)) pss_nil)
        (pss_cons (ps_set (i := 6) sc_conditions.nd rfl (Or.inl rfl) (pe_cal C_condition_made (hr.mono (by decide)) (pa_cons (pv 2) (pa_cons (pv 3) (pa_cons (pv 4) pa_nil)))))
        (pss_one (ps_ret (pe_and (pe_cmpR (op_own C_Year_eq (hr.mono (by decide))) (pe_fld (pv 6) rfl) (pv 3) (nomark _)) (pe_and (pe_cmpR (op_own C_Death_eq (hr.mono (by decide))) (pe_fld (pv 6) rfl) (pv 4) (nomark _)) (pe_one (pe_cmpR (op_eqD hr.units) (pe_fld (pv 6) rfl) (pe_tup (pa_cons (pv 1) pa_nil)) (nomark _))))))))))))), ?_⟩
    have z3 : ∀ n : Nat, n ≤ 10 → n ≤ sizeLine := fun n h => by rw [sizeLine_eq]; omega
    have okO : PyData.strOk "one" = true := by decide +kernel
    have okT : PyData.strOk "other" = true := by decide +kernel
    refine ⟨_, rfl, z3 2 (by decide), fun a na => ?_⟩
    have S1 := sNew (o := .lst [.str "by", .str "unless"]) na
    refine ⟨b, a, _, rfl, B.same S1, upd_same, B.ne na, by decide, by decide, fun j w' H2 hw B2 D2 => ?_⟩
    obtain ⟨c, rfl⟩ : ∃ c, w' = .str (cw c) := by
      have := List.mem_of_getElem? hw
      simp only [List.mem_cons, List.not_mem_nil, or_false] at this
      rcases this with rfl | rfl
      · exact ⟨false, rfl⟩
      · exact ⟨true, rfl⟩
    refine ⟨_, rfl, b, 100, rfl, B2, by decide, by decide, fun q H3 q0 q1 B3 D3 => ?_⟩
    refine fun x4 dx4 nx4 nd4 ne4 => ⟨x4, dx4, q, rfl, upd_same, q0, by omega, fun H4 BB4 Y4 => ⟨rfl, ?_⟩⟩
    have B4 := B3.same (same_of_but nx4 (same_mk nx4 nd4) BB4)
    refine ⟨_, rfl, fun x5 dx5 nx5 nd5 ne5 => ⟨x5, dx5, s0, rfl, upd_same, hs, fun H5 BB5 E5 => ⟨rfl, ?_⟩⟩⟩
    have S45 : Same H4 H5 := same_of_but nx5 (same_mk nx5 nd5) BB5
    have B5 := B4.same S45
    have Y5 := Y4.same S45
    clear D2 D3 BB4 BB5 S1 hw
    refine ⟨_, _, _, rfl, ?_⟩
    refine ⟨_, rfl, _, rfl, _, rfl, fun x6 dx6 nx6 nd6 ne6 => ⟨x6, dx6, s0, rfl, upd_same, hs, fun H6 BB6 h6 => ⟨rfl, ?_⟩⟩⟩
    have S56 : Same H5 H6 := same_of_but nx6 (same_mk nx6 nd6) BB6
    refine ⟨_, rfl, fun x7 dx7 nx7 nd7 ne7 => ⟨x7, dx7, _, _, rfl, upd_same, isN_dm hs, fun s' e1 _ H7 BB7 T7 => ⟨rfl, ?_⟩, fun e => absurd hs (by rw [show isN (.str s0) = false from e]; decide)⟩⟩
    have S67 : Same H6 H7 := same_of_but nx7 (same_mk nx7 nd7) BB7
    refine ⟨_, rfl, z3 1 (by decide), fun t8 nt8 => ?_⟩
    have S78 := sNew (o := .tup [.ref x4]) nt8
    have h8 : (upd H7 t8 (.tup [.ref x4])) t8 = some (.tup [.ref x4]) := upd_same
    have S58 : Same H5 (upd H7 t8 (.tup [.ref x4])) := fun b o e => S78 _ _ (S67 _ _ (S56 _ _ e))
    generalize upd H7 t8 (.tup [.ref x4]) = H8 at h8 S78 S58 ⊢
    refine ⟨_, rfl, _, rfl, fun x9 dx9 nx9 nd9 ne9 => ⟨x9, dx9, .ref x4, .ref x5, some q, some s0, rfl, upd_same, ⟨x4, rfl, (Y5.same S58).same (same_mk nx9 nd9)⟩, ⟨x5, rfl, (E5.same S58).same (same_mk nx9 nd9)⟩, (fun z => by cases z), (fun _ z => by cases z), fun n s q1 q2 a1 a2 a3 a4 H9 BB9 C9 => ⟨rfl, ?_⟩⟩⟩
    have S89 : Same H8 H9 := same_of_but nx9 (same_mk nx9 nd9) BB9
    refine ⟨z3 7 (by decide), fun l nl => ?_⟩
    have SL := sNew (o := .lst [.non, .int 5, .str s0, .ref x6, .ref x7, .ref t8, .ref x9]) nl
    have S5L : Same H5 _ := fun b o e => SL _ _ (S89 _ _ (S58 _ _ e))
    have BL := B5.same S5L
    refine ⟨b, l, _, rfl, BL, upd_same, (B5.same fun b o e => S89 _ _ (S58 _ _ e)).ne nl, (by show 1 ≤ 7; decide), (by show 7 ≤ 900; decide), fun j2 o H10 ho B10 D10 => ?_⟩
    have odd : ∃ t, TyX K H10 o t ∧ PySem.W.kitOne K t (.ref (cl "Date")) = some false := by
      have hm := List.mem_of_getElem? ho
      simp only [List.mem_cons, List.not_mem_nil, or_false] at hm
      rcases hm with rfl | rfl | rfl | rfl | rfl | rfl | rfl
      · exact ⟨_, .base .non, T.k_NoneType_Date⟩
      · exact ⟨_, .base (.int _), T.k_int_Date⟩
      · exact ⟨_, .base (.str _), T.k_str_Date⟩
      · exact ⟨_, .base (.ins (ins_bb (SL _ _ (S89 _ _ (S78 _ _ (S67 _ _ h6)))) BL D10) T.cl_Children T.y_Children T.z1 T.z2 T.z3_Children), T.k_Children_Date⟩
      · obtain ⟨d, t, u, h, _⟩ := T7
        exact ⟨_, .base (.ins (ins_bb (SL _ _ (S89 _ _ (S78 _ _ h))) BL D10) T.cl_Named T.y_Named T.z1 T.z2 T.z3_Named), T.k_Named_Date⟩
      · exact ⟨_, .base (.tup (tup_bb (SL _ _ (S89 _ _ h8)) BL D10)), T.k_tuple_Date⟩
      · obtain ⟨d, t, h, _⟩ := C9
        exact ⟨_, .base (.ins (ins_bb (SL _ _ h) BL D10) T.cl_By T.y_By T.z1 T.z2 T.z3_By), T.k_By_Date⟩
    have Y10 : YrAt cl H10 x4 q := by
      obtain ⟨d, t, u, h1, h2, h3⟩ := Y5
      exact ⟨d, t, u, ins_bb (S5L _ _ h1) BL D10, tup_bb (S5L _ _ h2) BL D10, tup_bb (S5L _ _ h3) BL D10⟩
    have E10 : DeAt cl H10 x5 s0 := by
      obtain ⟨d, t, u, h1, h2, h3⟩ := E5
      exact ⟨d, t, u, ins_bb (S5L _ _ h1) BL D10, tup_bb (S5L _ _ h2) BL D10, tup_bb (S5L _ _ h3) BL D10⟩
    clear S5L SL S89 S78 S58 S67 S56 BL h8 h6 T7 C9 Y5 E5 Y4 S45 D10 ho
    refine ⟨_, rfl, _, rfl, _, rfl, c, o, .ref x5, none, some s0, rfl, odd, ⟨x5, rfl, E10⟩, fun _ t1 H11 S11 h1 => ?_, fun z => absurd rfl z, fun n s q1 q2 z => by cases z⟩
    refine ⟨z3 2 (by decide), fun t2 nt2 => ?_⟩
    have S12 := sNew (o := .tup [.str "one", .bl true]) nt2
    refine neW okO (S12 _ _ h1) upd_same ⟨_, rfl, iteF ?_⟩
    have SA : Same H10 _ := fun b o e => S12 _ _ (S11 _ _ e)
    obtain ⟨tt, tt1, tt2⟩ := odd
    refine ⟨_, rfl, _, rfl, _, rfl, c, o, o, none, none, rfl, ⟨tt, TyX.same2 tt1 SA, tt2⟩, ⟨tt, TyX.same2 tt1 SA, tt2⟩, fun _ t3 H13 S13 h3 => ?_, fun z => absurd rfl z, fun n s q1 q2 z => by cases z⟩
    refine ⟨z3 2 (by decide), fun t4 nt4 => ?_⟩
    have S14 := sNew (o := .tup [.str "one", .bl true]) nt4
    refine neW okO (S14 _ _ h3) upd_same ⟨_, rfl, iteF ?_⟩
    have SB : Same H10 _ := fun b o e => S14 _ _ (S13 _ _ (SA _ _ e))
    refine ⟨_, rfl, _, rfl, _, rfl, c, .ref x4, o, some q, none, rfl, ⟨x4, rfl, Y10.same SB⟩, ⟨tt, TyX.same2 tt1 SB, tt2⟩, (fun z => by cases z), fun _ _ t5 H15 S15 h5 => ?_, fun n s q1 q2 _ z => by cases z⟩
    refine ⟨z3 2 (by decide), fun t6 nt6 => ?_⟩
    have S16 := sNew (o := .tup [.str "other", .bl true]) nt6
    refine neW okT (S16 _ _ h5) upd_same ⟨_, rfl, iteF ?_⟩
    have SC : Same H10 _ := fun b o e => S16 _ _ (S15 _ _ (SB _ _ e))
    refine ⟨_, rfl, _, rfl, _, rfl, c, .ref x4, .ref x5, some q, some s0, rfl, ⟨x4, rfl, Y10.same SC⟩, ⟨x5, rfl, E10.same SC⟩, (fun z => by cases z), (fun _ z => by cases z), fun n s q1 q2 a1 a2 a3 a4 p H17 S17 C17 => ?_⟩
    cases a1
    cases a2
    cases a3
    cases a4
    obtain ⟨dc, tc, hc, htc, Y17, E17⟩ := C17
    obtain ⟨dy, ty, uy, hy, _⟩ := id Y17
    obtain ⟨de, te, ue, he, _⟩ := id E17
    refine ⟨_, rfl, p, _, _, _, _, rfl, hc, cn_cl T c, cn_na T c _ (by simp [cnFs]), rfl, _, rfl, x4, dy, _, _, rfl, hy, yr_ty T Y17, T.nf_Year_Year, x4, x4, q, q, rfl, Y17, Y17, ⟨_, rfl⟩, ?_⟩
    rw [decide_eq_true (rfl : q = q)]
    refine ⟨_, rfl, iteT ?_⟩
    refine ⟨_, rfl, p, _, _, _, _, rfl, hc, cn_cl T c, cn_na T c _ (by simp [cnFs]), rfl, _, rfl, x5, de, _, _, rfl, he, de_ty T E17, T.nf_Death_Death, x5, x5, s0, s0, rfl, E17, E17, ⟨_, rfl⟩, ?_⟩
    rw [decide_eq_true (rfl : s0 = s0)]
    refine ⟨_, rfl, iteT ?_⟩
    refine ⟨_, rfl, p, _, _, _, _, rfl, hc, cn_cl T c, cn_na T c _ (by simp [cnFs]), rfl, _, rfl, z3 1 (by decide), fun t8 nt8 => ?_⟩
    exact eqT hs (sNew nt8 _ _ htc) upd_same (k _)
theorem cal_conditions (T : Txt P w K mg cl) : Cal P w K mg base CX0 7 "_law_conditions" ["_law_bag_here", "_law_life"] (spConds) := by
  obtain ⟨f, fd, F, m⟩ := T.d_conditions
  exact ⟨f, fd, ok_conditions F T, m, F.kp, F.binds fun _ _ _ _ _ _ us hl => match us, hl with | [_, _], _ => rfl⟩
end
end My
set_option Elab.async false
set_option linter.all false
set_option maxRecDepth 100000
set_option maxHeartbeats 1000000
namespace My
open PySem L2 Dw Wp
open C8 (pss_cut tCut)
set_option pp.maxSteps 600
def plD : Tk → PyData
  | .nm m s => sqD false [.str (tw (Tk.nm m s).tc), .str s]
  | .kn c g s => sqD false [.str (tw (Tk.kn c g s).tc), sqD false [.str (kw g), .str s]]
  | .ag f g s a => sqD false [.str (tw (Tk.ag f g s a).tc), sqD false [.str (kw g), .str s], .int a]
theorem tw_inj : ∀ {c c' : Tc}, tw c = tw c' → c = c' := fun {c c'} h => by
  cases c <;> cases c' <;> first | rfl | exact absurd h (by decide)
theorem kw_inj : ∀ {c c' : Bool}, kw c = kw c' → c = c' := fun {c c'} h => by
  cases c <;> cases c' <;> first | rfl | exact absurd h (by decide)
theorem tc_nmI {m m' : Bool} {s s' : Str} (h : (Tk.nm m s).tc = (Tk.nm m' s').tc) : m = m' := by cases m <;> cases m' <;> first | rfl | cases h
theorem tc_knI {m m' : K3} {g g' : Bool} {s s' : Str} (h : (Tk.kn m g s).tc = (Tk.kn m' g' s').tc) : m = m' := by cases m <;> cases m' <;> first | rfl | cases h
theorem tc_agI {m m' g g' : Bool} {s s' : Str} {a a' : Int} (h : (Tk.ag m g s a).tc = (Tk.ag m' g' s' a').tc) : m = m' := by cases m <;> cases m' <;> first | rfl | cases h
theorem plD_eq (x y : Tk) : PyData.eqv (plD x) (plD y) = decide (x = y) := by
  rw [Bool.eq_iff_iff, decide_eq_true_iff]
  constructor
  · intro h
    cases x with
    | nm m s =>
      cases y with
      | nm m' s' =>
        simp [plD, sqD, PyData.eqv, PyData.eqvAll] at h
        rw [tc_nmI (tw_inj h.1), h.2]
      | kn c g s' => simp [plD, sqD, PyData.eqv, PyData.eqvAll] at h
      | ag f g s' a => simp [plD, sqD, PyData.eqv, PyData.eqvAll] at h
    | kn c g s =>
      cases y with
      | nm m' s' => simp [plD, sqD, PyData.eqv, PyData.eqvAll] at h
      | kn c' g' s' =>
        simp [plD, sqD, PyData.eqv, PyData.eqvAll] at h
        rw [tc_knI (tw_inj h.1), kw_inj h.2.1, h.2.2]
      | ag f g s' a => simp [plD, sqD, PyData.eqv, PyData.eqvAll] at h
    | ag f g s a =>
      cases y with
      | nm m' s' => simp [plD, sqD, PyData.eqv, PyData.eqvAll] at h
      | kn c' g' s' => simp [plD, sqD, PyData.eqv, PyData.eqvAll] at h
      | ag f' g' s' a' =>
        simp [plD, sqD, PyData.eqv, PyData.eqvAll] at h
        rw [tc_agI (tw_inj h.1), kw_inj h.2.1.1, h.2.1.2, h.2.2]
  · rintro rfl
    cases x <;> simp [plD, sqD, PyData.eqv, PyData.eqvAll]
theorem tw_ok : ∀ c, PyData.strOk (tw c) = true := fun c => by cases c <;> decide +kernel
theorem kw_ok (g : Bool) : PyData.strOk (kw g) = true := by cases g <;> decide +kernel
theorem pk_ok {g : Bool} {s : Str} (h : isN (.str s) = true) : ∀ x ∈ ([.str (kw g), .str s] : List V), okV x = true := fun x hx => by
  rcases (show x = .str (kw g) ∨ x = .str s by simpa using hx) with rfl | rfl
  · exact kw_ok g
  · exact isN_ok h
theorem pk_fl {g : Bool} {s : Str} (h : isN (.str s) = true) : Fl1 (sqD false [.str (kw g), .str s]) := fl_row false (xs := [.str (kw g), .str s]) (pk_ok h)
theorem pl_sh {x : Tk} (h : TkOk x) : SeqAt.shaped (plD x) = true := by
  have hn := h.nm
  cases x with
  | nm m s =>
    refine fls_shaped false fun d hd => ?_
    rcases (show d = .str (tw (Tk.nm m s).tc) ∨ d = .str s by simpa using hd) with rfl | rfl
    · exact fl_v (v := .str _) (tw_ok _)
    · exact fl_v (v := .str _) (isN_ok hn)
  | kn c g s =>
    refine fls_shaped false fun d hd => ?_
    rcases (show d = .str (tw (Tk.kn c g s).tc) ∨ d = sqD false [.str (kw g), .str s] by simpa using hd) with rfl | rfl
    · exact fl_v (v := .str _) (tw_ok _)
    · exact pk_fl hn
  | ag f g s a =>
    refine fls_shaped false fun d hd => ?_
    rcases (show d = .str (tw (Tk.ag f g s a).tc) ∨ d = sqD false [.str (kw g), .str s] ∨ d = .int a by simpa using hd) with rfl | rfl | rfl
    · exact fl_v (v := .str _) (tw_ok _)
    · exact pk_fl hn
    · exact fl_v (v := .int a) rfl
theorem pl_dp {K : PySem.W.Frag} {H : Hp} {v : V} {x : Tk} (h : PlAt H v x) : Dp K H v (plD x) := by
  obtain ⟨t, k, rfl, h1, h2⟩ := h
  cases x with
  | nm m s => exact dp_tup (SqT.of h1) (.cons (.str _) (.cons (.str _) .nil))
  | kn c g s => exact dp_tup (SqT.of h1) (.cons (.str _) (.cons (dp_tup (SqT.of (h2 g rfl)) (.cons (.str _) (.cons (.str _) .nil))) .nil))
  | ag f g s a => exact dp_tup (SqT.of h1) (.cons (.str _) (.cons (dp_tup (SqT.of (h2 g rfl)) (.cons (.str _) (.cons (.str _) .nil))) (.cons (.int _) .nil)))
theorem pl_eq {K : PySem.W.Frag} {H : Hp} {v v' : V} {x x' : Tk} {Q : VK} (h : PlAt H v x) (h' : PlAt H v' x') (o : TkOk x) (o' : TkOk x') (k : Q (.bl (decide (x = x'))) H) : rEqD K v v' H Q :=
  ⟨_, _, pl_dp h, pl_dp h', pl_sh o, pl_sh o', by rw [plD_eq]; exact k⟩
def tEqs (cl : String → Addr) : CSp := [(tcC cl .named, spTkEq cl .named), (tcC cl .mate, spTkEq cl .mate), (tcC cl .told, spTkEq cl .told), (tcC cl .whole, spTkEq cl .whole), (tcC cl .living, spTkEq cl .living), (tcC cl .reaching, spTkEq cl .reaching), (tcC cl .first, spTkEq cl .first)]
theorem te_mem {cl : String → Addr} : ∀ c, (tcC cl c, spTkEq cl c) ∈ tEqs cl := fun c => by
  cases c <;> simp [tEqs]
section
variable {P : Program} {w : World} {K : PySem.W.Frag} {mg : Str → Option Value} {base : Heap} {cl : String → Addr}
theorem tk_eqs (T : Txt P w K mg cl) : ∀ C sp, (C, sp) ∈ tEqs cl → CalM P w K mg base CX0 3 C "__eq__" ["self", "other"] sp := fun C sp h => by
  simp only [tEqs, List.mem_cons, List.not_mem_nil, or_false, Prod.mk.injEq] at h
  rcases h with ⟨rfl, rfl⟩ | ⟨rfl, rfl⟩ | ⟨rfl, rfl⟩ | ⟨rfl, rfl⟩ | ⟨rfl, rfl⟩ | ⟨rfl, rfl⟩ | ⟨rfl, rfl⟩
  · exact cal_Named_eq T
  · exact cal_Mate_eq T
  · exact cal_Told_eq T
  · exact cal_Whole_eq T
  · exact cal_Living_eq T
  · exact cal_Reaching_eq T
  · exact cal_FirstReaching_eq T
theorem tk_ne (T : Txt P w K mg cl) : ∀ c, NeOf K (tcC cl c)
  | .named => T.ne_Named
  | .mate => T.ne_Mate
  | .told => T.ne_Told
  | .whole => T.ne_Whole
  | .living => T.ne_Living
  | .reaching => T.ne_Reaching
  | .first => T.ne_FirstReaching
theorem tk_nes (T : Txt P w K mg cl) : ∀ C sp, (C, sp) ∈ tEqs cl → CalM P w K mg base CX0 3 C "__eq__" ["self", "other"] sp ∧ NeOf K C := fun C sp h => by
  refine ⟨tk_eqs T C sp h, ?_⟩
  simp only [tEqs, List.mem_cons, List.not_mem_nil, or_false, Prod.mk.injEq] at h
  rcases h with ⟨rfl, _⟩ | ⟨rfl, _⟩ | ⟨rfl, _⟩ | ⟨rfl, _⟩ | ⟨rfl, _⟩ | ⟨rfl, _⟩ | ⟨rfl, _⟩
  · exact T.ne_Named
  · exact T.ne_Mate
  · exact T.ne_Told
  · exact T.ne_Whole
  · exact T.ne_Living
  · exact T.ne_Reaching
  · exact T.ne_FirstReaching
/-- the type of what is compared -/
theorem oth_ty (T : Txt P w K mg cl) {H : Hp} {y : V} {o : Option Tk} (h : OthAt cl H y o) (c : Tc) : ∃ t, TyX K H y t ∧ PySem.W.notFirst K (tcC cl c) t = true := by
  cases o with
  | some x =>
    obtain ⟨q, rfl, dx, t, k, h1, _⟩ := h
    exact ⟨_, tc_ty T h1, tc_nf T c x.tc⟩
  | none =>
    rcases h with ⟨z, rfl⟩ | ⟨q, xs, rfl, hq⟩
    · exact ⟨_, .base (.str z), tc_nstr T c⟩
    · exact ⟨_, .base (.tup hq), tc_ntup T c⟩
theorem rTk (T : Txt P w K mg cl) {H : Hp} {p : Addr} {y : V} {x : Tk} {o : Option Tk} {Q : VK} (h1 : TkAt cl H p x) (h2 : OthAt cl H y o) (k : Q (.bl (decide (o = some x))) H) : rOwnU K (tEqs cl) (.ref p) y H Q := by
  obtain ⟨dx, t, kk, hp, _⟩ := id h1
  obtain ⟨ty, ht, nf⟩ := oth_ty T h2 x.tc
  exact ⟨_, _, te_mem x.tc, p, dx, _, _, rfl, hp, ht, nf, p, y, x, o, rfl, h1, rfl, h2, ⟨_, rfl⟩, k⟩
theorem rTkNe (T : Txt P w K mg cl) {H : Hp} {p : Addr} {y : V} {x : Tk} {o : Option Tk} {Q : VK} (h1 : TkAt cl H p x) (h2 : OthAt cl H y o) (k : Q (.bl (!decide (o = some x))) H) : rOwnNeU K (tEqs cl) (.ref p) y H Q := by
  obtain ⟨dx, t, kk, hp, _⟩ := id h1
  obtain ⟨ty, ht, nf⟩ := oth_ty T h2 x.tc
  exact ⟨_, _, te_mem x.tc, p, dx, _, _, rfl, hp, ht, nf, p, y, x, o, rfl, h1, rfl, h2, _, rfl, k⟩
end
end My
set_option Elab.async false
set_option linter.all false
set_option maxRecDepth 100000
set_option maxHeartbeats 1000000
namespace My
open PySem L2 Dw Wp
open C8 (pss_cut tCut)
set_option pp.maxSteps 600
def spLaw (K : PySem.W.Frag) : Sp := fun vs H Q _ => ∃ (a : Addr) (ns : List Int), vs = [.ref a] ∧ SqL K H a (ns.map V.int) ∧ ns.length ≤ 63 ∧ ∀ H', Q (.bl true) H'
def TkV (cl : String → Addr) (H : Hp) (v : V) (x : Tk) : Prop := ∃ p, v = .ref p ∧ TkAt cl H p x
/-- plain takers that stand in the frame -/
def PlV (H : Hp) (v : V) (x : Tk) : Prop := PlAt H v x ∧ TkOk x
theorem PlV.same {H H' : Hp} {v : V} {x : Tk} (h : PlV H v x) (S : Same H H') : PlV H' v x := ⟨h.1.same S, h.2⟩
theorem PlV.bb {H H' : Hp} {b : Addr} {v : V} {x : Tk} (h : PlV H v x) (B : BgAt H b) (D : But b H H') : PlV H' v x := ⟨h.1.bb B D, h.2⟩
theorem TkV.same {cl : String → Addr} {H H' : Hp} {v : V} {x : Tk} (h : TkV cl H v x) (S : Same H H') : TkV cl H' v x := h.imp fun p q => ⟨q.1, q.2.same S⟩
theorem TkV.bb {cl : String → Addr} {H H' : Hp} {b : Addr} {v : V} {x : Tk} (h : TkV cl H v x) (B : BgAt H b) (D : But b H H') : TkV cl H' v x := by
  obtain ⟨p, rfl, dx, t, k, h1, h2, h3⟩ := h
  exact ⟨p, rfl, dx, t, k, ins_bb h1 B D, tup_bb h2 B D, fun g e => (h3 g e).imp fun _ q => ins_bb q B D⟩
theorem PlV.updL {H : Hp} {D : Addr} {v : V} {x : Tk} {ws : List V} {o : HO} (h : PlV H v x) (hD : H D = some (.lst ws)) : PlV (upd H D o) v x := ⟨h.1.but hD but_upd1, h.2⟩
theorem TkV.updL {cl : String → Addr} {H : Hp} {D : Addr} {v : V} {x : Tk} {ws : List V} {o : HO} (h : TkV cl H v x) (hD : H D = some (.lst ws)) : TkV cl (upd H D o) v x := by
  obtain ⟨p, rfl, dx, t, k, h1, h2, h3⟩ := h
  have ne : ∀ {y u}, H y = some u → u ≠ .lst ws → (upd H D o) y = some u := fun {y u} e n => by
    rw [upd_ne (fun z => n (by rw [z, hD] at e; exact (Option.some.inj e).symm))]
    exact e
  exact ⟨p, rfl, dx, t, k, ne h1 (fun z => by cases z), ne h2 (fun z => by cases z), fun g e => (h3 g e).imp fun _ q => ne q (fun z => by cases z)⟩
def AgR (b : Addr) (c : Tc) (H4 : Hp) (v : V) (H' : Hp) : Prop := Same H4 H' ∧ ∃ A L, v = .ref A ∧ A ≠ b ∧ H' A = some (.lst L) ∧ ((∃ k3, c = (Tk.kn k3 false Str.empty).tc) ∧ L = [] ∨ (∃ f, c = (Tk.ag f false Str.empty 0).tc) ∧ ∃ i : Int, L = [.int i] ∧ 0 ≤ i ∧ i ≤ 1000000)
theorem lst_bb {H H' : Hp} {b P : Addr} {us : List V} (h : H P = some (.lst us)) (n : P ≠ b) (D : But b H H') : H' P = some (.lst us) := D _ _ h n
section
variable {P : Program} {w : World} {K : PySem.W.Frag} {mg : Str → Option Value} {base : Heap} {cl : String → Addr}
theorem ok_law {f : Addr} {fd : FuncData} (F : Fun K "law" "law" s_law f fd) (T : Txt P w K mg cl) : FnOk P w K mg base CX0 9 f fd ["_law_script"] (spLaw K) := by
  refine F.ok sc_law (fun vs H Q E h => ?_) (fun cdv A outer s H vs Q E hr h => ?_)
  · obtain ⟨a, ns, rfl, _⟩ := h
    rfl
  · obtain ⟨a, ns, rfl, hS, hl, k⟩ := h
    have C_bag : Cal P w K mg base CX0 1 "_law_bag" _ (spBag K) := cal_bag T
    have C_take : Cal P w K mg base CX0 1 "_law_take" _ spTake := cal_take T
    have C_pick : Cal P w K mg base CX0 2 "_law_pick" _ spPick := cal_pick T
    have C_word : Cal P w K mg base CX0 3 "_law_word" _ spWord := cal_word T
    have C_drawn : Cal P w K mg base CX0 4 "_law_drawn" _ spDrawn := cal_drawn T
    have C_taker : Cal P w K mg base CX0 7 "_law_taker" ["_law_taker_here"] (spLTk cl) := cal_taker T
    have C_text : Cal P w K mg base CX0 1 "_law_text" ["_law_taker_here"] spText := cal_text T
    have C_fields : Cal P w K mg base CX0 7 "_law_fields" _ (spFields cl) := cal_fields T
    have C_refused : Cal P w K mg base CX0 8 "_law_refused" _ (spRefused K) := cal_refused T
    have C_conditions : Cal P w K mg base CX0 7 "_law_conditions" _ spConds := cal_conditions T
    have C_Taker_eqs : ∀ C sp, (C, sp) ∈ tEqs cl → CalM P w K mg base CX0 3 C "__eq__" ["self", "other"] sp := tk_eqs T
    have C_Taker_nes : ∀ C sp, (C, sp) ∈ tEqs cl → CalM P w K mg base CX0 3 C "__eq__" ["self", "other"] sp ∧ NeOf K C := tk_nes T
    refine ⟨_, (pss_cons (ps_set (i := 1) sc_law.nd rfl (Or.inr rfl) (pe_cal C_bag (hr.mono (by decide)) (pa_cons (pv 0) (pa_cons pe_int pa_nil))))
        (pss_cons (ps_setLc (i := 2) (own := [("_law_k", 7)]) (g := gName 7) (tt := tYes) rfl sc_law.nd rfl rfl (sw_true rfl rfl rfl (by decide +kernel)) (pi_range1 rfl T.n_range (pa_cons pe_int pa_nil)) (blkOk_by (own := [("_law_k", 7)]) (N := ["_law_script", "_law_bag_here", "_law_plain", "_law_twin", "_law_word_here", "_law_age", "_law_made_here", "_law_k", "_law_thing", "_law_n", "_law_other", "_law_one"]) (sc := defScope s_law) (by decide +kernel)) (fun _ _ _ _ _ => pg_name (i := 7) sc_law.nd rfl (Or.inl rfl)) (fun _ _ _ _ _ => pts_nil) (fun _ _ _ _ _ => (pe_cal C_drawn (hr.mono (by decide)) (pa_cons (pv 1) pa_nil))))
        (pss_cons (ps_set (i := 3) sc_law.nd rfl (Or.inl rfl) (pe_ix ix_list (pv 2) pe_int (fun _ _ => rfl)))
        (pss_cut (ps_if (PW.pt (pw_and (pt_cmpR op_eq (pe_callB call_len_seq (by rfl) T.n_len PySem.boot_len (pa_cons (pv 3) pa_nil)) pe_int (nomark _)) (pw_and1 (pt_cmpR op_eq (pe_cal C_take (hr.mono (by decide)) (pa_cons (pv 1) (pa_cons pe_int pa_nil))) pe_int (nomark _)))))
          (pss_one (ps_set (i := 3) sc_law.nd rfl (Or.inl rfl) (pe_tup (pa_cons (pe_ix ix_tup (pv 3) pe_int (fun _ _ => rfl)) (pa_cons (pe_ix ix_tup (pv 3) pe_int (fun _ _ => rfl)) (pa_cons (pe_op op_mod (pe_op op_add (pe_ix ix_tup (pv 3) pe_int (fun _ _ => rfl)) pe_int) (pe_op op_add (pe_op op_pow pe_int pe_int) pe_int)) pa_nil)))))) (pss_one (ps_if (pt_cmpR op_in_seq (pe_ix ix_tup (pv 3) pe_int (fun _ _ => rfl)) (pe_tup (pa_cons pe_str (pa_cons pe_str pa_nil))) (by rfl))
              (pss_one (ps_set (i := 3) sc_law.nd rfl (Or.inl rfl) (pe_tup (pa_cons (pe_cal C_pick (hr.mono (by decide)) (pa_cons (pv 1) (pa_cons (pe_lst (pa_cons pe_str (pa_cons pe_str pa_nil))) pa_nil))) (pa_cons (pe_ix ix_tup (pv 3) pe_int (fun _ _ => rfl)) pa_nil))))) (pss_cons (ps_set (i := 4) sc_law.nd rfl (Or.inl rfl) (pe_cal C_pick (hr.mono (by decide)) (pa_cons (pv 1) (pa_cons (pe_lst (pa_cons pe_str (pa_cons pe_str (pa_cons pe_str (pa_cons pe_str (pa_cons pe_str pa_nil)))))) pa_nil))))
                (pss_cons (ps_set (i := 5) sc_law.nd rfl (Or.inl rfl) (pe_cut (pe_ifExp (pt_cmpR op_in_seq (pv 4) (pe_tup (pa_cons pe_str (pa_cons pe_str pa_nil))) (by rfl)) (pe_lst (pa_cons (pe_cut (pe_ifExp (pt_cmpR op_eq (pe_callB call_len_seq (by rfl) T.n_len PySem.boot_len (pa_cons (pv 3) pa_nil)) pe_int (nomark _)) (pe_ix ix_tup (pv 3) pe_int (fun _ _ => rfl)) pe_int)) pa_nil)) (pe_lst pa_nil))))
                (pss_one (ps_set (i := 3) sc_law.nd rfl (Or.inl rfl) (pe_callTy call_tuple_of (by rfl) T.n_tuple (by decide +kernel) (pa_cons (pe_op op_cat (pe_lst (pa_cons (pv 4) (pa_cons (pe_tup (pa_cons (pe_cal C_pick (hr.mono (by decide)) (pa_cons (pv 1) (pa_cons (pe_lst (pa_cons pe_str (pa_cons pe_str pa_nil))) pa_nil))) (pa_cons (pe_ix ix_tup (pe_ix ix_tup (pv 3) pe_int (fun _ _ => rfl)) pe_int (fun _ _ => rfl)) pa_nil))) pa_nil))) (pv 5)) pa_nil)))))))))
        (pss_cons (ps_set (i := 2) sc_law.nd rfl (Or.inl rfl) (pe_op op_cat (pv 2) (pe_lst (pa_cons (pv 3) pa_nil))))
        (pss_cons (ps_setLc (i := 6) (own := [("_law_one", 11)]) (g := gName 11) (tt := tYes) rfl sc_law.nd rfl rfl (sw_true rfl rfl rfl (by decide +kernel)) (pi_list (pv 2)) (blkOk_by (own := [("_law_one", 11)]) (N := ["_law_script", "_law_bag_here", "_law_plain", "_law_twin", "_law_word_here", "_law_age", "_law_made_here", "_law_k", "_law_thing", "_law_n", "_law_other", "_law_one"]) (sc := defScope s_law) (by decide +kernel)) (fun _ _ _ _ _ => pg_name (i := 11) sc_law.nd rfl (Or.inl rfl)) (fun _ _ _ _ _ => pts_nil) (fun _ _ _ _ _ => (pe_cal C_taker (hr.mono (by decide)) (pa_cons (pv 11) pa_nil))))
        (pss_cons (ps_for PassesOwn.never rfl (pi_enum (by rfl) T.n_enumerate (pa_cons (pv 6) pa_nil)) (pg_tup rfl (pgs_cons (pg_name (i := 7) sc_law.nd rfl (Or.inl rfl)) (pgs_cons (pg_name (i := 8) sc_law.nd rfl (Or.inl rfl)) pgs_nil)))
          (pss_cons (ps_if (PW.pt (pw_or (pt_not (pt_val (pe_cal C_fields (hr.mono (by decide)) (pa_cons (pv 8) (pa_cons (pe_ix ix_list (pv 2) (pv 7) (fun _ _ => rfl)) pa_nil))))) (pw_or1 (pt_cmpR (op_ownNeU C_Taker_nes (hr.mono (by decide))) (pv 8) (pe_cal C_taker (hr.mono (by decide)) (pa_cons (pe_ix ix_list (pv 2) (pv 7) (fun _ _ => rfl)) pa_nil)) (nomark _)))))
              (pss_one (ps_ret pe_bl)) pss_nil)
            (pss_cons (ps_for PassesOwn.never rfl (pi_enum (by rfl) T.n_enumerate (pa_cons (pv 6) pa_nil)) (pg_tup rfl (pgs_cons (pg_name (i := 9) sc_law.nd rfl (Or.inl rfl)) (pgs_cons (pg_name (i := 10) sc_law.nd rfl (Or.inl rfl)) pgs_nil)))
              (pss_one (ps_if (pt_cmpR op_ne (pe_cmpR (op_ownU C_Taker_eqs (hr.mono (by decide))) (pv 8) (pv 10) (nomark _)) (pe_cmpR (op_eqD hr.units) (pe_ix ix_list (pv 2) (pv 7) (fun _ _ => rfl)) (pe_ix ix_list (pv 2) (pv 9) (fun _ _ => rfl)) (nomark _)) (nomark _))
                  (pss_one (ps_ret pe_bl)) pss_nil)))
            (pss_cons (ps_if (PW.pt (pw_or (pt_cmpR (op_ownU C_Taker_eqs (hr.mono (by decide))) (pv 8) (pe_cal C_text (hr.mono (by decide)) (pa_cons (pe_ix ix_list (pv 2) (pv 7) (fun _ _ => rfl)) pa_nil)) (nomark _)) (pw_or (pt_cmpR (op_ownU C_Taker_eqs (hr.mono (by decide))) (pv 8) (pe_ix ix_list (pv 2) (pv 7) (fun _ _ => rfl)) (nomark _)) (pw_or1 (pt_cmpR (op_ownU C_Taker_eqs (hr.mono (by decide))) (pv 8) pe_str (nomark _))))))
              (pss_one (ps_ret pe_bl)) pss_nil)
            (pss_one (ps_if (pt_not (pt_val (pe_cal C_refused (hr.mono (by decide)) (pa_cons (pv 1) (pa_cons (pe_ix ix_list (pv 2) (pv 7) (fun _ _ => rfl)) pa_nil)))))
              (pss_one (ps_ret pe_bl)) pss_nil))))))
        (pss_one (ps_ret (pe_cal C_conditions (hr.mono (by decide)) (pa_cons (pv 1) (pa_cons (pe_cal C_word (hr.mono (by decide)) (pa_cons (pv 1) pa_nil)) pa_nil)))))))))))), ?_⟩
    have z3 : ∀ n : Nat, n ≤ 10 → n ≤ sizeLine := fun n h => by rw [sizeLine_eq]; omega
    refine ⟨_, rfl, a, ns, 0, rfl, hS, hl, by decide, fun b H1 nb B1 S1 => ?_⟩
    refine ⟨4, rfl, by decide, by decide, fun D nD => lc_range (fun i H' => D ≠ b ∧ BgAt H' b ∧ ∃ us xs, H' D = some (.lst us) ∧ Paired (PlV H') us xs ∧ us.length = i) ⟨B1.ne nD, B1.same (sNew nD), [], [], upd_same, .nil, rfl⟩ ?_ ?_⟩
    · rintro i H2 hi ⟨nDb, B2, us, xs, hD, hp, lu⟩
      refine ⟨rfl, _, rfl, b, rfl, B2, fun v x H3 P3 O3 B3 D3 => ?_⟩
      have hD3 := lst_bb hD nDb D3
      refine ⟨us, hD3, (by rw [sizeLine_eq]; omega), nDb, B3.upd nDb, us ++ [v], xs ++ [x], upd_same, ?_, by rw [List.length_append, lu]; rfl⟩
      refine Paired.appendP (L2.Paired.mapP hp fun v y z => PlV.updL (PlV.bb z B2 D3) hD3) (.cons (PlV.updL ⟨P3, O3⟩ hD3) .nil)
    rintro H3 ⟨nDb, B3, us, xs, hD, hpD, lu⟩
    have hx0 : ∃ v0 x0, us[0]? = some v0 ∧ xs[0]? = some x0 ∧ PlV H3 v0 x0 := by
      obtain ⟨v0, h0⟩ : ∃ v0, us[0]? = some v0 := ⟨us[0], List.getElem?_eq_getElem (by omega)⟩
      obtain ⟨x0, h1, h2⟩ := Paired.at hpD h0
      exact ⟨v0, x0, h0, h1, h2⟩
    obtain ⟨v0, x0, hu0, _, P0⟩ := hx0
    refine ⟨_, rfl, D, _, _, _, rfl, rfl, SqL.of hD, atI_nat (j := 0) hu0, ?_⟩
    refine ⟨fun σ' H' => ∃ tv x, PlV H' tv x ∧ H' D = some (.lst us) ∧ Paired (PlV H') us xs ∧ BgAt H' b ∧ ∃ v4 v5 : Option V, σ' = [some (.ref a), some (.ref b), some (.ref D), some tv, v4, v5, none, none, none, none, none, none], ?_, ?_⟩
    · clear k hu0 S1 B1 nD
      obtain ⟨⟨t, q, rfl, ht, hq⟩, ho⟩ := P0
      cases x0 with
      | nm m s1 =>
      refine ⟨_, rfl, t, _, rfl, .inr (SqT.of ht), rfl, _, rfl, iteF ?_⟩
      refine ⟨_, rfl, t, _, _, _, rfl, rfl, SqT.of ht, atI_nat (j := 0) rfl, z3 2 (by decide), fun u nu => ?_⟩
      have Su := sNew (o := .tup [.str "named", .str "mate"]) nu
      refine ⟨u, _, rfl, .inr (SqT.of upd_same), rfl, rfl, _, rfl, ?_⟩
      rw [show inV (V.str (tw (Tk.nm m s1).tc)) [V.str (Str.ofString "named"), V.str (Str.ofString "mate")] = true by cases m <;> rfl]
      refine iteT ?_
      have B3 := B3.same Su
      have ht := Su _ _ ht
      have hD := Su _ _ hD
      have hpD := L2.Paired.mapP hpD fun v y z => PlV.same z Su
      generalize upd H3 u (.tup [.str "named", .str "mate"]) = H3c at B3 ht hD hpD  ⊢
      clear Su
      have hs : isN (.str s1) = true := ho.nm
      refine ⟨_, rfl, z3 2 (by decide), fun c2 nc2 => ?_⟩
      have SX := sNew (o := .lst [.str "named", .str "mate"]) nc2
      refine ⟨b, c2, _, rfl, B3.same SX, upd_same, B3.ne nc2, by decide, by decide, fun j2 gv H6 hg B6 D6 => ?_⟩
      obtain ⟨m2, rfl⟩ : ∃ m2, gv = .str (tw (Tk.nm m2 s1).tc) := by
        have := List.mem_of_getElem? hg
        simp only [List.mem_cons, List.not_mem_nil, or_false] at this
        rcases this with rfl | rfl
        · exact ⟨false, rfl⟩
        · exact ⟨true, rfl⟩
      have D36 : But b H3c H6 := fun y o e z => D6 _ _ (SX _ _ e) z
      refine ⟨_, rfl, t, _, _, _, rfl, rfl, SqT.of (tup_bb ht B3 D36), atI_nat (j := 1) rfl, z3 2 (by decide), fun t7 nt7 => ?_⟩
      have S7 := sNew (o := .tup [.str (tw (Tk.nm m2 s1).tc), .str s1]) nt7
      exact ⟨.ref t7, .nm m2 s1, ⟨⟨t7, 0, rfl, upd_same, fun g z => by cases z⟩, hs, Int.le_refl 0, (by show (0 : Int) ≤ 1000000; decide)⟩, S7 _ _ (lst_bb hD nDb D36), L2.Paired.mapP hpD fun v y z => (z.bb B3 D36).same S7, B6.same S7, _, _, rfl⟩
      | kn cc g1 s1 =>
      have hs : isN (.str s1) = true := ho.nm
      have hq : H3 q = some (.tup [.str (kw g1), .str s1]) := hq g1 rfl
      refine ⟨_, rfl, t, _, rfl, .inr (SqT.of ht), rfl, _, rfl, iteF ?_⟩
      refine ⟨_, rfl, t, _, _, _, rfl, rfl, SqT.of ht, atI_nat (j := 0) rfl, z3 2 (by decide), fun u nu => ?_⟩
      have Su := sNew (o := .tup [.str "named", .str "mate"]) nu
      refine ⟨u, _, rfl, .inr (SqT.of upd_same), rfl, rfl, _, rfl, ?_⟩
      rw [show inV (V.str (tw (Tk.kn cc g1 s1).tc)) [V.str (Str.ofString "named"), V.str (Str.ofString "mate")] = false by cases cc <;> rfl]
      refine iteF ?_
      have B3 := B3.same Su
      have ht := Su _ _ ht
      have hD := Su _ _ hD
      have hpD := L2.Paired.mapP hpD fun v y z => PlV.same z Su
      have hq := Su _ _ hq
      generalize upd H3 u (.tup [.str "named", .str "mate"]) = H3c at B3 ht hD hpD hq ⊢
      clear Su
      refine ⟨_, rfl, z3 5 (by decide), fun w1 nw1 => ?_⟩
      have SW := sNew (o := .lst [.str "told", .str "whole", .str "living", .str "reaching", .str "firstreaching"]) nw1
      refine ⟨b, w1, _, rfl, B3.same SW, upd_same, B3.ne nw1, (by show 1 ≤ 5; decide), (by show 5 ≤ 900; decide), fun j wv H4 hw B4 D4 => ?_⟩
      have D34 : But b H3c H4 := fun y o e z => D4 _ _ (SW _ _ e) z
      have hD4 := lst_bb hD nDb D34
      have hp4 := L2.Paired.mapP hpD fun v y z => PlV.bb z B3 D34
      have ht4 := tup_bb ht B3 D34
      have hq4 := tup_bb hq B3 D34
      clear SW D4
      obtain ⟨c, rfl, hc⟩ : ∃ c : Tc, wv = .str (tw c) ∧ c ≠ .named ∧ c ≠ .mate := by
        have hm := List.mem_of_getElem? hw
        simp only [List.mem_cons, List.not_mem_nil, or_false] at hm
        rcases hm with rfl | rfl | rfl | rfl | rfl
        · exact ⟨.told, rfl, by decide, by decide⟩
        · exact ⟨.whole, rfl, by decide, by decide⟩
        · exact ⟨.living, rfl, by decide, by decide⟩
        · exact ⟨.reaching, rfl, by decide, by decide⟩
        · exact ⟨.first, rfl, by decide, by decide⟩
      clear hw
      refine ⟨AgR b c H4, ?_, fun v H5 ⟨S5, A, L, e1, Ab, hA, hL⟩ => ?_⟩
      · refine ⟨_, rfl, z3 2 (by decide), fun w2 nw2 => ?_⟩
        have SV := sNew (o := .tup [.str "reaching", .str "firstreaching"]) nw2
        refine ⟨w2, _, rfl, .inr (SqT.of upd_same), rfl, rfl, _, rfl, ?_⟩
        have BV := B4.same SV
        generalize upd H4 w2 (.tup [.str "reaching", .str "firstreaching"]) = HV at SV BV ⊢
        have emp : ∀ A, HV A = none → (∃ k3, c = (Tk.kn k3 false Str.empty).tc) → AgR b c H4 (.ref A) (upd HV A (.lst [])) :=
          fun A nA hc => ⟨fun y o e => sNew nA _ _ (SV _ _ e), A, [], rfl, BV.ne nA, upd_same, .inl ⟨hc, rfl⟩⟩
        have one : ∀ A (i : Int), HV A = none → 0 ≤ i → i ≤ 1000000 → (∃ f, c = (Tk.ag f false Str.empty 0).tc) → AgR b c H4 (.ref A) (upd HV A (.lst [.int i])) :=
          fun A i nA i0 i1 hc => ⟨fun y o e => sNew nA _ _ (SV _ _ e), A, [.int i], rfl, BV.ne nA, upd_same, .inr ⟨hc, i, rfl, i0, i1⟩⟩
        cases c with
        | named => exact absurd rfl hc.1
        | mate => exact absurd rfl hc.2
        | told => exact iteF ⟨z3 0 (by decide), fun A nA => emp A nA ⟨.told, rfl⟩⟩
        | whole => exact iteF ⟨z3 0 (by decide), fun A nA => emp A nA ⟨.whole, rfl⟩⟩
        | living => exact iteF ⟨z3 0 (by decide), fun A nA => emp A nA ⟨.living, rfl⟩⟩
        | reaching =>
          refine iteT ⟨fun v H' => H' = HV ∧ v = .int 18, ⟨_, rfl, t, _, rfl, .inr (SqT.of (SV _ _ ht4)), rfl, _, rfl, iteF ⟨rfl, rfl⟩⟩, fun v H' ⟨e1, e2⟩ => ?_⟩
          subst e1 e2
          exact ⟨z3 1 (by decide), fun A nA => one A _ nA (by decide) (by decide) ⟨false, rfl⟩⟩
        | first =>
          refine iteT ⟨fun v H' => H' = HV ∧ v = .int 18, ⟨_, rfl, t, _, rfl, .inr (SqT.of (SV _ _ ht4)), rfl, _, rfl, iteF ⟨rfl, rfl⟩⟩, fun v H' ⟨e1, e2⟩ => ?_⟩
          subst e1 e2
          exact ⟨z3 1 (by decide), fun A nA => one A _ nA (by decide) (by decide) ⟨true, rfl⟩⟩
      subst e1
      have B5 := B4.same S5
      refine ⟨_, rfl, _, rfl, z3 2 (by decide), fun c2 nc2 => ?_⟩
      have SX := sNew (o := .lst [.str "children", .str "grandchildren"]) nc2
      refine ⟨b, c2, _, rfl, B5.same SX, upd_same, B5.ne nc2, by decide, by decide, fun j2 gv H6 hg B6 D6 => ?_⟩
      obtain ⟨g2, rfl⟩ : ∃ gg, gv = .str (kw gg) := by
        have := List.mem_of_getElem? hg
        simp only [List.mem_cons, List.not_mem_nil, or_false] at this
        rcases this with rfl | rfl
        · exact ⟨false, rfl⟩
        · exact ⟨true, rfl⟩
      have D46 : But b H4 H6 := fun y o e z => D6 _ _ (SX _ _ (S5 _ _ e)) z
      have hA6 : H6 A = some (.lst L) := D6 _ _ (SX _ _ hA) Ab
      have hD6 := lst_bb hD4 nDb D46
      have hp6 := L2.Paired.mapP hp4 fun v y z => PlV.bb z B4 D46
      have ht6 := tup_bb ht4 B4 D46
      have hq6 := tup_bb hq4 B4 D46
      refine ⟨_, rfl, t, _, _, _, rfl, rfl, SqT.of ht6, atI_nat (j := 1) rfl, q, _, _, _, rfl, rfl, SqT.of hq6, atI_nat (j := 1) rfl, z3 2 (by decide), fun kk nk => ⟨z3 2 (by decide), fun l nl => ?_⟩⟩
      have SK := sNew (o := .tup [.str (kw g2), .str s1]) nk
      have SL := sNew (o := .lst [.str (tw c), .ref kk]) nl
      refine ⟨_, rfl, l, A, _, _, rfl, rfl, upd_same, SL _ _ (SK _ _ hA6), ?_, fun m nm => ?_⟩
      · rcases hL with ⟨_, rfl⟩ | ⟨_, i, rfl, _⟩
        · exact z3 2 (by decide)
        · exact z3 3 (by decide)
      have SM := sNew (o := .lst ([.str (tw c), .ref kk] ++ L)) nm
      refine ⟨m, _, rfl, .inl ⟨SqL.of upd_same, fun t7 nt7 => ?_⟩⟩
      have ST := sNew (o := .tup ([.str (tw c), .ref kk] ++ L)) nt7
      have S67 : Same H6 _ := fun y o e => ST _ _ (SM _ _ (SL _ _ (SK _ _ e)))
      have hk7 := ST _ _ (SM _ _ (SL _ _ (upd_same : (upd H6 kk (.tup [.str (kw g2), .str s1])) kk = _)))
      rcases hL with ⟨⟨k3, rfl⟩, rfl⟩ | ⟨⟨f3, rfl⟩, i, rfl, i0, i1⟩
      · refine ⟨.ref t7, .kn k3 g2 s1, ⟨⟨t7, kk, rfl, ?_, fun g z => ?_⟩, hs, Int.le_refl 0, (by show (0 : Int) ≤ 1000000; decide)⟩, S67 _ _ hD6, L2.Paired.mapP hp6 fun v y z => z.same S67, B6.same S67, _, _, rfl⟩
        · rw [upd_same, ← tc_kn k3 g2 s1]
          rfl
        · cases z
          exact hk7
      · refine ⟨.ref t7, .ag f3 g2 s1 i, ⟨⟨t7, kk, rfl, ?_, fun g z => ?_⟩, hs, i0, i1⟩, S67 _ _ hD6, L2.Paired.mapP hp6 fun v y z => z.same S67, B6.same S67, _, _, rfl⟩
        · rw [upd_same, ← tc_ag f3 g2 s1 i]
          rfl
        · cases z
          exact hk7
      | ag ff g1 s1 a1 =>
      have hs : isN (.str s1) = true := ho.nm
      have hq : H3 q = some (.tup [.str (kw g1), .str s1]) := hq g1 rfl
      refine ⟨_, rfl, t, _, rfl, .inr (SqT.of ht), rfl, _, rfl, iteT ?_⟩
      refine ⟨_, rfl, b, 2, rfl, B3, by decide, by decide, fun q' H4a q0 q1 B4a D4a => ⟨rfl, _, rfl, ite2 (fun _ => ?_) (fun _ => ?_)⟩⟩
      all_goals have ht := tup_bb ht B3 D4a
      all_goals have hq := tup_bb hq B3 D4a
      all_goals have hD := lst_bb hD nDb D4a
      all_goals have hpD := L2.Paired.mapP hpD fun v y z => PlV.bb z B3 D4a
      · refine ⟨_, rfl, t, _, _, _, rfl, rfl, SqT.of ht, atI_nat (j := 0) rfl, _, rfl, t, _, _, _, rfl, rfl, SqT.of ht, atI_nat (j := 1) rfl, _, rfl, t, _, _, _, rfl, rfl, SqT.of ht, atI_nat (j := 2) rfl, _, _, rfl, rfl, _, _, rfl, rfl, ⟨by decide, by decide, by decide⟩, _, _, rfl, rfl, _, _, rfl, rfl, (by show (0 : Int) < 10 ^ (6 : Int).toNat + 1; decide), z3 3 (by decide), fun t7 nt7 => ?_⟩
        have S7 := sNew (o := .tup [.str (tw (Tk.ag ff g1 s1 a1).tc), .ref q, .int ((a1 + 1) % (10 ^ (6 : Int).toNat + 1))]) nt7
        have h6 : (10 : Int) ^ (6 : Int).toNat + 1 = 1000001 := by decide
        have p0 : 0 ≤ (a1 + 1) % (10 ^ (6 : Int).toNat + 1) := by rw [h6]; exact Int.emod_nonneg _ (by decide)
        have p1 : (a1 + 1) % (10 ^ (6 : Int).toNat + 1) ≤ 1000000 := by rw [h6]; have := Int.emod_lt_of_pos (a1 + 1) (show (0 : Int) < 1000001 by decide); omega
        refine ⟨.ref t7, .ag ff g1 s1 ((a1 + 1) % (10 ^ (6 : Int).toNat + 1)), ⟨⟨t7, q, rfl, ?_, fun g z => ?_⟩, hs, p0, p1⟩, S7 _ _ hD, L2.Paired.mapP hpD fun v y z => z.same S7, B4a.same S7, _, _, rfl⟩
        · rw [upd_same, tc_ag ff g1 s1 a1, ← tc_ag ff g1 s1 ((a1 + 1) % (10 ^ (6 : Int).toNat + 1))]
          rfl
        · cases z
          exact S7 _ _ hq
      · skip
        refine ⟨_, rfl, t, _, _, _, rfl, rfl, SqT.of ht, atI_nat (j := 0) rfl, z3 2 (by decide), fun u nu => ?_⟩
        have Su := sNew (o := .tup [.str "named", .str "mate"]) nu
        refine ⟨u, _, rfl, .inr (SqT.of upd_same), rfl, rfl, _, rfl, ?_⟩
        rw [show inV (V.str (tw (Tk.ag ff g1 s1 a1).tc)) [V.str (Str.ofString "named"), V.str (Str.ofString "mate")] = false by cases ff <;> rfl]
        refine iteF ?_
        have B3 := B4a.same Su
        have ht := Su _ _ ht
        have hD := Su _ _ hD
        have hpD := L2.Paired.mapP hpD fun v y z => PlV.same z Su
        have hq := Su _ _ hq
        generalize upd H4a u (.tup [.str "named", .str "mate"]) = H3c at B3 ht hD hpD hq ⊢
        clear Su
        refine ⟨_, rfl, z3 5 (by decide), fun w1 nw1 => ?_⟩
        have SW := sNew (o := .lst [.str "told", .str "whole", .str "living", .str "reaching", .str "firstreaching"]) nw1
        refine ⟨b, w1, _, rfl, B3.same SW, upd_same, B3.ne nw1, (by show 1 ≤ 5; decide), (by show 5 ≤ 900; decide), fun j wv H4 hw B4 D4 => ?_⟩
        have D34 : But b H3c H4 := fun y o e z => D4 _ _ (SW _ _ e) z
        have hD4 := lst_bb hD nDb D34
        have hp4 := L2.Paired.mapP hpD fun v y z => PlV.bb z B3 D34
        have ht4 := tup_bb ht B3 D34
        have hq4 := tup_bb hq B3 D34
        clear SW D4
        obtain ⟨c, rfl, hc⟩ : ∃ c : Tc, wv = .str (tw c) ∧ c ≠ .named ∧ c ≠ .mate := by
          have hm := List.mem_of_getElem? hw
          simp only [List.mem_cons, List.not_mem_nil, or_false] at hm
          rcases hm with rfl | rfl | rfl | rfl | rfl
          · exact ⟨.told, rfl, by decide, by decide⟩
          · exact ⟨.whole, rfl, by decide, by decide⟩
          · exact ⟨.living, rfl, by decide, by decide⟩
          · exact ⟨.reaching, rfl, by decide, by decide⟩
          · exact ⟨.first, rfl, by decide, by decide⟩
        clear hw
        refine ⟨AgR b c H4, ?_, fun v H5 ⟨S5, A, L, e1, Ab, hA, hL⟩ => ?_⟩
        · refine ⟨_, rfl, z3 2 (by decide), fun w2 nw2 => ?_⟩
          have SV := sNew (o := .tup [.str "reaching", .str "firstreaching"]) nw2
          refine ⟨w2, _, rfl, .inr (SqT.of upd_same), rfl, rfl, _, rfl, ?_⟩
          have BV := B4.same SV
          generalize upd H4 w2 (.tup [.str "reaching", .str "firstreaching"]) = HV at SV BV ⊢
          have emp : ∀ A, HV A = none → (∃ k3, c = (Tk.kn k3 false Str.empty).tc) → AgR b c H4 (.ref A) (upd HV A (.lst [])) :=
            fun A nA hc => ⟨fun y o e => sNew nA _ _ (SV _ _ e), A, [], rfl, BV.ne nA, upd_same, .inl ⟨hc, rfl⟩⟩
          have one : ∀ A (i : Int), HV A = none → 0 ≤ i → i ≤ 1000000 → (∃ f, c = (Tk.ag f false Str.empty 0).tc) → AgR b c H4 (.ref A) (upd HV A (.lst [.int i])) :=
            fun A i nA i0 i1 hc => ⟨fun y o e => sNew nA _ _ (SV _ _ e), A, [.int i], rfl, BV.ne nA, upd_same, .inr ⟨hc, i, rfl, i0, i1⟩⟩
          cases c with
          | named => exact absurd rfl hc.1
          | mate => exact absurd rfl hc.2
          | told => exact iteF ⟨z3 0 (by decide), fun A nA => emp A nA ⟨.told, rfl⟩⟩
          | whole => exact iteF ⟨z3 0 (by decide), fun A nA => emp A nA ⟨.whole, rfl⟩⟩
          | living => exact iteF ⟨z3 0 (by decide), fun A nA => emp A nA ⟨.living, rfl⟩⟩
          | reaching =>
            refine iteT ⟨fun v H' => H' = HV ∧ v = .int a1, ⟨_, rfl, t, _, rfl, .inr (SqT.of (SV _ _ ht4)), rfl, _, rfl, iteT ⟨_, rfl, t, _, _, _, rfl, rfl, SqT.of (SV _ _ ht4), atI_nat (j := 2) rfl, rfl, rfl⟩⟩, fun v H' ⟨e1, e2⟩ => ?_⟩
            subst e1 e2
            exact ⟨z3 1 (by decide), fun A nA => one A _ nA ho.lo ho.hi ⟨false, rfl⟩⟩
          | first =>
            refine iteT ⟨fun v H' => H' = HV ∧ v = .int a1, ⟨_, rfl, t, _, rfl, .inr (SqT.of (SV _ _ ht4)), rfl, _, rfl, iteT ⟨_, rfl, t, _, _, _, rfl, rfl, SqT.of (SV _ _ ht4), atI_nat (j := 2) rfl, rfl, rfl⟩⟩, fun v H' ⟨e1, e2⟩ => ?_⟩
            subst e1 e2
            exact ⟨z3 1 (by decide), fun A nA => one A _ nA ho.lo ho.hi ⟨true, rfl⟩⟩
        subst e1
        have B5 := B4.same S5
        refine ⟨_, rfl, _, rfl, z3 2 (by decide), fun c2 nc2 => ?_⟩
        have SX := sNew (o := .lst [.str "children", .str "grandchildren"]) nc2
        refine ⟨b, c2, _, rfl, B5.same SX, upd_same, B5.ne nc2, by decide, by decide, fun j2 gv H6 hg B6 D6 => ?_⟩
        obtain ⟨g2, rfl⟩ : ∃ gg, gv = .str (kw gg) := by
          have := List.mem_of_getElem? hg
          simp only [List.mem_cons, List.not_mem_nil, or_false] at this
          rcases this with rfl | rfl
          · exact ⟨false, rfl⟩
          · exact ⟨true, rfl⟩
        have D46 : But b H4 H6 := fun y o e z => D6 _ _ (SX _ _ (S5 _ _ e)) z
        have hA6 : H6 A = some (.lst L) := D6 _ _ (SX _ _ hA) Ab
        have hD6 := lst_bb hD4 nDb D46
        have hp6 := L2.Paired.mapP hp4 fun v y z => PlV.bb z B4 D46
        have ht6 := tup_bb ht4 B4 D46
        have hq6 := tup_bb hq4 B4 D46
        refine ⟨_, rfl, t, _, _, _, rfl, rfl, SqT.of ht6, atI_nat (j := 1) rfl, q, _, _, _, rfl, rfl, SqT.of hq6, atI_nat (j := 1) rfl, z3 2 (by decide), fun kk nk => ⟨z3 2 (by decide), fun l nl => ?_⟩⟩
        have SK := sNew (o := .tup [.str (kw g2), .str s1]) nk
        have SL := sNew (o := .lst [.str (tw c), .ref kk]) nl
        refine ⟨_, rfl, l, A, _, _, rfl, rfl, upd_same, SL _ _ (SK _ _ hA6), ?_, fun m nm => ?_⟩
        · rcases hL with ⟨_, rfl⟩ | ⟨_, i, rfl, _⟩
          · exact z3 2 (by decide)
          · exact z3 3 (by decide)
        have SM := sNew (o := .lst ([.str (tw c), .ref kk] ++ L)) nm
        refine ⟨m, _, rfl, .inl ⟨SqL.of upd_same, fun t7 nt7 => ?_⟩⟩
        have ST := sNew (o := .tup ([.str (tw c), .ref kk] ++ L)) nt7
        have S67 : Same H6 _ := fun y o e => ST _ _ (SM _ _ (SL _ _ (SK _ _ e)))
        have hk7 := ST _ _ (SM _ _ (SL _ _ (upd_same : (upd H6 kk (.tup [.str (kw g2), .str s1])) kk = _)))
        rcases hL with ⟨⟨k3, rfl⟩, rfl⟩ | ⟨⟨f3, rfl⟩, i, rfl, i0, i1⟩
        · refine ⟨.ref t7, .kn k3 g2 s1, ⟨⟨t7, kk, rfl, ?_, fun g z => ?_⟩, hs, Int.le_refl 0, (by show (0 : Int) ≤ 1000000; decide)⟩, S67 _ _ hD6, L2.Paired.mapP hp6 fun v y z => z.same S67, B6.same S67, _, _, rfl⟩
          · rw [upd_same, ← tc_kn k3 g2 s1]
            rfl
          · cases z
            exact hk7
        · refine ⟨.ref t7, .ag f3 g2 s1 i, ⟨⟨t7, kk, rfl, ?_, fun g z => ?_⟩, hs, i0, i1⟩, S67 _ _ hD6, L2.Paired.mapP hp6 fun v y z => z.same S67, B6.same S67, _, _, rfl⟩
          · rw [upd_same, ← tc_ag f3 g2 s1 i]
            rfl
          · cases z
            exact hk7
    rintro σ' H4 ⟨tv, x4, P4, hD4, hp4, B4, v4, v5, rfl⟩
    clear hu0 P0 hpD hD B3 S1 B1
    refine ⟨_, rfl, _, rfl, z3 1 (by decide), fun o no => ?_⟩
    have SO := sNew (o := .lst [tv]) no
    refine ⟨D, o, us, [tv], rfl, rfl, SO _ _ hD4, upd_same, (by rw [lu]; exact z3 5 (by decide)), fun P nP => ?_⟩
    have SP := sNew (o := .lst (us ++ [tv])) nP
    have nPb : P ≠ b := (B4.same SO).ne nP
    have BP := (B4.same SO).same SP
    have hP : (upd (upd H4 o (.lst [tv])) P (.lst (us ++ [tv]))) P = some (.lst (us ++ [tv])) := upd_same
    have hw : Paired (PlV (upd (upd H4 o (.lst [tv])) P (.lst (us ++ [tv])))) (us ++ [tv]) (xs ++ [x4]) := Paired.appendP (L2.Paired.mapP hp4 fun v y z => (z.same SO).same SP) (.cons ((P4.same SO).same SP) .nil)
    have lw : (us ++ [tv]).length = 5 := by rw [List.length_append, lu]; rfl
    generalize us ++ [tv] = ws at hP hw lw BP ⊢
    generalize xs ++ [x4] = ys at hw
    generalize upd (upd H4 o (.lst [tv])) P (.lst ws) = HP at hP hw BP ⊢
    clear SO SP no nP hD4 hp4 P4 B4
    refine ⟨_, rfl, P, rfl, ⟨_, SqL.of hP⟩, fun M nM => lc_list (K := K) (a := P) (xs := ws) (fun i H' => Same HP H' ∧ ∃ ms, H' M = some (.lst ms) ∧ Paired (TkV cl H') ms (ys.take i) ∧ ms.length = i) ⟨sNew nM, [], upd_same, .nil, rfl⟩ (fun i H' _ q => SqL.of (q.1 _ _ hP)) ?_ ?_⟩
    · rintro i v H2 hv ⟨S2, ms, hM, hm, lm⟩
      obtain ⟨y, hy, Py⟩ := Paired.at hw hv
      have hi : i < ws.length := (List.getElem?_eq_some_iff.mp hv).1
      refine ⟨rfl, _, rfl, v, y, rfl, Py.1.same S2, Py.2, fun p H3 np S3 T3 => ?_⟩
      have hM3 := S3 _ _ hM
      refine ⟨ms, hM3, (by rw [sizeLine_eq]; omega), fun q u e => by rw [upd_ne (ne_of_none e nM)]; exact S3 _ _ (S2 _ _ e), ms ++ [.ref p], upd_same, ?_, by rw [List.length_append, lm]; rfl⟩
      rw [take_snoc hy]
      exact Paired.appendP (L2.Paired.mapP hm fun v y z => (z.same S3).updL hM3) (.cons (TkV.updL ⟨p, rfl, T3⟩ hM3) .nil)
    rintro H5 ⟨S5, ms, hM, hm, lm⟩
    have nMb : M ≠ b := BP.ne nM
    have hP5 := S5 _ _ hP
    have hw5 := L2.Paired.mapP hw fun v y z => PlV.same z S5
    have B5 := BP.same S5
    rw [List.take_of_length_le (by have := hw.length; omega)] at hm
    clear hP hw BP S5 nM
    have pl : ∀ {H' : Hp}, But b H5 H' → ∀ {j : Nat} {v : V} {y : Tk}, ws[j]? = some v → ys[j]? = some y → PlV H' v y := fun {H'} d {j v y} h1 h2 => by
      obtain ⟨y', h3, h4⟩ := Paired.at hw5 h1
      rw [h2] at h3
      cases h3
      exact h4.bb B5 d
    have tk : ∀ {H' : Hp}, But b H5 H' → ∀ {j : Nat} {v : V}, ms[j]? = some v → ∃ p x w', v = .ref p ∧ ys[j]? = some x ∧ ws[j]? = some w' ∧ TkAt cl H' p x := fun {H'} d {j v} h1 => by
      obtain ⟨x, h3, h4⟩ := Paired.at hm h1
      obtain ⟨w', h5, _⟩ := Paired.at' hw5 h3
      obtain ⟨p, rfl, h6⟩ := h4.bb B5 d
      exact ⟨p, x, w', rfl, h3, h5, h6⟩
    have atP : ∀ {H' : Hp}, But b H5 H' → H' P = some (.lst ws) := fun d => lst_bb hP5 nPb d
    have atM : ∀ {H' : Hp}, But b H5 H' → H' M = some (.lst ms) := fun d => lst_bb hM nMb d
    have pbS : ∀ {H1 H2 : Hp}, But b H5 H1 → Same H1 H2 → But b H5 H2 := fun d S q u e z => S _ _ (d _ _ e z)
    refine ⟨_, rfl, M, ms, rfl, SqL.of hM, for_it walk_enum (fun i σ H' => But b H5 H' ∧ BgAt H' b ∧ ∃ (v7 v8 v9 v10 : Option V), σ = [some (.ref a), some (.ref b), some (.ref P), some tv, v4, v5, some (.ref M), v7, v8, v9, v10, none]) ⟨fun _ _ e _ => e, B5, _, _, _, _, rfl⟩ (fun i σ H' _ q => SqL.of (atM q.1)) ?_ ?_⟩
    · rintro i xv σ H6 H7 hi ⟨D6, B6, v7, v8, v9, v10, rfl⟩ ⟨t, x1, x2, rfl, nt, rfl, h1, h2⟩
      cases h1
      have S7 := sNew (o := .tup [.int (i : Nat), x2]) nt
      have D7 := pbS D6 S7
      have B7 := B6.same S7
      obtain ⟨p, x, wv, rfl, hx, hwv, T7⟩ := tk D7 h2
      refine ⟨t, _, rfl, SqT.of upd_same, rfl, _, _, rfl, _, _, rfl, rfl, ?_⟩
      generalize upd H6 t (.tup [.int (i : Nat), .ref p]) = H7 at S7 D7 B7 T7 ⊢
      clear S7 D6 B6 nt
      have P7 := pl D7 hwv hx
      refine ⟨_, rfl, _, rfl, _, rfl, P, _, _, _, rfl, rfl, SqL.of (atP D7), atI_nat (j := i) hwv, p, wv, x, rfl, T7, P7.1, P7.2, fun H8 S8 => ⟨_, rfl, iteF ?_⟩⟩
      have D8 := pbS D7 S8
      have B8 := B7.same S8
      refine ⟨_, rfl, _, rfl, _, rfl, P, _, _, _, rfl, rfl, SqL.of (atP D8), atI_nat (j := i) hwv, wv, x, rfl, P7.1.same S8, P7.2, fun p9 H9 np9 S9 T9 => ?_⟩
      have D9 := pbS D8 S9
      have B9 := B8.same S9
      have T9' := (T7.same S8).same S9
      refine rTkNe T (o := some x) T9' ⟨p9, rfl, T9⟩ ?_
      rw [decide_eq_true (rfl : some x = some x)]
      refine ⟨_, rfl, iteF ?_⟩
      clear T7 T9 S8 S9 D7 D8 B7 B8 np9 P7
      refine ⟨_, rfl, M, ms, rfl, SqL.of (atM D9), for_it walk_enum (fun n σ H' => But b H5 H' ∧ BgAt H' b ∧ ∃ (v9 v10 : Option V), σ = [some (.ref a), some (.ref b), some (.ref P), some tv, v4, v5, some (.ref M), some (.int (i : Nat)), some (.ref p), v9, v10, none]) ⟨D9, B9, _, _, rfl⟩ (fun n σ H' _ q => SqL.of (atM q.1)) ?_ ?_⟩
      · rintro n xv σ H10 H11 hn ⟨D10, B10, v9, v10, rfl⟩ ⟨t, x1, x2, rfl, nt, rfl, h1, h3⟩
        cases h1
        have S11 := sNew (o := .tup [.int (n : Nat), x2]) nt
        have D11 := pbS D10 S11
        have B11 := B10.same S11
        obtain ⟨p', y, wy, rfl, hy, hwy, T11⟩ := tk D11 h3
        obtain ⟨p0, x0, _, e0, hx0, _, T0⟩ := tk D11 h2
        cases e0
        rw [hx] at hx0
        cases hx0
        refine ⟨t, _, rfl, SqT.of upd_same, rfl, _, _, rfl, _, _, rfl, rfl, ?_⟩
        refine ⟨_, rfl, _, rfl, rTk T (o := some y) T0 ⟨p', rfl, T11⟩ ?_⟩
        refine ⟨_, rfl, _, rfl, P, _, _, _, rfl, rfl, SqL.of (atP D11), atI_nat (j := i) hwv, _, rfl, _, rfl, P, _, _, _, rfl, rfl, SqL.of (atP D11), atI_nat (j := n) hwy, ?_⟩
        refine pl_eq (pl D11 hwv hx).1 (pl D11 hwy hy).1 (pl D11 hwv hx).2 (pl D11 hwy hy).2 ⟨rfl, _, rfl, ?_⟩
        rw [show decide (some y = some x) = decide (x = y) from decide_eq_decide.mpr ⟨fun z => (Option.some.inj z).symm, fun z => by rw [z]⟩, decide_eq_true (rfl : V.bl (decide (x = y)) = V.bl (decide (x = y)))]
        exact iteF ⟨D11, B11, _, _, rfl⟩
      · rintro σ H12 ⟨D12, B12, v9, v10, rfl⟩
        obtain ⟨p0, x0, _, e0, hx0, _, T0⟩ := tk D12 h2
        cases e0
        rw [hx] at hx0
        cases hx0
        have P12 := pl D12 hwv hx
        have nn : decide ((none : Option Tk) = some x) = false := decide_eq_false (fun z => by cases z)
        refine ⟨_, rfl, _, rfl, _, rfl, P, _, _, _, rfl, rfl, SqL.of (atP D12), atI_nat (j := i) hwv, wv, x, rfl, P12.1, P12.2, ?_⟩
        refine rTk T (o := none) T0 (.inl ⟨_, rfl⟩) ?_
        rw [nn]
        refine ⟨_, rfl, iteF ?_⟩
        refine ⟨_, rfl, _, rfl, _, rfl, P, _, _, _, rfl, rfl, SqL.of (atP D12), atI_nat (j := i) hwv, ?_⟩
        obtain ⟨tt, kk, ett, htt, _⟩ := id P12.1
        refine rTk T (o := none) T0 (.inr ⟨tt, _, ett, htt⟩) ?_
        rw [nn]
        refine ⟨_, rfl, iteF ?_⟩
        refine ⟨_, rfl, rTk T (o := none) T0 (.inl ⟨_, rfl⟩) ?_⟩
        rw [nn]
        refine ⟨_, rfl, iteF ?_⟩
        refine ⟨_, rfl, _, rfl, _, rfl, P, _, _, _, rfl, rfl, SqL.of (atP D12), atI_nat (j := i) hwv, b, wv, x, rfl, B12, P12.1, P12.2, fun H13 B13 D13 => ⟨_, rfl, iteF ?_⟩⟩
        exact ⟨but_but D12 D13, B13, _, _, _, _, rfl⟩
    · rintro σ H6 ⟨D6, B6, v7, v8, v9, v10, rfl⟩
      exact ⟨_, rfl, _, rfl, b, rfl, B6, fun s0 H7 hs B7 D7 => ⟨b, s0, rfl, B7, hs, fun H8 => k _⟩⟩
theorem cal_law (T : Txt P w K mg cl) : Cal P w K mg base CX0 9 "law" ["_law_script"] (spLaw K) := by
  obtain ⟨f, fd, F, m⟩ := T.d_law
  exact ⟨f, fd, ok_law F T, m, F.kp, F.binds fun _ _ _ _ _ _ us hl => match us, hl with | [_], _ => rfl⟩
end
end My
set_option Elab.async false
set_option linter.all false
set_option maxRecDepth 100000
set_option maxHeartbeats 8000000
namespace My
open PySem L2 Dw He
theorem txt_mk {P : Program} {w : World} {K : PySem.W.Frag} {h : Heap} {mg : Str → Option Value} (X : K.In h) (G : h.Ns mainGlobals mg) (hP : P.main.file = lawFile) (c0 : HeM.SaysM lawFile faL fnL iniL prpL tsL exB w K) (stop : (P.main.scope.names.lookup ("super" : Str)).isSome = false) : Txt P w K mg (fun s => ga K (Str.ofString s)) := by
  have cS : HeM.SaysM P.main.file faL fnL iniL prpL tsL exB w K := by rw [hP]; exact c0
  have hz : HeM.zB K = true := cS.ex_at (L := exL) 0 rfl
  have opq : PySem.W.nsIn K cStatics "thirdparty.any" = some none := eqO_ok (cS.ex_at (L := exL) 1 rfl)
  exact {
    n_len := He.free_ok X G (cS.d.fact 0 (f := .free "len") rfl)
    n_int := He.free_ok X G (cS.d.fact 1 (f := .free "int") rfl)
    n_str := He.free_ok X G (cS.d.fact 2 (f := .free "str") rfl)
    n_bool := He.free_ok X G (cS.d.fact 3 (f := .free "bool") rfl)
    n_list := He.free_ok X G (cS.d.fact 4 (f := .free "list") rfl)
    n_tuple := He.free_ok X G (cS.d.fact 5 (f := .free "tuple") rfl)
    n_isinstance := He.free_ok X G (cS.d.fact 6 (f := .free "isinstance") rfl)
    n_range := He.free_ok X G (cS.d.fact 7 (f := .free "range") rfl)
    n_abs := He.free_ok X G (cS.d.fact 8 (f := .free "abs") rfl)
    n_max := He.free_ok X G (cS.d.fact 9 (f := .free "max") rfl)
    n_sum := He.free_ok X G (cS.d.fact 10 (f := .free "sum") rfl)
    n_enumerate := He.free_ok X G (cS.d.fact 11 (f := .free "enumerate") rfl)
    n_ValueError := He.free_ok X G (cS.d.fact 12 (f := .free "ValueError") rfl)
    n_super := He.free_ok X G (cS.d.fact 13 (f := .free "super") rfl)
    c_LETTERS := (let ⟨_, h⟩ := He.str_ok X G (cS.d.fact 14 (f := .str "LETTERS" "abcdefghijklmnopqrstuvwxyz") rfl); ⟨_, h, ⟨_, rfl⟩⟩)
    c_MOST := (let ⟨_, h⟩ := He.int_ok X G (cS.d.fact 15 (f := .int "MOST" (1000000)) rfl); ⟨_, h, ⟨_, rfl⟩⟩)
    c_MOST_DEPTH := (let ⟨_, h⟩ := He.int_ok X G (cS.d.fact 16 (f := .int "MOST_DEPTH" (6)) rfl); ⟨_, h, ⟨_, rfl⟩⟩)
    m_DeedError := (He.glo_ok X G (cS.d.fact 17 (f := .glo "DeedError") rfl))
    m_NoLife := (He.glo_ok X G (cS.d.fact 18 (f := .glo "NoLife") rfl))
    m_BadKin := (He.glo_ok X G (cS.d.fact 19 (f := .glo "BadKin") rfl))
    m_BadDate := (He.glo_ok X G (cS.d.fact 20 (f := .glo "BadDate") rfl))
    m_BadTaker := (He.glo_ok X G (cS.d.fact 21 (f := .glo "BadTaker") rfl))
    m_BadCondition := (He.glo_ok X G (cS.d.fact 22 (f := .glo "BadCondition") rfl))
    m_Kin := (He.glo_ok X G (cS.d.fact 23 (f := .glo "Kin") rfl))
    m_Children := (He.glo_ok X G (cS.d.fact 24 (f := .glo "Children") rfl))
    m_Grandchildren := (He.glo_ok X G (cS.d.fact 25 (f := .glo "Grandchildren") rfl))
    m_Taker := (He.glo_ok X G (cS.d.fact 26 (f := .glo "Taker") rfl))
    m_Named := (He.glo_ok X G (cS.d.fact 27 (f := .glo "Named") rfl))
    m_Mate := (He.glo_ok X G (cS.d.fact 28 (f := .glo "Mate") rfl))
    m_Told := (He.glo_ok X G (cS.d.fact 29 (f := .glo "Told") rfl))
    m_Whole := (He.glo_ok X G (cS.d.fact 30 (f := .glo "Whole") rfl))
    m_Living := (He.glo_ok X G (cS.d.fact 31 (f := .glo "Living") rfl))
    m_Reaching := (He.glo_ok X G (cS.d.fact 32 (f := .glo "Reaching") rfl))
    m_FirstReaching := (He.glo_ok X G (cS.d.fact 33 (f := .glo "FirstReaching") rfl))
    m_Date := (He.glo_ok X G (cS.d.fact 34 (f := .glo "Date") rfl))
    m_Year := (He.glo_ok X G (cS.d.fact 35 (f := .glo "Year") rfl))
    m_Death := (He.glo_ok X G (cS.d.fact 36 (f := .glo "Death") rfl))
    m_Condition := (He.glo_ok X G (cS.d.fact 37 (f := .glo "Condition") rfl))
    m_By := (He.glo_ok X G (cS.d.fact 38 (f := .glo "By") rfl))
    m_Unless := (He.glo_ok X G (cS.d.fact 39 (f := .glo "Unless") rfl))
    e_BadTaker := PySem.ErrL.makes1 (HeM.SaysM.ini cS 0 (d := d_ini_BadTaker) opq stop rfl) (w_BadTaker P w) (HeM.SaysM.ox cS 0 (d := d_ini_BadTaker) rfl).kC (HeM.SaysM.ox cS 0 (d := d_ini_BadTaker) rfl).exC (HeM.SaysM.ox cS 0 (d := d_ini_BadTaker) rfl).tyC (eqO_ok (cS.ex_at (L := exL) 2 rfl)) (by decide) (by decide) (He.free_ok X G (cS.d.fact 13 (f := .free "super") rfl)) (He.free_ok X G (cS.d.fact 2 (f := .free "str") rfl)) (fun _ _ _ _ _ _ _ _ _ => rfl)
    e_BadCondition := PySem.ErrL.makes1 (HeM.SaysM.ini cS 1 (d := d_ini_BadCondition) opq stop rfl) (w_BadCondition P w) (HeM.SaysM.ox cS 1 (d := d_ini_BadCondition) rfl).kC (HeM.SaysM.ox cS 1 (d := d_ini_BadCondition) rfl).exC (HeM.SaysM.ox cS 1 (d := d_ini_BadCondition) rfl).tyC (eqO_ok (cS.ex_at (L := exL) 3 rfl)) (by decide) (by decide) (He.free_ok X G (cS.d.fact 13 (f := .free "super") rfl)) (He.free_ok X G (cS.d.fact 2 (f := .free "str") rfl)) (fun _ _ _ _ _ _ _ _ _ => rfl)
    e_BadKin := PySem.ErrL.makes1 (HeM.SaysM.ini cS 2 (d := d_ini_BadKin) opq stop rfl) (w_BadKin P w) (HeM.SaysM.ox cS 2 (d := d_ini_BadKin) rfl).kC (HeM.SaysM.ox cS 2 (d := d_ini_BadKin) rfl).exC (HeM.SaysM.ox cS 2 (d := d_ini_BadKin) rfl).tyC (eqO_ok (cS.ex_at (L := exL) 4 rfl)) (by decide) (by decide) (He.free_ok X G (cS.d.fact 13 (f := .free "super") rfl)) (He.free_ok X G (cS.d.fact 2 (f := .free "str") rfl)) (fun _ _ _ _ _ _ _ _ _ => rfl)
    e_BadDate := PySem.ErrL.makes1 (HeM.SaysM.ini cS 3 (d := d_ini_BadDate) opq stop rfl) (w_BadDate P w) (HeM.SaysM.ox cS 3 (d := d_ini_BadDate) rfl).kC (HeM.SaysM.ox cS 3 (d := d_ini_BadDate) rfl).exC (HeM.SaysM.ox cS 3 (d := d_ini_BadDate) rfl).tyC (eqO_ok (cS.ex_at (L := exL) 5 rfl)) (by decide) (by decide) (He.free_ok X G (cS.d.fact 13 (f := .free "super") rfl)) (He.free_ok X G (cS.d.fact 2 (f := .free "str") rfl)) (fun _ _ _ _ _ _ _ _ _ => rfl)
    x_BadTaker := HeM.xcB_ok (cS.ex_at (L := exL) 6 rfl) hz
    x_BadCondition := HeM.xcB_ok (cS.ex_at (L := exL) 7 rfl) hz
    xf_BadTaker_what := eqO_ok (cS.ex_at (L := exL) 2 rfl)
    xf_BadCondition_what := eqO_ok (cS.ex_at (L := exL) 3 rfl)
    is_BadTaker := of_decide_eq_true (cS.ex_at (L := exL) 8 rfl)
    is_BadCondition := of_decide_eq_true (cS.ex_at (L := exL) 9 rfl)
    k_BadTaker_DeedError := of_decide_eq_true (cS.ex_at (L := exL) 10 rfl)
    k_BadTaker_BadCondition := of_decide_eq_true (cS.ex_at (L := exL) 11 rfl)
    k_BadTaker_NoLife := of_decide_eq_true (cS.ex_at (L := exL) 12 rfl)
    k_BadCondition_DeedError := of_decide_eq_true (cS.ex_at (L := exL) 13 rfl)
    k_BadCondition_BadTaker := of_decide_eq_true (cS.ex_at (L := exL) 14 rfl)
    cl_Children := He.cls_ok (cS.d.fact 40 (f := .cls "Children") rfl)
    na_Children := (fun f hf => eqO_ok (List.all_eq_true.mp (cS.ex_at (L := exL) 15 rfl) f hf))
    y_Children := eqO_ok (cS.ex_at (L := exL) 16 rfl)
    z3_Children := of_decide_eq_true (cS.ex_at (L := exL) 17 rfl)
    cl_Grandchildren := He.cls_ok (cS.d.fact 41 (f := .cls "Grandchildren") rfl)
    na_Grandchildren := (fun f hf => eqO_ok (List.all_eq_true.mp (cS.ex_at (L := exL) 18 rfl) f hf))
    y_Grandchildren := eqO_ok (cS.ex_at (L := exL) 19 rfl)
    z3_Grandchildren := of_decide_eq_true (cS.ex_at (L := exL) 20 rfl)
    cl_Named := He.cls_ok (cS.d.fact 42 (f := .cls "Named") rfl)
    na_Named := (fun f hf => eqO_ok (List.all_eq_true.mp (cS.ex_at (L := exL) 21 rfl) f hf))
    y_Named := eqO_ok (cS.ex_at (L := exL) 22 rfl)
    z3_Named := of_decide_eq_true (cS.ex_at (L := exL) 23 rfl)
    cl_Mate := He.cls_ok (cS.d.fact 43 (f := .cls "Mate") rfl)
    na_Mate := (fun f hf => eqO_ok (List.all_eq_true.mp (cS.ex_at (L := exL) 24 rfl) f hf))
    y_Mate := eqO_ok (cS.ex_at (L := exL) 25 rfl)
    z3_Mate := of_decide_eq_true (cS.ex_at (L := exL) 26 rfl)
    cl_Told := He.cls_ok (cS.d.fact 44 (f := .cls "Told") rfl)
    na_Told := (fun f hf => eqO_ok (List.all_eq_true.mp (cS.ex_at (L := exL) 27 rfl) f hf))
    y_Told := eqO_ok (cS.ex_at (L := exL) 28 rfl)
    z3_Told := of_decide_eq_true (cS.ex_at (L := exL) 29 rfl)
    cl_Whole := He.cls_ok (cS.d.fact 45 (f := .cls "Whole") rfl)
    na_Whole := (fun f hf => eqO_ok (List.all_eq_true.mp (cS.ex_at (L := exL) 30 rfl) f hf))
    y_Whole := eqO_ok (cS.ex_at (L := exL) 31 rfl)
    z3_Whole := of_decide_eq_true (cS.ex_at (L := exL) 32 rfl)
    cl_Living := He.cls_ok (cS.d.fact 46 (f := .cls "Living") rfl)
    na_Living := (fun f hf => eqO_ok (List.all_eq_true.mp (cS.ex_at (L := exL) 33 rfl) f hf))
    y_Living := eqO_ok (cS.ex_at (L := exL) 34 rfl)
    z3_Living := of_decide_eq_true (cS.ex_at (L := exL) 35 rfl)
    cl_Reaching := He.cls_ok (cS.d.fact 47 (f := .cls "Reaching") rfl)
    na_Reaching := (fun f hf => eqO_ok (List.all_eq_true.mp (cS.ex_at (L := exL) 36 rfl) f hf))
    y_Reaching := eqO_ok (cS.ex_at (L := exL) 37 rfl)
    z3_Reaching := of_decide_eq_true (cS.ex_at (L := exL) 38 rfl)
    cl_FirstReaching := He.cls_ok (cS.d.fact 48 (f := .cls "FirstReaching") rfl)
    na_FirstReaching := (fun f hf => eqO_ok (List.all_eq_true.mp (cS.ex_at (L := exL) 39 rfl) f hf))
    y_FirstReaching := eqO_ok (cS.ex_at (L := exL) 40 rfl)
    z3_FirstReaching := of_decide_eq_true (cS.ex_at (L := exL) 41 rfl)
    cl_Year := He.cls_ok (cS.d.fact 49 (f := .cls "Year") rfl)
    na_Year := (fun f hf => eqO_ok (List.all_eq_true.mp (cS.ex_at (L := exL) 42 rfl) f hf))
    y_Year := eqO_ok (cS.ex_at (L := exL) 43 rfl)
    z3_Year := of_decide_eq_true (cS.ex_at (L := exL) 44 rfl)
    cl_Death := He.cls_ok (cS.d.fact 50 (f := .cls "Death") rfl)
    na_Death := (fun f hf => eqO_ok (List.all_eq_true.mp (cS.ex_at (L := exL) 45 rfl) f hf))
    y_Death := eqO_ok (cS.ex_at (L := exL) 46 rfl)
    z3_Death := of_decide_eq_true (cS.ex_at (L := exL) 47 rfl)
    cl_By := He.cls_ok (cS.d.fact 51 (f := .cls "By") rfl)
    na_By := (fun f hf => eqO_ok (List.all_eq_true.mp (cS.ex_at (L := exL) 48 rfl) f hf))
    y_By := eqO_ok (cS.ex_at (L := exL) 49 rfl)
    z3_By := of_decide_eq_true (cS.ex_at (L := exL) 50 rfl)
    cl_Unless := He.cls_ok (cS.d.fact 52 (f := .cls "Unless") rfl)
    na_Unless := (fun f hf => eqO_ok (List.all_eq_true.mp (cS.ex_at (L := exL) 51 rfl) f hf))
    y_Unless := eqO_ok (cS.ex_at (L := exL) 52 rfl)
    z3_Unless := of_decide_eq_true (cS.ex_at (L := exL) 53 rfl)
    ib_Kin := (let ⟨fd, F⟩ := cS.d.def_ 0 (d := ⟨("Kin", some "__init__"), "__init__", "Kin.__init__", defArgs s_Kin_init, defBody s_Kin_init, defScope s_Kin_init, [], []⟩) rfl; ⟨fd, fun_of F⟩)
    ib_Taker := (let ⟨fd, F⟩ := cS.d.def_ 1 (d := ⟨("Taker", some "__init__"), "__init__", "Taker.__init__", defArgs s_Taker_init, defBody s_Taker_init, defScope s_Taker_init, [], []⟩) rfl; ⟨fd, fun_of F⟩)
    ib_Date := (let ⟨fd, F⟩ := cS.d.def_ 2 (d := ⟨("Date", some "__init__"), "__init__", "Date.__init__", defArgs s_Date_init, defBody s_Date_init, defScope s_Date_init, [], []⟩) rfl; ⟨fd, fun_of F⟩)
    ib_Condition := (let ⟨fd, F⟩ := cS.d.def_ 3 (d := ⟨("Condition", some "__init__"), "__init__", "Condition.__init__", defArgs s_Condition_init, defBody s_Condition_init, defScope s_Condition_init, [], []⟩) rfl; ⟨fd, fun_of F⟩)
    u_Children := (HeM.SaysM.sup cS 4 (d := d_ini_Children) opq stop rfl)
    mk_Children := He.mkr_ok (cS.d.fact 53 (f := .mkr "Children") rfl)
    u_Grandchildren := (HeM.SaysM.sup cS 5 (d := d_ini_Grandchildren) opq stop rfl)
    mk_Grandchildren := He.mkr_ok (cS.d.fact 54 (f := .mkr "Grandchildren") rfl)
    u_Named := (HeM.SaysM.sup cS 6 (d := d_ini_Named) opq stop rfl)
    mk_Named := He.mkr_ok (cS.d.fact 55 (f := .mkr "Named") rfl)
    u_Mate := (HeM.SaysM.sup cS 7 (d := d_ini_Mate) opq stop rfl)
    mk_Mate := He.mkr_ok (cS.d.fact 56 (f := .mkr "Mate") rfl)
    u_Told := (HeM.SaysM.sup cS 8 (d := d_ini_Told) opq stop rfl)
    mk_Told := He.mkr_ok (cS.d.fact 57 (f := .mkr "Told") rfl)
    u_Whole := (HeM.SaysM.sup cS 9 (d := d_ini_Whole) opq stop rfl)
    mk_Whole := He.mkr_ok (cS.d.fact 58 (f := .mkr "Whole") rfl)
    u_Living := (HeM.SaysM.sup cS 10 (d := d_ini_Living) opq stop rfl)
    mk_Living := He.mkr_ok (cS.d.fact 59 (f := .mkr "Living") rfl)
    u_Reaching := (HeM.SaysM.sup cS 11 (d := d_ini_Reaching) opq stop rfl)
    mk_Reaching := He.mkr_ok (cS.d.fact 60 (f := .mkr "Reaching") rfl)
    u_FirstReaching := (HeM.SaysM.sup cS 12 (d := d_ini_FirstReaching) opq stop rfl)
    mk_FirstReaching := He.mkr_ok (cS.d.fact 61 (f := .mkr "FirstReaching") rfl)
    u_Year := (HeM.SaysM.sup cS 13 (d := d_ini_Year) opq stop rfl)
    mk_Year := He.mkr_ok (cS.d.fact 62 (f := .mkr "Year") rfl)
    u_Death := (HeM.SaysM.sup cS 14 (d := d_ini_Death) opq stop rfl)
    mk_Death := He.mkr_ok (cS.d.fact 63 (f := .mkr "Death") rfl)
    u_By := (HeM.SaysM.sup cS 15 (d := d_ini_By) opq stop rfl)
    mk_By := He.mkr_ok (cS.d.fact 64 (f := .mkr "By") rfl)
    u_Unless := (HeM.SaysM.sup cS 16 (d := d_ini_Unless) opq stop rfl)
    mk_Unless := He.mkr_ok (cS.d.fact 65 (f := .mkr "Unless") rfl)
    k_Children_Kin := of_decide_eq_true (cS.ex_at (L := exL) 54 rfl)
    k_Grandchildren_Kin := of_decide_eq_true (cS.ex_at (L := exL) 55 rfl)
    k_Named_Kin := of_decide_eq_true (cS.ex_at (L := exL) 56 rfl)
    k_Year_Kin := of_decide_eq_true (cS.ex_at (L := exL) 57 rfl)
    k_Death_Kin := of_decide_eq_true (cS.ex_at (L := exL) 58 rfl)
    k_NoneType_Kin := of_decide_eq_true (cS.ex_at (L := exL) 59 rfl)
    k_int_Kin := of_decide_eq_true (cS.ex_at (L := exL) 60 rfl)
    k_str_Kin := of_decide_eq_true (cS.ex_at (L := exL) 61 rfl)
    k_tuple_Kin := of_decide_eq_true (cS.ex_at (L := exL) 62 rfl)
    k_Named_Taker := of_decide_eq_true (cS.ex_at (L := exL) 63 rfl)
    k_Mate_Taker := of_decide_eq_true (cS.ex_at (L := exL) 64 rfl)
    k_Told_Taker := of_decide_eq_true (cS.ex_at (L := exL) 65 rfl)
    k_Whole_Taker := of_decide_eq_true (cS.ex_at (L := exL) 66 rfl)
    k_Living_Taker := of_decide_eq_true (cS.ex_at (L := exL) 67 rfl)
    k_Reaching_Taker := of_decide_eq_true (cS.ex_at (L := exL) 68 rfl)
    k_FirstReaching_Taker := of_decide_eq_true (cS.ex_at (L := exL) 69 rfl)
    k_Children_Children := of_decide_eq_true (cS.ex_at (L := exL) 70 rfl)
    k_Children_Grandchildren := of_decide_eq_true (cS.ex_at (L := exL) 71 rfl)
    k_Grandchildren_Children := of_decide_eq_true (cS.ex_at (L := exL) 72 rfl)
    k_Grandchildren_Grandchildren := of_decide_eq_true (cS.ex_at (L := exL) 73 rfl)
    k_Named_Named := of_decide_eq_true (cS.ex_at (L := exL) 74 rfl)
    k_Named_Mate := of_decide_eq_true (cS.ex_at (L := exL) 75 rfl)
    k_Named_Told := of_decide_eq_true (cS.ex_at (L := exL) 76 rfl)
    k_Named_Whole := of_decide_eq_true (cS.ex_at (L := exL) 77 rfl)
    k_Named_Living := of_decide_eq_true (cS.ex_at (L := exL) 78 rfl)
    k_Named_Reaching := of_decide_eq_true (cS.ex_at (L := exL) 79 rfl)
    k_Named_FirstReaching := of_decide_eq_true (cS.ex_at (L := exL) 80 rfl)
    k_Mate_Named := of_decide_eq_true (cS.ex_at (L := exL) 81 rfl)
    k_Mate_Mate := of_decide_eq_true (cS.ex_at (L := exL) 82 rfl)
    k_Mate_Told := of_decide_eq_true (cS.ex_at (L := exL) 83 rfl)
    k_Mate_Whole := of_decide_eq_true (cS.ex_at (L := exL) 84 rfl)
    k_Mate_Living := of_decide_eq_true (cS.ex_at (L := exL) 85 rfl)
    k_Mate_Reaching := of_decide_eq_true (cS.ex_at (L := exL) 86 rfl)
    k_Mate_FirstReaching := of_decide_eq_true (cS.ex_at (L := exL) 87 rfl)
    k_Told_Named := of_decide_eq_true (cS.ex_at (L := exL) 88 rfl)
    k_Told_Mate := of_decide_eq_true (cS.ex_at (L := exL) 89 rfl)
    k_Told_Told := of_decide_eq_true (cS.ex_at (L := exL) 90 rfl)
    k_Told_Whole := of_decide_eq_true (cS.ex_at (L := exL) 91 rfl)
    k_Told_Living := of_decide_eq_true (cS.ex_at (L := exL) 92 rfl)
    k_Told_Reaching := of_decide_eq_true (cS.ex_at (L := exL) 93 rfl)
    k_Told_FirstReaching := of_decide_eq_true (cS.ex_at (L := exL) 94 rfl)
    k_Whole_Named := of_decide_eq_true (cS.ex_at (L := exL) 95 rfl)
    k_Whole_Mate := of_decide_eq_true (cS.ex_at (L := exL) 96 rfl)
    k_Whole_Told := of_decide_eq_true (cS.ex_at (L := exL) 97 rfl)
    k_Whole_Whole := of_decide_eq_true (cS.ex_at (L := exL) 98 rfl)
    k_Whole_Living := of_decide_eq_true (cS.ex_at (L := exL) 99 rfl)
    k_Whole_Reaching := of_decide_eq_true (cS.ex_at (L := exL) 100 rfl)
    k_Whole_FirstReaching := of_decide_eq_true (cS.ex_at (L := exL) 101 rfl)
    k_Living_Named := of_decide_eq_true (cS.ex_at (L := exL) 102 rfl)
    k_Living_Mate := of_decide_eq_true (cS.ex_at (L := exL) 103 rfl)
    k_Living_Told := of_decide_eq_true (cS.ex_at (L := exL) 104 rfl)
    k_Living_Whole := of_decide_eq_true (cS.ex_at (L := exL) 105 rfl)
    k_Living_Living := of_decide_eq_true (cS.ex_at (L := exL) 106 rfl)
    k_Living_Reaching := of_decide_eq_true (cS.ex_at (L := exL) 107 rfl)
    k_Living_FirstReaching := of_decide_eq_true (cS.ex_at (L := exL) 108 rfl)
    k_Reaching_Named := of_decide_eq_true (cS.ex_at (L := exL) 109 rfl)
    k_Reaching_Mate := of_decide_eq_true (cS.ex_at (L := exL) 110 rfl)
    k_Reaching_Told := of_decide_eq_true (cS.ex_at (L := exL) 111 rfl)
    k_Reaching_Whole := of_decide_eq_true (cS.ex_at (L := exL) 112 rfl)
    k_Reaching_Living := of_decide_eq_true (cS.ex_at (L := exL) 113 rfl)
    k_Reaching_Reaching := of_decide_eq_true (cS.ex_at (L := exL) 114 rfl)
    k_Reaching_FirstReaching := of_decide_eq_true (cS.ex_at (L := exL) 115 rfl)
    k_FirstReaching_Named := of_decide_eq_true (cS.ex_at (L := exL) 116 rfl)
    k_FirstReaching_Mate := of_decide_eq_true (cS.ex_at (L := exL) 117 rfl)
    k_FirstReaching_Told := of_decide_eq_true (cS.ex_at (L := exL) 118 rfl)
    k_FirstReaching_Whole := of_decide_eq_true (cS.ex_at (L := exL) 119 rfl)
    k_FirstReaching_Living := of_decide_eq_true (cS.ex_at (L := exL) 120 rfl)
    k_FirstReaching_Reaching := of_decide_eq_true (cS.ex_at (L := exL) 121 rfl)
    k_FirstReaching_FirstReaching := of_decide_eq_true (cS.ex_at (L := exL) 122 rfl)
    k_str_Named := of_decide_eq_true (cS.ex_at (L := exL) 123 rfl)
    k_str_Mate := of_decide_eq_true (cS.ex_at (L := exL) 124 rfl)
    k_str_Told := of_decide_eq_true (cS.ex_at (L := exL) 125 rfl)
    k_str_Whole := of_decide_eq_true (cS.ex_at (L := exL) 126 rfl)
    k_str_Living := of_decide_eq_true (cS.ex_at (L := exL) 127 rfl)
    k_str_Reaching := of_decide_eq_true (cS.ex_at (L := exL) 128 rfl)
    k_str_FirstReaching := of_decide_eq_true (cS.ex_at (L := exL) 129 rfl)
    k_tuple_Named := of_decide_eq_true (cS.ex_at (L := exL) 130 rfl)
    k_tuple_Mate := of_decide_eq_true (cS.ex_at (L := exL) 131 rfl)
    k_tuple_Told := of_decide_eq_true (cS.ex_at (L := exL) 132 rfl)
    k_tuple_Whole := of_decide_eq_true (cS.ex_at (L := exL) 133 rfl)
    k_tuple_Living := of_decide_eq_true (cS.ex_at (L := exL) 134 rfl)
    k_tuple_Reaching := of_decide_eq_true (cS.ex_at (L := exL) 135 rfl)
    k_tuple_FirstReaching := of_decide_eq_true (cS.ex_at (L := exL) 136 rfl)
    k_Year_Date := of_decide_eq_true (cS.ex_at (L := exL) 137 rfl)
    k_Death_Date := of_decide_eq_true (cS.ex_at (L := exL) 138 rfl)
    k_Children_Date := of_decide_eq_true (cS.ex_at (L := exL) 139 rfl)
    k_Named_Date := of_decide_eq_true (cS.ex_at (L := exL) 140 rfl)
    k_By_Date := of_decide_eq_true (cS.ex_at (L := exL) 141 rfl)
    k_NoneType_Date := of_decide_eq_true (cS.ex_at (L := exL) 142 rfl)
    k_int_Date := of_decide_eq_true (cS.ex_at (L := exL) 143 rfl)
    k_str_Date := of_decide_eq_true (cS.ex_at (L := exL) 144 rfl)
    k_tuple_Date := of_decide_eq_true (cS.ex_at (L := exL) 145 rfl)
    k_Year_Year := of_decide_eq_true (cS.ex_at (L := exL) 146 rfl)
    k_Death_Death := of_decide_eq_true (cS.ex_at (L := exL) 147 rfl)
    nf_Children_Children := (cS.ex_at (L := exL) 148 rfl)
    nf_Children_Grandchildren := (cS.ex_at (L := exL) 149 rfl)
    nf_Grandchildren_Children := (cS.ex_at (L := exL) 150 rfl)
    nf_Grandchildren_Grandchildren := (cS.ex_at (L := exL) 151 rfl)
    nf_Named_Named := (cS.ex_at (L := exL) 152 rfl)
    nf_Named_Mate := (cS.ex_at (L := exL) 153 rfl)
    nf_Named_Told := (cS.ex_at (L := exL) 154 rfl)
    nf_Named_Whole := (cS.ex_at (L := exL) 155 rfl)
    nf_Named_Living := (cS.ex_at (L := exL) 156 rfl)
    nf_Named_Reaching := (cS.ex_at (L := exL) 157 rfl)
    nf_Named_FirstReaching := (cS.ex_at (L := exL) 158 rfl)
    nf_Named_str := (cS.ex_at (L := exL) 159 rfl)
    nf_Named_tuple := (cS.ex_at (L := exL) 160 rfl)
    nf_Mate_Named := (cS.ex_at (L := exL) 161 rfl)
    nf_Mate_Mate := (cS.ex_at (L := exL) 162 rfl)
    nf_Mate_Told := (cS.ex_at (L := exL) 163 rfl)
    nf_Mate_Whole := (cS.ex_at (L := exL) 164 rfl)
    nf_Mate_Living := (cS.ex_at (L := exL) 165 rfl)
    nf_Mate_Reaching := (cS.ex_at (L := exL) 166 rfl)
    nf_Mate_FirstReaching := (cS.ex_at (L := exL) 167 rfl)
    nf_Mate_str := (cS.ex_at (L := exL) 168 rfl)
    nf_Mate_tuple := (cS.ex_at (L := exL) 169 rfl)
    nf_Told_Named := (cS.ex_at (L := exL) 170 rfl)
    nf_Told_Mate := (cS.ex_at (L := exL) 171 rfl)
    nf_Told_Told := (cS.ex_at (L := exL) 172 rfl)
    nf_Told_Whole := (cS.ex_at (L := exL) 173 rfl)
    nf_Told_Living := (cS.ex_at (L := exL) 174 rfl)
    nf_Told_Reaching := (cS.ex_at (L := exL) 175 rfl)
    nf_Told_FirstReaching := (cS.ex_at (L := exL) 176 rfl)
    nf_Told_str := (cS.ex_at (L := exL) 177 rfl)
    nf_Told_tuple := (cS.ex_at (L := exL) 178 rfl)
    nf_Whole_Named := (cS.ex_at (L := exL) 179 rfl)
    nf_Whole_Mate := (cS.ex_at (L := exL) 180 rfl)
    nf_Whole_Told := (cS.ex_at (L := exL) 181 rfl)
    nf_Whole_Whole := (cS.ex_at (L := exL) 182 rfl)
    nf_Whole_Living := (cS.ex_at (L := exL) 183 rfl)
    nf_Whole_Reaching := (cS.ex_at (L := exL) 184 rfl)
    nf_Whole_FirstReaching := (cS.ex_at (L := exL) 185 rfl)
    nf_Whole_str := (cS.ex_at (L := exL) 186 rfl)
    nf_Whole_tuple := (cS.ex_at (L := exL) 187 rfl)
    nf_Living_Named := (cS.ex_at (L := exL) 188 rfl)
    nf_Living_Mate := (cS.ex_at (L := exL) 189 rfl)
    nf_Living_Told := (cS.ex_at (L := exL) 190 rfl)
    nf_Living_Whole := (cS.ex_at (L := exL) 191 rfl)
    nf_Living_Living := (cS.ex_at (L := exL) 192 rfl)
    nf_Living_Reaching := (cS.ex_at (L := exL) 193 rfl)
    nf_Living_FirstReaching := (cS.ex_at (L := exL) 194 rfl)
    nf_Living_str := (cS.ex_at (L := exL) 195 rfl)
    nf_Living_tuple := (cS.ex_at (L := exL) 196 rfl)
    nf_Reaching_Named := (cS.ex_at (L := exL) 197 rfl)
    nf_Reaching_Mate := (cS.ex_at (L := exL) 198 rfl)
    nf_Reaching_Told := (cS.ex_at (L := exL) 199 rfl)
    nf_Reaching_Whole := (cS.ex_at (L := exL) 200 rfl)
    nf_Reaching_Living := (cS.ex_at (L := exL) 201 rfl)
    nf_Reaching_Reaching := (cS.ex_at (L := exL) 202 rfl)
    nf_Reaching_FirstReaching := (cS.ex_at (L := exL) 203 rfl)
    nf_Reaching_str := (cS.ex_at (L := exL) 204 rfl)
    nf_Reaching_tuple := (cS.ex_at (L := exL) 205 rfl)
    nf_FirstReaching_Named := (cS.ex_at (L := exL) 206 rfl)
    nf_FirstReaching_Mate := (cS.ex_at (L := exL) 207 rfl)
    nf_FirstReaching_Told := (cS.ex_at (L := exL) 208 rfl)
    nf_FirstReaching_Whole := (cS.ex_at (L := exL) 209 rfl)
    nf_FirstReaching_Living := (cS.ex_at (L := exL) 210 rfl)
    nf_FirstReaching_Reaching := (cS.ex_at (L := exL) 211 rfl)
    nf_FirstReaching_FirstReaching := (cS.ex_at (L := exL) 212 rfl)
    nf_FirstReaching_str := (cS.ex_at (L := exL) 213 rfl)
    nf_FirstReaching_tuple := (cS.ex_at (L := exL) 214 rfl)
    nf_Year_Year := (cS.ex_at (L := exL) 215 rfl)
    nf_Death_Death := (cS.ex_at (L := exL) 216 rfl)
    ne_Children := ⟨of_decide_eq_true (cS.ex_at (L := exL) 17 rfl), eqO_ok (cS.ex_at (L := exL) 217 rfl)⟩
    ne_Grandchildren := ⟨of_decide_eq_true (cS.ex_at (L := exL) 20 rfl), eqO_ok (cS.ex_at (L := exL) 218 rfl)⟩
    ne_Named := ⟨of_decide_eq_true (cS.ex_at (L := exL) 23 rfl), eqO_ok (cS.ex_at (L := exL) 219 rfl)⟩
    ne_Mate := ⟨of_decide_eq_true (cS.ex_at (L := exL) 26 rfl), eqO_ok (cS.ex_at (L := exL) 220 rfl)⟩
    ne_Told := ⟨of_decide_eq_true (cS.ex_at (L := exL) 29 rfl), eqO_ok (cS.ex_at (L := exL) 221 rfl)⟩
    ne_Whole := ⟨of_decide_eq_true (cS.ex_at (L := exL) 32 rfl), eqO_ok (cS.ex_at (L := exL) 222 rfl)⟩
    ne_Living := ⟨of_decide_eq_true (cS.ex_at (L := exL) 35 rfl), eqO_ok (cS.ex_at (L := exL) 223 rfl)⟩
    ne_Reaching := ⟨of_decide_eq_true (cS.ex_at (L := exL) 38 rfl), eqO_ok (cS.ex_at (L := exL) 224 rfl)⟩
    ne_FirstReaching := ⟨of_decide_eq_true (cS.ex_at (L := exL) 41 rfl), eqO_ok (cS.ex_at (L := exL) 225 rfl)⟩
    fm_Children := ⟨eqO_ok (cS.ex_at (L := exL) 226 rfl), of_decide_eq_true (cS.ex_at (L := exL) 17 rfl)⟩
    fm_Grandchildren := ⟨eqO_ok (cS.ex_at (L := exL) 227 rfl), of_decide_eq_true (cS.ex_at (L := exL) 20 rfl)⟩
    d_Children_eq := (let ⟨fd, F⟩ := cS.d.def_ 4 (d := ⟨("Children", some "__eq__"), "__eq__", "Children.__eq__", defArgs s_Children_eq, defBody s_Children_eq, defScope s_Children_eq, [], []⟩) rfl; ⟨_, fd, fun_of F, He.meth_ok (cS.d.fact 66 (f := .meth "Children" "__eq__") rfl)⟩)
    d_Children_str := (let ⟨fd, F⟩ := cS.d.def_ 5 (d := ⟨("Children", some "__str__"), "__str__", "Children.__str__", defArgs s_Children_str, defBody s_Children_str, defScope s_Children_str, [], []⟩) rfl; ⟨_, fd, fun_of F, He.meth_ok (cS.d.fact 67 (f := .meth "Children" "__str__") rfl)⟩)
    d_Grandchildren_eq := (let ⟨fd, F⟩ := cS.d.def_ 6 (d := ⟨("Grandchildren", some "__eq__"), "__eq__", "Grandchildren.__eq__", defArgs s_Grandchildren_eq, defBody s_Grandchildren_eq, defScope s_Grandchildren_eq, [], []⟩) rfl; ⟨_, fd, fun_of F, He.meth_ok (cS.d.fact 68 (f := .meth "Grandchildren" "__eq__") rfl)⟩)
    d_Grandchildren_str := (let ⟨fd, F⟩ := cS.d.def_ 7 (d := ⟨("Grandchildren", some "__str__"), "__str__", "Grandchildren.__str__", defArgs s_Grandchildren_str, defBody s_Grandchildren_str, defScope s_Grandchildren_str, [], []⟩) rfl; ⟨_, fd, fun_of F, He.meth_ok (cS.d.fact 69 (f := .meth "Grandchildren" "__str__") rfl)⟩)
    d_Named_eq := (let ⟨fd, F⟩ := cS.d.def_ 8 (d := ⟨("Named", some "__eq__"), "__eq__", "Named.__eq__", defArgs s_Named_eq, defBody s_Named_eq, defScope s_Named_eq, [], []⟩) rfl; ⟨_, fd, fun_of F, He.meth_ok (cS.d.fact 70 (f := .meth "Named" "__eq__") rfl)⟩)
    d_Named_str := (let ⟨fd, F⟩ := cS.d.def_ 9 (d := ⟨("Named", some "__str__"), "__str__", "Named.__str__", defArgs s_Named_str, defBody s_Named_str, defScope s_Named_str, [], []⟩) rfl; ⟨_, fd, fun_of F, He.meth_ok (cS.d.fact 71 (f := .meth "Named" "__str__") rfl)⟩)
    d_Mate_eq := (let ⟨fd, F⟩ := cS.d.def_ 10 (d := ⟨("Mate", some "__eq__"), "__eq__", "Mate.__eq__", defArgs s_Mate_eq, defBody s_Mate_eq, defScope s_Mate_eq, [], []⟩) rfl; ⟨_, fd, fun_of F, He.meth_ok (cS.d.fact 72 (f := .meth "Mate" "__eq__") rfl)⟩)
    d_Mate_str := (let ⟨fd, F⟩ := cS.d.def_ 11 (d := ⟨("Mate", some "__str__"), "__str__", "Mate.__str__", defArgs s_Mate_str, defBody s_Mate_str, defScope s_Mate_str, [], []⟩) rfl; ⟨_, fd, fun_of F, He.meth_ok (cS.d.fact 73 (f := .meth "Mate" "__str__") rfl)⟩)
    d_Told_eq := (let ⟨fd, F⟩ := cS.d.def_ 12 (d := ⟨("Told", some "__eq__"), "__eq__", "Told.__eq__", defArgs s_Told_eq, defBody s_Told_eq, defScope s_Told_eq, [], []⟩) rfl; ⟨_, fd, fun_of F, He.meth_ok (cS.d.fact 74 (f := .meth "Told" "__eq__") rfl)⟩)
    d_Told_str := (let ⟨fd, F⟩ := cS.d.def_ 13 (d := ⟨("Told", some "__str__"), "__str__", "Told.__str__", defArgs s_Told_str, defBody s_Told_str, defScope s_Told_str, [], []⟩) rfl; ⟨_, fd, fun_of F, He.meth_ok (cS.d.fact 75 (f := .meth "Told" "__str__") rfl)⟩)
    d_Whole_eq := (let ⟨fd, F⟩ := cS.d.def_ 14 (d := ⟨("Whole", some "__eq__"), "__eq__", "Whole.__eq__", defArgs s_Whole_eq, defBody s_Whole_eq, defScope s_Whole_eq, [], []⟩) rfl; ⟨_, fd, fun_of F, He.meth_ok (cS.d.fact 76 (f := .meth "Whole" "__eq__") rfl)⟩)
    d_Whole_str := (let ⟨fd, F⟩ := cS.d.def_ 15 (d := ⟨("Whole", some "__str__"), "__str__", "Whole.__str__", defArgs s_Whole_str, defBody s_Whole_str, defScope s_Whole_str, [], []⟩) rfl; ⟨_, fd, fun_of F, He.meth_ok (cS.d.fact 77 (f := .meth "Whole" "__str__") rfl)⟩)
    d_Living_eq := (let ⟨fd, F⟩ := cS.d.def_ 16 (d := ⟨("Living", some "__eq__"), "__eq__", "Living.__eq__", defArgs s_Living_eq, defBody s_Living_eq, defScope s_Living_eq, [], []⟩) rfl; ⟨_, fd, fun_of F, He.meth_ok (cS.d.fact 78 (f := .meth "Living" "__eq__") rfl)⟩)
    d_Living_str := (let ⟨fd, F⟩ := cS.d.def_ 17 (d := ⟨("Living", some "__str__"), "__str__", "Living.__str__", defArgs s_Living_str, defBody s_Living_str, defScope s_Living_str, [], []⟩) rfl; ⟨_, fd, fun_of F, He.meth_ok (cS.d.fact 79 (f := .meth "Living" "__str__") rfl)⟩)
    d_Reaching_eq := (let ⟨fd, F⟩ := cS.d.def_ 18 (d := ⟨("Reaching", some "__eq__"), "__eq__", "Reaching.__eq__", defArgs s_Reaching_eq, defBody s_Reaching_eq, defScope s_Reaching_eq, [], []⟩) rfl; ⟨_, fd, fun_of F, He.meth_ok (cS.d.fact 80 (f := .meth "Reaching" "__eq__") rfl)⟩)
    d_Reaching_str := (let ⟨fd, F⟩ := cS.d.def_ 19 (d := ⟨("Reaching", some "__str__"), "__str__", "Reaching.__str__", defArgs s_Reaching_str, defBody s_Reaching_str, defScope s_Reaching_str, [], []⟩) rfl; ⟨_, fd, fun_of F, He.meth_ok (cS.d.fact 81 (f := .meth "Reaching" "__str__") rfl)⟩)
    d_FirstReaching_eq := (let ⟨fd, F⟩ := cS.d.def_ 20 (d := ⟨("FirstReaching", some "__eq__"), "__eq__", "FirstReaching.__eq__", defArgs s_FirstReaching_eq, defBody s_FirstReaching_eq, defScope s_FirstReaching_eq, [], []⟩) rfl; ⟨_, fd, fun_of F, He.meth_ok (cS.d.fact 82 (f := .meth "FirstReaching" "__eq__") rfl)⟩)
    d_FirstReaching_str := (let ⟨fd, F⟩ := cS.d.def_ 21 (d := ⟨("FirstReaching", some "__str__"), "__str__", "FirstReaching.__str__", defArgs s_FirstReaching_str, defBody s_FirstReaching_str, defScope s_FirstReaching_str, [], []⟩) rfl; ⟨_, fd, fun_of F, He.meth_ok (cS.d.fact 83 (f := .meth "FirstReaching" "__str__") rfl)⟩)
    d_Year_eq := (let ⟨fd, F⟩ := cS.d.def_ 22 (d := ⟨("Year", some "__eq__"), "__eq__", "Year.__eq__", defArgs s_Year_eq, defBody s_Year_eq, defScope s_Year_eq, [], []⟩) rfl; ⟨_, fd, fun_of F, He.meth_ok (cS.d.fact 84 (f := .meth "Year" "__eq__") rfl)⟩)
    d_Death_eq := (let ⟨fd, F⟩ := cS.d.def_ 23 (d := ⟨("Death", some "__eq__"), "__eq__", "Death.__eq__", defArgs s_Death_eq, defBody s_Death_eq, defScope s_Death_eq, [], []⟩) rfl; ⟨_, fd, fun_of F, He.meth_ok (cS.d.fact 85 (f := .meth "Death" "__eq__") rfl)⟩)
    d_is_whole := (let ⟨fd, F⟩ := cS.d.def_ 24 (d := ⟨("is_whole", none), "is_whole", "is_whole", defArgs s_is_whole, defBody s_is_whole, defScope s_is_whole, [], []⟩) rfl; ⟨_, fd, fun_of F, (He.glo_ok X G (cS.d.fact 86 (f := .glo "is_whole") rfl))⟩)
    d_is_name := (let ⟨fd, F⟩ := cS.d.def_ 25 (d := ⟨("is_name", none), "is_name", "is_name", defArgs s_is_name, defBody s_is_name, defScope s_is_name, [], []⟩) rfl; ⟨_, fd, fun_of F, (He.glo_ok X G (cS.d.fact 87 (f := .glo "is_name") rfl))⟩)
    d_check_kin := (let ⟨fd, F⟩ := cS.d.def_ 26 (d := ⟨("check_kin", none), "check_kin", "check_kin", defArgs s_check_kin, defBody s_check_kin, defScope s_check_kin, [], []⟩) rfl; ⟨_, fd, fun_of F, (He.glo_ok X G (cS.d.fact 88 (f := .glo "check_kin") rfl))⟩)
    d_check_age := (let ⟨fd, F⟩ := cS.d.def_ 27 (d := ⟨("check_age", none), "check_age", "check_age", defArgs s_check_age, defBody s_check_age, defScope s_check_age, [], []⟩) rfl; ⟨_, fd, fun_of F, (He.glo_ok X G (cS.d.fact 89 (f := .glo "check_age") rfl))⟩)
    d_merged := (let ⟨fd, F⟩ := cS.d.def_ 28 (d := ⟨("merged", none), "merged", "merged", defArgs s_merged, defBody s_merged, defScope s_merged, [], []⟩) rfl; ⟨_, fd, fun_of F, (He.glo_ok X G (cS.d.fact 90 (f := .glo "merged") rfl))⟩)
    d_bag := (let ⟨fd, F⟩ := cS.d.def_ 29 (d := ⟨("_law_bag", none), "_law_bag", "_law_bag", defArgs s_bag, defBody s_bag, defScope s_bag, [], []⟩) rfl; ⟨_, fd, fun_of F, (He.glo_ok X G (cS.d.fact 91 (f := .glo "_law_bag") rfl))⟩)
    d_take := (let ⟨fd, F⟩ := cS.d.def_ 30 (d := ⟨("_law_take", none), "_law_take", "_law_take", defArgs s_take, defBody s_take, defScope s_take, [], []⟩) rfl; ⟨_, fd, fun_of F, (He.glo_ok X G (cS.d.fact 92 (f := .glo "_law_take") rfl))⟩)
    d_pick := (let ⟨fd, F⟩ := cS.d.def_ 31 (d := ⟨("_law_pick", none), "_law_pick", "_law_pick", defArgs s_pick, defBody s_pick, defScope s_pick, [], []⟩) rfl; ⟨_, fd, fun_of F, (He.glo_ok X G (cS.d.fact 93 (f := .glo "_law_pick") rfl))⟩)
    d_kin := (let ⟨fd, F⟩ := cS.d.def_ 32 (d := ⟨("_law_kin", none), "_law_kin", "_law_kin", defArgs s_kin, defBody s_kin, defScope s_kin, [], []⟩) rfl; ⟨_, fd, fun_of F, (He.glo_ok X G (cS.d.fact 94 (f := .glo "_law_kin") rfl))⟩)
    d_taker := (let ⟨fd, F⟩ := cS.d.def_ 33 (d := ⟨("_law_taker", none), "_law_taker", "_law_taker", defArgs s_taker, defBody s_taker, defScope s_taker, [], []⟩) rfl; ⟨_, fd, fun_of F, (He.glo_ok X G (cS.d.fact 95 (f := .glo "_law_taker") rfl))⟩)
    d_word := (let ⟨fd, F⟩ := cS.d.def_ 34 (d := ⟨("_law_word", none), "_law_word", "_law_word", defArgs s_word, defBody s_word, defScope s_word, [], []⟩) rfl; ⟨_, fd, fun_of F, (He.glo_ok X G (cS.d.fact 96 (f := .glo "_law_word") rfl))⟩)
    d_odd_name := (let ⟨fd, F⟩ := cS.d.def_ 35 (d := ⟨("_law_odd_name", none), "_law_odd_name", "_law_odd_name", defArgs s_odd_name, defBody s_odd_name, defScope s_odd_name, [], []⟩) rfl; ⟨_, fd, fun_of F, (He.glo_ok X G (cS.d.fact 97 (f := .glo "_law_odd_name") rfl))⟩)
    d_drawn := (let ⟨fd, F⟩ := cS.d.def_ 36 (d := ⟨("_law_drawn", none), "_law_drawn", "_law_drawn", defArgs s_drawn, defBody s_drawn, defScope s_drawn, [], []⟩) rfl; ⟨_, fd, fun_of F, (He.glo_ok X G (cS.d.fact 98 (f := .glo "_law_drawn") rfl))⟩)
    d_text := (let ⟨fd, F⟩ := cS.d.def_ 37 (d := ⟨("_law_text", none), "_law_text", "_law_text", defArgs s_text, defBody s_text, defScope s_text, [], []⟩) rfl; ⟨_, fd, fun_of F, (He.glo_ok X G (cS.d.fact 99 (f := .glo "_law_text") rfl))⟩)
    d_fields := (let ⟨fd, F⟩ := cS.d.def_ 38 (d := ⟨("_law_fields", none), "_law_fields", "_law_fields", defArgs s_fields, defBody s_fields, defScope s_fields, [], []⟩) rfl; ⟨_, fd, fun_of F, (He.glo_ok X G (cS.d.fact 100 (f := .glo "_law_fields") rfl))⟩)
    d_made := (let ⟨fd, F⟩ := cS.d.def_ 39 (d := ⟨("_law_made", none), "_law_made", "_law_made", defArgs s_made, defBody s_made, defScope s_made, [], []⟩) rfl; ⟨_, fd, fun_of F, (He.glo_ok X G (cS.d.fact 101 (f := .glo "_law_made") rfl))⟩)
    d_refused := (let ⟨fd, F⟩ := cS.d.def_ 40 (d := ⟨("_law_refused", none), "_law_refused", "_law_refused", defArgs s_refused, defBody s_refused, defScope s_refused, [], []⟩) rfl; ⟨_, fd, fun_of F, (He.glo_ok X G (cS.d.fact 102 (f := .glo "_law_refused") rfl))⟩)
    d_condition_made := (let ⟨fd, F⟩ := cS.d.def_ 41 (d := ⟨("_law_condition_made", none), "_law_condition_made", "_law_condition_made", defArgs s_condition_made, defBody s_condition_made, defScope s_condition_made, [], []⟩) rfl; ⟨_, fd, fun_of F, (He.glo_ok X G (cS.d.fact 103 (f := .glo "_law_condition_made") rfl))⟩)
    d_conditions := (let ⟨fd, F⟩ := cS.d.def_ 42 (d := ⟨("_law_conditions", none), "_law_conditions", "_law_conditions", defArgs s_conditions, defBody s_conditions, defScope s_conditions, [], []⟩) rfl; ⟨_, fd, fun_of F, (He.glo_ok X G (cS.d.fact 104 (f := .glo "_law_conditions") rfl))⟩)
    d_law := (let ⟨fd, F⟩ := cS.d.def_ 43 (d := ⟨("law", none), "law", "law", defArgs s_law, defBody s_law, defScope s_law, [], []⟩) rfl; ⟨_, fd, fun_of F, (He.glo_ok X G (cS.d.fact 105 (f := .glo "law") rfl))⟩)
    z1 := eqO_ok (ba hz).1
    z2 := of_decide_eq_true (ba hz).2 }
theorem law_end {w : World} {K : PySem.W.Frag} {h : Heap} {mg : Str → Option Value} {fa : Addr} (X : K.In h) (G : h.Ns mainGlobals mg) (hfa : mg ("law" : Str) = some (.ref fa)) (c : HeM.SaysM lawFile faL fnL iniL prpL tsL exB w K) :
    ∃ fd : FuncData, (∀ (s : Shared) (v : Value), BindsTo s fd ⟨[v], []⟩ [("_law_script", v)]) ∧ ∀ base : Heap, K.In base → base.Ns mainGlobals mg → FnOk Rw.prog w K mg base CX0 9 fa fd ["_law_script"] (spLaw K) := by
  have T : Txt Rw.prog w K mg (fun s => ga K (Str.ofString s)) := txt_mk X G rfl c (by decide +kernel)
  obtain ⟨f, fd, F, m⟩ := T.d_law
  have e := hfa.symm.trans m
  cases e
  exact ⟨fd, fun s v => Fun.bindsA1 F (fun _ _ _ _ _ _ us hl => match us, hl with | [_], _ => rfl) s v, fun base _ _ => ok_law F T⟩
end My
open PySem PySem.W PySem.Calls PyProof.Rows
set_option maxHeartbeats 0 in
theorem PySem.Challenge.cw_lastlife_k16_takers_and_conditions_made_holds : PySem.Challenge.rw_lastlife_k16_takers_and_conditions_made.Holds := by
  w_on; o_law
  refine HandSHeadRun.head_any (r := My.Rw) (q := view My.Rw.prog [62]) (H := My.hkM) (ob := My.obM) (M := 12000) (loose := My.looseL) (d := HandSHeadRun.topDef My.Rw.prog 62) (kwd := []) My.obM_eq
    (by kernel_rfl) (fun s => by kernel_rfl) My.runM (by kernel_rfl) (by kernel_rfl) (by kernel_rfl) (by rfl) (by first | assumption | decide +kernel) (by decide +kernel) ⟨rfl, rfl, rfl, rfl, rfl, by decide +kernel⟩ ?hw ?hc
  case hw => w_witness2
  case hc =>
    refine L2.walk_ofE (l := PySem.Challenge.rw_lastlife_k16_takers_and_conditions_made) (n := 63) (k := 9) (x := "_law_script") (CX := L2.CX0) rfl (by decide) (by kernel_rfl) ⟨rfl, by decide, by decide⟩ ?F (fun _ _ _ _ z => z)
    intro w mg fa h Y G hmg0
    obtain ⟨K, KX, c⟩ := Y
    have hmg : mg ("law" : PySem.Str) = some (.ref fa) := by
      have e : (HandSHeadRun.topDef My.Rw.prog 62).name = ("law" : PySem.Str) := by kernel_rfl
      rw [← e]
      exact hmg0
    obtain ⟨fd, hb, hF⟩ := My.law_end (w := w) KX G hmg c
    exact ⟨K, fd, My.spLaw K, KX, hb, fun H a ns hl _ hS => ⟨a, ns, rfl, hS, hl, fun _ => rfl⟩, hF⟩
