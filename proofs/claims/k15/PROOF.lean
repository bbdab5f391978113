import PyProof.Rows.All
import Wide.All
import OpenK.AllK
import Wide.FinOn
import PySem.Challenge.RW_comerounds_k15_multiples_of_rows
import HandS.ForMost
import HandS.ForExc
import HandS.Flow
import HandS.Style
import HandS.TupAny
import HandS.TupMul
import HandS.TupLe
import HandS.Wide
import HandS.IsInst
import HandS.Defaults
import HandS.ExcInit
import HandS.ExcField
import HandS.ExcCtx
import HandS.HotCalls
import HandS.ExcInitHot
import HandS.SortInts
import HandS.Codes
import HandS.ClsMeth
import HandS.More
import HandS.Iter
import HandS.Gcd
set_option Elab.async false
set_option linter.all false
set_option autoImplicit false
set_option maxRecDepth 100000
set_option maxHeartbeats 4000000
/-! Base rules for the comerounds claims: calls, keyword calls, own errors under RowError, several except clauses with names. -/
namespace Cr
open PySem PySem.Spec PyProof.Rows L2
abbrev CE := L2N.CX

/-! ### calls: one kind of promise for all defs -/
theorem passN {X : Cx} : Passes (L2N.CX X.prog X.w) X E0 := fun _ _ _ _ _ _ _ c => by
  obtain ⟨_, _, _, _, _, _, _, _, _, _, _, _, z⟩ := c
  cases z
theorem takesN {X : Cx} : L2N.Takes X (fun _ _ _ _ => False) := fun _ _ c => by
  obtain ⟨_, _, _, _, _, _, _, _, _, _, _, _, _, _, _, _, z⟩ := c
  cases z
theorem passE {X : Cx} {W : WX} (tk : L2N.Takes X W) (σ : L2.St) : PassesAt (L2N.CX X.prog X.w) X σ (WE W σ) := L2N.passAt tk σ

/-! ### a def of the text, found by its name -/
def Has (K : PySem.W.Frag) (mg : Str → Option Value) (x : Str) (st : Stmt) : Prop := ∃ f fd, Fun K x x st f fd ∧ mg x = some (.ref f)
/-- .. with what it promises -/
def Df (P : Program) (w : World) (K : PySem.W.Frag) (mg : Str → Option Value) (base : Heap) (k : Nat) (x : Str) (st : Stmt) (ps : List Str) (sp : Sp) : Prop :=
  ∃ f fd, Fun K x x st f fd ∧ mg x = some (.ref f) ∧ FnOk P w K mg base (L2N.CX P w) k f fd ps sp ∧ Binds K fd ps []
section
variable {P : Program} {w : World} {K : PySem.W.Frag} {mg : Str → Option Value} {base : Heap}
theorem mk_df {x : Str} {st : Stmt} {N ps : List Str} {k : Nat} {sp : Sp} (h : Has K mg x st) (S : FnScope N ps (defScope st))
    (hb : ∀ (kV doc pm : Value) (an : Option Addr) (cdv ct : Value) (us : List Value), us.length = ps.length →
      bindArgs (PySem.W.fnOf x x (defArgs st) (defBody st) (defScope st) .none kV doc pm an cdv ct) ⟨us, []⟩ = pure (ps.zip us))
    (len : ∀ vs H Q E, sp vs H Q E → vs.length = ps.length)
    (body : ∀ (f : Addr) (cdv : Value) (A : Around) (outer : List Env) (s : Shared) (H : Hp) (vs : List V) (Q : VK) (E : XK),
      Room k (A.deeper (envOfC x (defScope st) s.heap.objs.size f cdv)) → sp vs H Q E →
      ∃ t, PSs (cxOf (L2N.CX P w) P w K mg base N x (defScope st) f cdv A outer s H E) (defBody st) t ∧
        t { nx := fun _ H' => Q .non H', rt := Q } (start N vs) H) : Df P w K mg base (k + 1) x st ps sp := by
  obtain ⟨f, fd, F, hm⟩ := h
  have B := F.binds hb
  refine ⟨f, fd, F, hm, ?_, B⟩
  obtain ⟨oc, od, kV, doc, pm, an, cdv, ct, osl, rfl, lk, hcd⟩ := F.ex
  exact fn_of lk hcd S len fun A outer s H vs Q E hr hsp => body f cdv A outer s H vs Q E hr hsp
theorem Df.mono {x : Str} {st : Stmt} {ps : List Str} {j k : Nat} {sp : Sp} (d : Df P w K mg base j x st ps sp) (h : j ≤ k) : Df P w K mg base k x st ps sp := by
  obtain ⟨f, fd, F, hm, G, B⟩ := d
  exact ⟨f, fd, F, hm, G.mono h, B⟩
theorem Df.weak {x : Str} {st : Stmt} {ps : List Str} {k : Nat} {sp sp' : Sp} (d : Df P w K mg base k x st ps sp) (h : ∀ vs H Q E, sp' vs H Q E → sp vs H Q E) : Df P w K mg base k x st ps sp' := by
  obtain ⟨f, fd, F, hm, G, B⟩ := d
  exact ⟨f, fd, F, hm, ⟨fun vs H Q E z => G.len vs H Q E (h _ _ _ _ z), fun A outer s H args us vs Q E hr e0 hb r z => G.run A outer s H args us vs Q E hr e0 hb r (h _ _ _ _ z)⟩, B⟩
end
section
variable {X : Cx} {k : Nat} {x : Str} {st : Stmt} {ps : List Str} {sp : Sp} {q pos : Pos} {e : Expr} {es : List Expr} {t tk : TA} {W : WX}
/-- f(e, ..), f may raise what W takes -/
theorem pcall {j : Nat} (d : Df X.prog X.w X.K X.mg X.base k x st ps sp) (hr : Room j X.A) (wt : L2N.Takes X W) (ha : PA X (e :: es) t) (hg : Gl X x := by rfl)
    (hdb : (x == ("__debug__" : Str)) = false := by decide) (he : starEach (e :: es) X.env = (false, eval e X.env) :: starEach es X.env := by rfl)
    (hpl : (backTo pos (starEach es X.env)).any (·.1) = false := by rfl) (hk : k ≤ j := by decide) :
    PE X (.Call (.Name x q) (e :: es) [] pos) (tCallS sp (WE W) t) := by
  obtain ⟨f, fd, F, hm, G, B⟩ := d
  exact pe_callS G (hr.mono hk) hg hm F.kp B (fun σ => passE wt σ) ha hdb he hpl
/-- the same where nothing is raised -/
theorem pcall0 {j : Nat} (d : Df X.prog X.w X.K X.mg X.base k x st ps sp) (hr : Room j X.A) (ha : PA X (e :: es) t) (hg : Gl X x := by rfl)
    (hdb : (x == ("__debug__" : Str)) = false := by decide) (he : starEach (e :: es) X.env = (false, eval e X.env) :: starEach es X.env := by rfl)
    (hpl : (backTo pos (starEach es X.env)).any (·.1) = false := by rfl) (hk : k ≤ j := by decide) :
    PE X (.Call (.Name x q) (e :: es) [] pos) (tCallS sp (fun _ => E0) t) := by
  obtain ⟨f, fd, F, hm, G, B⟩ := d
  exact pe_callS G (hr.mono hk) hg hm F.kp B (fun σ pins H s e s' I c => passN (X := X) pins σ H s e s' I c) ha hdb he hpl

/-! ### calls by keywords alone -/
/-- the call f(k = v, ..) with the keywords ks: π puts the written values in the parameters' order -/
structure Kw (x : Str) (st : Stmt) (ps ks : List Str) (n : Nat) (π : {α : Type} → List α → List α → List α) : Prop where
  bind : ∀ (kV doc pm : Value) (an : Option Addr) (cdv ct : Value) (us ws : List Value), us.length = n → ws.length = ks.length →
    bindArgs (PySem.W.fnOf x x (defArgs st) (defBody st) (defScope st) .none kV doc pm an cdv ct) ⟨us, ks.zip ws⟩ = pure (ps.zip (π us ws))
  rel : ∀ {vs zs : List V} {us ws : List Value}, vs.length = n → zs.length = ks.length → Vals vs us → Vals zs ws → Vals (π vs zs) (π us ws)
theorem run_kw {f : Addr} {fd : FuncData} {pins : List (Addr × Obj)} {σ : L2.St} {H : Hp} {s : Shared} {Q : VK} {us ws : List Value} {vs zs : List V} {ks : List Str} {n : Nat} {π : {α : Type} → List α → List α → List α}
    (F : Fun X.K x x st f fd) (G : FnOk X.prog X.w X.K X.mg X.base (L2N.CX X.prog X.w) k f fd ps sp) (hr : Room k X.A) (kw : Kw x st ps ks n π) (hx : PassesAt (L2N.CX X.prog X.w) X σ (WE W σ))
    (I : Inv X pins σ H s) (r : Vals vs us) (rz : Vals zs ws) (l1 : vs.length = n) (l2 : zs.length = ks.length) (h : sp (π vs zs) H Q (WE W σ)) :
    wpAny (model X.prog X.w) X.A (call (.ref f) us (ks.zip ws)) (EP X pins σ Q) X.xe s := by
  obtain ⟨oc, od, kV, doc, pm, an, cdv, ct, osl, rfl, lk, hcd⟩ := F.ex
  have b : BindsTo s (PySem.W.fnOf x x (defArgs st) (defBody st) (defScope st) .none kV doc pm an cdv ct) ⟨us, ks.zip ws⟩ (ps.zip (π us ws)) :=
    .of_eq (kw.bind kV doc pm an cdv ct us ws (r.length.symm.trans l1) (rz.length.symm.trans l2))
  refine wpAny_call (codeAny_mono (G.run X.A X.stack s H _ (π us ws) (π vs zs) Q (WE W σ) hr I.env0 b (kw.rel l1 l2 r rz) h) ?_)
  intro res s' hq
  match res, hq with
  | .error er, hq => exact hx pins H s er s' I hq
  | .ok (.ret u), hq => exact I.after hq
  | .ok .next, hq => exact hq.elim
  | .ok .brk, hq => exact hq.elim
  | .ok .cont, hq => exact hq.elim
def tKw (n m : Nat) (sp : Sp) (π : {α : Type} → List α → List α → List α) (E : L2.St → XK) (t tk : TA) : TE := fun σ H Q =>
  t σ H fun vs H1 => tk σ H1 fun zs H2 => vs.length = n ∧ zs.length = m ∧ sp (π vs zs) H2 Q (E σ)
theorem pkw {j : Nat} {kws : List Keyword} {ks : List Str} {n : Nat} {π : {α : Type} → List α → List α → List α} (d : Df X.prog X.w X.K X.mg X.base k x st ps sp) (hr : Room j X.A) (kw : Kw x st ps ks n π) (wt : L2N.Takes X W)
    (ha : PA X (e :: es) t) (hkw : PK X kws tk) (hg : Gl X x := by rfl) (hall : (backToKw pos (keywordEach kws X.env)).all (·.1.isSome) = true := by rfl)
    (hks : (backToKw pos (keywordEach kws X.env)).filterMap (·.1) = ks := by rfl) (hdb : (x == ("__debug__" : Str)) = false := by decide)
    (he : starEach (e :: es) X.env = (false, eval e X.env) :: starEach es X.env := by rfl)
    (hpl : ((backTo pos (starEach (e :: es) X.env)).any (·.1) || (backToKw pos (keywordEach kws X.env)).any (·.1.isNone)) = false := by rfl) (hk : k ≤ j := by decide) :
    PE X (.Call (.Name x q) (e :: es) kws pos) (tKw n ks.length sp π (WE W) t tk) := by
  obtain ⟨f, fd, F, hm, G, B⟩ := d
  refine ⟨fun pins s σ H Q I h => wpAny_Call_Name_kw (ld_glob I hg hm ?_ hdb)⟩
  refine PySem.W.callWith_KW (h₀ := X.base) I.ok.mod.kin F.kp hall (thn (ha.run pos pins s σ H _ I h) ?_) hpl he
  rintro us s1 ⟨vs, H1, I1, r, c⟩
  refine thn (hkw.run pos pins s1 σ H1 _ I1 c) ?_
  rintro ws s2 ⟨zs, H2, I2, rz, l1, l2, c2⟩
  refine ⟨I2.kIn, ?_⟩
  rw [hks]
  exact run_kw F G (hr.mono hk) kw (passE wt σ) I2 r rz l1 l2 c2
theorem pkw0 {j : Nat} {kws : List Keyword} {ks : List Str} {π : {α : Type} → List α → List α → List α} (d : Df X.prog X.w X.K X.mg X.base k x st ps sp) (hr : Room j X.A) (kw : Kw x st ps ks 0 π) (wt : L2N.Takes X W)
    (hkw : PK X kws tk) (hg : Gl X x := by rfl) (hall : (backToKw pos (keywordEach kws X.env)).all (·.1.isSome) = true := by rfl)
    (hks : (backToKw pos (keywordEach kws X.env)).filterMap (·.1) = ks := by rfl) (hdb : (x == ("__debug__" : Str)) = false := by decide)
    (hpl : ((backTo pos (starEach [] X.env)).any (·.1) || (backToKw pos (keywordEach kws X.env)).any (·.1.isNone)) = false := by rfl) (hk : k ≤ j := by decide) :
    PE X (.Call (.Name x q) [] kws pos) (tKw 0 ks.length sp π (WE W) tNil tk) := by
  obtain ⟨f, fd, F, hm, G, B⟩ := d
  refine ⟨fun pins s σ H Q I h => wpAny_Call_Name_kw (ld_glob I hg hm ?_ hdb)⟩
  refine PySem.W.callWith_KW0 (h₀ := X.base) I.ok.mod.kin F.kp hall (thn (hkw.run pos pins s σ H _ I h) ?_) hpl
  rintro ws s2 ⟨zs, H2, I2, rz, l1, l2, c2⟩
  refine ⟨I2.kIn, ?_⟩
  rw [hks]
  exact run_kw (us := []) (vs := []) F G (hr.mono hk) kw (passE wt σ) I2 .nil rz rfl l2 c2
end

/-! ### own errors: class RowError(ValueError): pass; class X(RowError) with its __init__ -/
section
variable {X : Cx} {e o : Expr} {es : List Expr} {ta : TA} {p1 p2 pos : Pos}
/-- RowError.__init__(self, text) -/
theorem pe_rowinit {pl : Sem Bool} {R : Addr} {mc : Value} (hm : X.mg "RowError" = some (.ref R)) (cr : ClX.CRead X.K R mc)
    (at_ : PySem.W.findCls X.K (.ref R) mc "__init__" = some (.val (.builtin "ValueError.__init__"))) (ha : PA X (e :: es) ta) (hg : Gl X "RowError" := by rfl)
    (hc : eval (.Call (.Attribute (.Name "RowError" p1) "__init__" p2) (e :: es) [] pos) X.env = (do
      let ov ← eval (.Name "RowError" p1) X.env
      standAt p2.atName
      let (f, first) ← holding [ov] (getMethod ov "__init__" pl)
      callWith pos f first (backTo pos (starEach (e :: es) X.env)) (backToKw pos (keywordEach [] X.env))) := by rfl)
    (he : starEach (e :: es) X.env = (false, eval e X.env) :: starEach es X.env := by rfl) (hpl : (backTo pos (starEach es X.env)).any (·.1) = false := by rfl) :
    PE X (.Call (.Attribute (.Name "RowError" p1) "__init__" p2) (e :: es) [] pos) (tVeI X.K ta) := by
  refine ⟨fun pins s σ H Q I h => PySem.W.methodCall_KW (ld_glob I hg hm ?_) hc⟩
  refine PySem.W.method_cls I.kIn cr.ga (PySem.W.cls_value I.kIn cr.rd at_ (by decide +kernel) ?_)
  show wpAny _ _ (callWith pos (Value.builtin "ValueError.__init__") [] (backTo pos (starEach (e :: es) X.env)) []) _ _ _
  refine PyProof.Rows.callWith_method1 (thn (ha.run pos pins _ σ H _ (I.tok _) h) ?_) he hpl
  rintro us s1 ⟨vs, H1, I1, r1, a, C, ws, rfl, hl, T, ea, c⟩
  match us, r1 with
  | u0 :: ur, .cons ra rw' =>
    cases ra
    refine oinit_ok T I1 ea ?_ fun s' J => ⟨.non, H1, J, rfl, c⟩
    rw [← Paired.length rw', sizeLine_eq]
    omega
end

section
variable {X : Cx} {e : Expr} {es : List Expr} {ta : TA} {p pos pos' : Pos}

/-- what a new error's __init__ promises: the attributes fs, stored in this order -/
def spInit (C : Addr) (fs : List Str) : Sp := fun vs H Q _ => ∃ (a : Addr) (as : List V), vs = .ref a :: as ∧ as.length = fs.length ∧ H a = some (exo a C none) ∧
  ∀ dx, H dx = none → dx ≠ a → Q .non (upd (upd H dx (exd dx (fs.zip as).reverse)) a (exo a C (some dx)))
theorem del_upd {H : Hp} {a d : Addr} {o o' o2 u : HO} (na : H a = none) (nd : d ≠ a) :
    upd (del (upd (upd (upd H a o) d o') a o2) a) d u = upd H d u := by
  funext b
  by_cases h1 : b = d
  · rw [h1, upd_same, upd_same]
  · rw [upd_ne h1, upd_ne h1]
    by_cases h2 : b = a
    · rw [h2, del_same, na]
    · rw [del_ne h2, upd_ne h2, upd_ne h1, upd_ne h2]
/-- raise C(e, ..): behind it a new dict with the error's attributes -/
def tErr (C : Addr) (fs : List Str) (ta : TA) : L2.St → Hp → XK → Prop := fun σ H Q => ta σ H fun vs H1 => vs.length = fs.length ∧ vs.length ≤ 1000 ∧ ∀ d, H1 d = none → Q (.ref C) (some d) (upd H1 d (.xd (fs.zip vs).reverse))
/-- C(e, ..) by its own __init__, where nothing is handled: the new exception has no context -/
theorem pmk_err {x : Str} {C fI : Addr} {k : Nat} {fd : FuncData} {ps fs : List Str} (T : OexC X.K C) (iC : PySem.W.findIn X.K (.ref C) "__init__" = some (some (.ref fI)))
    (tI : PySem.W.typeIn X.K (.ref fI) = some (.type "function")) (G : FnOk X.prog X.w X.K X.mg X.base (L2N.CX X.prog X.w) k fI fd ps (spInit C fs)) (hr : Room (k + 1) X.A) (hb : Binds X.K fd ps [])
    (hg : Gl X x) (hm : X.mg x = some (.ref C)) (ha : PA X (e :: es) ta) (hdb : (x == ("__debug__" : Str)) = false := by decide)
    (he : starEach (e :: es) X.env = (false, eval e X.env) :: starEach es X.env := by rfl) (hpl : (backTo pos (starEach es X.env)).any (·.1) = false := by rfl) :
    L2N.PMk X (.Call (.Name x p) (e :: es) [] pos) (tErr C fs ta) := by
  intro pins s σ H Q I h
  obtain ⟨nm, qn, N, bs, bm, sn, sub, ab, col, dd, k0, k1, k2, k3, k5, hC, hbm⟩ := T.cls
  refine wpAny_Call_Name_kw (ld_glob I hg hm ?_ hdb)
  refine PySem.W.callWith_K (h₀ := X.base) I.ok.mod.kin T.kC (thn (ha.run pos pins s σ H _ I h) ?_) he hpl
  rintro us ⟨hp, g, dr, tk, os⟩ ⟨vs, H1, I1, r1, hlen, hz, q1⟩
  refine ⟨I1.kIn, ?_⟩
  show wpAny _ _ (call (.ref C) us) _ _ _
  -- the new exception stands at m
  obtain ⟨m, em⟩ : ∃ m, m = hp.objs.size + 1 := ⟨_, rfl⟩
  have mz : hp.objs.size ≤ m := by omega
  have nm : H1 m = none := I1.hok.fresh mz
  have q2 : spInit C fs (.ref m :: vs) (upd H1 m (exo m C none))
      (fun v H2 => v = .non ∧ ∃ (d : Addr), H2 = upd (upd (upd H1 m (exo m C none)) d (exd d (fs.zip vs).reverse)) m (exo m C (some d)) ∧ H1 d = none ∧ d ≠ m) (fun _ _ _ => False) :=
    ⟨m, vs, rfl, hlen, upd_same, fun dx n1 n2 => ⟨rfl, dx, rfl, by rw [upd_ne n2] at n1; exact n1, n2⟩⟩
  have old : ∀ b o, hp.get? b = some o → ((hp.push (PySem.W.kdv_tup us)).push (PySem.HandSPX.excO C hp.objs.size)).get? b = some o := fun b o z =>
    Heap.get?_push_of_some _ (Heap.get?_push_of_some _ z)
  have here : ((hp.push (PySem.W.kdv_tup us)).push (PySem.HandSPX.excO C hp.objs.size)).get? m = some (PySem.HandSPX.excO C hp.objs.size) := by
    rw [em]
    heap_get
  have J : Inv X pins σ (upd H1 m (exo m C none)) ⟨(hp.push (PySem.W.kdv_tup us)).push (PySem.HandSPX.excO C hp.objs.size), g, dr, tk, os⟩ := I1.laid (t' := tk) old mz (exo_ok here)
  have rr : Vals (V.ref m :: vs) (Value.ref m :: us) := .cons rfl r1
  have hl : (Value.ref m :: us ++ []).length = ps.length := by
    rw [List.append_nil, ← Paired.length rr]
    exact G.len _ _ _ _ q2
  have bb := hb ⟨(hp.push (PySem.W.kdv_tup us)).push (PySem.HandSPX.excO C hp.objs.size), g, dr, tk, os⟩ (Value.ref m :: us) J.kIn hl
  rw [List.append_nil] at bb
  have hus : us.length ≤ sizeLine := by
    rw [← Paired.length r1, sizeLine_eq]
    omega
  refine wpAny_call (PySem.HandSPX.call_own F.excBase_ValueError (fun Y => PySem.HandSPX.refsVE_contains Y bm hbm) (I1.kIn _ _ hC) (PySem.W.looks_findIn I1.kIn iC)
    (fun self => PySem.W.bind_fn I1.kIn self tI) hus ?_)
  subst em
  refine codeAny_mono (G.run _ X.stack _ _ ⟨Value.ref (hp.objs.size + 1) :: us, []⟩ _ _ _ (fun _ _ _ => False) (hr.make C us []) (J.env0.make C us []) bb rr q2) ?_
  intro res s' hq
  match res, hq with
  | .error er, hq =>
    obtain ⟨_, _, _, _, _, _, _, _, _, _, _, _, z⟩ := hq
    exact z.elim
  | .ok .next, hq => exact hq.elim
  | .ok .brk, hq => exact hq.elim
  | .ok .cont, hq => exact hq.elim
  | .ok (.ret u), hq =>
    obtain ⟨v, H2, os2, bare2, un2, hok2, rv, rfl, d, rfl, hd1, nd⟩ := hq
    obtain ⟨h2, g2, d2, t2, os'⟩ := s'
    have ea : (upd (upd (upd H1 (hp.objs.size + 1) (exo (hp.objs.size + 1) C none)) d (exd d (fs.zip vs).reverse)) (hp.objs.size + 1) (exo (hp.objs.size + 1) C (some d))) (hp.objs.size + 1) = some (exo (hp.objs.size + 1) C (some d)) := upd_same
    have ed : (upd (upd (upd H1 (hp.objs.size + 1) (exo (hp.objs.size + 1) C none)) d (exd d (fs.zip vs).reverse)) (hp.objs.size + 1) (exo (hp.objs.size + 1) C (some d))) d = some (exd d (fs.zip vs).reverse) := by
      rw [upd_ne nd, upd_same]
    obtain ⟨t0, G0, J0, kG, ge, hoe, na⟩ := mk_end0 (d2 := d2) (t2 := t2) I1 mz old un2 hok2 os2 bare2 ea ed hd1
    rw [del_upd nm nd] at J0 na
    exact ⟨rv, ⟨_, _, _, ⟨G0, g2, d2, t2, os'⟩, _, .ref C, some d, rfl, J0, kG, ge, hoe, ⟨rfl, rfl, fun vs z => by cases z; rfl⟩, rfl, rfl, na, rfl, bare2, raises_own T.exC T.tyC, q1 d hd1⟩⟩

/-- what is known of an own error: its class object at C -/
structure Er (K : PySem.W.Frag) (mg : Str → Option Value) (x : Str) (C : Addr) : Prop where
  gC : mg x = some (.ref C)
  oex : OexC K C
  xf : XfC K C
  rows : PySem.W.isClsIn K C = true
/-- .. and its __init__ keeps its promise -/
def Em (P : Program) (w : World) (K : PySem.W.Frag) (mg : Str → Option Value) (base : Heap) (k : Nat) (x : Str) (C : Addr) (fs : List Str) : Prop :=
  Er K mg x C ∧ (∀ f ∈ fs, PySem.W.findIn K (.ref C) f = some none) ∧ ∃ fI fd ps, PySem.W.findIn K (.ref C) "__init__" = some (some (.ref fI)) ∧ PySem.W.typeIn K (.ref fI) = some (.type "function") ∧
    FnOk P w K mg base (L2N.CX P w) k fI fd ps (spInit C fs) ∧ Binds K fd ps []
theorem ps_err {j : Nat} {x : Str} {C : Addr} {k : Nat} {fs : List Str} {W : WX} (m : Em X.prog X.w X.K X.mg X.base k x C fs) (hr : Room j X.A) (tk : L2N.Takes X W) (ha : PA X (e :: es) ta)
    (hc : X.calm = true := by rfl) (hg : Gl X x := by rfl) (hdb : (x == ("__debug__" : Str)) = false := by decide)
    (h1 : starEach (e :: es) X.env = (false, eval e X.env) :: starEach es X.env := by rfl) (hpl : (backTo pos (starEach es X.env)).any (·.1) = false := by rfl) (hk : k + 1 ≤ j := by decide) :
    PS X (.Raise (some (.Call (.Name x p) (e :: es) [] pos)) none pos') (fun _ σ H => tErr C fs ta σ H fun cls d H' => W cls d σ H') := by
  obtain ⟨er, no, fI, fd, ps, iC, tI, G, B⟩ := m
  exact L2N.ps_raise hc tk (pmk_err er.oex iC tI G (hr.mono hk) B hg er.gC ha hdb h1 hpl)
/-- e.f of the error that an except suite holds -/
theorem pe_got {x f : Str} {C a : Addr} {oe : Obj} {d : Option Addr} {pn : List (Addr × Obj)} {fs : List Str} {te : TE} {k : Nat} (m : Em X.prog X.w X.K X.mg X.base k x C fs) (hf : f ∈ fs) (hz : L2N.Zn (.ref C) d oe)
    (hd : ∃ vs, oe.data = .fields vs) (he : PE (X.suite a ((a, oe) :: pn)) e te) (hb : attributeBase e f X.env (eval e X.env) = eval e X.env := by rfl) :
    PE (X.suite a ((a, oe) :: pn)) (.Attribute e f pos) (tXf a (.ref C) d C f te) := pe_xf m.1.xf (m.2.1 f hf) hz.zc hd he hb
end

/-! ### try with several except clauses, with names or without -/
def asEnds (o : Option Nat) (D : Ends) : Ends := match o with
  | none => D
  | some i => { nx := fun σ' H' => D.nx (σ'.set i none) H', rt := D.rt, bk := fun σ' H' => D.bk (σ'.set i none) H', ct := fun σ' H' => D.ct (σ'.set i none) H' }
def asSt (o : Option Nat) (a : Addr) (σ : L2.St) : L2.St := match o with
  | none => σ
  | some i => σ.set i (some (.ref a))
abbrev Clause := Value × Option Nat × (Addr → Value → Option Addr → TS)
def wCl (K : PySem.W.Frag) (Wout : WX) (D : Ends) : List Clause → WX
  | [] => Wout
  | (c, o, ts) :: r => fun cls d σ H => ∃ b, PySem.W.exmOne K cls c = some b ∧ (b = true → ∀ a, H a = none → ts a cls d (asEnds o D) (asSt o a σ) H) ∧ (b = false → wCl K Wout D r cls d σ H)
inductive Cls (X : Cx) : List ExceptHandler → List Clause → Prop
  | nil : Cls X [] []
  | one {x : Str} {c : Value} {ts : Addr → Value → Option Addr → TS} {b₀ : Stmt} {suite : List Stmt} {np pos' : Pos} {hds : List ExceptHandler} {l : List Clause} (hc : Names X x c)
      (hsu : ∀ (a : Addr) (oe : Obj) (cls : Value) (d : Option Addr) (pn : List (Addr × Obj)), L2N.Zn cls d oe → (∃ vs, oe.data = .fields vs) → PSs (X.suite a ((a, oe) :: pn)) (b₀ :: suite) (ts a cls d)) (r : Cls X hds l) :
      Cls X (.ExceptHandler (some (.Name x np)) none (b₀ :: suite) pos' :: hds) ((c, none, ts) :: l)
  | as {x n : Str} {i : Nat} {c : Value} {ts : Addr → Value → Option Addr → TS} {b₀ : Stmt} {suite : List Stmt} {np pos' : Pos} {hds : List ExceptHandler} {l : List Clause} (hc : Names X x c)
      (hi : X.N[i]? = some n) (hln : X.env.kindOf n = some .local)
      (hsu : ∀ (a : Addr) (oe : Obj) (cls : Value) (d : Option Addr) (pn : List (Addr × Obj)), L2N.Zn cls d oe → (∃ vs, oe.data = .fields vs) → PSs (X.suite a ((a, oe) :: pn)) (b₀ :: suite) (ts a cls d)) (r : Cls X hds l) :
      Cls X (.ExceptHandler (some (.Name x np)) (some n) (b₀ :: suite) pos' :: hds) ((c, some i, ts) :: l)
section
variable {X : Cx} {body : List Stmt} {h₀ : ExceptHandler} {hds : List ExceptHandler} {l : List Clause} {pos : Pos} {tb : WX → TS} {Wout : WX}
theorem ps_tryc (hN : X.N.Nodup) (tk : L2N.Takes X Wout)
    (hb : ∀ (W : WX) (pn : List (Addr × Obj)) (xe : Value → Shared → Prop), L2N.Takes (X.tr pn xe) W → PassesOwn (model X.prog X.w) X.A X.env xe → PSs (X.tr pn xe) body (tb W))
    (hh : Cls X (h₀ :: hds) l) (hs : X.stack = X.env :: X.outer := by rfl) (hf : X.env.frame = some X.env.locals := by rfl) :
    PS X (.Try body (h₀ :: hds) [] [] pos) (fun D σ H => tb (wCl X.K Wout D l) D σ H) := by
  refine ⟨fun pins s σ H D I h => ?_⟩
  have ok := I.ok
  have hfr : X.A.frames = some (X.env :: X.outer) := by rw [ok.frames, hs]
  refine wpAny_Try_except ?_
  have run := (hb (wCl X.K Wout D l) (X.pn ++ pins) (fun e s₁ => wpAny (model X.prog X.w) X.A (noteFrame e X.env) (fun _ s₂ => wpAny (model X.prog X.w) X.A (setFlight e none)
    (fun _ s₃ => wpAny (model X.prog X.w) X.A (handleBy e X.env (h₀ :: hds)) (SP X pins D) X.xe s₃) X.xe s₂) X.xe s₁) ?caught PassesOwn.looking).run [] s σ H D (I.toTry _) h
  · refine wpAny_mono run ?_ (fun _ _ z => z)
    intro f s1 hsp
    match f, hsp with
    | .next, ⟨σ', H', J', q⟩ => exact wpAny_execs_nil ⟨σ', H', J'.ofTry ok, q⟩
    | .brk, ⟨σ', H', J', q⟩ => exact ⟨σ', H', J'.ofTry ok, q⟩
    | .cont, ⟨σ', H', J', q⟩ => exact ⟨σ', H', J'.ofTry ok, q⟩
    | .ret u, ⟨v, σ', H', J', r, q⟩ => exact ⟨v, σ', H', J'.ofTry ok, r, q⟩
  case caught =>
    rintro u s' ⟨a, B, sI, pins', σ', H', cls, d, rfl, J', nb, up, sky, na, os, ag, w⟩
    have J : Inv X pins σ' H' sI := J'.ofTry ok
    have sky' : Sky B (X.env :: X.outer) a (L2N.Zn cls d) X.env.locals s'.heap := by rw [← hs]; exact sky
    show wpAny (model X.prog X.w) X.A (noteFrame (.ref a) X.env) _ _ _
    refine L2N.Sky.land L2N.Zn.steady hfr hf sky' fun h3 fl3 up3 => ?_
    have J3 : Inv X pins σ' H' { s' with heap := h3 } := J.landed nb fl3.1 (up.trans up3) os ag
    obtain ⟨oe3, vs3, he3, hz3, hd3⟩ := fl3.there
    have nfr : a ∉ frs (X.env :: X.outer) := by
      intro hm
      obtain ⟨_, o', e', hnf⟩ := fl3.2.2.1.mem hm
      rw [he3] at e'
      cases e'
      exact hnf _ hd3
    have nL : a ≠ X.env.locals := by
      intro z
      exact nfr (List.mem_filterMap.mpr ⟨X.env, List.mem_cons_self, by rw [hf, z]⟩)
    have nF : a ∉ X.fs := by
      intro hm
      obtain ⟨e, he, q⟩ := List.mem_filterMap.mp hm
      exact nfr (List.mem_filterMap.mpr ⟨e, List.mem_cons_of_mem _ he, q⟩)
    have S3 := J3.suite he3 hd3 na nL nF
    have LT : PySem.W.Looks (model X.prog X.w) h3 (typeOf (.ref a)) cls := fun A Q E s k q => wpAny_typeOf_ref (k _ _ he3) (by rw [hz3.1]; exact q)
    have test : ∀ {x : Str} {c : Value} {np : Pos} {Q : Value → Shared → Prop} {E : Value → Shared → Prop}, Names X x c → Q c { s' with heap := h3 } →
        wpAny (model X.prog X.w) (X.A.mark (some (.ref a))) (eval (.Name x np) X.env) Q E { s' with heap := h3 } := by
      intro x c np Q E hc q
      obtain ⟨hg, hdbg, hm | ⟨hm, hv, hnn⟩⟩ := hc
      · exact ld_glob (X := X.suite a ((a, oe3) :: (X.pn ++ pins))) S3 hg hm q hdbg
      · exact ld_blt (X := X.suite a ((a, oe3) :: (X.pn ++ pins))) S3 hg hm hv q hnn hdbg
    have go : ∀ {hds' : List ExceptHandler} {l' : List Clause}, Cls X hds' l' → wCl X.K Wout D l' cls d σ' H' →
        wpAny (model X.prog X.w) X.A (handleBy (.ref a) X.env hds') (SP X pins D) X.xe { s' with heap := h3 } := by
      intro hds' l' hk
      induction hk with
      | nil =>
        intro w
        refine wpAny_handleBy_nil ?_
        obtain ⟨k1, k2, k3, oe, vs, T, oT, ts', he, hz, hd, h1, hr⟩ := id fl3
        unfold PySem.passOn
        refine wpAny_bind (wpAny_field he hd h1 ?_)
        rw [if_neg (show ¬ ((Value.ref T == Value.none) = true) from by simp)]
        have fin : wpAny (model X.prog X.w) X.A (setFlight (.ref a) X.env.frame) (fun _ s4 => wpAny (model X.prog X.w) X.A (throw (.ref a) : Sem Flow) (SP X pins D) X.xe s4) X.xe { s' with heap := h3 } := by
          rw [hf]
          refine HandSPX.setFlight_upZ fl3 fun h4 hh4 up4 => wpAny_throw (tk _ _ ?_)
          exact ⟨a, B, sI, pins, σ', H', cls, d, rfl, J, nb, (up.trans up3).trans up4, .inr (.inr (by rw [hs]; exact hh4)), na, os, ag, w⟩
        first
          | exact wpAny_bind (wpAny_pure (wpAny_bind fin))
          | exact wpAny_bind fin
      | one hc hsu r ih =>
        rintro ⟨b, hb1, hyes, hno⟩
        refine wpAny_handleBy_cons (codeAny_handlers_test ?_) (by intro q; cases q)
        refine test hc ((PySem.W.exm_one (M := model X.prog X.w) J3.kIn LT hb1).here ?_)
        cases b with
        | false => exact ih (hno rfl)
        | true =>
          refine codeAny_handlers_suite (HandSPX.lands_againZ fl3 fun h4 fl4 up4 => ?_)
          have J4 : Inv X pins σ' H' { s' with heap := h4 } := J.landed nb fl4.1 ((up.trans up3).trans up4) os ag
          obtain ⟨oe4, vs4, he4, hz4, hd4⟩ := fl4.there
          have S4 := J4.suite he4 hd4 na nL nF
          refine wpAny_mono ((hsu a oe4 cls d (X.pn ++ pins) hz4 ⟨_, hd4⟩).run [] _ _ H' _ S4 (hyes rfl a na)) ?_ (fun _ _ z => z.elim)
          intro f s6 hsp
          match f, hsp with
          | .next, ⟨σ6, H6, S6, q6⟩ => exact ⟨_, _, S6.unsuite ok, q6⟩
          | .brk, ⟨σ6, H6, S6, q6⟩ => exact ⟨_, _, S6.unsuite ok, q6⟩
          | .cont, ⟨σ6, H6, S6, q6⟩ => exact ⟨_, _, S6.unsuite ok, q6⟩
          | .ret u, ⟨v6, σ6, H6, S6, r6, q6⟩ => exact ⟨_, _, _, S6.unsuite ok, r6, q6⟩
      | @as x n i c ts b₀ suite np pos' hds l hc hi hln hsu r ih =>
        rintro ⟨b, hb1, hyes, hno⟩
        refine wpAny_handleBy_cons (codeAny_handlers_test ?_) (by intro q; cases q)
        refine test hc ((PySem.W.exm_one (M := model X.prog X.w) J3.kIn LT hb1).here ?_)
        cases b with
        | false => exact ih (hno rfl)
        | true =>
          refine codeAny_handlers_suite_as (HandSPX.lands_againZ fl3 fun h4 fl4 up4 => ?_)
          have J4 : Inv X pins σ' H' { s' with heap := h4 } := J.landed nb fl4.1 ((up.trans up3).trans up4) os ag
          obtain ⟨oe4, vs4, he4, hz4, hd4⟩ := fl4.there
          have S4 := J4.suite he4 hd4 na nL nF
          have hloc : Loc X.env.scope n := .inl hln
          refine store_ok (X := X.suite a ((a, oe4) :: (X.pn ++ pins))) (v := .ref a) S4 hN hi hloc rfl (fun s5 S5 => ?_) (.inr hln)
          refine wpAny_mono ((hsu a oe4 cls d (X.pn ++ pins) hz4 ⟨_, hd4⟩).run [] s5 _ H' _ S5 (hyes rfl a na)) ?_ (fun _ _ z => z.elim)
          intro f s6 hsp
          have fin : ∀ {σ6 : L2.St} {H6 : Hp} {Q : Shared → Prop}, Inv (X.suite a ((a, oe4) :: (X.pn ++ pins))) [] σ6 H6 s6 → (∀ s7, Inv X pins (σ6.set i none) H6 s7 → Q s7) →
              wpAny (model X.prog X.w) X.A (do bindName X.env n .none; unbindBehindTheSuite X.env n pos') (fun _ s7 => Q s7) X.xe s6 := fun S6 hq => gone_ok (S6.unsuite ok) hN hi hln hq
          match f, hsp with
          | .next, ⟨σ6, H6, S6, q6⟩ => exact fin S6 fun s7 J7 => ⟨_, _, J7, q6⟩
          | .brk, ⟨σ6, H6, S6, q6⟩ => exact fin S6 fun s7 J7 => ⟨_, _, J7, q6⟩
          | .cont, ⟨σ6, H6, S6, q6⟩ => exact fin S6 fun s7 J7 => ⟨_, _, J7, q6⟩
          | .ret u, ⟨v6, σ6, H6, S6, r6, q6⟩ => exact fin S6 fun s7 J7 => ⟨_, _, _, J7, r6, q6⟩
    exact go hh w
end
end Cr

/-! Operators by values for any kinds of values, each with the ways into its reading. -/
namespace Cr
open PySem PySem.Spec PyProof.Rows L2
section
variable {X : Cx} {K : PySem.W.Frag} {σ : L2.St} {H : Hp} {Q : VK} {x y z v : V} {i j n : Int} {a b p : Addr} {xs ys : List V} {s t : Str} {k : Bool}

theorem same0 {o : HO} (h : H p = none) : Same H (upd H p o) := fun b x e => by
  rw [upd_ne (ne_of_none e h)]
  exact e
/-! ### sums, products -/
def rAddU (K : PySem.W.Frag) : R2 := fun x y H Q => (∃ i j, x = .int i ∧ y = .int j ∧ Q (.int (i + j)) H) ∨ (∃ i j, x = .str i ∧ y = .str j ∧ i.length + j.length ≤ sizeLine ∧ Q (.str (i ++ j)) H) ∨ rCat x y H Q ∨ rCatA K x y H Q
theorem o_add : OpR X (binaryOp .Add) (rAddU X.K) := by
  intro pins s σ H x y v u Q I rx ry q
  rcases q with q | q | q | q
  · exact op_add pins s σ H x y v u Q I rx ry q
  · exact op_add_str pins s σ H x y v u Q I rx ry q
  · exact op_cat pins s σ H x y v u Q I rx ry q
  · exact op_catA pins s σ H x y v u Q I rx ry q
theorem add_ii (q : Q (.int (i + j)) H) : rAddU K (.int i) (.int j) H Q := .inl ⟨_, _, rfl, rfl, q⟩
theorem add_ss (h : s.length + t.length ≤ sizeLine) (q : Q (.str (s ++ t)) H) : rAddU K (.str s) (.str t) H Q := .inr (.inl ⟨_, _, rfl, rfl, h, q⟩)
theorem add_ll (ha : H a = some (.lst xs)) (hb : H b = some (.lst ys)) (h : xs.length + ys.length ≤ sizeLine) (q : ∀ p H', H p = none → Same H H' → H' p = some (.lst (xs ++ ys)) → Q (.ref p) H') : rAddU K (.ref a) (.ref b) H Q :=
  .inr (.inr (.inl ⟨_, _, _, _, rfl, rfl, ha, hb, h, fun p n => q p _ n (same0 n) upd_same⟩))
theorem add_tt (ha : SqT K H a xs) (hb : SqT K H b ys) (h : xs.length + ys.length ≤ sizeLine) (q1 : xs = [] → Q (.ref b) H) (q2 : xs ≠ [] → ys = [] → Q (.ref a) H) (q : xs ≠ [] → ys ≠ [] → ∀ p H', H p = none → Same H H' → H' p = some (.tup (xs ++ ys)) → Q (.ref p) H') : rAddU K (.ref a) (.ref b) H Q :=
  .inr (.inr (.inr ⟨_, _, _, _, rfl, rfl, ha, hb, h, q1, q2, fun z1 z2 p n => q z1 z2 p _ n (same0 n) upd_same⟩))
def rMulU (K : PySem.W.Frag) : R2 := fun x y H Q => (rI CMul fun i j => .int (i * j)) x y H Q ∨ (rI CMulW fun i j => .int (i * j)) x y H Q ∨ rRep x y H Q ∨ rRepT K x y H Q
theorem o_mul : OpR X (binaryOp .Mult) (rMulU X.K) := by
  intro pins s σ H x y v u Q I rx ry q
  rcases q with q | q | q | q
  · exact op_mul pins s σ H x y v u Q I rx ry q
  · exact op_mulW pins s σ H x y v u Q I rx ry q
  · exact op_rep pins s σ H x y v u Q I rx ry q
  · exact op_repT pins s σ H x y v u Q I rx ry q
theorem mul_ii (c : CMul i j) (q : Q (.int (i * j)) H) : rMulU K (.int i) (.int j) H Q := .inl ⟨_, _, rfl, rfl, c, q⟩
theorem mul_iw (c : CMulW i j) (q : Q (.int (i * j)) H) : rMulU K (.int i) (.int j) H Q := .inr (.inl ⟨_, _, rfl, rfl, c, q⟩)
theorem mul_li (ha : H a = some (.lst xs)) (h1 : -(2 ^ 63) ≤ i) (h2 : i < 2 ^ 63) (h : xs.length * i.toNat ≤ sizeLine) (q : ∀ p H', H p = none → Same H H' → H' p = some (.lst (List.replicate i.toNat xs).flatten) → Q (.ref p) H') : rMulU K (.ref a) (.int i) H Q :=
  .inr (.inr (.inl ⟨_, _, _, rfl, rfl, ha, h1, h2, h, fun p n => q p _ n (same0 n) upd_same⟩))
theorem mul_ti (ha : SqT K H a xs) (h0 : xs ≠ []) (h1 : 2 ≤ i) (h2 : i ≤ 1000) (h : xs.length ≤ 1000) (q : ∀ p H', H p = none → Same H H' → H' p = some (.tup (List.replicate i.toNat xs).flatten) → Q (.ref p) H') : rMulU K (.ref a) (.int i) H Q :=
  .inr (.inr (.inr ⟨_, _, _, rfl, rfl, ha, h0, h1, h2, h, fun p n => q p _ n (same0 n) upd_same⟩))
abbrev rSubU : R2 := rI0 fun i j => .int (i - j)
theorem o_sub : OpR X (binaryOp .Sub) rSubU := op_sub
theorem sub_ii (q : Q (.int (i - j)) H) : rSubU (.int i) (.int j) H Q := ⟨_, _, rfl, rfl, q⟩
abbrev rDivU : R2 := rI CDivW fun i j => .int (i / j)
theorem o_fdiv : OpR X (binaryOp .FloorDiv) rDivU := op_fdivW
theorem div_ii (c : CDivW i j) (q : Q (.int (i / j)) H) : rDivU (.int i) (.int j) H Q := ⟨_, _, rfl, rfl, c, q⟩
abbrev rModU : R2 := rI (fun _ j => 0 < j) fun i j => .int (i % j)
theorem o_mod : OpR X (binaryOp .Mod) rModU := op_mod
theorem mod_ii (c : 0 < j) (q : Q (.int (i % j)) H) : rModU (.int i) (.int j) H Q := ⟨_, _, rfl, rfl, c, q⟩
abbrev rPowU : R2 := rI CPow fun i j => .int (i ^ j.toNat)
theorem o_pow : OpR X (binaryOp .Pow) rPowU := op_pow
theorem pow_ii (c : CPow i j) (q : Q (.int (i ^ j.toNat)) H) : rPowU (.int i) (.int j) H Q := ⟨_, _, rfl, rfl, c, q⟩
theorem neg_i (q : Q (.int (-i)) H) : (rU fun i => .int (-i)) (.int i) H Q := ⟨_, rfl, q⟩

/-! ### comparisons -/
abbrev rLtU : R2 := fun x y H Q => (∃ i j, x = .int i ∧ y = .int j ∧ Q (.bl (decide (i < j))) H) ∨ (∃ i j, x = .str i ∧ y = .str j ∧ Q (.bl (decide (i.cps.toList < j.cps.toList))) H)
theorem o_lt : OpR X (compareOp .Lt) rLtU := OpR.or op_lt op_lt_str
theorem lt_ii (q : Q (.bl (decide (i < j))) H) : rLtU (.int i) (.int j) H Q := .inl ⟨_, _, rfl, rfl, q⟩
theorem lt_ss (q : Q (.bl (decide (s.cps.toList < t.cps.toList))) H) : rLtU (.str s) (.str t) H Q := .inr ⟨_, _, rfl, rfl, q⟩
abbrev rLeU : R2 := rI0 fun i j => .bl (decide (i ≤ j))
theorem o_le : OpR X (compareOp .LtE) rLeU := op_le
theorem le_ii (q : Q (.bl (decide (i ≤ j))) H) : rLeU (.int i) (.int j) H Q := ⟨_, _, rfl, rfl, q⟩
abbrev rGtU : R2 := rI0 fun i j => .bl (decide (j < i))
theorem o_gt : OpR X (compareOp .Gt) rGtU := op_gt
theorem gt_ii (q : Q (.bl (decide (j < i))) H) : rGtU (.int i) (.int j) H Q := ⟨_, _, rfl, rfl, q⟩
abbrev rGeU : R2 := rI0 fun i j => .bl (decide (j ≤ i))
theorem o_ge : OpR X (compareOp .GtE) rGeU := op_ge
theorem ge_ii (q : Q (.bl (decide (j ≤ i))) H) : rGeU (.int i) (.int j) H Q := ⟨_, _, rfl, rfl, q⟩
def rEqU (K : PySem.W.Frag) : R2 := fun x y H Q => (scal x y = true ∧ Q (.bl (decide (x = y))) H) ∨ rEqD K x y H Q
theorem o_eq (hu : X.A.units + 64 < cLine) : OpR X (compareOp .Eq) (rEqU X.K) := OpR.or op_eq (op_eqD hu)
theorem eq_ii (q : Q (.bl (decide (i = j))) H) : rEqU K (.int i) (.int j) H Q := .inl ⟨rfl, by
  have e : decide (V.int i = V.int j) = decide (i = j) := by simp
  rw [e]
  exact q⟩
theorem eq_ss (q : Q (.bl (decide (s = t))) H) : rEqU K (.str s) (.str t) H Q := .inl ⟨rfl, by
  have e : decide (V.str s = V.str t) = decide (s = t) := by simp
  rw [e]
  exact q⟩
theorem eq_bb {k l : Bool} (q : Q (.bl (decide (k = l))) H) : rEqU K (.bl k) (.bl l) H Q := .inl ⟨rfl, by
  have e : decide (V.bl k = V.bl l) = decide (k = l) := by simp
  rw [e]
  exact q⟩
theorem eq_dd {d e : PyData} (h1 : Dp K H x d) (h2 : Dp K H y e) (h3 : SeqAt.shaped d = true) (h4 : SeqAt.shaped e = true) (q : Q (.bl (PyData.eqv d e)) H) : rEqU K x y H Q := .inr ⟨d, e, h1, h2, h3, h4, q⟩
def rNeU (K : PySem.W.Frag) : R2 := fun x y H Q => (scal x y = true ∧ Q (.bl (!decide (x = y))) H) ∨ rNeD K x y H Q
theorem o_ne (hu : X.A.units + 64 < cLine) : OpR X (compareOp .NotEq) (rNeU X.K) := OpR.or op_ne (op_neD hu)
theorem ne_ii (q : Q (.bl (!decide (i = j))) H) : rNeU K (.int i) (.int j) H Q := .inl ⟨rfl, by
  have e : decide (V.int i = V.int j) = decide (i = j) := by simp
  rw [e]
  exact q⟩
theorem ne_ss (q : Q (.bl (!decide (s = t))) H) : rNeU K (.str s) (.str t) H Q := .inl ⟨rfl, by
  have e : decide (V.str s = V.str t) = decide (s = t) := by simp
  rw [e]
  exact q⟩
theorem ne_bb {k l : Bool} (q : Q (.bl (!decide (k = l))) H) : rNeU K (.bl k) (.bl l) H Q := .inl ⟨rfl, by
  have e : decide (V.bl k = V.bl l) = decide (k = l) := by simp
  rw [e]
  exact q⟩
theorem ne_dd {d e : PyData} (h1 : Dp K H x d) (h2 : Dp K H y e) (h3 : SeqAt.shaped d = true) (h4 : SeqAt.shaped e = true) (q : Q (.bl (!PyData.eqv d e)) H) : rNeU K x y H Q := .inr ⟨d, e, h1, h2, h3, h4, q⟩
abbrev rIsU : R2 := fun x y H Q => (y = .non ∧ Q (.bl (decide (x = .non))) H) ∨ (∃ a b, x = .bl a ∧ y = .bl b ∧ Q (.bl (decide (a = b))) H)
theorem o_is : OpR X (compareOp .Is) rIsU := OpR.or op_isN op_is_bl
theorem is_n (q : Q (.bl (decide (x = .non))) H) : rIsU x .non H Q := .inl ⟨rfl, q⟩
theorem is_bb {k l : Bool} (q : Q (.bl (decide (k = l))) H) : rIsU (.bl k) (.bl l) H Q := .inr ⟨_, _, rfl, rfl, q⟩
abbrev rIsnU : R2 := fun x y H Q => (y = .non ∧ Q (.bl (!decide (x = .non))) H) ∨ (∃ a b, x = .bl a ∧ y = .bl b ∧ Q (.bl (!decide (a = b))) H)
theorem o_isnot : OpR X (compareOp .IsNot) rIsnU := OpR.or op_notN op_isnot_bl
theorem isn_n (q : Q (.bl (!decide (x = .non))) H) : rIsnU x .non H Q := .inl ⟨rfl, q⟩
def rInU (K : PySem.W.Frag) : R2 := fun x y H Q => rIn K false x y H Q ∨ (∃ (c : Nat) (z : Str), x = .str ⟨#[c]⟩ ∧ y = .str z ∧ Q (.bl (decide (c ∈ z.cps.toList))) H)
theorem o_in : OpR X (compareOp .In) (rInU X.K) := OpR.or op_in_seq op_in_sign
def rNinU (K : PySem.W.Frag) : R2 := fun x y H Q => rIn K true x y H Q ∨ (∃ (c : Nat) (z : Str), x = .str ⟨#[c]⟩ ∧ y = .str z ∧ Q (.bl (!decide (c ∈ z.cps.toList))) H)
theorem o_nin : OpR X (compareOp .NotIn) (rNinU X.K) := OpR.or op_notIn_seq op_notIn_sign

/-! ### subscripts, len, built-ins -/
theorem ix_l (h : SqL K H a xs) (e : atI xs i = some v) (q : Q v H) : rIx K (.ref a) (.int i) H Q := .inl ⟨_, _, _, _, rfl, rfl, h, e, q⟩
theorem ix_t (h : SqT K H a xs) (e : atI xs i = some v) (q : Q v H) : rIx K (.ref a) (.int i) H Q := .inr (.inl ⟨_, _, _, _, rfl, rfl, h, e, q⟩)
theorem ix_s {c : Nat} (h : s.length ≤ sizeLine) (e : atI s.cps.toList i = some c) (q : Q (.str ⟨#[c]⟩) H) : rIx K (.str s) (.int i) H Q := .inr (.inr ⟨_, _, _, rfl, rfl, h, e, q⟩)
def rSliU (K : PySem.W.Frag) : V → Option Int → Option Int → Hp → VK → Prop := fun x lo hi H Q => rSlL K x lo hi H Q ∨ rSlS x lo hi H Q ∨ rSlA K x lo hi H Q
theorem s_any : SlR X (rSliU X.K) := SlR.or sl_list (SlR.or sl_str sl_tupA)
theorem sl_l {lo hi : Option Int} (h : SqL K H a xs) (q : ∀ p H', H p = none → Same H H' → H' p = some (.lst (cutV xs lo hi)) → Q (.ref p) H') : rSliU K (.ref a) lo hi H Q := .inl ⟨_, _, rfl, h, fun p n => q p _ n (same0 n) upd_same⟩
theorem sl_s {lo hi : Option Int} (h : s.length ≤ sizeLine) (q : Q (.str (cutS s lo hi)) H) : rSliU K (.str s) lo hi H Q := .inr (.inl ⟨_, rfl, h, q⟩)
def rLenU (K : PySem.W.Frag) : List V → Hp → VK → Prop := fun xs H Q => (∃ x n, xs = [x] ∧ LenV K x H n ∧ Q (.int n) H) ∨ (∃ a kvs, xs = [V.ref a] ∧ H a = some (.dK kvs) ∧ Q (.int kvs.length) H)
theorem c_len : CallR X (.builtin "len") (rLenU X.K) := CallR.or call_len call_lenD
theorem len_l (h : SqL K H a xs) (q : Q (.int xs.length) H) : rLenU K [.ref a] H Q := .inl ⟨_, _, rfl, .inl ⟨_, h, rfl⟩, q⟩
theorem len_t (h : SqT K H a xs) (q : Q (.int xs.length) H) : rLenU K [.ref a] H Q := .inl ⟨_, _, rfl, .inr ⟨_, h, rfl⟩, q⟩
theorem len_s (h : s.length ≤ sizeLine) (q : Q (.int s.length) H) : rLenU K [.str s] H Q := .inl ⟨_, _, rfl, ⟨h, rfl⟩, q⟩
theorem len_d {kvs : List (Key × V)} (h : H a = some (.dK kvs)) (q : Q (.int kvs.length) H) : rLenU K [.ref a] H Q := .inr ⟨_, _, rfl, h, q⟩
abbrev rIntU : List V → Hp → VK → Prop := fun xs H Q => (∃ i, xs = [.int i] ∧ Q (.int i) H) ∨ ∃ k, xs = [.bl k] ∧ Q (.int (if k then 1 else 0)) H
theorem c_int : CallR X (.type "int") rIntU := call_int1
theorem int_i (q : Q (.int i) H) : rIntU [.int i] H Q := .inl ⟨_, rfl, q⟩
theorem int_b (q : Q (.int (if k then 1 else 0)) H) : rIntU [.bl k] H Q := .inr ⟨_, rfl, q⟩
abbrev rAbsU : List V → Hp → VK → Prop := fun xs H Q => ∃ i, xs = [.int i] ∧ Q (.int (if i < 0 then -i else i)) H
theorem c_abs : CallR X (.builtin "abs") rAbsU := call_abs
theorem abs_i (q : Q (.int (if i < 0 then -i else i)) H) : rAbsU [.int i] H Q := ⟨_, rfl, q⟩
theorem sum_l {ns : List Int} (h : SqL K H a (ns.map V.int)) (q : Q (.int ns.sum) H) : rSum K [.ref a] H Q := ⟨_, _, rfl, h, q⟩
theorem all_l {bs : List Bool} (h : SqL K H a (bs.map V.bl)) (q : Q (.bl (bs.all id)) H) : rAll K [.ref a] H Q := ⟨_, _, rfl, h, q⟩
theorem any_l {bs : List Bool} (h : SqL K H a (bs.map V.bl)) (q : Q (.bl (bs.any id)) H) : rAny K [.ref a] H Q := ⟨_, _, rfl, h, q⟩
abbrev rMax2U : List V → Hp → VK → Prop := fun xs H Q => ∃ i j, xs = [.int i, .int j] ∧ Q (.int (if j > i then j else i)) H
abbrev rMin2U : List V → Hp → VK → Prop := fun xs H Q => ∃ i j, xs = [.int i, .int j] ∧ Q (.int (if j < i then j else i)) H
theorem c_max2 (hc : X.calm = true) : CallR X (.builtin "max") rMax2U := call_max2 hc
theorem c_min2 (hc : X.calm = true) : CallR X (.builtin "min") rMin2U := call_min2 hc
theorem max_2 (q : Q (.int (if j > i then j else i)) H) : rMax2U [.int i, .int j] H Q := ⟨_, _, rfl, q⟩
theorem min_2 (q : Q (.int (if j < i then j else i)) H) : rMin2U [.int i, .int j] H Q := ⟨_, _, rfl, q⟩
theorem isi_ty {n m : String} {k : Bool} (h : TyX K H x (.type n)) (e : kitB n m = some k) (q : Q (.bl k) H) : rIsi K [x, .ty m] H Q := ⟨_, _, _, _, _, rfl, .ty m, h, kit_ty e, q⟩
theorem isi_two {n m m' : String} {k k' : Bool} (h : TyX K H x (.type n)) (hT : H a = some (.tup [.ty m, .ty m'])) (e : kitB n m = some k) (e' : kitB n m' = some k') (q : Q (.bl (k || k')) H) : rIsiT K [x, .ref a] H Q := by
  refine ⟨_, _, _, _, [.type m, .type m'], _, rfl, hT, .cons (.ty m) (.cons (.ty m') .nil), h, ?_, q⟩
  refine kitAny_cons (kit_ty e) (fun z => ?_) (fun z => by rw [z]; rfl)
  rw [z]
  refine kitAny_cons (kit_ty e') (fun z' => ?_) (fun z' => by rw [z']; rfl)
  rw [z']
  exact kitAny_nil
theorem ty_l (h : H a = some (.lst xs)) : TyX K H (.ref a) (.type "list") := .base (.lst h)
theorem ty_t (h : H a = some (.tup xs)) : TyX K H (.ref a) (.type "tuple") := .base (.tup h)
theorem ty_d {kvs : List (Key × V)} (h : H a = some (.dK kvs)) : TyX K H (.ref a) (.type "dict") := .base (.dK h)

/-! ### the shapes of a reading -/
variable {te ta tb tc : TE} {tt tu : TT} {tr : TA} {ts tv : TS} {D : Ends} {r : R2} {Qb : Bool → Hp → Prop} {Ql : List V → Hp → Prop}
theorem w_var {m : Nat} (h : σ[m]? = some (some v)) (q : Q v H) : tVar m σ H Q := ⟨v, h, q⟩
theorem w_c (q : Q v H) : tC v σ H Q := q
theorem w_op (q : ta σ H fun x H1 => tb σ H1 fun y H2 => r x y H2 Q) : tOp r ta tb σ H Q := q
theorem w_un {ru : V → Hp → VK → Prop} (q : ta σ H fun x H1 => ru x H1 Q) : tUn ru ta σ H Q := q
theorem w_nil (q : Ql [] H) : tNil σ H Ql := q
theorem w_cons (q : ta σ H fun x H1 => tr σ H1 fun xs H2 => Ql (x :: xs) H2) : tCons ta tr σ H Ql := q
theorem w_cb {rc : List V → Hp → VK → Prop} (q : tr σ H fun vs H1 => rc vs H1 Q) : tCB rc tr σ H Q := q
theorem w_call {sp : Sp} {E : L2.St → XK} (q : tr σ H fun vs H1 => sp vs H1 Q (E σ)) : tCallS sp E tr σ H Q := q
theorem w_test (q : ta σ H fun x H' => ∃ k, x = .bl k ∧ Qb k H') : tTest ta σ H Qb := q
theorem w_b (q : ta σ H fun x H' => ∃ k, x = .bl k ∧ Qb k H') : tB ta σ H Qb := q
theorem w_bl {k : Bool} {Qk : Bool → Prop} (q : Qk k) : ∃ l, V.bl k = .bl l ∧ Qk l := ⟨k, rfl, q⟩
theorem w_and (q : tt σ H fun c H1 => if c = true then tu σ H1 Qb else Qb false H1) : tAnd tt tu σ H Qb := q
theorem w_or (q : tt σ H fun c H1 => if c = true then Qb true H1 else tu σ H1 Qb) : tOr tt tu σ H Qb := q
theorem w_not (q : tt σ H fun c H1 => Qb (!c) H1) : tNot tt σ H Qb := q
theorem w_andV (q : ta σ H fun x H1 => ∃ c, x = .bl c ∧ if c = true then tb σ H1 Q else Q (.bl false) H1) : tAndV ta tb σ H Q := q
theorem w_orV (q : ta σ H fun x H1 => ∃ c, x = .bl c ∧ if c = true then Q (.bl true) H1 else tb σ H1 Q) : tOrV ta tb σ H Q := q
theorem w_notV (q : ta σ H fun x H1 => ∃ c, x = .bl c ∧ Q (.bl (!c)) H1) : tNotV ta σ H Q := q
theorem w_if (q : tt σ H fun c H1 => if c = true then ta σ H1 Q else tb σ H1 Q) : tIf tt ta tb σ H Q := q
theorem w_ifT {A B : Prop} (q : A) : if true = true then A else B := by rw [if_pos rfl]; exact q
theorem w_ifF {A B : Prop} (q : B) : if false = true then A else B := by rw [if_neg Bool.false_ne_true]; exact q
theorem w_ifN {A B : Prop} {k : Bool} (q1 : k = false → A) (q2 : k = true → B) : if (!k) = true then A else B := by
  cases k with
  | true => exact w_ifF (q2 rfl)
  | false => exact w_ifT (q1 rfl)
theorem w_if2 {A B : Prop} {k : Bool} (q1 : k = true → A) (q2 : k = false → B) : if k = true then A else B := by
  cases k with
  | true => exact w_ifT (q1 rfl)
  | false => exact w_ifF (q2 rfl)
theorem w_ifD {A B c : Prop} [Decidable c] (q1 : c → A) (q2 : ¬ c → B) : if (decide c) = true then A else B := by
  by_cases h : c
  · rw [decide_eq_true h]
    exact w_ifT (q1 h)
  · rw [decide_eq_false h]
    exact w_ifF (q2 h)
theorem w_ifDN {A B c : Prop} [Decidable c] (q1 : ¬ c → A) (q2 : c → B) : if (!decide c) = true then A else B := by
  by_cases h : c
  · rw [decide_eq_true h]
    exact w_ifF (q2 h)
  · rw [decide_eq_false h]
    exact w_ifT (q1 h)
theorem w_chain {r' : R2} (q : ta σ H fun x H1 => tb σ H1 fun y H2 => r x y H2 fun z H3 => ∃ k, z = .bl k ∧ (if k = true then tc σ H3 fun w' H4 => r' y w' H4 Q else Q (.bl false) H3)) : tChain r r' ta tb tc σ H Q := q
theorem w_seq (q : ts { D with nx := tv D } σ H) : tSeq ts tv D σ H := q
theorem w_asg {g : TG} (q : te σ H fun x H1 => g x σ H1 D.nx) : tAsg te g D σ H := q
theorem w_name {m : Nat} {Qs : L2.St → Hp → Prop} (q : Qs (σ.set m (some v)) H) : gName m v σ H Qs := q
theorem w_ret (q : te σ H D.rt) : tRet te D σ H := q
theorem w_ifS (q : tt σ H fun b H1 => if b = true then ts D σ H1 else tv D σ H1) : tIfS tt ts tv D σ H := q
theorem w_next (q : D.nx σ H) : tNext D σ H := q
theorem w_drop (q : te σ H fun _ H1 => D.nx σ H1) : tDrop te D σ H := q
/-- a new list, a new tuple -/
def NewL (xs : List V) (H : Hp) (Q : VK) : Prop := xs.length ≤ sizeLine ∧ ∀ p, H p = none → Q (.ref p) (upd H p (.lst xs))
def NewT (xs : List V) (H : Hp) (Q : VK) : Prop := xs.length ≤ sizeLine ∧ ∀ p, H p = none → Q (.ref p) (upd H p (.tup xs))
theorem w_lst (q : tr σ H fun xs H1 => NewL xs H1 Q) : tLst tr σ H Q := q
theorem w_tup (q : tr σ H fun xs H1 => NewT xs H1 Q) : tTup tr σ H Q := q
theorem w_new {o : HO} {xs : List V} {Qp : Addr → Prop} (h : xs.length ≤ 1000) (q : ∀ p, H p = none → Qp p) : xs.length ≤ sizeLine ∧ ∀ p, H p = none → Qp p := ⟨Nat.le_of_lt (small1000 h), q⟩
theorem w_par {m l : Nat} (q : tr σ H fun vs H1 => ∃ v w, vs = [v, w] ∧ D.nx ((σ.set m (some v)).set l (some w)) H1) : tPar m l tr D σ H := q
theorem w_aug {m : Nat} {ti : TIp} (h : σ[m]? = some (some x)) (q : te σ H fun y H1 => ti x y H1 fun z H2 => D.nx (σ.set m (some z)) H2) : tAug m te ti D σ H := ⟨x, h, q⟩
theorem w_bm {T : String} {rm : V → List V → Hp → VK → Prop} (q : ta σ H fun x H1 => tyV K T x H1 ∧ tr σ H1 fun xs H2 => rm x xs H2 Q) : tBM K T rm ta tr σ H Q := q
theorem w_sl {rs : V → Option Int → Option Int → Hp → VK → Prop} {tl th : TO} (q : ta σ H fun x H1 => tl σ H1 fun lo H2 => th σ H2 fun hi H3 => rs x lo hi H3 Q) : tSl rs ta tl th σ H Q := q
theorem w_po {Qo : Option Int → Hp → Prop} (q : ta σ H fun x H1 => ∃ i, x = .int i ∧ Qo (some i) H1) : tPart ta σ H Qo := q
theorem w_poI {Qk : Int → Prop} (q : Qk i) : ∃ j, V.int i = .int j ∧ Qk j := ⟨_, rfl, q⟩
theorem w_no {Qo : Option Int → Hp → Prop} (q : Qo none H) : tNoPart σ H Qo := q
end
end Cr

/-! Data of any depth and how a heap bears it. -/
namespace Cr
open PySem PySem.Spec PyProof.Rows L2

inductive D where
  | non | bl (b : Bool) | int (i : Int) | str (s : Str) | lst (xs : List D) | tup (xs : List D) | dct (kvs : List (Key × D))

mutual
/-- v stands for d -/
def Rep (H : Hp) : D → V → Prop
  | .non, v => v = .non
  | .bl b, v => v = .bl b
  | .int i, v => v = .int i
  | .str s, v => v = .str s
  | .lst ds, v => ∃ a xs, v = .ref a ∧ H a = some (.lst xs) ∧ RepL H ds xs
  | .tup ds, v => ∃ a xs, v = .ref a ∧ H a = some (.tup xs) ∧ RepL H ds xs
  | .dct kvs, v => ∃ a es, v = .ref a ∧ H a = some (.dK es) ∧ RepK H kvs es
def RepL (H : Hp) : List D → List V → Prop
  | [], xs => xs = []
  | d :: ds, xs => ∃ x r, xs = x :: r ∧ Rep H d x ∧ RepL H ds r
def RepK (H : Hp) : List (Key × D) → List (Key × V) → Prop
  | [], es => es = []
  | (k, d) :: r, es => ∃ x es', es = (k, x) :: es' ∧ Rep H d x ∧ RepK H r es'
end
mutual
def D.size : D → Nat
  | .lst xs => D.sizeL xs + 1
  | .tup xs => D.sizeL xs + 1
  | .dct kvs => D.sizeK kvs + 1
  | _ => 1
def D.sizeL : List D → Nat
  | [] => 0
  | d :: r => d.size + D.sizeL r
def D.sizeK : List (Key × D) → Nat
  | [] => 0
  | (_, d) :: r => d.size + D.sizeK r
end
theorem D.size_lst (xs : List D) : (D.lst xs).size = D.sizeL xs + 1 := by unfold D.size; rfl
theorem D.size_tup (xs : List D) : (D.tup xs).size = D.sizeL xs + 1 := by unfold D.size; rfl
theorem D.size_dct (xs : List (Key × D)) : (D.dct xs).size = D.sizeK xs + 1 := by unfold D.size; rfl
mutual
/-- how many lists, tuples, dicts stand within one another -/
def D.deep : D → Nat
  | .lst xs => D.deepL xs + 1
  | .tup xs => D.deepL xs + 1
  | .dct kvs => D.deepK kvs + 1
  | _ => 0
def D.deepL : List D → Nat
  | [] => 0
  | d :: r => max d.deep (D.deepL r)
def D.deepK : List (Key × D) → Nat
  | [] => 0
  | (_, d) :: r => max d.deep (D.deepK r)
end
mutual
/-- no list is too long, no key twice -/
def D.fit : D → Prop
  | .lst xs => xs.length ≤ 1000 ∧ D.fitL xs
  | .tup xs => xs.length ≤ 1000 ∧ D.fitL xs
  | .dct kvs => kvs.length ≤ 1000 ∧ (kvs.map (·.1)).Nodup ∧ D.fitK kvs
  | _ => True
def D.fitL : List D → Prop
  | [] => True
  | d :: r => d.fit ∧ D.fitL r
def D.fitK : List (Key × D) → Prop
  | [] => True
  | (_, d) :: r => d.fit ∧ D.fitK r
end

theorem RepL.len {H : Hp} : ∀ {ds : List D} {xs : List V}, RepL H ds xs → xs.length = ds.length
  | [], xs, h => by
    unfold RepL at h
    rw [h]
    rfl
  | d :: ds, xs, h => by
    unfold RepL at h
    obtain ⟨x, r, rfl, _, h2⟩ := h
    rw [List.length_cons, List.length_cons, RepL.len h2]
theorem RepK.len {H : Hp} : ∀ {ds : List (Key × D)} {xs : List (Key × V)}, RepK H ds xs → xs.length = ds.length
  | [], xs, h => by
    unfold RepK at h
    rw [h]
    rfl
  | (k, d) :: ds, xs, h => by
    unfold RepK at h
    obtain ⟨x, r, rfl, _, h2⟩ := h
    rw [List.length_cons, List.length_cons, RepK.len h2]
theorem RepK.keys {H : Hp} : ∀ {ds : List (Key × D)} {xs : List (Key × V)}, RepK H ds xs → xs.map (·.1) = ds.map (·.1)
  | [], xs, h => by
    unfold RepK at h
    rw [h]
    rfl
  | (k, d) :: ds, xs, h => by
    unfold RepK at h
    obtain ⟨x, r, rfl, _, h2⟩ := h
    rw [List.map_cons, List.map_cons, RepK.keys h2]
theorem RepL.get {H : Hp} : ∀ {ds : List D} {xs : List V} {i : Nat} {d : D}, RepL H ds xs → ds[i]? = some d → ∃ x, xs[i]? = some x ∧ Rep H d x
  | [], xs, i, d, h, e => by simp at e
  | d0 :: ds, xs, 0, d, h, e => by
    unfold RepL at h
    obtain ⟨x, r, rfl, h1, h2⟩ := h
    simp at e
    subst e
    exact ⟨x, rfl, h1⟩
  | d0 :: ds, xs, i + 1, d, h, e => by
    unfold RepL at h
    obtain ⟨x, r, rfl, h1, h2⟩ := h
    exact RepL.get (i := i) (d := d) h2 (by simpa using e)
theorem RepK.get {H : Hp} : ∀ {ds : List (Key × D)} {xs : List (Key × V)} {i : Nat} {k : Key} {d : D}, RepK H ds xs → ds[i]? = some (k, d) → ∃ x, xs[i]? = some (k, x) ∧ Rep H d x
  | [], xs, i, k, d, h, e => by simp at e
  | (k0, d0) :: ds, xs, 0, k, d, h, e => by
    unfold RepK at h
    obtain ⟨x, r, rfl, h1, h2⟩ := h
    simp at e
    obtain ⟨rfl, rfl⟩ := e
    exact ⟨x, rfl, h1⟩
  | (k0, d0) :: ds, xs, i + 1, k, d, h, e => by
    unfold RepK at h
    obtain ⟨x, r, rfl, h1, h2⟩ := h
    exact RepK.get (i := i) (k := k) (d := d) h2 (by simpa using e)
theorem RepL.cons {H : Hp} {d : D} {ds : List D} {x : V} {xs : List V} (h : Rep H d x) (r : RepL H ds xs) : RepL H (d :: ds) (x :: xs) := by
  unfold RepL
  exact ⟨x, xs, rfl, h, r⟩
theorem RepL.nil {H : Hp} : RepL H [] [] := by
  unfold RepL
  rfl
theorem RepK.cons {H : Hp} {k : Key} {d : D} {ds : List (Key × D)} {x : V} {xs : List (Key × V)} (h : Rep H d x) (r : RepK H ds xs) : RepK H ((k, d) :: ds) ((k, x) :: xs) := by
  unfold RepK
  exact ⟨x, xs, rfl, h, r⟩
theorem RepK.nil {H : Hp} : RepK H [] [] := by
  unfold RepK
  rfl
theorem RepL.snoc {H : Hp} {d : D} {x : V} (h : Rep H d x) : ∀ {ds : List D} {xs : List V}, RepL H ds xs → RepL H (ds ++ [d]) (xs ++ [x])
  | [], xs, r => by
    unfold RepL at r
    rw [r]
    exact .cons h .nil
  | d0 :: ds, xs, r => by
    unfold RepL at r
    obtain ⟨y, s, rfl, h1, h2⟩ := r
    exact .cons h1 (RepL.snoc h h2)
theorem RepL.ints {H : Hp} : ∀ ns : List Int, RepL H (ns.map D.int) (ns.map V.int)
  | [] => .nil
  | n :: r => .cons (by unfold Rep; rfl) (RepL.ints r)
theorem Rep.int {H : Hp} {i : Int} : Rep H (.int i) (.int i) := by
  unfold Rep
  rfl
theorem Rep.bl {H : Hp} {i : Bool} : Rep H (.bl i) (.bl i) := by
  unfold Rep
  rfl
theorem Rep.str {H : Hp} {i : Str} : Rep H (.str i) (.str i) := by
  unfold Rep
  rfl
theorem Rep.non {H : Hp} : Rep H .non .non := by
  unfold Rep
  rfl
theorem Rep.lst {H : Hp} {a : Addr} {ds : List D} {xs : List V} (h : H a = some (.lst xs)) (r : RepL H ds xs) : Rep H (.lst ds) (.ref a) := by
  unfold Rep
  exact ⟨a, xs, rfl, h, r⟩
theorem Rep.tup {H : Hp} {a : Addr} {ds : List D} {xs : List V} (h : H a = some (.tup xs)) (r : RepL H ds xs) : Rep H (.tup ds) (.ref a) := by
  unfold Rep
  exact ⟨a, xs, rfl, h, r⟩
theorem Rep.dct {H : Hp} {a : Addr} {ds : List (Key × D)} {xs : List (Key × V)} (h : H a = some (.dK xs)) (r : RepK H ds xs) : Rep H (.dct ds) (.ref a) := by
  unfold Rep
  exact ⟨a, xs, rfl, h, r⟩
theorem Rep.un_lst {H : Hp} {ds : List D} {v : V} (h : Rep H (.lst ds) v) : ∃ a xs, v = .ref a ∧ H a = some (.lst xs) ∧ RepL H ds xs := by
  unfold Rep at h
  exact h
theorem Rep.un_tup {H : Hp} {ds : List D} {v : V} (h : Rep H (.tup ds) v) : ∃ a xs, v = .ref a ∧ H a = some (.tup xs) ∧ RepL H ds xs := by
  unfold Rep at h
  exact h
theorem Rep.un_dct {H : Hp} {ds : List (Key × D)} {v : V} (h : Rep H (.dct ds) v) : ∃ a xs, v = .ref a ∧ H a = some (.dK xs) ∧ RepK H ds xs := by
  unfold Rep at h
  exact h
theorem Rep.un_int {H : Hp} {i : Int} {v : V} (h : Rep H (.int i) v) : v = .int i := by
  unfold Rep at h
  exact h
theorem Rep.un_bl {H : Hp} {i : Bool} {v : V} (h : Rep H (.bl i) v) : v = .bl i := by
  unfold Rep at h
  exact h
theorem Rep.un_str {H : Hp} {i : Str} {v : V} (h : Rep H (.str i) v) : v = .str i := by
  unfold Rep at h
  exact h
theorem Rep.un_non {H : Hp} {v : V} (h : Rep H .non v) : v = .non := by
  unfold Rep at h
  exact h

/-! ### another heap -/
mutual
theorem Rep.keep {H H' : Hp} : ∀ (d : D) {v : V}, (∀ d' b o, d'.size ≤ d.size → Rep H d' (.ref b) → H b = some o → H' b = some o) → Rep H d v → Rep H' d v
  | .non, v, _, h => by unfold Rep at h ⊢; exact h
  | .bl b, v, _, h => by unfold Rep at h ⊢; exact h
  | .int i, v, _, h => by unfold Rep at h ⊢; exact h
  | .str s, v, _, h => by unfold Rep at h ⊢; exact h
  | .lst ds, v, k, h => by
    obtain ⟨a, xs, rfl, ha, r⟩ := h.un_lst
    refine .lst (k _ a _ (Nat.le_refl _) h ha) (RepL.keep ds (fun d' b o z => k d' b o ?_) r)
    rw [D.size_lst]
    omega
  | .tup ds, v, k, h => by
    obtain ⟨a, xs, rfl, ha, r⟩ := h.un_tup
    refine .tup (k _ a _ (Nat.le_refl _) h ha) (RepL.keep ds (fun d' b o z => k d' b o ?_) r)
    rw [D.size_tup]
    omega
  | .dct ds, v, k, h => by
    obtain ⟨a, xs, rfl, ha, r⟩ := h.un_dct
    refine .dct (k _ a _ (Nat.le_refl _) h ha) (RepK.keep ds (fun d' b o z => k d' b o ?_) r)
    rw [D.size_dct]
    omega
theorem RepL.keep {H H' : Hp} : ∀ (ds : List D) {xs : List V}, (∀ d' b o, d'.size ≤ D.sizeL ds → Rep H d' (.ref b) → H b = some o → H' b = some o) → RepL H ds xs → RepL H' ds xs
  | [], xs, _, h => by unfold RepL at h ⊢; exact h
  | d :: ds, xs, k, h => by
    unfold RepL at h
    obtain ⟨x, r, rfl, h1, h2⟩ := h
    refine .cons (Rep.keep d (fun d' b o z => k d' b o ?_) h1) (RepL.keep ds (fun d' b o z => k d' b o ?_) h2)
    · unfold D.sizeL
      omega
    · unfold D.sizeL
      omega
theorem RepK.keep {H H' : Hp} : ∀ (ds : List (Key × D)) {xs : List (Key × V)}, (∀ d' b o, d'.size ≤ D.sizeK ds → Rep H d' (.ref b) → H b = some o → H' b = some o) → RepK H ds xs → RepK H' ds xs
  | [], xs, _, h => by unfold RepK at h ⊢; exact h
  | (kk, d) :: ds, xs, k, h => by
    unfold RepK at h
    obtain ⟨x, r, rfl, h1, h2⟩ := h
    refine .cons (Rep.keep d (fun d' b o z => k d' b o ?_) h1) (RepK.keep ds (fun d' b o z => k d' b o ?_) h2)
    · unfold D.sizeK
      omega
    · unfold D.sizeK
      omega
end
theorem Rep.mono {H H' : Hp} {d : D} {v : V} (s : Same H H') (h : Rep H d v) : Rep H' d v := h.keep d (fun _ b o _ _ e => s b o e)
theorem RepL.mono {H H' : Hp} {d : List D} {v : List V} (s : Same H H') (h : RepL H d v) : RepL H' d v := h.keep d (fun _ b o _ _ e => s b o e)
theorem RepK.mono {H H' : Hp} {d : List (Key × D)} {v : List (Key × V)} (s : Same H H') (h : RepK H d v) : RepK H' d v := h.keep d (fun _ b o _ _ e => s b o e)
theorem same_new {H : Hp} {p : Addr} {o : HO} (h : H p = none) : Same H (upd H p o) := fun b x e => by
  rw [upd_ne (ne_of_none e h)]
  exact e
/-- one value has one meaning -/
theorem Rep.inj_size {H : Hp} : ∀ (n : Nat) (d d' : D) (v : V), d.size ≤ n → Rep H d v → Rep H d' v → d.size = d'.size := by
  intro n
  induction n with
  | zero =>
    intro d d' v hn _ _
    cases d <;> unfold D.size at hn <;> omega
  | succ n ih =>
    intro d d' v hn h h'
    have lists : ∀ (ds ds' : List D) (xs : List V), D.sizeL ds ≤ n → RepL H ds xs → RepL H ds' xs → D.sizeL ds = D.sizeL ds' := by
      intro ds
      induction ds with
      | nil =>
        intro ds' xs _ r r'
        unfold RepL at r
        subst r
        cases ds' with
        | nil => rfl
        | cons d0 r0 =>
          unfold RepL at r'
          obtain ⟨_, _, z, _⟩ := r'
          cases z
      | cons d0 r0 ih2 =>
        intro ds' xs hs r r'
        unfold D.sizeL at hs
        unfold RepL at r
        obtain ⟨x, xr, rfl, h1, h2⟩ := r
        cases ds' with
        | nil =>
          unfold RepL at r'
          cases r'
        | cons d1 r1 =>
          unfold RepL at r'
          obtain ⟨x', xr', z, h1', h2'⟩ := r'
          cases z
          have a := ih d0 d1 x (by omega) h1 h1'
          have b := ih2 r1 xr (by omega) h2 h2'
          unfold D.sizeL
          omega
    have dicts : ∀ (ds ds' : List (Key × D)) (xs : List (Key × V)), D.sizeK ds ≤ n → RepK H ds xs → RepK H ds' xs → D.sizeK ds = D.sizeK ds' := by
      intro ds
      induction ds with
      | nil =>
        intro ds' xs _ r r'
        unfold RepK at r
        subst r
        cases ds' with
        | nil => rfl
        | cons d0 r0 =>
          obtain ⟨k0, d0⟩ := d0
          unfold RepK at r'
          obtain ⟨_, _, z, _⟩ := r'
          cases z
      | cons d0 r0 ih2 =>
        intro ds' xs hs r r'
        obtain ⟨k0, d0⟩ := d0
        unfold D.sizeK at hs
        unfold RepK at r
        obtain ⟨x, xr, rfl, h1, h2⟩ := r
        cases ds' with
        | nil =>
          unfold RepK at r'
          cases r'
        | cons d1 r1 =>
          obtain ⟨k1, d1⟩ := d1
          unfold RepK at r'
          obtain ⟨x', xr', z, h1', h2'⟩ := r'
          cases z
          have a := ih d0 d1 x (by omega) h1 h1'
          have b := ih2 r1 xr (by omega) h2 h2'
          unfold D.sizeK
          omega
    cases d <;> cases d' <;> unfold Rep at h h'
    all_goals first
      | (unfold D.size; rfl)
      | (subst h; cases h'; done)
      | (subst h; obtain ⟨_, _, z, _⟩ := h'; cases z; done)
      | (subst h'; obtain ⟨_, _, z, _⟩ := h; cases z; done)
      | (obtain ⟨a, xs, rfl, e1, r1⟩ := h; obtain ⟨a', xs', z, e2, r2⟩ := h'; cases z; rw [e1] at e2; cases e2; done)
      | (obtain ⟨a, xs, rfl, e1, r1⟩ := h; obtain ⟨a', xs', z, e2, r2⟩ := h'; cases z; rw [e1] at e2; cases e2; unfold D.size at hn ⊢; have := lists _ _ _ (by omega) r1 r2; omega)
      | (obtain ⟨a, xs, rfl, e1, r1⟩ := h; obtain ⟨a', xs', z, e2, r2⟩ := h'; cases z; rw [e1] at e2; cases e2; unfold D.size at hn ⊢; have := dicts _ _ _ (by omega) r1 r2; omega)
/-- a change at a leaves what is smaller than a's own meaning -/
theorem Rep.apart {H : Hp} {a : Addr} {d0 d : D} {o : HO} {v : V} (h0 : Rep H d0 (.ref a)) (hs : d.size < d0.size) (h : Rep H d v) : Rep (upd H a o) d v :=
  h.keep d fun d' b u z r e => by
    have nb : b ≠ a := fun q => by
      subst q
      have := Rep.inj_size d'.size d' d0 _ (Nat.le_refl _) r h0
      omega
    rw [upd_ne nb]
    exact e
theorem RepL.apart {H : Hp} {a : Addr} {d0 : D} {ds : List D} {o : HO} {xs : List V} (h0 : Rep H d0 (.ref a)) (hs : D.sizeL ds < d0.size) (h : RepL H ds xs) : RepL (upd H a o) ds xs :=
  h.keep ds fun d' b u z r e => by
    have nb : b ≠ a := fun q => by
      subst q
      have := Rep.inj_size d'.size d' d0 _ (Nat.le_refl _) r h0
      omega
    rw [upd_ne nb]
    exact e
theorem RepK.apart {H : Hp} {a : Addr} {d0 : D} {ds : List (Key × D)} {o : HO} {xs : List (Key × V)} (h0 : Rep H d0 (.ref a)) (hs : D.sizeK ds < d0.size) (h : RepK H ds xs) : RepK (upd H a o) ds xs :=
  h.keep ds fun d' b u z r e => by
    have nb : b ≠ a := fun q => by
      subst q
      have := Rep.inj_size d'.size d' d0 _ (Nat.le_refl _) r h0
      omega
    rw [upd_ne nb]
    exact e

theorem D.deepL_at : ∀ {ds : List D} {i : Nat} (h : i < ds.length), (ds[i]).deep ≤ D.deepL ds
  | [], _, h => absurd h (Nat.not_lt_zero _)
  | d :: ds, 0, _ => by
    show d.deep ≤ _
    unfold D.deepL
    exact Nat.le_max_left _ _
  | d :: ds, i + 1, h => by
    have h' : i < ds.length := by simpa using h
    show (ds[i]).deep ≤ _
    unfold D.deepL
    exact Nat.le_trans (D.deepL_at h') (Nat.le_max_right _ _)
theorem D.fitL_at : ∀ {ds : List D} {i : Nat} (h : i < ds.length), D.fitL ds → (ds[i]).fit
  | [], _, h, _ => absurd h (Nat.not_lt_zero _)
  | d :: ds, 0, _, f => by
    unfold D.fitL at f
    exact f.1
  | d :: ds, i + 1, h, f => by
    unfold D.fitL at f
    exact D.fitL_at (ds := ds) (by simpa using h) f.2
theorem D.deep_lst (ds : List D) : (D.lst ds).deep = D.deepL ds + 1 := by unfold D.deep; rfl
theorem D.deep_tup (ds : List D) : (D.tup ds).deep = D.deepL ds + 1 := by unfold D.deep; rfl
theorem D.deep_dct (ds : List (Key × D)) : (D.dct ds).deep = D.deepK ds + 1 := by unfold D.deep; rfl
theorem D.fit_lst (ds : List D) : (D.lst ds).fit = (ds.length ≤ 1000 ∧ D.fitL ds) := by unfold D.fit; rfl
theorem D.fit_tup (ds : List D) : (D.tup ds).fit = (ds.length ≤ 1000 ∧ D.fitL ds) := by unfold D.fit; rfl
theorem D.fit_dct (ds : List (Key × D)) : (D.dct ds).fit = (ds.length ≤ 1000 ∧ (ds.map (·.1)).Nodup ∧ D.fitK ds) := by unfold D.fit; rfl
theorem D.deep_at_lst {ds : List D} {i n : Nat} (h : (D.lst ds).deep < n + 1) (hi : i < ds.length) : (ds[i]).deep < n := by
  have := D.deepL_at hi
  rw [D.deep_lst] at h
  omega
theorem D.deep_at_tup {ds : List D} {i n : Nat} (h : (D.tup ds).deep < n + 1) (hi : i < ds.length) : (ds[i]).deep < n := by
  have := D.deepL_at hi
  rw [D.deep_tup] at h
  omega
theorem D.fit_at_lst {ds : List D} {i : Nat} (h : (D.lst ds).fit) (hi : i < ds.length) : (ds[i]).fit := by
  rw [D.fit_lst] at h
  exact D.fitL_at hi h.2
theorem D.fit_at_tup {ds : List D} {i : Nat} (h : (D.tup ds).fit) (hi : i < ds.length) : (ds[i]).fit := by
  rw [D.fit_tup] at h
  exact D.fitL_at hi h.2
theorem D.deepK_at : ∀ {ds : List (Key × D)} {i : Nat} (h : i < ds.length), (ds[i]).2.deep ≤ D.deepK ds
  | [], _, h => absurd h (Nat.not_lt_zero _)
  | (k, d) :: ds, 0, _ => by
    show d.deep ≤ _
    unfold D.deepK
    exact Nat.le_max_left _ _
  | (k, d) :: ds, i + 1, h => by
    have h' : i < ds.length := by simpa using h
    show (ds[i]).2.deep ≤ _
    unfold D.deepK
    exact Nat.le_trans (D.deepK_at h') (Nat.le_max_right _ _)
theorem D.fitK_at : ∀ {ds : List (Key × D)} {i : Nat} (h : i < ds.length), D.fitK ds → (ds[i]).2.fit
  | [], _, h, _ => absurd h (Nat.not_lt_zero _)
  | (k, d) :: ds, 0, _, f => by
    unfold D.fitK at f
    exact f.1
  | (k, d) :: ds, i + 1, h, f => by
    unfold D.fitK at f
    exact D.fitK_at (ds := ds) (by simpa using h) f.2
end Cr

/-! Further rules: what a for walks, sizes, lists changed in their place. -/
namespace Cr
open PySem PySem.Spec PyProof.Rows L2
section
variable {X : Cx} {K : PySem.W.Frag} {σ : L2.St} {H H' : Hp} {Q : VK} {x y z v : V} {i j n : Int} {a b p : Addr} {xs ys : List V} {s t : Str} {k : Bool}

/-! ### sizes -/
theorem cdivs (h0 : 0 < j) (h1 : j < 18446744073709551616) : CDivW i j := wide_div (b := 64) h0 (by omega) (by decide) (by decide)
theorem cmul1 (h0 : -18446744073709551616 < i) (h1 : i < 18446744073709551616) : CMul i j := .inl ⟨by omega, by omega⟩
theorem cmul2 (h0 : -18446744073709551616 < j) (h1 : j < 18446744073709551616) : CMul i j := .inr ⟨by omega, by omega⟩
theorem cpows (h0 : 0 ≤ j) (h1 : j ≤ 1000000) (h2 : -18446744073709551616 < i) (h3 : i < 18446744073709551616) : CPow i j := ⟨h0, h1, by omega⟩
theorem szl {n : Nat} (h : n ≤ 100000) : n ≤ sizeLine := Nat.le_trans h (by decide)
theorem szt {n : Nat} (h : n < 100000) : n < sizeLine := Nat.lt_of_lt_of_le h (by decide)

/-! ### a list or a tuple walked -/
def iSeq (K : PySem.W.Frag) (tl : TE) : TI := fun σ H R => tl σ H fun x H1 => (∃ a, x = .ref a ∧ (∃ xs, SqL K H1 a xs) ∧ R (Itl K a) H1) ∨ (∃ a, x = .ref a ∧ (∃ xs, SqT K H1 a xs) ∧ R (Itt K a) H1)
theorem pi_seq {tg l : Expr} {tl : TE} (hl : PE X l tl) : PI X tg l (iSeq X.K tl) := by
  refine ⟨fun pins s σ H R I h => thn (hl.run pins s σ H _ I h) ?_⟩
  rintro v s1 ⟨x, H1, I1, r1, (⟨a, rfl, ⟨xs, hq⟩, q⟩ | ⟨a, rfl, ⟨xs, hq⟩, q⟩)⟩
  · cases r1
    obtain ⟨its, rv, pl, hz⟩ := I1.list hq
    refine wpAny_pyIter_list pl.isList ⟨_, [s1.heap.objs.size], _, _, H1, rfl, I1.kept (t' := s1.toks) fun b o e => Heap.get?_push_of_some _ e, turn_list a _, ⟨_, Heap.get?_push_size _ rfl, rfl, rfl⟩, ?_, q⟩
    intro b hb
    have e : b = s1.heap.objs.size := by simpa using hb
    rw [e]
    exact I1.fpOk (Nat.le_refl _) (I1.hok.fresh (Nat.le_refl _))
  · cases r1
    obtain ⟨its, rv, pl, hz⟩ := I1.tuple hq
    refine wpAny_pyIter_tuple (show s1.heap.IsTuple a its.toArray from pl) ⟨_, [s1.heap.objs.size], _, _, H1, rfl, I1.kept (t' := s1.toks) fun b o e => Heap.get?_push_of_some _ e, turn_tuple a _, ⟨_, Heap.get?_push_size _ rfl, rfl, rfl⟩, ?_, q⟩
    intro b hb
    have e : b = s1.heap.objs.size := by simpa using hb
    rw [e]
    exact I1.fpOk (Nat.le_refl _) (I1.hok.fresh (Nat.le_refl _))
theorem i_seql {tl : TE} {R : It → Hp → Prop} (q : tl σ H fun x H1 => (∃ a, x = .ref a ∧ (∃ xs, SqL K H1 a xs) ∧ R (Itl K a) H1) ∨ (∃ a, x = .ref a ∧ (∃ xs, SqT K H1 a xs) ∧ R (Itt K a) H1)) : iSeq K tl σ H R := q

/-! ### new objects -/
theorem al_t (h : xs.length ≤ 100000) (q : ∀ p H', H p = none → Same H H' → H' p = some (.tup xs) → Q (.ref p) H') : NewT xs H Q := ⟨szl h, fun p np => q p _ np (same_new np) upd_same⟩
theorem al_l (h : xs.length ≤ 100000) (q : ∀ p H', H p = none → Same H H' → H' p = some (.lst xs) → Q (.ref p) H') : NewL xs H Q := ⟨szl h, fun p np => q p _ np (same_new np) upd_same⟩

/-! ### methods of lists -/
theorem tyl (h : H a = some (.lst xs)) : tyV K "list" (.ref a) H := .inl ⟨rfl, _, SqL.of h⟩
theorem m_app (h : H a = some (.lst xs)) (hz : xs.length < 100000) (q : Q .non (upd H a (.lst (xs ++ [y])))) : rAppend (.ref a) [y] H Q := ⟨_, _, _, rfl, rfl, h, szt hz, q⟩
theorem m_ext (h : H a = some (.lst xs)) (h2 : H b = some (.lst ys)) (hz : xs.length + ys.length ≤ 100000) (q : Q .non (upd H a (.lst (xs ++ ys)))) : rExtend (.ref a) [.ref b] H Q := ⟨_, _, _, _, rfl, rfl, h, h2, szl hz, q⟩
theorem m_rev (h : H a = some (.lst xs)) (q : Q .non (upd H a (.lst xs.reverse))) : rReverse (.ref a) [] H Q := ⟨_, _, rfl, rfl, h, q⟩
theorem m_popat (h : H a = some (.lst xs)) (h0 : 0 ≤ i) (h1 : i < xs.length) (hz : xs.length ≤ 100000) (e : xs[i.toNat]? = some y) (q : Q y (upd H a (.lst (xs.eraseIdx i.toNat)))) : rPopAt (.ref a) [.int i] H Q := by
  refine ⟨_, _, i, i.toNat, y, rfl, rfl, h, by omega, by omega, ?_, e, q⟩
  unfold seqIndex?
  have h2 : ¬ i < 0 := by omega
  simp [h2, h1]
theorem set_l {m : Nat} {Qs : Hp → Prop} (h : H a = some (.lst xs)) (e : ixN xs.length i = some m) (q : Qs (upd H a (.lst (xs.set m v)))) : rSetL (.ref a) (.int i) v H Qs := ⟨_, _, _, _, rfl, rfl, h, e, q⟩
theorem ixn {m l : Nat} (h : m < l) : ixN l (m : Int) = some m := by
  unfold ixN
  rw [if_pos (Int.natCast_nonneg m), if_pos (by omega)]
  simp
theorem ati {m : Nat} (h : xs[m]? = some v) : atI xs (m : Int) = some v := atI_nat h

theorem ati_of {α : Type} {zs : List α} {f : α → V} {i : Int} (h0 : 0 ≤ i) (h1 : i < zs.length) : ∃ z, z ∈ zs ∧ zs[i.toNat]? = some z ∧ atI (zs.map f) i = some (f z) := by
  obtain ⟨m, rfl⟩ : ∃ m : Nat, i = m := ⟨i.toNat, by omega⟩
  have h2 : m < zs.length := by omega
  refine ⟨zs[m], List.getElem_mem h2, by simp [h2], ati ?_⟩
  simp [h2]
theorem ati_mem {zs : List V} {i : Int} (h0 : 0 ≤ i) (h1 : i < zs.length) : ∃ z, z ∈ zs ∧ zs[i.toNat]? = some z ∧ atI zs i = some z := by
  obtain ⟨m, rfl⟩ : ∃ m : Nat, i = m := ⟨i.toNat, by omega⟩
  have h2 : m < zs.length := by omega
  refine ⟨zs[m], List.getElem_mem h2, by simp [h2], ati ?_⟩
  simp [h2]
theorem w_sub {to ti : TE} {st : TSet} {Qs : L2.St → Hp → Prop} (q : to σ H fun o H1 => ti σ H1 fun i H2 => st o i v H2 fun H3 => Qs σ H3) : gSub to ti st v σ H Qs := q

/-! ### a heap that is changed at a alone -/
def But (a : Addr) (H H' : Hp) : Prop := ∀ b o, b ≠ a → H b = some o → H' b = some o
theorem But.refl : But a H H := fun _ _ _ e => e
theorem But.trans {H1 H2 : Hp} (h : But a H H1) (h' : But a H1 H2) : But a H H2 := fun b o n e => h' b o n (h b o n e)
theorem But.of {H1 : Hp} (h : Same H H1) : But a H H1 := fun b o _ e => h b o e
theorem But.upd {o : HO} : But a H (upd H a o) := fun b x n e => by
  rw [upd_ne n]
  exact e
theorem But.new {o : HO} (h : H p = none) : But a H (L2.upd H p o) := But.of (same_new h)
theorem But.same {H1 : Hp} (h : But a H H1) (n : H a = none) : Same H H1 := fun b o e => h b o (ne_of_none e n) e
theorem But.wr {H1 : Hp} {o : HO} (h : But a H H1) (n : H p = none) : But a H (L2.upd H1 p o) := fun b x nb e => by
  rw [upd_ne (ne_of_none e n)]
  exact h b x nb e
theorem Same.wr {H1 : Hp} {o : HO} (h : Same H H1) (n : H p = none) : Same H (upd H1 p o) := fun b x e => by
  rw [upd_ne (ne_of_none e n)]
  exact h b x e
theorem But.sqL {H1 : Hp} (h : But a H H1) (hb : H b = some (.lst xs)) (n : b ≠ a) : H1 b = some (.lst xs) := h b _ n hb

theorem _root_.L2.SqL.but {H1 : Hp} (h : SqL K H b xs) (k : But a H H1) (n : b ≠ a) : SqL K H1 b xs := by
  rcases h with (h | ⟨o, h⟩) | h
  · exact .inl (.inl (k _ _ n h))
  · exact .inl (.inr ⟨o, k _ _ n h⟩)
  · exact .inr h
theorem _root_.L2.SqT.but {H1 : Hp} (h : SqT K H b xs) (k : But a H H1) (n : b ≠ a) : SqT K H1 b xs := by
  rcases h with (h | ⟨o, h⟩) | h
  · exact .inl (.inl (k _ _ n h))
  · exact .inl (.inr ⟨o, k _ _ n h⟩)
  · exact .inr h

/-! ### the box of the draws -/
/-- what a box holds: [great, whether it gives digits, its mixed rest, the number of draws] -/
def IsBox (H : Hp) (a : Addr) (B : Int) : Prop := ∃ (g r c : Int) (k : Bool), H a = some (.lst [.int g, .bl k, .int r, .int c]) ∧ 0 ≤ r ∧ r < 2147483629 ∧ 0 ≤ c ∧ c ≤ B
theorem IsBox.le {B C : Int} (h : IsBox H a B) (e : B ≤ C) : IsBox H a C := by
  obtain ⟨g, r, c, k, e1, e2, e3, e4, e5⟩ := h
  exact ⟨g, r, c, k, e1, e2, e3, e4, by omega⟩
theorem IsBox.ne {B : Int} {o : HO} (h : IsBox H a B) (hb : H b = none) : a ≠ b := by
  obtain ⟨g, r, c, k, e1, _⟩ := h
  exact ne_of_none e1 hb
theorem IsBox.mono {B : Int} (h : IsBox H a B) (s : Same H H') : IsBox H' a B := by
  obtain ⟨g, r, c, k, e1, e2, e3, e4, e5⟩ := h
  exact ⟨g, r, c, k, s _ _ e1, e2, e3, e4, e5⟩
theorem IsBox.upd {B : Int} {o : HO} (h : IsBox H a B) (n : a ≠ b) : IsBox (L2.upd H b o) a B := by
  obtain ⟨g, r, c, k, e1, e2, e3, e4, e5⟩ := h
  exact ⟨g, r, c, k, by rw [upd_ne n]; exact e1, e2, e3, e4, e5⟩
/-- most that a box may have given -/
abbrev most : Int := 100000000
end
/-- _law_cell(script, k) -/
def spCell (K : PySem.W.Frag) : Sp := fun vs H Q _ => ∃ (a : Addr) (ns : List Int) (k : Int), vs = [.ref a, .int k] ∧ SqL K H a (ns.map V.int) ∧ 0 ≤ k ∧ k ≤ 1000 ∧ ∀ i H', Same H H' → Q (.int i) H'
/-- _law_box(great) -/
def spBox : Sp := fun vs H Q _ => ∃ (i : Int), vs = [.int i] ∧ ∀ p H', Same H H' → H p = none → IsBox H' p 0 → Q (.ref p) H'
/-- _law_take(box, many) -/
def spTake : Sp := fun vs H Q _ => ∃ (a : Addr) (m B : Int), vs = [.ref a, .int m] ∧ IsBox H a B ∧ B < most ∧ 1 ≤ m ∧ m < 18446744073709551616 ∧ ∀ d H', But a H H' → IsBox H' a (B + 1) → 0 ≤ d → d < m → Q (.int d) H'
/-- _law_pick(box, items) -/
def spPick (K : PySem.W.Frag) : Sp := fun vs H Q _ => ∃ (a b : Addr) (xs : List V) (B : Int), vs = [.ref a, .ref b] ∧ IsBox H a B ∧ B < most ∧ b ≠ a ∧ (SqL K H b xs ∨ SqT K H b xs) ∧ xs ≠ [] ∧ xs.length ≤ 100000 ∧
  ∀ v H', v ∈ xs → But a H H' → IsBox H' a (B + 1) → Q v H'
end Cr

/-! isinstance by kinds of values; tests of None. -/
namespace Cr
open PySem PySem.Spec PyProof.Rows L2
section
variable {K : PySem.W.Frag} {H : Hp} {Q : VK} {a b p : Addr}
theorem isi_non_bool  (q : Q (.bl false) H) : rIsi K [.non, .ty "bool"] H Q := isi_ty (.base .non) (by decide +kernel) q
theorem isi_non_int  (q : Q (.bl false) H) : rIsi K [.non, .ty "int"] H Q := isi_ty (.base .non) (by decide +kernel) q
theorem isi_non_str  (q : Q (.bl false) H) : rIsi K [.non, .ty "str"] H Q := isi_ty (.base .non) (by decide +kernel) q
theorem isi_non_dict  (q : Q (.bl false) H) : rIsi K [.non, .ty "dict"] H Q := isi_ty (.base .non) (by decide +kernel) q
theorem isi_non_list  (q : Q (.bl false) H) : rIsi K [.non, .ty "list"] H Q := isi_ty (.base .non) (by decide +kernel) q
theorem isi_non_tuple  (q : Q (.bl false) H) : rIsi K [.non, .ty "tuple"] H Q := isi_ty (.base .non) (by decide +kernel) q
theorem isT_non  (hT : H p = some (.tup [.ty "list", .ty "tuple"])) (q : Q (.bl false) H) : rIsiT K [.non, .ref p] H Q := isi_two (.base .non) hT (by decide +kernel : kitB "NoneType" "list" = some false) (by decide +kernel : kitB "NoneType" "tuple" = some false) q
theorem isi_bl_bool {k : Bool} (q : Q (.bl true) H) : rIsi K [(.bl k), .ty "bool"] H Q := isi_ty (.base (.bl k)) (by decide +kernel) q
theorem isi_bl_int {k : Bool} (q : Q (.bl true) H) : rIsi K [(.bl k), .ty "int"] H Q := isi_ty (.base (.bl k)) (by decide +kernel) q
theorem isi_bl_str {k : Bool} (q : Q (.bl false) H) : rIsi K [(.bl k), .ty "str"] H Q := isi_ty (.base (.bl k)) (by decide +kernel) q
theorem isi_bl_dict {k : Bool} (q : Q (.bl false) H) : rIsi K [(.bl k), .ty "dict"] H Q := isi_ty (.base (.bl k)) (by decide +kernel) q
theorem isi_bl_list {k : Bool} (q : Q (.bl false) H) : rIsi K [(.bl k), .ty "list"] H Q := isi_ty (.base (.bl k)) (by decide +kernel) q
theorem isi_bl_tuple {k : Bool} (q : Q (.bl false) H) : rIsi K [(.bl k), .ty "tuple"] H Q := isi_ty (.base (.bl k)) (by decide +kernel) q
theorem isT_bl {k : Bool} (hT : H p = some (.tup [.ty "list", .ty "tuple"])) (q : Q (.bl false) H) : rIsiT K [(.bl k), .ref p] H Q := isi_two (.base (.bl k)) hT (by decide +kernel : kitB "bool" "list" = some false) (by decide +kernel : kitB "bool" "tuple" = some false) q
theorem isi_int_bool {i : Int} (q : Q (.bl false) H) : rIsi K [(.int i), .ty "bool"] H Q := isi_ty (.base (.int i)) (by decide +kernel) q
theorem isi_int_int {i : Int} (q : Q (.bl true) H) : rIsi K [(.int i), .ty "int"] H Q := isi_ty (.base (.int i)) (by decide +kernel) q
theorem isi_int_str {i : Int} (q : Q (.bl false) H) : rIsi K [(.int i), .ty "str"] H Q := isi_ty (.base (.int i)) (by decide +kernel) q
theorem isi_int_dict {i : Int} (q : Q (.bl false) H) : rIsi K [(.int i), .ty "dict"] H Q := isi_ty (.base (.int i)) (by decide +kernel) q
theorem isi_int_list {i : Int} (q : Q (.bl false) H) : rIsi K [(.int i), .ty "list"] H Q := isi_ty (.base (.int i)) (by decide +kernel) q
theorem isi_int_tuple {i : Int} (q : Q (.bl false) H) : rIsi K [(.int i), .ty "tuple"] H Q := isi_ty (.base (.int i)) (by decide +kernel) q
theorem isT_int {i : Int} (hT : H p = some (.tup [.ty "list", .ty "tuple"])) (q : Q (.bl false) H) : rIsiT K [(.int i), .ref p] H Q := isi_two (.base (.int i)) hT (by decide +kernel : kitB "int" "list" = some false) (by decide +kernel : kitB "int" "tuple" = some false) q
theorem isi_str_bool {s : Str} (q : Q (.bl false) H) : rIsi K [(.str s), .ty "bool"] H Q := isi_ty (.base (.str s)) (by decide +kernel) q
theorem isi_str_int {s : Str} (q : Q (.bl false) H) : rIsi K [(.str s), .ty "int"] H Q := isi_ty (.base (.str s)) (by decide +kernel) q
theorem isi_str_str {s : Str} (q : Q (.bl true) H) : rIsi K [(.str s), .ty "str"] H Q := isi_ty (.base (.str s)) (by decide +kernel) q
theorem isi_str_dict {s : Str} (q : Q (.bl false) H) : rIsi K [(.str s), .ty "dict"] H Q := isi_ty (.base (.str s)) (by decide +kernel) q
theorem isi_str_list {s : Str} (q : Q (.bl false) H) : rIsi K [(.str s), .ty "list"] H Q := isi_ty (.base (.str s)) (by decide +kernel) q
theorem isi_str_tuple {s : Str} (q : Q (.bl false) H) : rIsi K [(.str s), .ty "tuple"] H Q := isi_ty (.base (.str s)) (by decide +kernel) q
theorem isT_str {s : Str} (hT : H p = some (.tup [.ty "list", .ty "tuple"])) (q : Q (.bl false) H) : rIsiT K [(.str s), .ref p] H Q := isi_two (.base (.str s)) hT (by decide +kernel : kitB "str" "list" = some false) (by decide +kernel : kitB "str" "tuple" = some false) q
theorem isi_lst_bool {xs : List V} (h : H a = some (.lst xs)) (q : Q (.bl false) H) : rIsi K [(.ref a), .ty "bool"] H Q := isi_ty (ty_l h) (by decide +kernel) q
theorem isi_lst_int {xs : List V} (h : H a = some (.lst xs)) (q : Q (.bl false) H) : rIsi K [(.ref a), .ty "int"] H Q := isi_ty (ty_l h) (by decide +kernel) q
theorem isi_lst_str {xs : List V} (h : H a = some (.lst xs)) (q : Q (.bl false) H) : rIsi K [(.ref a), .ty "str"] H Q := isi_ty (ty_l h) (by decide +kernel) q
theorem isi_lst_dict {xs : List V} (h : H a = some (.lst xs)) (q : Q (.bl false) H) : rIsi K [(.ref a), .ty "dict"] H Q := isi_ty (ty_l h) (by decide +kernel) q
theorem isi_lst_list {xs : List V} (h : H a = some (.lst xs)) (q : Q (.bl true) H) : rIsi K [(.ref a), .ty "list"] H Q := isi_ty (ty_l h) (by decide +kernel) q
theorem isi_lst_tuple {xs : List V} (h : H a = some (.lst xs)) (q : Q (.bl false) H) : rIsi K [(.ref a), .ty "tuple"] H Q := isi_ty (ty_l h) (by decide +kernel) q
theorem isT_lst {xs : List V} (h : H a = some (.lst xs)) (hT : H p = some (.tup [.ty "list", .ty "tuple"])) (q : Q (.bl true) H) : rIsiT K [(.ref a), .ref p] H Q := isi_two (ty_l h) hT (by decide +kernel : kitB "list" "list" = some true) (by decide +kernel : kitB "list" "tuple" = some false) q
theorem isi_tup_bool {xs : List V} (h : H a = some (.tup xs)) (q : Q (.bl false) H) : rIsi K [(.ref a), .ty "bool"] H Q := isi_ty (ty_t h) (by decide +kernel) q
theorem isi_tup_int {xs : List V} (h : H a = some (.tup xs)) (q : Q (.bl false) H) : rIsi K [(.ref a), .ty "int"] H Q := isi_ty (ty_t h) (by decide +kernel) q
theorem isi_tup_str {xs : List V} (h : H a = some (.tup xs)) (q : Q (.bl false) H) : rIsi K [(.ref a), .ty "str"] H Q := isi_ty (ty_t h) (by decide +kernel) q
theorem isi_tup_dict {xs : List V} (h : H a = some (.tup xs)) (q : Q (.bl false) H) : rIsi K [(.ref a), .ty "dict"] H Q := isi_ty (ty_t h) (by decide +kernel) q
theorem isi_tup_list {xs : List V} (h : H a = some (.tup xs)) (q : Q (.bl false) H) : rIsi K [(.ref a), .ty "list"] H Q := isi_ty (ty_t h) (by decide +kernel) q
theorem isi_tup_tuple {xs : List V} (h : H a = some (.tup xs)) (q : Q (.bl true) H) : rIsi K [(.ref a), .ty "tuple"] H Q := isi_ty (ty_t h) (by decide +kernel) q
theorem isT_tup {xs : List V} (h : H a = some (.tup xs)) (hT : H p = some (.tup [.ty "list", .ty "tuple"])) (q : Q (.bl true) H) : rIsiT K [(.ref a), .ref p] H Q := isi_two (ty_t h) hT (by decide +kernel : kitB "tuple" "list" = some false) (by decide +kernel : kitB "tuple" "tuple" = some true) q
theorem isi_dct_bool {kvs : List (Key × V)} (h : H a = some (.dK kvs)) (q : Q (.bl false) H) : rIsi K [(.ref a), .ty "bool"] H Q := isi_ty (ty_d h) (by decide +kernel) q
theorem isi_dct_int {kvs : List (Key × V)} (h : H a = some (.dK kvs)) (q : Q (.bl false) H) : rIsi K [(.ref a), .ty "int"] H Q := isi_ty (ty_d h) (by decide +kernel) q
theorem isi_dct_str {kvs : List (Key × V)} (h : H a = some (.dK kvs)) (q : Q (.bl false) H) : rIsi K [(.ref a), .ty "str"] H Q := isi_ty (ty_d h) (by decide +kernel) q
theorem isi_dct_dict {kvs : List (Key × V)} (h : H a = some (.dK kvs)) (q : Q (.bl true) H) : rIsi K [(.ref a), .ty "dict"] H Q := isi_ty (ty_d h) (by decide +kernel) q
theorem isi_dct_list {kvs : List (Key × V)} (h : H a = some (.dK kvs)) (q : Q (.bl false) H) : rIsi K [(.ref a), .ty "list"] H Q := isi_ty (ty_d h) (by decide +kernel) q
theorem isi_dct_tuple {kvs : List (Key × V)} (h : H a = some (.dK kvs)) (q : Q (.bl false) H) : rIsi K [(.ref a), .ty "tuple"] H Q := isi_ty (ty_d h) (by decide +kernel) q
theorem isT_dct {kvs : List (Key × V)} (h : H a = some (.dK kvs)) (hT : H p = some (.tup [.ty "list", .ty "tuple"])) (q : Q (.bl false) H) : rIsiT K [(.ref a), .ref p] H Q := isi_two (ty_d h) hT (by decide +kernel : kitB "dict" "list" = some false) (by decide +kernel : kitB "dict" "tuple" = some false) q
theorem is_bl_n {k : Bool} (q : Q (.bl false) H) : rIsU (.bl k) .non H Q := is_n q
theorem isn_bl_n {k : Bool} (q : Q (.bl true) H) : rIsnU (.bl k) .non H Q := isn_n q
theorem is_int_n {i : Int} (q : Q (.bl false) H) : rIsU (.int i) .non H Q := is_n q
theorem isn_int_n {i : Int} (q : Q (.bl true) H) : rIsnU (.int i) .non H Q := isn_n q
theorem is_str_n {s : Str} (q : Q (.bl false) H) : rIsU (.str s) .non H Q := is_n q
theorem isn_str_n {s : Str} (q : Q (.bl true) H) : rIsnU (.str s) .non H Q := isn_n q
theorem is_ref_n  (q : Q (.bl false) H) : rIsU (.ref a) .non H Q := is_n q
theorem isn_ref_n  (q : Q (.bl true) H) : rIsnU (.ref a) .non H Q := isn_n q
theorem is_non_n (q : Q (.bl true) H) : rIsU .non .non H Q := is_n q
theorem isn_non_n (q : Q (.bl false) H) : rIsnU .non .non H Q := isn_n q
variable {x y v : V} {σ : L2.St} {xs ys : List V} {i j : Int}
theorem ne_btt (q : Q (.bl false) H) : rNeU K (.bl true) (.bl true) H Q := ne_bb q
theorem ne_bff (q : Q (.bl false) H) : rNeU K (.bl false) (.bl false) H Q := ne_bb q
theorem eq_btt (q : Q (.bl true) H) : rEqU K (.bl true) (.bl true) H Q := eq_bb q
theorem eq_bff (q : Q (.bl true) H) : rEqU K (.bl false) (.bl false) H Q := eq_bb q
theorem eq_nil {p q : Addr} (hp : H p = some (.lst [])) (hq : H q = some (.lst [])) (c : Q (.bl true) H) : rEqU K (.ref p) (.ref q) H Q :=
  eq_dd (d := .list []) (e := .list []) (.lst (SqL.of hp) .nil) (.lst (SqL.of hq) .nil) rfl rfl c
/-! ### walks -/
theorem ati0 {m : Nat} (h : xs[m]? = some v) : atI xs (0 + (m : Int)) = some v := by
  rw [Int.zero_add]
  exact ati h
theorem pe_ty {X : Cx} (n : String) {pos : Pos} (hm : X.mg (Str.ofString n) = none) (hv : bootBuiltins (Str.ofString n) = some (.type n)) (hg : Gl X (Str.ofString n) := by rfl) (hn : Str.ofString n ≠ "__name__" := by decide)
    (hd : (Str.ofString n == ("__debug__" : Str)) = false := by decide) : PE X (.Name (Str.ofString n) pos) (tC (.ty n)) := pe_bltn hg hm hv (v := .ty n) (show RelV (.ty n) (.type n) from rfl) hn hd
theorem w_ifNT {A B : Prop} (q : A) : if (!false) = true then A else B := w_ifT q
theorem w_ifNF {A B : Prop} (q : B) : if (!true) = true then A else B := w_ifF q
end
end Cr

/-! Loops and comprehensions: readings under names of their own, invariants over abstract heaps. -/
namespace Cr
open PySem PySem.Spec PyProof.Rows L2
section
variable {X : Cx} {K : PySem.W.Frag} {σ : L2.St} {H H' : Hp} {Q : VK} {x y z v : V} {i j : Int} {a b p : Addr} {xs ys : List V}
variable {wi : TI} {g : TG} {tt : TT} {te : TE} {tb : TS} {vs : List Nat} {D : Ends} {J : It} {R : It → Hp → Prop}

/-- the new item goes to the list at C -/
def Push (C : Addr) (y : V) (H : Hp) (R : Hp → Prop) : Prop := ∃ acc, H C = some (.lst acc) ∧ acc.length < sizeLine ∧ R (upd H C (.lst (acc ++ [y])))
def LcRun (J : It) (g : TG) (tt : TT) (te : TE) (vs : List Nat) (σ : L2.St) (H : Hp) (Q : VK) : Prop := ∀ C, H C = none → ∃ W : Nat → Nat → Hp → Prop, (∃ m, W 0 m (upd H C (.lst []))) ∧ ∀ i m H, W i m H →
    (J.stop i H ∧ Q (.ref C) H) ∨ (J.go i H ∧ ∃ Nx : Hp → Prop, (∀ H', Nx H' → ∃ m', m' < m ∧ W (i + 1) m' H') ∧ ∀ x H', J.yld i H x H' → g x (wipe σ vs) H' fun σ2 H2 => wipe σ2 vs = wipe σ vs ∧ tt σ2 H2 fun b H3 =>
      if b = true then te σ2 H3 fun y H4 => Push C y H4 Nx else Nx H3)
theorem w_lc (q : wi σ H fun J H1 => LcRun J g tt te vs σ H1 Q) : tLc wi g tt te vs σ H Q := q
def ForRun (J : It) (g : TG) (tb : TS) (σ : L2.St) (H : Hp) (D : Ends) : Prop := ∃ W : Nat → Nat → L2.St → Hp → Prop, (∃ m, W 0 m σ H) ∧ ∀ i m σ H, W i m σ H →
    (J.stop i H ∧ D.nx σ H) ∨ (J.go i H ∧ ∃ N : L2.St → Hp → Prop, (∀ σ' H', N σ' H' → ∃ m', m' < m ∧ W (i + 1) m' σ' H') ∧ ∀ x H', J.yld i H x H' → g x σ H' fun σ2 H2 => tb { D with nx := N, ct := N, bk := D.nx } σ2 H2)
theorem w_for (q : wi σ H fun J H1 => ForRun J g tb σ H1 D) : tFor wi g tb D σ H := q
def Rng1 (vs : List V) (H : Hp) (R : It → Hp → Prop) : Prop := ∃ j : Int, vs = [.int j] ∧ -(2 ^ 62) ≤ j ∧ j < 2 ^ 62 ∧ R (Itr 0 j.toNat) H
def Rng2 (vs : List V) (H : Hp) (R : It → Hp → Prop) : Prop := ∃ i j : Int, vs = [.int i, .int j] ∧ (-(2 ^ 62) ≤ i ∧ i < 2 ^ 62 ∧ -(2 ^ 62) ≤ j ∧ j < 2 ^ 62) ∧ R (Itr i (j - i).toNat) H
def OverL (K : PySem.W.Frag) (x : V) (H : Hp) (R : It → Hp → Prop) : Prop := ∃ a, x = .ref a ∧ (∃ xs, SqL K H a xs) ∧ R (Itl K a) H
def OverT (K : PySem.W.Frag) (x : V) (H : Hp) (R : It → Hp → Prop) : Prop := ∃ a, x = .ref a ∧ (∃ xs, SqT K H a xs) ∧ R (Itt K a) H
theorem w_rng1 {ta : TA} (q : ta σ H fun vs H1 => Rng1 vs H1 R) : iRng1 ta σ H R := q
theorem w_rng2 {ta : TA} (q : ta σ H fun vs H1 => Rng2 vs H1 R) : iRng2 ta σ H R := q
theorem w_il {tl : TE} (q : tl σ H fun x H1 => OverL K x H1 R) : iList K tl σ H R := q
theorem w_it {tl : TE} (q : tl σ H fun x H1 => OverT K x H1 R) : iTup K tl σ H R := q
def OverS (K : PySem.W.Frag) (x : V) (H : Hp) (R : It → Hp → Prop) : Prop := OverL K x H R ∨ OverT K x H R
theorem w_is {tl : TE} (q : tl σ H fun x H1 => OverS K x H1 R) : iSeq K tl σ H R := q
theorem r_rng1 (h1 : -4611686018427387904 ≤ j) (h2 : j < 4611686018427387904) (q : R (Itr 0 j.toNat) H) : Rng1 [.int j] H R := ⟨_, rfl, by omega, by omega, q⟩
theorem r_rng2 (h1 : -4611686018427387904 ≤ j) (h2 : j < 4611686018427387904) (h3 : -4611686018427387904 ≤ i) (h4 : i < 4611686018427387904) (q : R (Itr i (j - i).toNat) H) : Rng2 [.int i, .int j] H R :=
  ⟨_, _, rfl, ⟨by omega, by omega, by omega, by omega⟩, q⟩
theorem r_il (h : SqL K H a xs) (q : R (Itl K a) H) : OverL K (.ref a) H R := ⟨_, rfl, ⟨_, h⟩, q⟩
theorem r_it (h : SqT K H a xs) (q : R (Itt K a) H) : OverT K (.ref a) H R := ⟨_, rfl, ⟨_, h⟩, q⟩
theorem r_isl (h : SqL K H a xs) (q : R (Itl K a) H) : OverS K (.ref a) H R := .inl ⟨_, rfl, ⟨_, h⟩, q⟩
theorem r_ist (h : SqT K H a xs) (q : R (Itt K a) H) : OverS K (.ref a) H R := .inr ⟨_, rfl, ⟨_, h⟩, q⟩

theorem push {C : Addr} {acc : List V} {R : Hp → Prop} (h : H C = some (.lst acc)) (hz : acc.length < 100000) (q : ∀ H', But C H H' → H' C = some (.lst (acc ++ [y])) → R H') : Push C y H R :=
  ⟨acc, h, szt hz, q _ But.upd upd_same⟩
/-- over a range: P C i H' what holds ahead of turn i, the new list at C -/
theorem lc_rng {lo : Int} {n : Nat} (P : Addr → Nat → Hp → Prop) (h0 : ∀ C H1, H C = none → Same H H1 → H1 C = some (.lst []) → P C 0 H1)
    (hs : ∀ C i H', i < n → P C i H' → g (.int (lo + i)) (wipe σ vs) H' fun σ2 H2 => wipe σ2 vs = wipe σ vs ∧ tt σ2 H2 fun b H3 => if b = true then te σ2 H3 fun y H4 => Push C y H4 (P C (i + 1)) else P C (i + 1) H3)
    (hd : ∀ C H', P C n H' → Q (.ref C) H') : LcRun (Itr lo n) g tt te vs σ H Q := fun C nC =>
  lc_range (P C) (h0 C _ nC (same_new nC) upd_same) (hs C) (hd C)
theorem lc_lst (P : Addr → Nat → Hp → Prop) (h0 : ∀ C H1, H C = none → Same H H1 → H1 C = some (.lst []) → P C 0 H1) (hl : ∀ C i H', i ≤ xs.length → P C i H' → SqL K H' a xs)
    (hs : ∀ C i x H', xs[i]? = some x → P C i H' → g x (wipe σ vs) H' fun σ2 H2 => wipe σ2 vs = wipe σ vs ∧ tt σ2 H2 fun b H3 => if b = true then te σ2 H3 fun y H4 => Push C y H4 (P C (i + 1)) else P C (i + 1) H3)
    (hd : ∀ C H', P C xs.length H' → Q (.ref C) H') : LcRun (Itl K a) g tt te vs σ H Q := fun C nC =>
  lc_list (P C) (h0 C _ nC (same_new nC) upd_same) (hl C) (hs C) (hd C)
theorem lc_tpl (P : Addr → Nat → Hp → Prop) (h0 : ∀ C H1, H C = none → Same H H1 → H1 C = some (.lst []) → P C 0 H1) (hl : ∀ C i H', i ≤ xs.length → P C i H' → SqT K H' a xs)
    (hs : ∀ C i x H', xs[i]? = some x → P C i H' → g x (wipe σ vs) H' fun σ2 H2 => wipe σ2 vs = wipe σ vs ∧ tt σ2 H2 fun b H3 => if b = true then te σ2 H3 fun y H4 => Push C y H4 (P C (i + 1)) else P C (i + 1) H3)
    (hd : ∀ C H', P C xs.length H' → Q (.ref C) H') : LcRun (Itt K a) g tt te vs σ H Q := fun C nC =>
  lc_tup (P C) (h0 C _ nC (same_new nC) upd_same) (hl C) (hs C) (hd C)
/-- over the keys of a dict that is locked -/
theorem lc_key {d : Addr} {o : Obj} {kvs : List (Key × V)} (P : Addr → Nat → Hp → Prop) (h0 : ∀ C H1, H C = none → Same H H1 → H1 C = some (.lst []) → P C 0 H1) (hl : ∀ C i H', i ≤ kvs.length → P C i H' → H' d = some (.frz o (.dK kvs)))
    (hs : ∀ C i k v H', kvs[i]? = some (k, v) → P C i H' → g (kV k) (wipe σ vs) H' fun σ2 H2 => wipe σ2 vs = wipe σ vs ∧ tt σ2 H2 fun b H3 => if b = true then te σ2 H3 fun y H4 => Push C y H4 (P C (i + 1)) else P C (i + 1) H3)
    (hd : ∀ C H', P C kvs.length H' → Q (.ref C) H') : LcRun (Itk d o kvs) g tt te vs σ H Q := by
  intro C nC
  refine ⟨fun i m H => m = kvs.length - i ∧ i ≤ kvs.length ∧ P C i H, ⟨kvs.length, by simp, Nat.zero_le _, h0 C _ nC (same_new nC) upd_same⟩, ?_⟩
  rintro i m H1 ⟨rfl, hi, pp⟩
  have l := hl C i H1 hi pp
  by_cases hlt : i < kvs.length
  · refine .inr ⟨⟨l, hlt⟩, P C (i + 1), fun H2 p2 => ⟨kvs.length - (i + 1), by omega, rfl, hlt, p2⟩, ?_⟩
    rintro x H2 ⟨rfl, k, v, e, rfl⟩
    exact hs C i k v _ e pp
  · have e : i = kvs.length := by omega
    subst e
    exact .inl ⟨⟨l, Nat.le_refl _⟩, hd C H1 pp⟩
theorem f_rng {lo : Int} {n : Nat} (P : Nat → L2.St → Hp → Prop) (h0 : P 0 σ H)
    (hs : ∀ i σ H, i < n → P i σ H → g (.int (lo + i)) σ H fun σ2 H2 => tb { D with nx := P (i + 1), ct := P (i + 1), bk := D.nx } σ2 H2) (hd : ∀ σ H, P n σ H → D.nx σ H) : ForRun (Itr lo n) g tb σ H D := for_range P h0 hs hd
theorem f_lst (P : Nat → L2.St → Hp → Prop) (h0 : P 0 σ H) (hl : ∀ i σ H, i ≤ xs.length → P i σ H → SqL K H a xs)
    (hs : ∀ i x σ H, xs[i]? = some x → P i σ H → g x σ H fun σ2 H2 => tb { D with nx := P (i + 1), ct := P (i + 1), bk := D.nx } σ2 H2) (hd : ∀ σ H, P xs.length σ H → D.nx σ H) : ForRun (Itl K a) g tb σ H D := for_list P h0 hl hs hd
theorem f_tpl (P : Nat → L2.St → Hp → Prop) (h0 : P 0 σ H) (hl : ∀ i σ H, i ≤ xs.length → P i σ H → SqT K H a xs)
    (hs : ∀ i x σ H, xs[i]? = some x → P i σ H → g x σ H fun σ2 H2 => tb { D with nx := P (i + 1), ct := P (i + 1), bk := D.nx } σ2 H2) (hd : ∀ σ H, P xs.length σ H → D.nx σ H) : ForRun (Itt K a) g tb σ H D := for_tup P h0 hl hs hd
/-- while: the test's reading and the body's, by an invariant with a bound on the turns left -/
def WhRun (c : TT) (tb : TS) (D : Ends) (σ : L2.St) (H : Hp) : Prop := tWhile c tb D σ H
theorem w_while {c : TT} (q : WhRun c tb D σ H) : tWhile c tb D σ H := q
theorem wh {c : TT} (P : Nat → L2.St → Hp → Prop) {n : Nat} (h0 : P n σ H)
    (hs : ∀ n σ H, P n σ H → c σ H fun b H1 => if b = true then ∃ N : L2.St → Hp → Prop, (∀ σ' H', N σ' H' → ∃ m', m' < n ∧ P m' σ' H') ∧ tb { D with nx := N, ct := N, bk := D.nx } σ H1 else D.nx σ H1) : WhRun c tb D σ H := ⟨P, ⟨n, h0⟩, hs⟩
/-- one more turn -/
theorem turn {n : Nat} {P : Nat → L2.St → Hp → Prop} {σ1 : L2.St} {H1 : Hp} (q : tb { D with nx := fun σ' H' => ∃ m', m' < n ∧ P m' σ' H', ct := fun σ' H' => ∃ m', m' < n ∧ P m' σ' H', bk := D.nx } σ1 H1) :
    ∃ N : L2.St → Hp → Prop, (∀ σ' H', N σ' H' → ∃ m', m' < n ∧ P m' σ' H') ∧ tb { D with nx := N, ct := N, bk := D.nx } σ1 H1 := ⟨_, fun _ _ h => h, q⟩
/-- the dict of a walk is locked meanwhile -/
def LockE (te : TE) (σ : L2.St) (H : Hp) (Q : VK) : Prop := tLockE te σ H Q
theorem w_lockE (q : LockE te σ H Q) : tLockE te σ H Q := q
theorem lockE {d : Addr} {kvs : List (Key × V)} (h : H d = some (.dK kvs)) (q : ∀ od H1, H1 d = some (.frz od (.dK kvs)) → But d H H1 → te σ H1 fun v H' => H' d = some (.frz od (.dK kvs)) ∧ Q v (upd H' d (.dK kvs))) : LockE te σ H Q :=
  ⟨d, _, h, trivial, fun od => q od _ upd_same But.upd⟩
theorem w_keys {td : TE} (q : td σ H fun x H1 => ∃ d o, x = .ref d ∧ ((∃ kvs, H1 d = some (.frz o (.dK kvs)) ∧ R (Itk d o kvs) H1) ∨ ∃ kvs, H1 d = some (.frz o (.dT kvs)) ∧ R (Itkt d o kvs) H1)) : iKeys td σ H R := q
end
end Cr

/-! The rules whose reading names the written part, with K said apart (for blocks within a def). -/
namespace Cr
open PySem PySem.Spec PyProof.Rows L2
section
variable {X : Cx} (K : PySem.W.Frag)
theorem o_addK (h : X.K = K := by rfl) : OpR X (binaryOp .Add) (rAddU K) := h ▸ o_add
theorem o_mulK (h : X.K = K := by rfl) : OpR X (binaryOp .Mult) (rMulU K) := h ▸ o_mul
theorem o_eqK (hu : X.A.units + 64 < cLine) (h : X.K = K := by rfl) : OpR X (compareOp .Eq) (rEqU K) := h ▸ o_eq hu
theorem o_neK (hu : X.A.units + 64 < cLine) (h : X.K = K := by rfl) : OpR X (compareOp .NotEq) (rNeU K) := h ▸ o_ne hu
theorem o_inK (h : X.K = K := by rfl) : OpR X (compareOp .In) (rInU K) := h ▸ o_in
theorem o_ninK (h : X.K = K := by rfl) : OpR X (compareOp .NotIn) (rNinU K) := h ▸ o_nin
theorem ix_seqK (h : X.K = K := by rfl) : IxR X (rIx K) := h ▸ ix_seq
theorem s_anyK (h : X.K = K := by rfl) : SlR X (rSliU K) := h ▸ s_any
theorem c_lenK (h : X.K = K := by rfl) : CallR X (.builtin "len") (rLenU K) := h ▸ c_len
theorem c_isiK (h : X.K = K := by rfl) : CallR X (.builtin "isinstance") (rIsi K) := h ▸ call_isi
theorem c_isiTK (h : X.K = K := by rfl) : CallR X (.builtin "isinstance") (rIsiT K) := h ▸ call_isiT
theorem c_sumK (hc : X.calm = true := by rfl) (h : X.K = K := by rfl) : CallR X (.builtin "sum") (rSum K) := h ▸ cr_sum hc
theorem c_allK (hc : X.calm = true := by rfl) (h : X.K = K := by rfl) : CallR X (.builtin "all") (rAll K) := h ▸ cr_all hc
theorem c_anyK (hc : X.calm = true := by rfl) (h : X.K = K := by rfl) : CallR X (.builtin "any") (rAny K) := h ▸ cr_any hc
theorem c_minK (hc : X.calm = true := by rfl) (h : X.K = K := by rfl) : CallR X (.builtin "min") (rMin K) := h ▸ cr_min hc
theorem c_maxK (hc : X.calm = true := by rfl) (h : X.K = K := by rfl) : CallR X (.builtin "max") (rMax K) := h ▸ cr_max hc
theorem c_sortedIK (h : X.K = K := by rfl) : CallR X (.builtin "sorted") (rSortedI K) := h ▸ cr_sortedI
abbrev rListOf (K : PySem.W.Frag) : List V → Hp → VK → Prop := fun xs H Q => ∃ p ys, xs = [.ref p] ∧ (SqL K H p ys ∨ SqT K H p ys) ∧ ∀ l, H l = none → Q (.ref l) (upd H l (.lst ys))
abbrev rTupOf (K : PySem.W.Frag) : List V → Hp → VK → Prop := fun xs H Q => ∃ p ys, xs = [.ref p] ∧ ((SqL K H p ys ∧ ∀ l, H l = none → Q (.ref l) (upd H l (.tup ys))) ∨ (SqT K H p ys ∧ Q (.ref p) H))
theorem c_listK (h : X.K = K := by rfl) : CallR X (.type "list") (rListOf K) := h ▸ call_list_of
theorem c_tupleK (h : X.K = K := by rfl) : CallR X (.type "tuple") (rTupOf K) := h ▸ call_tuple_of
theorem pi_listK {tg l : Expr} {tl : TE} (hl : PE X l tl) (h : X.K = K := by rfl) : PI X tg l (iList K tl) := h ▸ pi_list hl
theorem pi_tupK {tg l : Expr} {tl : TE} (hl : PE X l tl) (h : X.K = K := by rfl) : PI X tg l (iTup K tl) := h ▸ pi_tup hl
theorem pi_seqK {tg l : Expr} {tl : TE} (hl : PE X l tl) (h : X.K = K := by rfl) : PI X tg l (iSeq K tl) := h ▸ pi_seq hl
theorem pg_tupK {es : List Expr} {k : Nat} {t : TGs} {n : Nat} {pos : Pos} (h : PGs X es t) (hc : X.calm = true := by rfl) (hK : X.K = K := by rfl)
    (hn : (assignEach es X.env).length = n := by rfl) (hst : (assignEach es X.env).findIdx? (·.1) = none := by rfl) : PG X (.Tuple es k pos) (gTup K n t) := hK ▸ pg_tup hc h hn hst
theorem pe_bmK {o e : Expr} {es : List Expr} {T id : String} {name : Str} {r : V → List V → Hp → VK → Prop} {to : TE} {t : TA} {apos cpos : Pos} (pa : PlainAttrs T) (slot : Slot T name id) (hty : typeOf (.builtin id) = pure (.type "method_descriptor"))
    (hm : MtR X id r) (ho : PE X o to) (ha : PA X (e :: es) t) (hK : X.K = K := by rfl)
    (hbase : attributeBase o name X.env (eval o X.env) = eval o X.env := by rfl)
    (hfew : ((backTo cpos (starEach (e :: es) X.env)).all (fun x => !x.1) && (backToKw cpos (keywordEach [] X.env)).all (fun x => x.1.isSome)
      && decide ((e :: es).length + ([] : List Keyword).length + (if ([] : List Keyword).isEmpty then 0 else 1) < 30)) = true := by rfl)
    (hline : (apos.endLine == cpos.line) = true := by rfl) (hs : starEach (e :: es) X.env = (false, eval e X.env) :: starEach es X.env := by rfl) (hplain : (backTo cpos (starEach es X.env)).any (·.1) = false := by rfl) :
    PE X (.Call (.Attribute o name apos) (e :: es) [] cpos) (tBM K T r to t) := hK ▸ pe_bm pa slot hty hm ho ha hbase hfew hline hs hplain
end
section
variable {K : PySem.W.Frag} {H : Hp} {Q : VK} {a b p : Addr} {xs ys : List V}
theorem list_l (h : SqL K H a xs) (q : ∀ p H', H p = none → Same H H' → H' p = some (.lst xs) → Q (.ref p) H') : rListOf K [.ref a] H Q := ⟨_, _, rfl, .inl h, fun p n => q p _ n (same_new n) upd_same⟩
theorem list_t (h : SqT K H a xs) (q : ∀ p H', H p = none → Same H H' → H' p = some (.lst xs) → Q (.ref p) H') : rListOf K [.ref a] H Q := ⟨_, _, rfl, .inr h, fun p n => q p _ n (same_new n) upd_same⟩
theorem tuple_l (h : SqL K H a xs) (q : ∀ p H', H p = none → Same H H' → H' p = some (.tup xs) → Q (.ref p) H') : rTupOf K [.ref a] H Q := ⟨_, _, rfl, .inl ⟨h, fun p n => q p _ n (same_new n) upd_same⟩⟩
theorem tuple_t (h : SqT K H a xs) (q : Q (.ref a) H) : rTupOf K [.ref a] H Q := ⟨_, _, rfl, .inr ⟨h, q⟩⟩
end
end Cr

/-! Dicts: reads and writes, under names of their own. -/
namespace Cr
open PySem PySem.Spec PyProof.Rows L2
section
variable {X : Cx} {K : PySem.W.Frag} {σ : L2.St} {H H' : Hp} {Q : VK} {x y z v : V} {a b p : Addr} {kvs : List (Key × V)} {k : Key} {D0 : Ends}
def DNin (x y : V) (H : Hp) (Q : VK) : Prop := ∃ a o, x = .ref a ∧ DGet H a y o ∧ Q (.bl (!o.isSome)) H
def DIn (x y : V) (H : Hp) (Q : VK) : Prop := ∃ a o, x = .ref a ∧ DGet H a y o ∧ Q (.bl o.isSome) H
def DRd (x y : V) (H : Hp) (Q : VK) : Prop := ∃ a v, x = .ref a ∧ DGet H a y (some v) ∧ Q v H
def DWr (x y v : V) (H : Hp) (R : Hp → Prop) : Prop := ∃ a H4, x = .ref a ∧ DPut H a y v H4 ∧ R H4
theorem w_dnin {ty td : TE} (q : ty σ H fun y H1 => td σ H1 fun x H2 => DNin x y H2 Q) : tDNotIn ty td σ H Q := q
theorem w_din {ty td : TE} (q : ty σ H fun y H1 => td σ H1 fun x H2 => DIn x y H2 Q) : tDIn ty td σ H Q := q
theorem w_dget {ty td : TE} (q : td σ H fun x H1 => ty σ H1 fun y H2 => DRd x y H2 Q) : tDGet td ty σ H Q := q
theorem w_dput {ty td tv : TE} (q : tv σ H fun v H1 => td σ H1 fun x H2 => ty σ H2 fun y H3 => DWr x y v H3 fun H4 => D0.nx σ H4) : sDPut td ty tv D0 σ H := q
theorem dnin_k (h : Rd H a (.dK kvs)) (e : valV kvs k = some v) (q : Q (.bl false) H) : DNin (.ref a) (kV k) H Q := ⟨a, _, rfl, .inl ⟨kvs, k, h, rfl, e.symm⟩, q⟩
theorem dnin_n (h : Rd H a (.dK kvs)) (e : valV kvs k = none) (q : Q (.bl true) H) : DNin (.ref a) (kV k) H Q := ⟨a, _, rfl, .inl ⟨kvs, k, h, rfl, e.symm⟩, q⟩
theorem din_k (h : Rd H a (.dK kvs)) (e : valV kvs k = some v) (q : Q (.bl true) H) : DIn (.ref a) (kV k) H Q := ⟨a, _, rfl, .inl ⟨kvs, k, h, rfl, e.symm⟩, q⟩
theorem din_n (h : Rd H a (.dK kvs)) (e : valV kvs k = none) (q : Q (.bl false) H) : DIn (.ref a) (kV k) H Q := ⟨a, _, rfl, .inl ⟨kvs, k, h, rfl, e.symm⟩, q⟩
theorem drd_k (h : Rd H a (.dK kvs)) (e : valV kvs k = some v) (q : Q v H) : DRd (.ref a) (kV k) H Q := ⟨a, v, rfl, .inl ⟨kvs, k, h, rfl, e.symm⟩, q⟩
theorem drd_i {i : Int} (h : Rd H a (.dK kvs)) (e : valV kvs (.inl i) = some v) (q : Q v H) : DRd (.ref a) (.int i) H Q := drd_k h e q
theorem drd_s {s : Str} (h : Rd H a (.dK kvs)) (e : valV kvs (.inr s) = some v) (q : Q v H) : DRd (.ref a) (.str s) H Q := drd_k h e q
theorem dwr_k {R : Hp → Prop} (h : H a = some (.dK kvs)) (hz : kvs.length < 100000) (q : ∀ H', But a H H' → H' a = some (.dK (putK kvs k v)) → R H') : DWr (.ref a) (kV k) v H R :=
  ⟨a, _, rfl, .k h (szt hz), q _ But.upd upd_same⟩
theorem dwr_i {R : Hp → Prop} {i : Int} (h : H a = some (.dK kvs)) (hz : kvs.length < 100000) (q : ∀ H', But a H H' → H' a = some (.dK (putK kvs (.inl i) v)) → R H') : DWr (.ref a) (.int i) v H R := dwr_k h hz q
theorem dwr_s {R : Hp → Prop} {s : Str} (h : H a = some (.dK kvs)) (hz : kvs.length < 100000) (q : ∀ H', But a H H' → H' a = some (.dK (putK kvs (.inr s) v)) → R H') : DWr (.ref a) (.str s) v H R := dwr_k h hz q
theorem val_at {i : Nat} (hn : (kvs.map (·.1)).Nodup) (e : kvs[i]? = some (k, v)) : valV kvs k = some v := val_nodup hn (k, v) (List.mem_of_getElem? e)
end
theorem RepK.but {H H' : Hp} {a : Addr} {d0 : D} {ds : List (Key × D)} {xs : List (Key × V)} (h0 : Rep H d0 (.ref a)) (hs : D.sizeK ds < d0.size) (b : But a H H') (h : RepK H ds xs) : RepK H' ds xs :=
  h.keep ds fun d' c u z r e => b c u (fun q => by
    subst q
    have := Rep.inj_size d'.size d' d0 _ (Nat.le_refl _) r h0
    omega) e
theorem RepL.but {H H' : Hp} {a : Addr} {d0 : D} {ds : List D} {xs : List V} (h0 : Rep H d0 (.ref a)) (hs : D.sizeL ds < d0.size) (b : But a H H') (h : RepL H ds xs) : RepL H' ds xs :=
  h.keep ds fun d' c u z r e => b c u (fun q => by
    subst q
    have := Rep.inj_size d'.size d' d0 _ (Nat.le_refl _) r h0
    omega) e
theorem Rep.but {H H' : Hp} {a : Addr} {d0 d : D} {v : V} (h0 : Rep H d0 (.ref a)) (hs : d.size < d0.size) (b : But a H H') (h : Rep H d v) : Rep H' d v :=
  h.keep d fun d' c u z r e => b c u (fun q => by
    subst q
    have := Rep.inj_size d'.size d' d0 _ (Nat.le_refl _) r h0
    omega) e
/-- a dict that was locked and is whole again -/
theorem same_back {H H1 H2 : Hp} {a : Addr} {o : HO} (h : H a = some o) (b : But a H H1) (s : Same H1 H2) : Same H (upd H2 a o) := fun c x e => by
  by_cases q : c = a
  · subst q
    rw [upd_same, ← h, e]
  · rw [upd_ne q]
    exact s _ _ (b _ _ q e)
theorem D.deep_at_dct {ds : List (Key × D)} {i n : Nat} (h : (D.dct ds).deep < n + 1) (hi : i < ds.length) : (ds[i]).2.deep < n := by
  have := D.deepK_at hi
  rw [D.deep_dct] at h
  omega
theorem D.fit_at_dct {ds : List (Key × D)} {i : Nat} (h : (D.dct ds).fit) (hi : i < ds.length) : (ds[i]).2.fit := by
  rw [D.fit_dct] at h
  exact D.fitK_at hi h.2.2
def rDictP (K : PySem.W.Frag) : List V → Hp → VK → Prop := fun xs H Q => ∃ (a : Addr) (ps : List Addr) (kvs : List (Key × V)), xs = [.ref a] ∧ SqL K H a (ps.map V.ref) ∧ Paired (fun p kv => SqT K H p [kV kv.1, kv.2]) ps kvs ∧
    ∀ p, H p = none → Q (.ref p) (upd H p (.dK (mergeK [] kvs)))
theorem c_dictPK {X : Cx} (K : PySem.W.Frag) (hc : X.calm = true := by rfl) (h : X.K = K := by rfl) : CallR X (.type "dict") (rDictP K) := h ▸ call_dictP hc
theorem val_none {kvs : List (Key × V)} {k : Key} (h : k ∉ kvs.map (·.1)) : valV kvs k = none := by
  have a := valV_any k kvs
  cases e : valV kvs k with
  | none => rfl
  | some v => exact absurd (valV_in e) h
theorem merge_app : ∀ (kvs acc : List (Key × V)), ((acc ++ kvs).map (·.1)).Nodup → mergeK acc kvs = acc ++ kvs
  | [], acc, _ => by simp [mergeK]
  | (k, v) :: r, acc, h => by
    have e : mergeK acc ((k, v) :: r) = mergeK (putK acc k v) r := rfl
    have n : valV acc k = none := val_none fun m => by
      rw [List.map_append, List.nodup_append] at h
      exact h.2.2 k m k (by simp) rfl
    rw [e, putK_new v n]
    have h' : ((acc ++ [(k, v)] ++ r).map (·.1)).Nodup := by
      rw [List.append_assoc]
      exact h
    rw [merge_app r _ h', List.append_assoc]
    rfl
theorem merge_new {kvs : List (Key × V)} (h : (kvs.map (·.1)).Nodup) : mergeK [] kvs = kvs := merge_app kvs [] h
theorem dict_p {K : PySem.W.Frag} {H : Hp} {Q : VK} {a : Addr} {ps : List Addr} {kvs : List (Key × V)} (h : SqL K H a (ps.map V.ref)) (hp : Paired (fun p kv => SqT K H p [kV kv.1, kv.2]) ps kvs) (hn : (kvs.map (·.1)).Nodup)
    (q : ∀ p H', H p = none → Same H H' → H' p = some (.dK kvs) → Q (.ref p) H') : rDictP K [.ref a] H Q :=
  ⟨a, ps, kvs, rfl, h, hp, fun p n => q p _ n (same_new n) (by
    rw [merge_new hn]
    exact upd_same)⟩
theorem w_yes {σ : L2.St} {H : Hp} {Q : Bool → Hp → Prop} (q : Q true H) : tYes σ H Q := q
/-! ### what is new -/
/-- the part of H' that H has not -/
def New (H H' : Hp) : Hp := fun a => match H a with
  | none => H' a
  | some _ => none
theorem New.at {H H' : Hp} {a : Addr} (h : H a = none) : New H H' a = H' a := by
  unfold New
  rw [h]
theorem New.old {H H' : Hp} {a : Addr} {o : HO} (h : H a = some o) : New H H' a = none := by
  unfold New
  rw [h]
theorem New.un {H H' : Hp} {a : Addr} {o : HO} (h : New H H' a = some o) : H a = none ∧ H' a = some o := by
  cases e : H a with
  | some u =>
    rw [New.old e] at h
    cases h
  | none =>
    rw [New.at e] at h
    exact ⟨rfl, h⟩
theorem New.mk {H H' : Hp} {a : Addr} {o : HO} (h : H a = none) (e : H' a = some o) : New H H' a = some o := by
  rw [New.at h]
  exact e
theorem New.all {H H' : Hp} : Same (New H H') H' := fun a o e => (New.un e).2
theorem New.to {H H' H0 H1 : Hp} (h0 : ∀ a o, H0 a = some o → ∃ u, H a = some u) (h1 : ∀ a o, H a = none → H' a = some o → H1 a = some o) : Same (New H H') (New H0 H1) := fun a o e => by
  obtain ⟨e1, e2⟩ := New.un e
  refine New.mk ?_ (h1 a o e1 e2)
  cases z : H0 a with
  | none => rfl
  | some u =>
    obtain ⟨u', z'⟩ := h0 a u z
    rw [z'] at e1
    cases e1
theorem RepL.take_succ {H : Hp} {ds : List D} {i : Nat} {d : D} {ys : List V} {y : V} (r : RepL H (ds.take i) ys) (hi : ds[i]? = some d) (h : Rep H d y) : RepL H (ds.take (i + 1)) (ys ++ [y]) := by
  have e : ds.take (i + 1) = ds.take i ++ [d] := by
    rw [List.take_add_one, hi]
    rfl
  rw [e]
  exact RepL.snoc h r
theorem RepK.snoc {H : Hp} {k : Key} {d : D} {x : V} (h : Rep H d x) : ∀ {ds : List (Key × D)} {xs : List (Key × V)}, RepK H ds xs → RepK H (ds ++ [(k, d)]) (xs ++ [(k, x)])
  | [], xs, r => by
    unfold RepK at r
    rw [r]
    exact .cons h .nil
  | (k0, d0) :: ds, xs, r => by
    unfold RepK at r
    obtain ⟨y, s, rfl, h1, h2⟩ := r
    exact .cons h1 (RepK.snoc h h2)
theorem RepK.take_succ {H : Hp} {ds : List (Key × D)} {i : Nat} {k : Key} {d : D} {ys : List (Key × V)} {y : V} (r : RepK H (ds.take i) ys) (hi : ds[i]? = some (k, d)) (h : Rep H d y) : RepK H (ds.take (i + 1)) (ys ++ [(k, y)]) := by
  have e : ds.take (i + 1) = ds.take i ++ [(k, d)] := by
    rw [List.take_add_one, hi]
    rfl
  rw [e]
  exact RepK.snoc h r
theorem paired_len {α β : Type} {F : α → β → Prop} : ∀ {xs : List α} {ys : List β}, Paired F xs ys → xs.length = ys.length
  | _, _, .nil => rfl
  | _, _, .cons _ r => by rw [List.length_cons, List.length_cons, paired_len r]
theorem paired_snoc {α β : Type} {F : α → β → Prop} {x : α} {y : β} (h : F x y) : ∀ {xs : List α} {ys : List β}, Paired F xs ys → Paired F (xs ++ [x]) (ys ++ [y])
  | _, _, .nil => .cons h .nil
  | _, _, .cons a r => .cons a (paired_snoc h r)
theorem paired_imp {α β : Type} {F G : α → β → Prop} (f : ∀ x y, F x y → G x y) : ∀ {xs : List α} {ys : List β}, Paired F xs ys → Paired G xs ys
  | _, _, .nil => .nil
  | _, _, .cons a r => .cons (f _ _ a) (paired_imp f r)
end Cr

/-! Data that are made longer by one. -/
namespace Cr
open PySem PySem.Spec PyProof.Rows L2
/-- there is room for one more -/
def D.room : D → Prop
  | .lst xs => xs.length < 1000
  | .dct kvs => kvs.length < 1000 ∧ (Sum.inr "more" : Key) ∉ kvs.map (·.1)
  | _ => True
theorem D.deepL_snoc (d : D) : ∀ ds : List D, D.deepL (ds ++ [d]) = max (D.deepL ds) d.deep
  | [] => by
    show D.deepL [d] = max (D.deepL []) d.deep
    unfold D.deepL
    unfold D.deepL
    omega
  | d0 :: r => by
    have := D.deepL_snoc d r
    show D.deepL (d0 :: (r ++ [d])) = _
    unfold D.deepL
    rw [this]
    omega
theorem D.deepK_snoc (k : Key) (d : D) : ∀ ds : List (Key × D), D.deepK (ds ++ [(k, d)]) = max (D.deepK ds) d.deep
  | [] => by
    show D.deepK [(k, d)] = max (D.deepK []) d.deep
    unfold D.deepK
    unfold D.deepK
    omega
  | (k0, d0) :: r => by
    have := D.deepK_snoc k d r
    show D.deepK ((k0, d0) :: (r ++ [(k, d)])) = _
    unfold D.deepK
    rw [this]
    omega
theorem D.fitL_snoc {d : D} (h : d.fit) : ∀ {ds : List D}, D.fitL ds → D.fitL (ds ++ [d])
  | [], _ => by
    show D.fitL [d]
    unfold D.fitL
    unfold D.fitL
    exact ⟨h, trivial⟩
  | d0 :: r, f => by
    unfold D.fitL at f
    show D.fitL (d0 :: (r ++ [d]))
    unfold D.fitL
    exact ⟨f.1, D.fitL_snoc h f.2⟩
theorem D.fitK_snoc {k : Key} {d : D} (h : d.fit) : ∀ {ds : List (Key × D)}, D.fitK ds → D.fitK (ds ++ [(k, d)])
  | [], _ => by
    show D.fitK [(k, d)]
    unfold D.fitK
    unfold D.fitK
    exact ⟨h, trivial⟩
  | (k0, d0) :: r, f => by
    unfold D.fitK at f
    show D.fitK ((k0, d0) :: (r ++ [(k, d)]))
    unfold D.fitK
    exact ⟨f.1, D.fitK_snoc h f.2⟩
/-- v stands alone at the top: nothing but its own address changes -/
def Off (x : V) (H H' : Hp) : Prop := ∀ c o, x ≠ .ref c → H c = some o → H' c = some o
theorem Off.of {x : V} {H H' : Hp} (h : Same H H') : Off x H H' := fun c o _ e => h c o e
theorem Off.but {a : Addr} {H H' : Hp} (h : But a H H') : Off (.ref a) H H' := fun c o n e => h c o (fun z => n (by rw [z])) e
theorem D.deep_str {s : Str} : (D.str s).deep = 0 := by unfold D.deep; rfl
theorem D.deep_int {s : Int} : (D.int s).deep = 0 := by unfold D.deep; rfl
theorem D.deep_bl {s : Bool} : (D.bl s).deep = 0 := by unfold D.deep; rfl
theorem D.deep_non : D.non.deep = 0 := by unfold D.deep; rfl
theorem D.fit_str {s : Str} : (D.str s).fit := by unfold D.fit; trivial
theorem D.fit_int {s : Int} : (D.int s).fit := by unfold D.fit; trivial
theorem D.fit_bl {s : Bool} : (D.bl s).fit := by unfold D.fit; trivial
theorem D.fit_non : D.non.fit := by unfold D.fit; trivial
theorem m_appB {K : PySem.W.Frag} {a : Addr} {xs : List V} {y : V} {H : Hp} {Q : VK} (h : H a = some (.lst xs)) (hz : xs.length < 100000) (q : ∀ H', But a H H' → H' a = some (.lst (xs ++ [y])) → Q .non H') : rAppend (.ref a) [y] H Q :=
  m_app h hz (q _ But.upd upd_same)
def spVery : Sp := fun vs H Q _ => ∃ (x : V) (d : D), vs = [x, x] ∧ Rep H d x ∧ d.deep < 12 ∧ d.fit ∧ d.room ∧ ∀ H', Off x H H' → Q (.bl true) H'
end Cr

/-! What the shapes of the data are, and what an own error bears. -/
namespace Cr
open PySem PySem.Spec PyProof.Rows L2
theorem takesX {P : Program} {w : World} {K : PySem.W.Frag} {mg : Str → Option Value} {base : Heap} {N : List Str} {x : Str} {sc : Scope} {f : Addr} {cdv : Value} {A : Around} {outer : List Env} {s : Shared} {H : Hp} {E : XK} :
    L2N.Takes (cxOf (L2N.CX P w) P w K mg base N x sc f cdv A outer s H E) (fun cls d _ H => E cls d H) := L2N.takes_of rfl rfl rfl rfl
def D.isInt : D → Bool
  | .int _ => true
  | _ => false
def D.between (lo hi : Int) : D → Bool
  | .int i => decide (lo ≤ i) && decide (i ≤ hi)
  | _ => false
def D.isSeq : D → Bool
  | .lst _ => true
  | .tup _ => true
  | _ => false
def D.are (lo hi : Int) : D → Bool
  | .lst ds => (decide (lo ≤ ds.length) && decide ((ds.length : Int) ≤ hi)) && ds.all D.isInt
  | .tup ds => (decide (lo ≤ ds.length) && decide ((ds.length : Int) ≤ hi)) && ds.all D.isInt
  | _ => false
/-- an own error of class C that bears x as n leaves -/
def Rz (C : Addr) (n : Str) (x : V) (H : Hp) (E : XK) : Prop := ∀ H' p, Same H H' → H' p = some (.xd [(n, x)]) → E (.ref C) (some p) H'
def spIsInt : Sp := fun vs H Q _ => ∃ x d, vs = [x] ∧ Rep H d x ∧ Q (.bl d.isInt) H
def spBetween : Sp := fun vs H Q _ => ∃ x d lo hi, vs = [x, .int lo, .int hi] ∧ Rep H d x ∧ Q (.bl (d.between lo hi)) H
def spIsSeq : Sp := fun vs H Q _ => ∃ x d, vs = [x] ∧ Rep H d x ∧ ∀ H', Same H H' → Q (.bl d.isSeq) H'
def spAre : Sp := fun vs H Q _ => ∃ x d lo hi, vs = [x, .int lo, .int hi] ∧ Rep H d x ∧ d.fit ∧ ∀ H', Same H H' → Q (.bl (d.are lo hi)) H'
theorem w_err {C : Addr} {fs : List Str} {ta : TA} {σ : L2.St} {H : Hp} {Q : XK} (q : ta σ H fun vs H1 => vs.length = fs.length ∧ vs.length ≤ 1000 ∧ ∀ d, H1 d = none → Q (.ref C) (some d) (upd H1 d (.xd (fs.zip vs).reverse))) : tErr C fs ta σ H Q := q
theorem rz1 {C : Addr} {n : Str} {x : V} {H H1 : Hp} {E : XK} (r : Rz C n x H E) (s : Same H H1) :
    [x].length = [n].length ∧ [x].length ≤ 1000 ∧ ∀ d, H1 d = none → E (.ref C) (some d) (upd H1 d (.xd ([n].zip [x]).reverse)) :=
  ⟨rfl, by simp, fun d nd => r _ d (s.trans (same_new nd)) upd_same⟩
def Par2 (m l : Nat) (D : Ends) (σ : L2.St) (vs : List V) (H : Hp) : Prop := ∃ v w, vs = [v, w] ∧ D.nx ((σ.set m (some v)).set l (some w)) H
def Par3 (m l j : Nat) (D : Ends) (σ : L2.St) (vs : List V) (H : Hp) : Prop := ∃ u v w, vs = [u, v, w] ∧ D.nx (((σ.set m (some u)).set l (some v)).set j (some w)) H
theorem w_par2 {m l : Nat} {tr : TA} {σ : L2.St} {H : Hp} {D : Ends} (q : tr σ H fun vs H1 => Par2 m l D σ vs H1) : tPar m l tr D σ H := q
theorem w_par3 {i j l : Nat} {ta : TA} {σ : L2.St} {H : Hp} {D : Ends} (q : ta σ H fun vs H1 => Par3 i j l D σ vs H1) : tPar3 i j l ta D σ H := q
theorem par2 {m l : Nat} {σ : L2.St} {H : Hp} {D : Ends} {v w : V} (q : D.nx ((σ.set m (some v)).set l (some w)) H) : Par2 m l D σ [v, w] H := ⟨v, w, rfl, q⟩
theorem par3 {m l j : Nat} {σ : L2.St} {H : Hp} {D : Ends} {u v w : V} (q : D.nx (((σ.set m (some u)).set l (some v)).set j (some w)) H) : Par3 m l j D σ [u, v, w] H := ⟨u, v, w, rfl, q⟩
end Cr

/-! Comprehensions whose turns change nothing but the new list: its items are told by acc. -/
namespace Cr
open PySem PySem.Spec PyProof.Rows L2
theorem sqL_mono {K : PySem.W.Frag} {H H' : Hp} {a : Addr} {xs : List V} (h : SqL K H a xs) (s : Same H H') : SqL K H' a xs := by
  rcases h with (h | ⟨o, h⟩) | h
  · exact .inl (.inl (s _ _ h))
  · exact .inl (.inr ⟨o, s _ _ h⟩)
  · exact .inr h
theorem sqT_mono {K : PySem.W.Frag} {H H' : Hp} {a : Addr} {xs : List V} (h : SqT K H a xs) (s : Same H H') : SqT K H' a xs := by
  rcases h with (h | ⟨o, h⟩) | h
  · exact .inl (.inl (s _ _ h))
  · exact .inl (.inr ⟨o, s _ _ h⟩)
  · exact .inr h
def AccP (H : Hp) (acc : Nat → List V) (C : Addr) (i : Nat) (H' : Hp) : Prop := Same H H' ∧ H C = none ∧ H' C = some (.lst (acc i))
section
variable {K : PySem.W.Frag} {σ : L2.St} {H H' H4 : Hp} {Q : VK} {y : V} {a C : Addr} {xs : List V} {i : Nat} {acc : Nat → List V}
variable {g : TG} {tt : TT} {te : TE} {vs : List Nat}
theorem acc_skip (h : AccP H acc C i H') (s : Same H' H4) (e : acc (i + 1) = acc i) : AccP H acc C (i + 1) H4 := ⟨h.1.trans s, h.2.1, by rw [e]; exact s _ _ h.2.2⟩
theorem acc_push (h : AccP H acc C i H') (s : Same H' H4) (e : acc (i + 1) = acc i ++ [y]) (hz : (acc i).length < 100000) : Push C y H4 (AccP H acc C (i + 1)) :=
  push (s _ _ h.2.2) hz fun H5 b e5 => ⟨fun c o z => b _ _ (ne_of_none z h.2.1) (s _ _ (h.1 _ _ z)), h.2.1, by rw [e, e5]⟩
theorem acc_l (acc : Nat → List V) (h0 : acc 0 = []) (ha : SqL K H a xs)
    (hs : ∀ C i x H', xs[i]? = some x → AccP H acc C i H' → g x (wipe σ vs) H' fun σ2 H2 => wipe σ2 vs = wipe σ vs ∧ tt σ2 H2 fun b H3 => if b = true then te σ2 H3 fun y H4 => Push C y H4 (AccP H acc C (i + 1)) else AccP H acc C (i + 1) H3)
    (hd : ∀ C H', Same H H' → H C = none → H' C = some (.lst (acc xs.length)) → Q (.ref C) H') : LcRun (Itl K a) g tt te vs σ H Q :=
  lc_lst (AccP H acc) (fun C H1 n s e => ⟨s, n, by rw [h0]; exact e⟩) (fun C i H' _ h => sqL_mono ha h.1) hs fun C H' h => hd C H' h.1 h.2.1 h.2.2
theorem acc_t (acc : Nat → List V) (h0 : acc 0 = []) (ha : SqT K H a xs)
    (hs : ∀ C i x H', xs[i]? = some x → AccP H acc C i H' → g x (wipe σ vs) H' fun σ2 H2 => wipe σ2 vs = wipe σ vs ∧ tt σ2 H2 fun b H3 => if b = true then te σ2 H3 fun y H4 => Push C y H4 (AccP H acc C (i + 1)) else AccP H acc C (i + 1) H3)
    (hd : ∀ C H', Same H H' → H C = none → H' C = some (.lst (acc xs.length)) → Q (.ref C) H') : LcRun (Itt K a) g tt te vs σ H Q :=
  lc_tpl (AccP H acc) (fun C H1 n s e => ⟨s, n, by rw [h0]; exact e⟩) (fun C i H' _ h => sqT_mono ha h.1) hs fun C H' h => hd C H' h.1 h.2.1 h.2.2
theorem acc_r {lo : Int} {n : Nat} (acc : Nat → List V) (h0 : acc 0 = [])
    (hs : ∀ C i H', i < n → AccP H acc C i H' → g (.int (lo + i)) (wipe σ vs) H' fun σ2 H2 => wipe σ2 vs = wipe σ vs ∧ tt σ2 H2 fun b H3 => if b = true then te σ2 H3 fun y H4 => Push C y H4 (AccP H acc C (i + 1)) else AccP H acc C (i + 1) H3)
    (hd : ∀ C H', Same H H' → H C = none → H' C = some (.lst (acc n)) → Q (.ref C) H') : LcRun (Itr lo n) g tt te vs σ H Q :=
  lc_rng (AccP H acc) (fun C H1 n s e => ⟨s, n, by rw [h0]; exact e⟩) hs fun C H' h => hd C H' h.1 h.2.1 h.2.2
end
theorem take_map {α β : Type} {xs : List α} {f : α → β} {i : Nat} {x : α} (h : xs[i]? = some x) : (xs.take (i + 1)).map f = (xs.take i).map f ++ [f x] := by
  rw [List.take_add_one, h]
  simp
theorem take_filter {α : Type} {xs : List α} {p : α → Bool} {i : Nat} {x : α} (h : xs[i]? = some x) : (xs.take (i + 1)).filter p = (xs.take i).filter p ++ if p x = true then [x] else [] := by
  rw [List.take_add_one, h, List.filter_append]
  congr 1
  simp [List.filter_cons]
section
variable {K : PySem.W.Frag} {σ : L2.St} {H : Hp} {Q : VK} {a : Addr} {xs : List V}
def RevL (K : PySem.W.Frag) (x : V) (H : Hp) (Q : VK) : Prop := ∃ a xs, x = .ref a ∧ SqL K H a xs ∧ ∀ p, H p = none → Q (.ref p) (upd H p (.lst xs.reverse))
theorem w_revL {te : TE} (q : te σ H fun x H1 => RevL K x H1 Q) : tRevL K te σ H Q := q
theorem rev_l (h : SqL K H a xs) (q : ∀ p H', H p = none → Same H H' → H' p = some (.lst xs.reverse) → Q (.ref p) H') : RevL K (.ref a) H Q := ⟨a, xs, rfl, h, fun p n => q p _ n (same_new n) upd_same⟩
theorem w_ip {f : Int → Int → Int} {i j : Int} (q : Q (.int (f i j)) H) : ipI f (.int i) (.int j) H Q := ⟨_, _, rfl, rfl, q⟩
theorem pe_revLK {X : Cx} (K : PySem.W.Frag) {e : Expr} {te : TE} {k : Nat} {p1 p2 p3 pos : Pos} (he : PE X e te) (h : X.K = K := by rfl) : PE X (.Subscript e (.Slice none none (some (.UnaryOp .USub (.Constant (.int 1) k p1) p2)) p3) pos) (tRevL K te) := h ▸ pe_revL he
end
theorem sq_le {k n : Int} (h : 1 ≤ k) (h2 : k * k ≤ n) : k ≤ n := by
  have := Int.mul_le_mul_of_nonneg_left (c := k) h (by omega)
  omega
section
variable {K : PySem.W.Frag} {σ : L2.St} {H : Hp} {a : Addr} {xs : List V} {x : V} {t : TG} {u : TGs} {n : Nat} {Q : L2.St → Hp → Prop}
theorem g_tup (h : SqT K H a xs) (hl : xs.length = n) (q : u xs σ H Q) : gTup K n u (.ref a) σ H Q := ⟨a, xs, rfl, h, hl, q⟩
theorem w_gc (q : t x σ H fun σ' H' => u xs σ' H' Q) : gCons t u (x :: xs) σ H Q := ⟨x, xs, rfl, q⟩
theorem w_gn (q : Q σ H) : gNil [] σ H Q := ⟨rfl, q⟩
theorem pair_at {α β : Type} {F : α → β → Prop} : ∀ {xs : List α} {ys : List β}, Paired F xs ys → ∀ {i : Nat} {x : α}, xs[i]? = some x → ∃ y, ys[i]? = some y ∧ F x y
  | _, _, .nil, i, x, e => by simp at e
  | _, _, .cons a r, 0, x, e => by
    simp at e
    subst e
    exact ⟨_, rfl, a⟩
  | _, _, .cons a r, i + 1, x, e => by
    obtain ⟨y, h1, h2⟩ := pair_at r (i := i) (by simpa using e)
    exact ⟨y, by simpa using h1, h2⟩
end
end Cr
namespace Cr
open PySem PySem.Spec PyProof.Rows L2
theorem take_at {H : Hp} {a : Addr} {m B : Int} {Q : VK} {E : XK} (hb : IsBox H a B) (hB : B < 100000000) (m0 : 1 ≤ m) (m1 : m < 18446744073709551616) (q : ∀ d H', But a H H' → IsBox H' a (B + 1) → 0 ≤ d → d < m → Q (.int d) H') : spTake [.ref a, .int m] H Q E :=
  ⟨a, m, B, rfl, hb, hB, m0, m1, q⟩
theorem But.old {a : Addr} {H H' : Hp} {b : Addr} (h : But a H H') (n : H' b = none) (na : b ≠ a) : H b = none := by
  cases z : H b with
  | none => rfl
  | some o =>
    rw [h _ _ na z] at n
    cases n
theorem _root_.L2.Same.old {H H' : Hp} {b : Addr} (h : Same H H') (n : H' b = none) : H b = none := by
  cases z : H b with
  | none => rfl
  | some o =>
    rw [h _ _ z] at n
    cases n
end Cr
namespace Cr
open PySem PySem.Spec PyProof.Rows L2
section
variable {σ : L2.St} {H : Hp} {Q : VK}
def DNew (H : Hp) (Q : VK) : Prop := ∀ p, H p = none → Q (.ref p) (upd H p (.dK []))
theorem w_dnew (q : DNew H Q) : tDNewK σ H Q := q
theorem dnew (q : ∀ p H', H p = none → Same H H' → H' p = some (.dK []) → Q (.ref p) H') : DNew H Q := fun p n => q p _ n (same_new n) upd_same
def Disp (trs : List (TE × TE)) (σ : L2.St) (H : Hp) (Q : VK) : Prop := tDisp trs σ H Q
theorem w_disp {trs : List (TE × TE)} (q : Disp trs σ H Q) : tDisp trs σ H Q := q
theorem disp1 {s : Str} {v : V} (q : ∀ p H', H p = none → Same H H' → H' p = some (.dK [(.inr s, v)]) → Q (.ref p) H') : Disp [(tC (.str s), tC v)] σ H Q := fun p n => by
  refine ⟨upd_same, [(.inr s, v)], rfl, by simp, q p _ n ?_ ?_⟩
  · intro c o e
    rw [upd_ne (ne_of_none e n), upd_ne (ne_of_none e n)]
    exact e
  · rw [upd_same]
    rfl
end
end Cr
namespace Cr
open PySem PySem.Spec PyProof.Rows L2
mutual
def D.fitB : D → Bool
  | .lst xs => decide (xs.length ≤ 1000) && D.fitLB xs
  | .tup xs => decide (xs.length ≤ 1000) && D.fitLB xs
  | .dct kvs => decide (kvs.length ≤ 1000) && decide ((kvs.map (·.1)).Nodup) && D.fitKB kvs
  | _ => true
def D.fitLB : List D → Bool
  | [] => true
  | d :: r => d.fitB && D.fitLB r
def D.fitKB : List (Key × D) → Bool
  | [] => true
  | (_, d) :: r => d.fitB && D.fitKB r
end
mutual
theorem D.fit_of : ∀ (d : D), d.fitB = true → d.fit
  | .non, _ => D.fit_non
  | .bl _, _ => D.fit_bl
  | .int _, _ => D.fit_int
  | .str _, _ => D.fit_str
  | .lst xs, h => by
    unfold D.fitB at h
    rw [Bool.and_eq_true, decide_eq_true_eq] at h
    rw [D.fit_lst]
    exact ⟨h.1, D.fitL_of xs h.2⟩
  | .tup xs, h => by
    unfold D.fitB at h
    rw [Bool.and_eq_true, decide_eq_true_eq] at h
    rw [D.fit_tup]
    exact ⟨h.1, D.fitL_of xs h.2⟩
  | .dct xs, h => by
    unfold D.fitB at h
    rw [Bool.and_eq_true, Bool.and_eq_true, decide_eq_true_eq, decide_eq_true_eq] at h
    rw [D.fit_dct]
    exact ⟨h.1.1, h.1.2, D.fitK_of xs h.2⟩
theorem D.fitL_of : ∀ (ds : List D), D.fitLB ds = true → D.fitL ds
  | [], _ => by
    unfold D.fitL
    trivial
  | d :: r, h => by
    unfold D.fitLB at h
    rw [Bool.and_eq_true] at h
    unfold D.fitL
    exact ⟨D.fit_of d h.1, D.fitL_of r h.2⟩
theorem D.fitK_of : ∀ (ds : List (Key × D)), D.fitKB ds = true → D.fitK ds
  | [], _ => by
    unfold D.fitK
    trivial
  | (_, d) :: r, h => by
    unfold D.fitKB at h
    rw [Bool.and_eq_true] at h
    unfold D.fitK
    exact ⟨D.fit_of d h.1, D.fitK_of r h.2⟩
end
def D.roomB : D → Bool
  | .lst xs => decide (xs.length < 1000)
  | .dct kvs => decide (kvs.length < 1000) && !(kvs.any fun p => decide (p.1 = (Sum.inr "more" : Key)))
  | _ => true
theorem D.room_of : ∀ {d : D}, d.roomB = true → d.room
  | .non, _ => trivial
  | .bl _, _ => trivial
  | .int _, _ => trivial
  | .str _, _ => trivial
  | .tup _, _ => trivial
  | .lst xs, h => by
    unfold D.roomB at h
    rw [decide_eq_true_eq] at h
    exact h
  | .dct xs, h => by
    unfold D.roomB at h
    rw [Bool.and_eq_true, decide_eq_true_eq, Bool.not_eq_true'] at h
    refine ⟨h.1, fun m => ?_⟩
    obtain ⟨p, hp, e⟩ := List.mem_map.mp m
    have := List.any_eq_false.mp h.2 p hp
    rw [e] at this
    exact this (decide_eq_true rfl)
/-- small, and with room -/
def D.okB (d : D) : Bool := decide (d.deep < 10) && d.fitB && d.roomB
/-- what may be copied and made longer -/
structure D.Ok (d : D) : Prop where
  deep : d.deep < 10
  fit : d.fit
  room : d.room
theorem D.ok_of {d : D} (h : d.okB = true) : d.Ok := by
  unfold D.okB at h
  rw [Bool.and_eq_true, Bool.and_eq_true, decide_eq_true_eq] at h
  exact ⟨h.1.1, D.fit_of d h.1.2, D.room_of h.2⟩
theorem RepL.app {H : Hp} : ∀ {ds es : List D} {xs ys : List V}, RepL H ds xs → RepL H es ys → RepL H (ds ++ es) (xs ++ ys)
  | [], es, xs, ys, r, r2 => by
    unfold RepL at r
    rw [r]
    exact r2
  | d :: ds, es, xs, ys, r, r2 => by
    unfold RepL at r
    obtain ⟨x, s, rfl, h1, h2⟩ := r
    exact .cons h1 (RepL.app h2 r2)
theorem RepL.rep {H : Hp} {ds : List D} {xs : List V} (h : RepL H ds xs) : ∀ n : Nat, RepL H (List.replicate n ds).flatten (List.replicate n xs).flatten
  | 0 => .nil
  | n + 1 => by
    rw [List.replicate_succ, List.replicate_succ, List.flatten_cons, List.flatten_cons]
    exact h.app (RepL.rep h n)
end Cr
namespace Cr
open PySem PySem.Spec PyProof.Rows L2
/-- the box is old: what is new stays -/
theorem New.but {H H1 H2 : Hp} {a : Addr} {B : Int} (hb : IsBox H a B) (b : But a H1 H2) : Same (New H H1) (New H H2) := New.to (fun c o e => ⟨o, e⟩) fun c o n e => b _ _ (fun z => by
  subst z
  obtain ⟨_, _, _, _, e1, _⟩ := hb
  rw [e1] at n
  cases n) e
end Cr
namespace Cr
open PySem PySem.Spec PyProof.Rows L2
/-- a list of drawn whole numbers grows at C, k draws a turn -/
def DrawAt (a : Addr) (H : Hp) (B k : Int) (C : Addr) (i : Nat) (H' : Hp) : Prop := But a H H' ∧ H C = none ∧ IsBox H' a (B + k * i) ∧ ∃ ns : List Int, ns.length = i ∧ H' C = some (.lst (ns.map V.int))
section
variable {K : PySem.W.Frag} {σ : L2.St} {H H' H4 : Hp} {Q : VK} {a C : Addr} {i : Nat} {B k : Int} {g : TG} {tt : TT} {te : TE} {vs : List Nat}
theorem drw_push {v : Int} (hb : IsBox H a B) (h : DrawAt a H B k C i H') (hi : i < 90000) (b : But a H' H4) (ib : IsBox H4 a (B + k * i + k)) : Push C (.int v) H4 (DrawAt a H B k C (i + 1)) := by
  obtain ⟨h1, h2, h3, ns, h4, h5⟩ := h
  have nCa : C ≠ a := (hb.ne (o := .lst []) h2).symm
  refine push (b _ _ nCa h5) (by simp; omega) fun H5 b5 e5 => ⟨fun c o nc e => ?_, h2, ?_, ns ++ [v], by simp [h4], by rw [e5, List.map_append]; rfl⟩
  · exact b5 _ _ (ne_of_none e h2) (b _ _ nc (h1 _ _ nc e))
  · obtain ⟨g, r, c, kk, e1, e2, e3, e4, e6⟩ := ib
    refine ⟨g, r, c, kk, b5 _ _ (Ne.symm nCa) e1, e2, e3, e4, ?_⟩
    have : k * ((i + 1 : Nat) : Int) = k * i + k := by
      rw [Int.natCast_add, Int.mul_add, Int.natCast_one, Int.mul_one]
    omega
theorem drw_r {lo : Int} {n : Nat} (k : Int) (hb : IsBox H a B)
    (hs : ∀ C i H', i < n → DrawAt a H B k C i H' → g (.int (lo + i)) (wipe σ vs) H' fun σ2 H2 => wipe σ2 vs = wipe σ vs ∧ tt σ2 H2 fun b H3 => if b = true then te σ2 H3 fun y H4 => Push C y H4 (DrawAt a H B k C (i + 1)) else DrawAt a H B k C (i + 1) H3)
    (hd : ∀ C H' (ns : List Int), But a H H' → IsBox H' a (B + k * n) → H C = none → ns.length = n → H' C = some (.lst (ns.map V.int)) → Q (.ref C) H') : LcRun (Itr lo n) g tt te vs σ H Q :=
  lc_rng (DrawAt a H B k) (fun C H1 nC s e => ⟨But.of s, nC, (hb.mono s).le (by simp), [], rfl, e⟩) hs fun C H' ⟨h1, h2, h3, ns, h4, h5⟩ => hd C H' ns h1 h3 h2 h4 h5
end
theorem ati_last {ns : List Int} (h : ns ≠ []) : ∃ z, atI (ns.map V.int) (-1) = some (.int z) := by
  have hl : 1 ≤ ns.length := by
    cases ns with
    | nil => exact absurd rfl h
    | cons x r => simp
  refine ⟨ns[ns.length - 1], ?_⟩
  unfold atI ixN
  rw [List.length_map, if_neg (by decide), if_pos (by omega)]
  have e : ((-1 : Int) + ns.length).toNat = ns.length - 1 := by omega
  simp only [Option.bind_some]
  first
    | (rw [e]; simp)
    | (simp; omega)
end Cr
namespace Cr
open PySem PySem.Spec PyProof.Rows L2
/-- e.f of the error that an except suite holds, whatever its class -/
theorem pe_gotX {X : Cx} {x f : Str} {C a : Addr} {oe : Obj} {cls : Value} {d : Option Addr} {pn : List (Addr × Obj)} {fs : List Str} {e : Expr} {te : TE} {k : Nat} {pos : Pos} (m : Em X.prog X.w X.K X.mg X.base k x C fs) (hf : f ∈ fs)
    (hz : L2N.Zn cls d oe) (hd : ∃ vs, oe.data = .fields vs) (he : PE (X.suite a ((a, oe) :: pn)) e te) (hb : attributeBase e f X.env (eval e X.env) = eval e X.env := by rfl) :
    PE (X.suite a ((a, oe) :: pn)) (.Attribute e f pos) (tXf a cls d C f te) := pe_xf m.1.xf (m.2.1 f hf) hz.zc hd he hb
end Cr
namespace Cr
open PySem PySem.Spec PyProof.Rows L2
section
variable {K : PySem.W.Frag} {σ : L2.St} {H : Hp} {Q : VK} {D : Ends}
def KwC (n m : Nat) (sp : Sp) (π : {α : Type} → List α → List α → List α) (E : XK) (vs zs : List V) (H : Hp) (Q : VK) : Prop := vs.length = n ∧ zs.length = m ∧ sp (π vs zs) H Q E
theorem w_kw {n m : Nat} {sp : Sp} {π : {α : Type} → List α → List α → List α} {E : L2.St → XK} {t tk : TA} (q : t σ H fun vs H1 => tk σ H1 fun zs H2 => KwC n m sp (fun {α} => @π α) (E σ) vs zs H2 Q) : tKw n m sp (fun {α} => @π α) E t tk σ H Q := q
theorem kwc {n m : Nat} {sp : Sp} {π : {α : Type} → List α → List α → List α} {E : XK} {vs zs ws : List V} (h1 : vs.length = n) (h2 : zs.length = m) (e : π vs zs = ws) (q : sp ws H Q E) : KwC n m sp (fun {α} => @π α) E vs zs H Q := ⟨h1, h2, by
  show sp (π vs zs) H Q E
  rw [e]
  exact q⟩
theorem cl_hit {Wout : WX} {c cls : Value} {o : Option Nat} {ts : Addr → Value → Option Addr → TS} {r : List Clause} {d : Option Addr} (h : PySem.W.exmOne K cls c = some true)
    (q : ∀ a, H a = none → ts a cls d (asEnds o D) (asSt o a σ) H) : wCl K Wout D ((c, o, ts) :: r) cls d σ H := ⟨true, h, fun _ => q, fun z => nomatch z⟩
theorem cl_miss {Wout : WX} {c cls : Value} {o : Option Nat} {ts : Addr → Value → Option Addr → TS} {r : List Clause} {d : Option Addr} (h : PySem.W.exmOne K cls c = some false)
    (q : wCl K Wout D r cls d σ H) : wCl K Wout D ((c, o, ts) :: r) cls d σ H := ⟨false, h, (fun z => nomatch z), fun _ => q⟩
def XfR (a : Addr) (cls : Value) (d : Option Addr) (C : Addr) (f : Str) (x : V) (H : Hp) (Q : VK) : Prop := x = .ref a ∧ cls = .ref C ∧ ∃ (dd : Addr) (fs : List (Str × V)) (v : V), d = some dd ∧ H dd = some (.xd fs) ∧ fs.lookup f = some v ∧ Q v H
theorem w_xf {a : Addr} {cls : Value} {d : Option Addr} {C : Addr} {f : Str} {te : TE} (q : te σ H fun x H1 => XfR a cls d C f x H1 Q) : tXf a cls d C f te σ H Q := q
theorem xf_at {a dd C : Addr} {f : Str} {fs : List (Str × V)} {v : V} (h : H dd = some (.xd fs)) (e : fs.lookup f = some v) (q : Q v H) : XfR a (.ref C) (some dd) C f (.ref a) H Q := ⟨rfl, rfl, dd, fs, v, rfl, h, e, q⟩
end
end Cr
namespace Cr
open PySem PySem.Spec PyProof.Rows L2
theorem cut_pre (xs : List V) (j : Nat) : cutV xs none (some (j : Int)) = xs.take j := by
  unfold cutV
  rw [HT.sIx_none, HT.sIx_nat, List.drop_zero, Nat.sub_zero, List.take_eq_take_iff]
  omega
theorem cut_suf (xs : List V) (j : Nat) : cutV xs (some (j : Int)) none = xs.drop j := by
  unfold cutV
  rw [HT.sIx_none, HT.sIx_nat]
  rw [List.take_of_length_le (by rw [List.length_drop]; omega)]
  by_cases h : j ≤ xs.length
  · rw [Nat.min_eq_left h]
  · rw [Nat.min_eq_right (by omega), List.drop_of_length_le (Nat.le_refl _), List.drop_of_length_le (by omega)]
theorem fitL_ints : ∀ ns : List Int, D.fitL (ns.map D.int)
  | [] => by
    show D.fitL []
    unfold D.fitL
    trivial
  | n :: r => by
    show D.fitL (D.int n :: r.map D.int)
    unfold D.fitL
    exact ⟨D.fit_int, fitL_ints r⟩
theorem deepL_ints : ∀ ns : List Int, D.deepL (ns.map D.int) = 0
  | [] => by
    show D.deepL [] = 0
    unfold D.deepL
    rfl
  | n :: r => by
    show D.deepL (D.int n :: r.map D.int) = 0
    unfold D.deepL
    rw [deepL_ints r, D.deep_int]
    rfl
theorem fit_ints {ns : List Int} (h : ns.length ≤ 1000) : (D.lst (ns.map D.int)).fit := by
  rw [D.fit_lst, List.length_map]
  exact ⟨h, fitL_ints ns⟩
theorem fit_intsT {ns : List Int} (h : ns.length ≤ 1000) : (D.tup (ns.map D.int)).fit := by
  rw [D.fit_tup, List.length_map]
  exact ⟨h, fitL_ints ns⟩
theorem deep_ints {ns : List Int} : (D.lst (ns.map D.int)).deep = 1 := by rw [D.deep_lst, deepL_ints]
theorem deep_intsT {ns : List Int} : (D.tup (ns.map D.int)).deep = 1 := by rw [D.deep_tup, deepL_ints]
theorem rep_ints {H : Hp} {p : Addr} {ns : List Int} (h : H p = some (.lst (ns.map V.int))) : Rep H (.lst (ns.map D.int)) (.ref p) := .lst h (RepL.ints ns)
theorem rep_intsT {H : Hp} {p : Addr} {ns : List Int} (h : H p = some (.tup (ns.map V.int))) : Rep H (.tup (ns.map D.int)) (.ref p) := .tup h (RepL.ints ns)
/-- two new lists of the same plain items are the same -/
theorem same_at {n : Nat} {H : Hp} {Q : VK} {E : XK} {x y : V} (d : D) (h1 : Rep H d x) (h2 : Rep H d y) (h3 : d.deep < 10) (h4 : d.fit) (hn : 10 ≤ n) (q : ∀ H', Same H H' → Q (.bl true) H') (sp : Sp)
    (e : sp = fun vs H Q _ => ∃ (x y : V) (d : D), vs = [x, y] ∧ Rep H d x ∧ Rep H d y ∧ d.deep < n ∧ d.fit ∧ ∀ H', Same H H' → Q (.bl true) H') : sp [x, y] H Q E := by
  rw [e]
  exact ⟨x, y, d, rfl, h1, h2, by omega, h4, q⟩
end Cr
namespace Cr
open PySem PySem.Spec PyProof.Rows L2
/-- .. of drawn whole numbers that ok holds of -/
def DrawP (a : Addr) (H : Hp) (B k : Int) (ok : Int → Prop) (C : Addr) (i : Nat) (H' : Hp) : Prop := But a H H' ∧ H C = none ∧ IsBox H' a (B + k * i) ∧ ∃ ns : List Int, ns.length = i ∧ (∀ m ∈ ns, ok m) ∧ H' C = some (.lst (ns.map V.int))
section
variable {K : PySem.W.Frag} {σ : L2.St} {H H' H4 : Hp} {Q : VK} {a C : Addr} {i : Nat} {B k : Int} {g : TG} {tt : TT} {te : TE} {vs : List Nat} {ok : Int → Prop}
theorem drp_push {v : Int} (hb : IsBox H a B) (h : DrawP a H B k ok C i H') (hi : i < 90000) (b : But a H' H4) (ib : IsBox H4 a (B + k * i + k)) (hv : ok v) : Push C (.int v) H4 (DrawP a H B k ok C (i + 1)) := by
  obtain ⟨h1, h2, h3, ns, h4, h6, h5⟩ := h
  have nCa : C ≠ a := (hb.ne (o := .lst []) h2).symm
  refine push (b _ _ nCa h5) (by simp; omega) fun H5 b5 e5 => ⟨fun c o nc e => ?_, h2, ?_, ns ++ [v], by simp [h4], ?_, by rw [e5, List.map_append]; rfl⟩
  · exact b5 _ _ (ne_of_none e h2) (b _ _ nc (h1 _ _ nc e))
  · obtain ⟨g, r, c, kk, e1, e2, e3, e4, e6⟩ := ib
    refine ⟨g, r, c, kk, b5 _ _ (Ne.symm nCa) e1, e2, e3, e4, ?_⟩
    have : k * ((i + 1 : Nat) : Int) = k * i + k := by
      rw [Int.natCast_add, Int.mul_add, Int.natCast_one, Int.mul_one]
    omega
  · intro m hm
    rcases List.mem_append.mp hm with hm | hm
    · exact h6 m hm
    · have : m = v := by simpa using hm
      rw [this]
      exact hv
theorem drp_r {lo : Int} {n : Nat} (k : Int) (ok : Int → Prop) (hb : IsBox H a B)
    (hs : ∀ C i H', i < n → DrawP a H B k ok C i H' → g (.int (lo + i)) (wipe σ vs) H' fun σ2 H2 => wipe σ2 vs = wipe σ vs ∧ tt σ2 H2 fun b H3 => if b = true then te σ2 H3 fun y H4 => Push C y H4 (DrawP a H B k ok C (i + 1)) else DrawP a H B k ok C (i + 1) H3)
    (hd : ∀ C H' (ns : List Int), But a H H' → IsBox H' a (B + k * n) → H C = none → ns.length = n → (∀ m ∈ ns, ok m) → H' C = some (.lst (ns.map V.int)) → Q (.ref C) H') : LcRun (Itr lo n) g tt te vs σ H Q :=
  lc_rng (DrawP a H B k ok) (fun C H1 nC s e => ⟨But.of s, nC, (hb.mono s).le (by simp), [], rfl, (fun m hm => absurd hm List.not_mem_nil), e⟩) hs fun C H' ⟨h1, h2, h3, ns, h4, h6, h5⟩ => hd C H' ns h1 h3 h2 h4 h6 h5
end
end Cr
namespace Cr
open PySem PySem.Spec PyProof.Rows L2
/-- a list of data grows at C -/
def Grow (H : Hp) (ds : List D) (C : Addr) (i : Nat) (H' : Hp) : Prop := Same H H' ∧ H C = none ∧ ∃ ys, H' C = some (.lst ys) ∧ RepL H' (ds.take i) ys
theorem grow_push {H H' H4 : Hp} {ds : List D} {d : D} {C : Addr} {i : Nat} {y : V} (h : Grow H ds C i H') (s : Same H' H4) (hd : ds[i]? = some d) (hy : ∀ H5, But C H4 H5 → Rep H5 d y) (hz : i < 90000) : Push C y H4 (Grow H ds C (i + 1)) := by
  obtain ⟨h1, h2, ys, h3, h4⟩ := h
  have e4 := s _ _ h3
  have r4 := h4.mono s
  have hl := h4.len
  rw [List.length_take] at hl
  refine push e4 (by omega) fun H5 b5 e5 => ⟨fun c o e => b5 _ _ (ne_of_none e h2) (s _ _ (h1 _ _ e)), h2, _, e5, RepL.take_succ ?_ hd (hy _ b5)⟩
  exact RepL.but (Rep.lst e4 r4) (by rw [D.size_lst]; omega) b5 r4
theorem grow_0 {H : Hp} {ds : List D} : ∀ C H1, H C = none → Same H H1 → H1 C = some (.lst []) → Grow H ds C 0 H1 := fun C H1 n s e => ⟨s, n, [], e, .nil⟩
theorem grow_end {H H' : Hp} {ds : List D} {C : Addr} {n : Nat} (h : Grow H ds C n H') (e : n = ds.length) : Rep H' (.lst ds) (.ref C) := by
  obtain ⟨_, _, ys, h3, h4⟩ := h
  rw [e, List.take_length] at h4
  exact .lst h3 h4
theorem rep_new {H H' : Hp} {d : D} {c : Addr} (h : Rep (New H H') d (.ref c)) : H c = none := by
  cases d <;> unfold Rep at h
  all_goals first
    | (cases h; done)
    | (obtain ⟨a, xs, z, e, _⟩ := h; cases z; exact (New.un e).1)
theorem off_same {H0 H1 H2 : Hp} {y : V} (h : Off y H1 H2) (s : Same H0 H1) (hy : ∀ c, y = .ref c → H0 c = none) : Same H0 H2 := fun c o e => h c o (fun z => by
  rw [hy c z] at e
  cases e) (s c o e)
end Cr
namespace Cr
open PySem PySem.Spec PyProof.Rows L2
theorem between_int {i lo hi : Int} (h : i < lo ∨ hi < i) : (D.int i).between lo hi = false := by
  show (decide (lo ≤ i) && decide (i ≤ hi)) = false
  rcases h with h | h
  · rw [decide_eq_false (by omega), Bool.false_and]
  · rw [decide_eq_false (p := i ≤ hi) (by omega), Bool.and_false]
end Cr
namespace Cr
open PySem PySem.Spec PyProof.Rows L2
theorem off_but {a : Addr} {H0 H1 H2 : Hp} {y : V} (h : Off y H1 H2) (b : But a H0 H1) (hy : ∀ c, y = .ref c → H0 c = none) : But a H0 H2 := fun c o n e => h c o (fun z => by
  rw [hy c z] at e
  cases e) (b c o n e)
theorem off_box {a : Addr} {B : Int} {H0 H1 H2 : Hp} {y : V} {B0 : Int} (h : Off y H1 H2) (hb : IsBox H1 a B) (h0 : IsBox H0 a B0) (hy : ∀ c, y = .ref c → H0 c = none) : IsBox H2 a B := by
  obtain ⟨g, r, c, k, e1, e2, e3, e4, e5⟩ := hb
  obtain ⟨_, _, _, _, f1, _⟩ := h0
  exact ⟨g, r, c, k, h a _ (fun z => by
    rw [hy a z] at f1
    cases f1) e1, e2, e3, e4, e5⟩
end Cr

/-! Where an exception is handled (an except suite, and the defs that it calls): calls, list comprehensions over a range or a locked dict's keys. -/
namespace Cr
open PySem PySem.Spec PyProof.Rows L2 HotX L2H
abbrev CrSt := L2.St
/-! ### the end of a dict's keys -/
section
variable {prog : Program} {w : World} {A : Around} {E : Value → Shared → Prop} {s : Shared}
theorem keys_endH {it d x1 : Addr} {i n ep : Nat} {od : Obj} {es : Array DictEntry} {Q : Option Value → Shared → Prop} (hot : HotAt A x1 s.heap) (hx : x1 ≠ it) (hit : s.heap.IsKeyIter it d i n ep) (hod : s.heap.get? d = some od) (hdd : od.data = .dict es ep)
    (hsz : es.size = n) (hge : n ≤ i) (hQ : ∀ h', Heap.ExtBut it s.heap h' → Q none { s with heap := h' }) : wpAny (model prog w) A (pyNext (.ref it)) Q E s := by
  obtain ⟨o, ho, hc, hd⟩ := id hit
  obtain ⟨hh, o1, vs1, h1, d1, c1⟩ := hot
  have past : es.size ≤ i := by omega
  unfold pyNext
  refine wpAny_bind (wpAny_attempt (wpAny_callSpecial?_slot (name := Str.ofString "__next__") hit.typeIs F.slot_dict_keyiterator_next (wpAny_call_entry F.slot_dict_keyiterator_next hit.typeIs F.entry_dict_keyiterator_next ?_ (F.args_dict_keyiterator_next_1 _))))
  refine wpAny_bind (wpAny_pure (wpAny_bind (wpAny_bind ?_)))
  first | refine wpAny_bind (wpAny_typeNameOfWhole_keyiter hit.typeIs (wpAny_pure ?_)) | refine wpAny_bind (wpAny_typeNameOf_keyiter hit.typeIs (wpAny_pure ?_))
  refine wpAny_bind (wpAny_fieldsOf ho hd ?_)
  simp only [(by decide : Builtin.Dict_items.ownsTuple "dict_keyiterator" = false), Bool.false_eq_true, if_false]
  show wpAny _ _ (if (Value.ref d == Value.none) = true then _ else _) _ _ s
  rw [if_neg (by exact Bool.false_ne_true : ¬ ((Value.ref d == Value.none) = true))]
  refine wpAny_bind (wpAny_pure (wpAny_bind (wpAny_dictEntries hod hdd ?_)))
  rw [if_neg (by simp [hsz])]
  refine wpAny_bind (wpAny_pure (wpAny_bind (wpAny_dictEpoch hod hdd ?_)))
  rw [if_neg (by simp)]
  refine wpAny_pure ?_
  simp only [show ¬ ((i : Int) < 0) from by omega, if_false, Int.toNat_natCast, Array.getElem?_eq_none past]
  refine wpAny_bind ?_
  first | refine wpAny_bind (wpAny_typeNameOfWhole_keyiter hit.typeIs (wpAny_pure ?_)) | refine wpAny_bind (wpAny_typeNameOf_keyiter hit.typeIs (wpAny_pure ?_))
  show wpAny _ _ (setField (.ref it) 0 .none >>= _) _ _ s
  refine wpAny_bind (wpAny_setField ho hd (by simp) ?_)
  have h1' := (Heap.get?_update_other s.heap (f := Obj.mapFields (·.setIfInBounds 0 Value.none)) (Ne.symm hx)).trans h1
  show wpAny _ _ (newExc (.type "StopIteration") [] >>= _) _ _ _
  refine wpAny_bind ?_
  simp only [newExc, newTuple]
  refine wpAny_bind (wpAny_newObj_type ?_ (by size_fits))
  refine wpAny_bind (m := firstArgMember _ _) (wpAny_of_eq (a := Value.none) (by first | rfl | (simp only [firstArgMember]; rfl)) ?_)
  refine wpAny_newObj_type ?_ (by size_fits)
  have h2 := Heap.get?_push_of_some ({ cls := .type "tuple", data := .seq #[] } : Obj) h1'
  refine raiseNew_hot ⟨hh, o1, vs1, Heap.get?_push_of_some _ (Heap.get?_push_of_some _ h1'), d1, c1⟩ (Nat.ne_of_lt (Heap.lt_size (Heap.get?_push_of_some _ h1'))) (Heap.get?_push_size _ rfl) rfl (by first | (simp; done) | (simp; omega) | (simp only [Array.size_append]; simp; omega)) ?_
  refine wpAny_bind (wpAny_isInstance (T := "StopIteration") (b := true) ⟨_, Heap.get?_update_self _ (Heap.get?_push_size _ rfl) rfl, rfl⟩ isSubtype_stop (wpAny_pure (hQ _ ?_)))
  intro b ob hb e
  have e1 := (Heap.get?_update_other s.heap (f := Obj.mapFields (·.setIfInBounds 0 Value.none)) (Ne.symm hb)).trans e
  rw [Heap.get?_update_other _ _ (Nat.ne_of_gt (Heap.lt_size (Heap.get?_push_of_some _ e1)))]
  exact Heap.get?_push_of_some _ (Heap.get?_push_of_some _ e1)
/-- the keys of a locked dict, walked where an exception is handled -/
theorem turn_keysH {P : Program} {K : PySem.W.Frag} {tg : Expr} {d : Addr} {o : Obj} {es : Array DictEntry} {ep : Nat} {kvs : List (Key × V)} (it : Addr) (hod : o.data = .dict es ep) :
    TurnH P w K tg (Itk d o kvs) [it] it (fun i h => h.IsKeyIter it d i kvs.length ep) := by
  have T := L2.turn_keys (P := P) (w := w) (K := K) (tg := tg) (d := d) (kvs := kvs) it hod
  refine ⟨T.mem, T.obj, T.keep, ?_, ?_, T.self⟩
  · intro X hP hw hK hc i pins s σ H E I hf st hg
    subst hP hw hK
    obtain ⟨hd, hi⟩ := hg
    obtain ⟨f0, f1, f2, f3, f4, f5⟩ := hf it (by simp)
    obtain ⟨hs, hgd, hx, es', ep', vs, hdt, hsz, kv, hm⟩ := I.frzK hd
    obtain ⟨rfl, rfl⟩ := dict_ep hod hdt
    obtain ⟨⟨k, v⟩, hkv⟩ : ∃ p, kvs[i]? = some p := ⟨kvs[i], List.getElem?_eq_getElem hi⟩
    obtain ⟨u, hu, ru⟩ := kv_get kv hkv
    rw [show kvs.length = vs.length from Paired.length kv] at st
    refine wpAny_pyNext_dict_item st hm hu fun key h' hkey st' sb => ?_
    have J : Inv X pins σ H { s with heap := h' } := I.turned (t' := s.toks) (fun b ob hb e => (sb.2 b hb).trans e) f0 f1 f3 f4 f5
    obtain ⟨oi, e, c, dd⟩ := id st'
    refine ⟨key, rfl, go_of (s := { s with heap := h' }) e c dd (by decide) ⟨kV k, H, J, relV_key (show keyIs k key = true from hkey), ⟨rfl, k, v, hkv, rfl⟩, ?_, fun b hb => (hf b hb).1⟩⟩
    show h'.IsKeyIter it d (i + 1) kvs.length _
    rw [show kvs.length = vs.length from Paired.length kv]
    exact st'
  · intro X hP hw hK hc i pins s σ H E I hf st hg
    subst hP hw hK
    obtain ⟨hd, hi⟩ := hg
    obtain ⟨f0, f1, f2, f3, f4, f5⟩ := hf it (by simp)
    obtain ⟨hs, hgd, hx, es', ep', vs, hdt, hsz, kv, hm⟩ := I.frzK hd
    obtain ⟨rfl, rfl⟩ := dict_ep hod hdt
    obtain ⟨p, ⟨hh, v1, e1, c1⟩, hp⟩ := hc
    have hot : HotAt X.A p.1 s.heap := ⟨hh, p.2, v1, (I.pin p (List.mem_append_left _ hp)).1, e1, c1⟩
    exact keys_endH hot (f5 p (List.mem_append_left _ hp)) st hgd hdt hsz hi fun h' eb => ⟨rfl, I.turned (t' := s.toks) (fun b ob hb e => eb b ob hb e) f0 f1 f3 f4 f5⟩
end
section
variable {X : Cx} {tg e : Expr} {td : TE}
/-- what walks a locked dict's keys -/
def iKeysH (td : TE) : TI := fun σ H R => td σ H fun x H1 => ∃ d o, x = .ref d ∧ ∃ kvs, H1 d = some (.frz o (.dK kvs)) ∧ R (Itk d o kvs) H1
theorem pi_keysH (he : PE X e td) : PIH X tg e (iKeysH td) := by
  refine ⟨fun pins s σ H R I h => thn (he.run pins s σ H _ I h) ?_⟩
  rintro u s1 ⟨x, H1, I1, rx, d, o, rfl, kvs, hd, q⟩
  obtain rfl : u = Value.ref d := rx
  obtain ⟨hs, hgd, hx, es, ep, vs, hdt, hsz, kv, hm⟩ := I1.frzK hd
  refine iter_keys hs hgd hx hdt ⟨s1.heap.objs.size, [s1.heap.objs.size], _, _, H1, rfl, I1.kept (t' := s1.toks) fun b ob e => Heap.get?_push_of_some _ e, turn_keysH _ hdt, ⟨_, Heap.get?_push_size _ rfl, rfl, ?_⟩, ?_, q⟩
  · rw [hsz] <;> rfl
  · intro b hb
    rw [show b = s1.heap.objs.size by simpa using hb]
    exact I1.fpOk (Nat.le_refl _) (I1.hok.fresh (Nat.le_refl _))
end
/-! ### a list comprehension where an exception is handled -/
/-- the block's context, the handled exception p pinned -/
abbrev blkH (X : Cx) (s : Shared) (H : Hp) (scope : Scope) (cenv : Env) (fp : List Addr) (p : Addr × Obj) : Cx := (X.blk s H scope cenv fp).tr [p] (fun _ _ => False)
theorem Inv.pinH {Y : Cx} {σ : CrSt} {H : Hp} {s : Shared} {p : Addr × Obj} (I : Inv Y [] σ H s) (h : s.heap.get? p.1 = some p.2 ∧ H p.1 = none ∧ p.1 ≠ Y.env.locals ∧ p.1 ∉ Y.fs ∧ ∀ v, p.2.data ≠ .cell v) : Inv (Y.tr [p] Y.xe) [] σ H s :=
  ⟨I.ok.toTry _ _, I.os, I.bare, I.base, I.loc, I.cell, I.free, I.freeC, fun q hq => by
    rw [show q = p by simpa using hq]
    exact h, I.hok, I.len⟩
section
variable {X : Cx}
theorem lcH_core {pins : List (Addr × Obj)} {s : Shared} {σ : CrSt} {H : Hp} {Q : VK} {elt tg iter : Expr} {ifs : List Expr} {scope : Scope} {own : List (Str × Nat)} {pos pos' : Pos} {wi : TI} {g : TG} {tt : TT} {te : TE} {use : Option (Value → Sem Unit)} {Qf : Value → Shared → Prop}
    (hc : HotC X) (hN : X.N.Nodup) (I : Inv X pins σ H s) (hi : PIH X tg iter wi) (ok : BlkOk X.N X.env.scope scope own)
    (hg : ∀ (s : Shared) (H : Hp) (C : Addr) (cl : List (Str × Addr)) (fp : List Addr) (p : Addr × Obj), Hot1 X.A p → PG (blkH X s H scope (compEnvC scope cl C X.env) fp p) tg g)
    (ht : ∀ (s : Shared) (H : Hp) (C : Addr) (cl : List (Str × Addr)) (fp : List Addr) (p : Addr × Obj), Hot1 X.A p → PTs (blkH X s H scope (compEnvC scope cl C X.env) fp p) ifs tt)
    (he : ∀ (s : Shared) (H : Hp) (C : Addr) (cl : List (Str × Addr)) (fp : List Addr) (p : Addr × Obj), Hot1 X.A p → PE (blkH X s H scope (compEnvC scope cl C X.env) fp p) elt te) (hs : ∀ x, foldedSetIterable iter X.env x = pure x)
    (h : tLc wi g tt te (own.map (·.2)) σ H Q)
    (hRR : ∀ D C s' m H', Inv X pins σ H' s' → Q (.ref D) H' → s'.heap.Ns C m → FpOk X pins H' C → compPost (model X.prog X.w) X.A X.xe use Qf (.ref D) C (.ok .next) s') :
    wpAny (model X.prog X.w) X.A (comprehension (.ListComp elt [⟨tg, iter, ifs, 0⟩] scope pos) scope X.env pos' (newList []) false (eval iter X.env) use) Qf X.xe s := by
  obtain ⟨p, hot, hp⟩ := hc
  have hfree : ∀ y ∈ scope.names, y.2 = .free → ∃ c, X.env.cells.lookup y.1 = some c := fun y hy e => (ok.free y hy e).elim (fun k => I.ok.has _ (.inl k)) fun k => I.ok.has _ (.inr k)
  refine wpAny_comprehension_free (use := use) rfl hs (closure_ok hfree) ok.kind (fun y hy e => by rw [ok.uniq y hy, e]) (thn (hi.run pins s σ H _ I h) fun xv s1 hx => thn hx ?_)
  rintro itv s2 ⟨it, fp, tn, J, H2, rfl, I2, T, st2, f2, q⟩
  refine wpAny_newObj_type (newEnv_comp ?_) (by show 0 ≤ sizeLine; decide)
  generalize hD : s2.heap.objs.size = D
  obtain ⟨W, ⟨m0, w0⟩, turn⟩ := q D (I2.hok.fresh (Nat.le_of_eq hD))
  generalize hs3 : ({ s2 with heap := s2.heap.push { cls := .type "list", data := .seq ([] : List Value).toArray } } : Shared) = s3
  have h3 : s3.heap = s2.heap.push { cls := .type "list", data := .seq ([] : List Value).toArray } := by rw [← hs3]
  have I3 : Inv X pins σ (upd H2 D (.lst [])) s3 := by
    rw [← hs3]
    refine I2.laid (t' := s2.toks) (fun b o e => Heap.get?_push_of_some _ e) (Nat.le_of_eq hD) ⟨Nat.zero_le _, [], 0, .nil, ?_⟩
    rw [← hD]
    exact Heap.get?_push_size _ rfl
  have f3 : ∀ b ∈ fp, FpOk X pins (upd H2 D (.lst [])) b ∧ b < s3.heap.objs.size := fun b hb => by
    obtain ⟨o, e, _⟩ := T.obj _ _ st2 b hb
    have lt := Heap.lt_size e
    refine ⟨⟨?_, (f2 b hb).2⟩, by rw [h3, Heap.size_push]; exact Nat.lt_succ_of_lt lt⟩
    rw [upd_ne (by rw [← hD]; exact Nat.ne_of_lt lt)]
    exact (f2 b hb).1
  have st3 : tn 0 s3.heap := T.keep _ _ _ st2 fun b _ o e => by rw [h3]; exact Heap.get?_push_of_some _ e
  have pfp : ∀ b ∈ fp, p.1 ≠ b := fun b hb => (f2 b hb).2.2.2.2.2 p (List.mem_append_left _ hp)
  have P3 := I3.pin p (List.mem_append_left _ hp)
  have I4 := block_start I3 ok hN f3
  have pg := hg s3 (upd H2 D (.lst [])) s3.heap.objs.size (cellsFrom (s3.heap.objs.size + 1) scope.names (cloFrom X.env.cells scope.names [])) fp p hot
  have pt := ht s3 (upd H2 D (.lst [])) s3.heap.objs.size (cellsFrom (s3.heap.objs.size + 1) scope.names (cloFrom X.env.cells scope.names [])) fp p hot
  have pe := he s3 (upd H2 D (.lst [])) s3.heap.objs.size (cellsFrom (s3.heap.objs.size + 1) scope.names (cloFrom X.env.cells scope.names [])) fp p hot
  show codeAny _ _ (.compStart (.ListComp elt [⟨tg, iter, ifs, 0⟩] scope pos) 0 (.ref it) (.ref D) (compEnvC scope (cellsFrom (s3.heap.objs.size + 1) scope.names (cloFrom X.env.cells scope.names [])) s3.heap.objs.size X.env)) (compPost (model X.prog X.w) X.A X.xe use Qf (.ref D) s3.heap.objs.size) { s3 with heap := pushCells (s3.heap.push { cls := .type "dict", data := .dict #[] }) scope.names }
  have nfp : ∀ b ∈ fp, (upd H2 D (.lst [])) b = none := fun b hb => (f3 b hb).1.1
  generalize hce : compEnvC scope (cellsFrom (s3.heap.objs.size + 1) scope.names (cloFrom X.env.cells scope.names [])) s3.heap.objs.size X.env = ce at I4 pg pt pe ⊢
  have cL : ce.locals = s3.heap.objs.size := by subst hce; rfl
  generalize hH3 : upd H2 D (.lst []) = H3 at I3 I4 pg pt pe w0 nfp f3 P3
  generalize hs4 : ({ s3 with heap := pushCells (s3.heap.push { cls := .type "dict", data := .dict #[] }) scope.names } : Shared) = s4 at I4 ⊢
  have grow : ∀ b o, s3.heap.get? b = some o → s4.heap.get? b = some o := fun b o e => by rw [← hs4]; exact pushCells_keeps _ _ _ _ (Heap.get?_push_of_some _ e)
  have st4 : tn 0 s4.heap := T.keep _ _ _ st3 fun b _ o e => grow b o e
  have I4h : Inv (blkH X s3 H3 scope ce fp p) [] (wipe σ (own.map (·.2))) H3 s4 := by
    refine Inv.pinH I4 ⟨grow _ _ P3.1, P3.2.1, ?_, fun hm => ?_, P3.2.2.2.2⟩
    · show p.1 ≠ ce.locals
      rw [cL]
      exact Nat.ne_of_lt (Heap.lt_size P3.1)
    · exact (List.mem_cons.mp (I3.stkSub p.1 hm)).elim P3.2.2.1 P3.2.2.2.1
  have hotB : HotC (blkH X s3 H3 scope ce fp p) := ⟨p, hot, List.mem_singleton.mpr rfl⟩
  have stat : ∀ {σ' : CrSt} {H' : Hp} {s' : Shared}, Inv (blkH X s3 H3 scope ce fp p) [] σ' H' s' → (∀ b ∈ fp, H' b = none) → ∀ b ∈ fp, FpOk (blkH X s3 H3 scope ce fp p) [] H' b := fun {σ' H' s'} I' hn b hb =>
    ⟨hn b hb, (I'.ok.exf b hb).1, I'.ok.exfs b hb, .inl hb, fun x c e => (I'.ok.exf b hb).2 x c e, fun q hq => by
      rw [show q = p by simpa using hq]
      exact pfp b hb⟩
  have loop : codeAny (model X.prog X.w) X.A (.compLoop (.ListComp elt [⟨tg, iter, ifs, 0⟩] scope pos) 0 (.ref it) (.ref D) ce) (compPost (model X.prog X.w) X.A X.xe use Qf (.ref D) s3.heap.objs.size) s4 := by
    refine compLoop_any (fun n s' => ∃ i H', Inv (blkH X s3 H3 scope ce fp p) [] (wipe σ (own.map (·.2))) H' s' ∧ tn i s'.heap ∧ (∀ b ∈ fp, H' b = none) ∧ W i n H') ?_ m0 ⟨0, H3, I4h, st4, nfp, w0⟩
    rintro n s5 ⟨i, H5, I5, st5, n5, w5⟩
    rcases turn i n H5 w5 with ⟨stop, qq⟩ | ⟨go, Nx, hNx, step⟩
    · refine thnF (T.done (blkH X s3 H3 scope ce fp p) rfl rfl rfl hotB i [] s5 _ H5 (fun _ _ => False) I5 (stat I5 n5) st5 stop) ?_
      rintro r s6 ⟨rfl, I6⟩
      have I7 : Inv X pins σ H5 s6 := I3.call' (ch := fp) I6.os I6.base I6.hok I6.bare fun b hb => ⟨(f3 b hb).1.2.2.2.1, (f3 b hb).1.2.1, (f3 b hb).1.2.2.2.2.1, (f3 b hb).1.2.2.2.2.2⟩
      obtain ⟨m, hn, _⟩ := I6.loc
      have nC : H5 ce.locals = none := I6.free
      have hn : s6.heap.Ns ce.locals m := hn
      rw [cL] at hn nC
      exact hRR D s3.heap.objs.size s6 m H5 I7 qq hn (I3.fpOk (Nat.le_refl _) nC)
    · refine thnF (T.item (blkH X s3 H3 scope ce fp p) rfl rfl rfl hotB i [] s5 _ H5 (fun _ _ => False) I5 (stat I5 n5) st5 go) ?_
      rintro r s6 ⟨u, rfl, h6⟩
      refine thnF h6 fun _ s7 ⟨x, H7, I7, r7, y7, st7, n7⟩ => ?_
      refine thnF (pg.run _ s7 _ H7 x u _ (I7.pinned (stat I7 n7) (T.obj _ _ st7)) r7 (step x H7 y7)) fun _ s8 ⟨σ8, H8, I8, hw8, q8⟩ => ?_
      refine thnF (pt.run _ s8 σ8 H8 _ I8 q8) fun b s9 ⟨H9, I9, q9⟩ => ?_
      have fin : ∀ {s' : Shared} {H' : Hp}, Inv (blkH X s3 H3 scope ce fp p) ([] ++ pinsAt fp s7.heap) σ8 H' s' → Nx H' → ∃ m, m < n ∧ ∃ i H', Inv (blkH X s3 H3 scope ce fp p) [] (wipe σ (own.map (·.2))) H' s' ∧ tn i s'.heap ∧ (∀ b ∈ fp, H' b = none) ∧ W i m H' := fun {s' H'} I' nx => by
        obtain ⟨m', hm, w'⟩ := hNx H' nx
        have pin' : ∀ b ∈ fp, ∀ o, s7.heap.get? b = some o → s'.heap.get? b = some o ∧ H' b = none := fun b hb o e =>
          have z := I'.pin (b, o) (List.mem_append_right _ (List.mem_append_right _ (mem_pinsAt hb e)))
          ⟨z.1, z.2.1⟩
        refine ⟨m', hm, i + 1, H', (I'.unpinned (pins := [])).weak (by rw [← hw8, wipe_length]) (fun j v e => ?_), T.keep _ _ _ st7 fun b hb o e => (pin' b hb o e).1, fun b hb => ?_, w'⟩
        · rw [← hw8] at e
          exact (wipe_some e).1
        · obtain ⟨o, e, _⟩ := T.obj _ _ st7 b hb
          exact (pin' b hb o e).2
      cases b with
      | false =>
        simp only [Bool.false_eq_true, if_false] at q9 ⊢
        exact fin I9 q9
      | true =>
        simp only [if_true] at q9 ⊢
        refine thnF (pe.run _ s9 σ8 H9 _ I9 q9) fun z s10 ⟨yv, H10, I10, r10, acc, hD10, hz10, nx⟩ => ?_
        exact app_ok (X := blkH X s3 H3 scope ce fp p) I10 hD10 hz10 r10 fun s11 I11 => fin I11 nx
  exact codeAny_compStart_list loop (T.self X.A 0 _ _ _ st4 loop)
theorem pe_lcH {elt tg iter : Expr} {ifs : List Expr} {scope : Scope} {own : List (Str × Nat)} {pos : Pos} {wi : TI} {g : TG} {tt : TT} {te : TE} (hc : HotC X) (hN : X.N.Nodup) (hi : PIH X tg iter wi) (ok : BlkOk X.N X.env.scope scope own)
    (hg : ∀ (s : Shared) (H : Hp) (C : Addr) (cl : List (Str × Addr)) (fp : List Addr) (p : Addr × Obj), Hot1 X.A p → PG (blkH X s H scope (compEnvC scope cl C X.env) fp p) tg g)
    (ht : ∀ (s : Shared) (H : Hp) (C : Addr) (cl : List (Str × Addr)) (fp : List Addr) (p : Addr × Obj), Hot1 X.A p → PTs (blkH X s H scope (compEnvC scope cl C X.env) fp p) ifs tt)
    (he : ∀ (s : Shared) (H : Hp) (C : Addr) (cl : List (Str × Addr)) (fp : List Addr) (p : Addr × Obj), Hot1 X.A p → PE (blkH X s H scope (compEnvC scope cl C X.env) fp p) elt te) (hs : ∀ x, foldedSetIterable iter X.env x = pure x := by intro _; rfl) :
    PE X (.ListComp elt [⟨tg, iter, ifs, 0⟩] scope pos) (tLc wi g tt te (own.map (·.2))) := by
  refine ⟨fun pins s σ H Q I h => ?_⟩
  rw [eval_ListComp]
  refine lcH_core hc hN I hi ok hg ht he hs h fun D C s' m H' I' q hn f => ⟨m, hn, fun h'' sb => ?_⟩
  obtain ⟨f0, f1, f2, f3, f4, f5⟩ := f
  exact ⟨.ref D, H', I'.turned (t' := s'.toks) (fun b o hb e => (sb.2 b hb).trans e) f0 f1 f3 f4 f5, rfl, q⟩
end
/-! ### defs that are called there -/
def DfH (P : Program) (w : World) (K : PySem.W.Frag) (mg : Str → Option Value) (base : Heap) (k : Nat) (x : Str) (st : Stmt) (ps : List Str) (sp : Sp) : Prop :=
  ∃ f fd, Fun K x x st f fd ∧ mg x = some (.ref f) ∧ FnH P w K mg base (L2N.CX P w) k f fd ps sp ∧ Binds K fd ps []
section
variable {P : Program} {w : World} {K : PySem.W.Frag} {mg : Str → Option Value} {base : Heap}
theorem mk_dfH {x : Str} {st : Stmt} {N ps : List Str} {k : Nat} {sp : Sp} (h : Has K mg x st) (S : FnScope N ps (defScope st))
    (hb : ∀ (kV doc pm : Value) (an : Option Addr) (cdv ct : Value) (us : List Value), us.length = ps.length →
      bindArgs (PySem.W.fnOf x x (defArgs st) (defBody st) (defScope st) .none kV doc pm an cdv ct) ⟨us, []⟩ = pure (ps.zip us))
    (len : ∀ vs H Q E, sp vs H Q E → vs.length = ps.length)
    (body : ∀ (f : Addr) (cdv : Value) (A : Around) (outer : List Env) (s : Shared) (H : Hp) (vs : List V) (Q : VK) (E : XK) (p : Addr × Obj), Hot1 A p →
      RoomH k (A.deeper (envOfC x (defScope st) s.heap.objs.size f cdv)) → sp vs H Q E →
      ∃ t, PSs (cxH (L2N.CX P w) P w K mg base N x (defScope st) f cdv A outer s H E p) (defBody st) t ∧
        t { nx := fun _ H' => Q .non H', rt := Q } (start N vs) H) : DfH P w K mg base (k + 1) x st ps sp := by
  obtain ⟨f, fd, F, hm⟩ := h
  have B := F.binds hb
  refine ⟨f, fd, F, hm, ?_, B⟩
  obtain ⟨oc, od, kV, doc, pm, an, cdv, ct, osl, rfl, lk, hcd⟩ := F.ex
  exact fn_ofH lk hcd S len fun A outer s H vs Q E p hot hr hsp => body f cdv A outer s H vs Q E p hot hr hsp
theorem dfH_zero {x : Str} {st : Stmt} {ps : List Str} {sp : Sp} (h : Has K mg x st) (z : ∀ vs H Q E, ¬ sp vs H Q E)
    (hb : ∀ (kV doc pm : Value) (an : Option Addr) (cdv ct : Value) (us : List Value), us.length = ps.length →
      bindArgs (PySem.W.fnOf x x (defArgs st) (defBody st) (defScope st) .none kV doc pm an cdv ct) ⟨us, []⟩ = pure (ps.zip us)) : DfH P w K mg base 0 x st ps sp := by
  obtain ⟨f, fd, F, hm⟩ := h
  exact ⟨f, fd, F, hm, ⟨fun vs H Q E h => absurd h (z _ _ _ _), fun _ _ _ _ _ _ _ _ _ _ _ _ _ _ _ _ h => absurd h (z _ _ _ _)⟩, F.binds hb⟩
theorem FnH.mono' {CX : CXT} {j k : Nat} {f : Addr} {fd : FuncData} {ps : List Str} {sp : Sp} (F : FnH P w K mg base CX j f fd ps sp) (h : j ≤ k) : FnH P w K mg base CX k f fd ps sp :=
  ⟨F.len, fun A outer s H args us vs Q E p hr => F.run A outer s H args us vs Q E p (hr.mono h)⟩
end
section
variable {X : Cx} {k : Nat} {x : Str} {st : Stmt} {ps : List Str} {sp : Sp} {q pos : Pos} {e : Expr} {es : List Expr} {t : TA} {W : WX}
theorem pcallH {j : Nat} (d : DfH X.prog X.w X.K X.mg X.base k x st ps sp) (hr : RoomH j X.A) (hc : HotC X) (wt : L2N.Takes X W) (ha : PA X (e :: es) t) (hg : Gl X x := by rfl)
    (hdb : (x == ("__debug__" : Str)) = false := by decide) (he : starEach (e :: es) X.env = (false, eval e X.env) :: starEach es X.env := by rfl)
    (hpl : (backTo pos (starEach es X.env)).any (·.1) = false := by rfl) (hk : k ≤ j := by decide) :
    PE X (.Call (.Name x q) (e :: es) [] pos) (tCallS sp (WE W) t) := by
  obtain ⟨f, fd, F, hm, G, B⟩ := d
  exact pe_callH G (hr.mono hk) hc hg hm F.kp B (fun σ => passE wt σ) ha hdb he hpl
/-- an except suite's own exception is the handled one -/
theorem hotS {a : Addr} {oe : Obj} {cls : Value} {d : Option Addr} {pn : List (Addr × Obj)} (hz : L2N.Zn cls d oe) (hd : ∃ vs, oe.data = .fields vs) : HotC (X.suite a ((a, oe) :: pn)) := by
  obtain ⟨vs, h⟩ := hd
  exact ⟨(a, oe), ⟨rfl, vs, h, hz.2.2 vs h⟩, List.mem_cons_self⟩
theorem roomS {a : Addr} {pn : List (Addr × Obj)} {j : Nat} (h : Room j X.A) : RoomH j (X.suite a pn).A := ⟨h.dp, h.un⟩
end
def KeysH (x : V) (H : Hp) (R : It → Hp → Prop) : Prop := ∃ d o, x = .ref d ∧ ∃ kvs, H d = some (.frz o (.dK kvs)) ∧ R (Itk d o kvs) H
theorem w_keysH {td : TE} {σ : CrSt} {H : Hp} {R : It → Hp → Prop} (q : td σ H fun x H1 => KeysH x H1 R) : iKeysH td σ H R := q
theorem keysH {d : Addr} {o : Obj} {kvs : List (Key × V)} {H : Hp} {R : It → Hp → Prop} (h : H d = some (.frz o (.dK kvs))) (q : R (Itk d o kvs) H) : KeysH (.ref d) H R := ⟨d, o, rfl, kvs, h, q⟩
theorem w_brk {σ : CrSt} {H : Hp} {D : Ends} (q : D.bk σ H) : tBreak D σ H := q
theorem w_cnt {σ : CrSt} {H : Hp} {D : Ends} (q : D.ct σ H) : tCont D σ H := q
end Cr
namespace Cr
open PySem PySem.Spec PyProof.Rows L2
section
variable {K : PySem.W.Frag} {σ : CrSt} {H : Hp} {Q : VK} {a : Addr} {xs : List V} {R : It → Hp → Prop} {g : TG} {tt : TT} {te : TE} {vs : List Nat}
def EnumR (K : PySem.W.Frag) (vs : List V) (H : Hp) (R : It → Hp → Prop) : Prop := ∃ a xs, vs = [.ref a] ∧ SqL K H a xs ∧ R (Ite K a) H
theorem w_enum {ta : TA} (q : ta σ H fun vs H1 => EnumR K vs H1 R) : iEnum K ta σ H R := q
theorem enum_l (h : SqL K H a xs) (q : R (Ite K a) H) : EnumR K [.ref a] H R := ⟨a, xs, rfl, h, q⟩
theorem pi_enumK {X : Cx} (K : PySem.W.Frag) {e : Expr} {ta : TA} {p pos tpos : Pos} {elts : List Expr} {kk : Nat} (hg : Gl X "enumerate") (hm : X.mg "enumerate" = none) (ha : PA X [e] ta) (h : X.K = K := by rfl) (hs : starEach [e] X.env = [(false, eval e X.env)] := by rfl) :
    PI X (.Tuple elts kk tpos) (.Call (.Name "enumerate" p) [e] [] pos) (iEnum K ta) := h ▸ pi_enum hg hm ha hs
end
end Cr
namespace Cr
open PySem PySem.Spec PyProof.Rows L2
theorem acc_e {K : PySem.W.Frag} {σ : CrSt} {H : Hp} {Q : VK} {a : Addr} {xs : List V} {g : TG} {tt : TT} {te : TE} {vs : List Nat} (acc : Nat → List V) (h0 : acc 0 = []) (ha : SqL K H a xs)
    (hs : ∀ C i x T H', xs[i]? = some x → AccP H acc C i H' → H' T = some (.tup [.int (i : Nat), x]) → g (.ref T) (wipe σ vs) H' fun σ2 H2 => wipe σ2 vs = wipe σ vs ∧ tt σ2 H2 fun b H3 => if b = true then te σ2 H3 fun y H4 => Push C y H4 (AccP H acc C (i + 1)) else AccP H acc C (i + 1) H3)
    (hd : ∀ C H', Same H H' → H C = none → H' C = some (.lst (acc xs.length)) → Q (.ref C) H') : LcRun (Ite K a) g tt te vs σ H Q := by
  intro C nC
  refine ⟨fun i m H' => m = xs.length - i ∧ i ≤ xs.length ∧ AccP H acc C i H', ⟨xs.length, by simp, Nat.zero_le _, same_new nC, nC, by rw [upd_same, h0]⟩, ?_⟩
  rintro i m H1 ⟨rfl, hi, pp⟩
  have l := sqL_mono ha pp.1
  by_cases hlt : i < xs.length
  · have e := List.getElem?_eq_getElem hlt
    refine .inr ⟨⟨xs, xs[i], l, e⟩, AccP H acc C (i + 1), fun H2 p2 => ⟨xs.length - (i + 1), by omega, rfl, hlt, p2⟩, ?_⟩
    rintro x H2 ⟨T, x', rfl, nT, rfl, hx⟩
    have ex := hx xs l
    rw [e] at ex
    cases ex
    exact hs C i _ T _ e ⟨pp.1.trans (same_new nT), pp.2.1, same_new nT _ _ pp.2.2⟩ upd_same
  · have e : i = xs.length := by omega
    subst e
    exact .inl ⟨⟨xs, l, Nat.le_refl _⟩, hd C H1 pp.1 pp.2.1 pp.2.2⟩
end Cr
namespace Cr
open PySem PySem.Spec PyProof.Rows L2
theorem drp_l {K : PySem.W.Frag} {σ : CrSt} {H : Hp} {Q : VK} {a p : Addr} {B : Int} {xs : List V} {g : TG} {tt : TT} {te : TE} {vs : List Nat} (k : Int) (ok : Int → Prop) (hb : IsBox H a B) (hp : H p = some (.lst xs)) (na : p ≠ a)
    (hs : ∀ C i x H', xs[i]? = some x → DrawP a H B k ok C i H' → g x (wipe σ vs) H' fun σ2 H2 => wipe σ2 vs = wipe σ vs ∧ tt σ2 H2 fun b H3 => if b = true then te σ2 H3 fun y H4 => Push C y H4 (DrawP a H B k ok C (i + 1)) else DrawP a H B k ok C (i + 1) H3)
    (hd : ∀ C H' (ns : List Int), But a H H' → IsBox H' a (B + k * xs.length) → H C = none → ns.length = xs.length → (∀ m ∈ ns, ok m) → H' C = some (.lst (ns.map V.int)) → Q (.ref C) H') : LcRun (Itl K p) g tt te vs σ H Q :=
  lc_lst (DrawP a H B k ok) (fun C H1 nC s e => ⟨But.of s, nC, (hb.mono s).le (by simp), [], rfl, (fun m hm => absurd hm List.not_mem_nil), e⟩) (fun C i H' _ h => SqL.of (h.1 _ _ na hp)) hs fun C H' ⟨h1, h2, h3, ns, h4, h6, h5⟩ => hd C H' ns h1 h3 h2 h4 h6 h5
theorem new_old {H H1 H2 : Hp} {a : Addr} {B' : Int} (b : But a H H1) (hb : IsBox H1 a B') : Same (New H1 H2) (New H H2) := New.to (fun c o e => by
  by_cases z : c = a
  · subst z
    obtain ⟨_, _, _, _, e1, _⟩ := hb
    exact ⟨_, e1⟩
  · exact ⟨o, b _ _ z e⟩) fun c o n e => e
end Cr
namespace Cr
open PySem PySem.Spec PyProof.Rows L2
section
variable {K : PySem.W.Frag} {σ : CrSt} {H : Hp} {Q : VK} {D : Ends} {A B : TS} {c : Prop} [Decidable c]
/-- an if of statements, joined: key is what follows, proved once -/
theorem w_ifJ (PJ : CrSt → Hp → Prop) (key : ∀ σ' H', PJ σ' H' → D.nx σ' H') (h1 : c → ∀ D' : Ends, D'.rt = D.rt → (∀ σ' H', PJ σ' H' → D'.nx σ' H') → A D' σ H) (h2 : ¬ c → PJ σ H) : if decide c = true then A D σ H else tNext D σ H := by
  by_cases h : c
  · rw [decide_eq_true h, if_pos rfl]
    exact h1 h D rfl key
  · rw [decide_eq_false h, if_neg (by simp)]
    exact key _ _ (h2 h)
/-- a conditional value, joined -/
theorem join_cv {u v : V} {i : Nat} (p : V → Prop) (hv : σ[i]? = some (some v)) (h1 : c → p u) (h2 : ¬ c → p v) (h : ∀ z, p z → Q z H) : if decide c = true then tC u σ H Q else tVar i σ H Q := by
  by_cases hc : c
  · rw [decide_eq_true hc, if_pos rfl]
    exact h _ (h1 hc)
  · rw [decide_eq_false hc, if_neg (by simp)]
    exact ⟨v, hv, h _ (h2 hc)⟩
end
end Cr
namespace Cr
open PySem PySem.Spec PyProof.Rows L2
theorem inV_ints (i : Int) : ∀ ns : List Int, inV (.int i) (ns.map V.int) = decide (i ∈ ns)
  | [] => rfl
  | n :: r => by
    have ih := inV_ints i r
    show (decide (n = i) || inV (.int i) (r.map V.int)) = _
    rw [ih]
    by_cases h : n = i
    · subst h
      simp
    · have h' : ¬ i = n := fun z => h z.symm
      simp [h, h']
theorem flat_ints : ∀ ns : List Int, (ns.map V.int).all flatV = true
  | [] => rfl
  | n :: r => by
    rw [List.map_cons, List.all_cons, flat_ints r]
    rfl
theorem in_tI {K : PySem.W.Frag} {H : Hp} {Q : VK} {i : Int} {p : Addr} {ns : List Int} (h : SqT K H p (ns.map V.int)) (q : Q (.bl (decide (i ∈ ns))) H) : rInU K (.int i) (.ref p) H Q :=
  .inl ⟨p, _, rfl, .inr h, rfl, flat_ints ns, by
    rw [inV_ints]
    exact q⟩
end Cr
namespace Cr
open PySem PySem.Spec PyProof.Rows L2
section
variable {K : PySem.W.Frag} {H : Hp} {Q : VK} {a b : Addr} {ns : List Int}
theorem dp_ints : ∀ ns : List Int, DpAll K H (ns.map V.int) (ns.map PyData.int)
  | [] => .nil
  | n :: r => .cons (.int n) (dp_ints r)
theorem ne_nils (h1 : H a = some (.lst [])) (h2 : H b = some (.lst [])) (q : Q (.bl false) H) : rNeU K (.ref a) (.ref b) H Q :=
  ne_dd (d := .list []) (e := .list []) (.lst (SqL.of h1) .nil) (.lst (SqL.of h2) .nil) rfl rfl q
theorem ne_ints {n : Int} (hs : SeqAt.shaped (.list ((n :: ns).map PyData.int)) = true) (h1 : H a = some (.lst ((n :: ns).map V.int))) (h2 : H b = some (.lst [])) (q : Q (.bl true) H) : rNeU K (.ref a) (.ref b) H Q :=
  ne_dd (d := .list ((n :: ns).map PyData.int)) (e := .list []) (.lst (SqL.of h1) (dp_ints _)) (.lst (SqL.of h2) .nil) hs rfl q
theorem ne_nn (q : Q (.bl false) H) : rNeU K .non .non H Q := .inl ⟨rfl, q⟩
theorem min_l {m : Int} (h : SqL K H a (ns.map V.int)) (hm : m ∈ ns) (hl : ∀ y ∈ ns, m ≤ y) (q : Q (.int m) H) : rMin K [.ref a] H Q := ⟨a, ns, rfl, h, List.length_pos_of_mem hm, fun x hx hy => by
  have h1 := hl x hx
  have h2 := hy m hm
  have : x = m := by omega
  rw [this]
  exact q⟩
end
end Cr
namespace Cr
open PySem PySem.Spec PyProof.Rows L2
/-- a conditional expression, joined -/
theorem join_e {σ : CrSt} {H : Hp} {Q : VK} {A B : TE} {c : Prop} [Decidable c] (PJ : V → Hp → Prop) (key : ∀ v H', PJ v H' → Q v H') (h1 : c → ∀ Q' : VK, (∀ v H', PJ v H' → Q' v H') → A σ H Q')
    (h2 : ¬ c → ∀ Q' : VK, (∀ v H', PJ v H' → Q' v H') → B σ H Q') : if decide c = true then A σ H Q else B σ H Q := by
  by_cases h : c
  · rw [decide_eq_true h, if_pos rfl]
    exact h1 h Q key
  · rw [decide_eq_false h, if_neg (by simp)]
    exact h2 h Q key
end Cr
namespace Cr
open PySem PySem.Spec PyProof.Rows L2
section
variable {σ : CrSt} {H : Hp} {Q : VK}
theorem gcd_i {a b : Int} (q : Q (.int ((Nat.gcd a.natAbs b.natAbs : Nat) : Int)) H) : rGcd [.int a, .int b] H Q := ⟨a, b, rfl, q⟩
def DGet2 (x y z : V) (H : Hp) (Q : VK) : Prop := ∃ o, (∃ a, x = .ref a ∧ DGet H a y o) ∧ Q (o.getD z) H
end
end Cr

/-! The data level: what the slots stand for, without addresses. -/
namespace Cr
open PySem PySem.Spec PyProof.Rows L2

inductive SV where
  /-- nothing is known -/
  | un
  /-- it stands for d, for good; x: this very value -/
  | dat (d : D) (x : Option V)
  /-- a list or a dict that no one else holds -/
  | own (d : D)
  /-- the box of the draws -/
  | box (a : Addr) (B : Int)
  /-- (of an expression) the object that slot j owns -/
  | bor (j : Nat)
  /-- (of an expression) a new list or dict -/
  | fr (d : D)
  | raw (φ : Hp → V → Prop)
  /-- a dict of the slot's own, while it is walked -/
  | lk (p : Addr) (ob : Obj) (es : List (Key × V)) (ks : List (Key × D))
/-- what stood at the def's entry, what of it is data for good, the box that it was handed -/
structure Fr where
  H0 : Hp
  M0 : Hp
  bx : Option Addr
  /-- what else is known of what is kept and of the data (within a try: that it only grows) -/
  G : Hp → Hp → Prop := fun _ _ => True
  up : ∀ {X M X' M' : Hp}, G X M → Same X X' → Same M M' → G X' M' := by intros; trivial
def IdOk (x : Option V) (v : V) : Prop := ∀ u, x = some u → v = u
theorem IdOk.none {v : V} : IdOk none v := fun _ h => nomatch h
def OwnAt (M N : Hp) (p : Addr) : D → Prop
  | .lst ds => ∃ xs, N p = some (.lst xs) ∧ RepL M ds xs
  | .dct ks => ∃ es, N p = some (.dK es) ∧ RepK M ks es
  | _ => False
def SlotOk (F : Fr) (M N : Hp) (sv : SV) (o : Option (Option V)) : Prop := match sv with
  | .un => True
  | .dat d x => ∃ v, o = some (some v) ∧ Rep M d v ∧ IdOk x v
  | .own d => ∃ p, o = some (some (.ref p)) ∧ F.H0 p = none ∧ OwnAt M N p d
  | .box a B => o = some (some (.ref a)) ∧ IsBox N a B
  | .raw φ => ∃ v, o = some (some v) ∧ ∀ M', Same M M' → φ M' v
  | .lk p ob es ks => o = some (some (.ref p)) ∧ F.H0 p = none ∧ N p = some (.frz ob (.dK es)) ∧ RepK M ks es
  | _ => False
structure OkS (F : Fr) (X : Hp) (ρ : List SV) (M : Hp) (N : Nat → Hp) (σ : L2.St) (H : Hp) : Prop where
  len : σ.length = ρ.length
  sub : Same M H
  base : Same F.M0 M
  gr : ∀ p o, M p = some o → F.M0 p = some o ∨ F.H0 p = none
  frame : ∀ p o, F.bx ≠ some p → F.H0 p = some o → H p = some o
  alive : ∀ p o, F.H0 p = some o → ∃ u, H p = some u
  reg : ∀ i, Same (N i) H
  apt : ∀ i p o, N i p = some o → M p = none ∧ (F.H0 p = none ∨ F.bx = some p)
  dis : ∀ i j p o, i ≠ j → N i p = some o → N j p = none
  slot : ∀ i sv, ρ[i]? = some sv → SlotOk F M (N i) sv σ[i]?
  xsub : Same X H
  xapt : ∀ p o, X p = some o → M p = none ∧ ∀ i, N i p = none
  gok : F.G X M
def OkT (M : Hp) (σ : L2.St) (sv : SV) (v : V) : Prop := match sv with
  | .dat d x => Rep M d v ∧ IdOk x v
  | .bor j => σ[j]? = some (some v)
  | .raw φ => ∀ M', Same M M' → φ M' v
  | _ => False
def OkV (F : Fr) (X : Hp) (M : Hp) (N : Nat → Hp) (σ : L2.St) (H : Hp) (sv : SV) (v : V) : Prop := match sv with
  | .fr d => ∃ p, v = .ref p ∧ M p = none ∧ (∀ i, N i p = none) ∧ (F.H0 p = none ∧ X p = none) ∧ OwnAt M H p d
  | s => OkT M σ s v
def single (p : Addr) (o : HO) : Hp := fun q => if q = p then some o else none
theorem single_at {p : Addr} {o : HO} : single p o p = some o := by unfold single; rw [if_pos rfl]
theorem single_un {p q : Addr} {o u : HO} (h : single p o q = some u) : q = p ∧ o = u := by
  unfold single at h
  split at h
  · rename_i e
    exact ⟨e, Option.some.inj h⟩
  · cases h
theorem single_ne {p q : Addr} {o : HO} (h : q ≠ p) : single p o q = none := by unfold single; rw [if_neg h]
section
variable {F : Fr} {X : Hp} {ρ : List SV} {M M' : Hp} {N : Nat → Hp} {σ : L2.St} {H H' : Hp} {sv : SV} {v : V} {o : Option (Option V)} {d : D} {x : Option V} {p a : Addr}
theorem OwnAt.mono {N : Hp} (s : Same M M') (h : OwnAt M N p d) : OwnAt M' N p d := by
  cases d <;> try exact h
  · obtain ⟨xs, e, r⟩ := h
    exact ⟨xs, e, r.mono s⟩
  · obtain ⟨xs, e, r⟩ := h
    exact ⟨xs, e, r.mono s⟩
theorem OwnAt.to {N N' : Hp} (s : ∀ o, N p = some o → N' p = some o) (h : OwnAt M N p d) : OwnAt M N' p d := by
  cases d <;> try exact h
  · obtain ⟨xs, e, r⟩ := h
    exact ⟨xs, s _ e, r⟩
  · obtain ⟨xs, e, r⟩ := h
    exact ⟨xs, s _ e, r⟩
theorem OwnAt.some {N : Hp} (h : OwnAt M N p d) : ∃ o, N p = some o := by
  cases d <;> try exact False.elim h
  · obtain ⟨xs, e, r⟩ := h
    exact ⟨_, e⟩
  · obtain ⟨xs, e, r⟩ := h
    exact ⟨_, e⟩
theorem OwnAt.rep {N : Hp} (h : OwnAt M N p d) (s : Same M H) (e : ∀ o, N p = .some o → H p = .some o) : Rep H d (.ref p) := by
  cases d <;> try exact False.elim h
  · obtain ⟨xs, e1, r⟩ := h
    exact Rep.lst (e _ e1) (r.mono s)
  · obtain ⟨xs, e1, r⟩ := h
    exact Rep.dct (e _ e1) (r.mono s)
theorem SlotOk.mono {N : Hp} (s : Same M M') (h : SlotOk F M N sv o) : SlotOk F M' N sv o := by
  cases sv <;> try exact h
  · obtain ⟨v, e, r, z⟩ := h
    exact ⟨v, e, r.mono s, z⟩
  · obtain ⟨p, e, n, z⟩ := h
    exact ⟨p, e, n, z.mono s⟩
  · obtain ⟨v, e, z⟩ := h
    exact ⟨v, e, fun M'' s' => z M'' (s.trans s')⟩
  · obtain ⟨e, n, e1, r⟩ := h
    exact ⟨e, n, e1, r.mono s⟩
theorem OkT.mono (s : Same M M') (h : OkT M σ sv v) : OkT M' σ sv v := by
  cases sv <;> try exact h
  · exact ⟨h.1.mono s, h.2⟩
  · exact fun M'' s' => h M'' (s.trans s')
theorem OkT.val (h : OkT M σ sv v) : OkV F X M N σ H sv v := by
  cases sv <;> first | exact h | exact False.elim h
/-- more stands, some of it is data -/
theorem OkS.pure (h : OkS F X ρ M N σ H) (s : Same H H') (sM : Same M M') (sub' : Same M' H') (hg : ∀ p o, M' p = some o → M p = some o ∨ H p = none) : OkS F X ρ M' N σ H' where
  len := h.len
  sub := sub'
  base := h.base.trans sM
  gr := fun p o e => by
    rcases hg p o e with e | e
    · exact h.gr p o e
    · refine .inr ?_
      cases z : F.H0 p with
      | none => rfl
      | some u =>
        obtain ⟨w, e'⟩ := h.alive p u z
        rw [e] at e'
        cases e'
  frame := fun p o n e => s _ _ (h.frame p o n e)
  alive := fun p o e => by
    obtain ⟨u, e⟩ := h.alive p o e
    exact ⟨u, s _ _ e⟩
  reg := fun i => (h.reg i).trans s
  apt := fun i p o e => by
    refine ⟨?_, (h.apt i p o e).2⟩
    cases z : M' p with
    | none => rfl
    | some u =>
      rcases hg p u z with z | z
      · rw [(h.apt i p o e).1] at z
        cases z
      · rw [h.reg i p o e] at z
        cases z
  dis := h.dis
  slot := fun i sv e => (h.slot i sv e).mono sM
  gok := F.up h.gok (Same.refl _) sM
  xsub := h.xsub.trans s
  xapt := fun p o e => by
    refine ⟨?_, (h.xapt p o e).2⟩
    cases z : M' p with
    | none => rfl
    | some u =>
      rcases hg p u z with z | z
      · rw [(h.xapt p o e).1] at z
        cases z
      · rw [h.xsub p o e] at z
        cases z
theorem OkS.ext (h : OkS F X ρ M N σ H) (s : Same H H') : OkS F X ρ M N σ H' := h.pure s (Same.refl _) (h.sub.trans s) (fun p o e => .inl e)
theorem ins_self {p : Addr} {M H : Hp} : (fun q => if q = p then H p else M q) p = H p := by simp
/-- M with what H has at p -/
def ins (M H : Hp) (p : Addr) : Hp := fun q => if q = p then H p else M q
theorem ins_at {M H : Hp} {p : Addr} : ins M H p p = H p := by unfold ins; rw [if_pos rfl]
theorem ins_ne {M H : Hp} {p q : Addr} (h : q ≠ p) : ins M H p q = M q := by unfold ins; rw [if_neg h]
theorem ins_same {M H : Hp} {p : Addr} (h : M p = none) : Same M (ins M H p) := fun q o e => by
  rw [ins_ne (ne_of_none e h)]
  exact e
theorem ins_sub {M H : Hp} {p : Addr} (h : Same M H) : Same (ins M H p) H := fun q o e => by
  by_cases z : q = p
  · subst z
    rw [ins_at] at e
    exact e
  · rw [ins_ne z] at e
    exact h _ _ e
/-- a new object becomes data -/
theorem OkS.frz (h : OkS F X ρ M N σ H) (e : OkV F X M N σ H (.fr d) v) : ∃ M', Same M M' ∧ OkS F X ρ M' N σ H ∧ Rep M' d v := by
  obtain ⟨p, rfl, e1, e2, e3, e4⟩ := e
  refine ⟨ins M H p, ins_same e1, ⟨h.len, ins_sub h.sub, h.base.trans (ins_same e1), fun q o e => ?_, h.frame, h.alive, h.reg, fun i q o e => ?_, h.dis, fun i sv e => (h.slot i sv e).mono (ins_same e1), h.xsub, fun q o e => ⟨?_, (h.xapt q o e).2⟩, F.up h.gok (Same.refl _) (ins_same e1)⟩, e4.rep (ins_same e1) fun o e => by rw [ins_at]; exact e⟩
  · by_cases z : q = p
    · subst z
      exact .inr e3.1
    · rw [ins_ne z] at e
      exact h.gr q o e
  · refine ⟨?_, (h.apt i q o e).2⟩
    by_cases z : q = p
    · subst z
      rw [e2 i] at e
      cases e
    · rw [ins_ne z]
      exact (h.apt i q o e).1
  · by_cases z : q = p
    · subst z
      rw [e3.2] at e
      cases e
    · rw [ins_ne z]
      exact (h.xapt q o e).1
theorem set_len {α : Type} {xs : List α} {i : Nat} {x : α} : (xs.set i x).length = xs.length := by simp
theorem set_get {α : Type} {xs : List α} {i j : Nat} {x y : α} (h : (xs.set i x)[j]? = some y) : (j = i ∧ y = x ∧ i < xs.length) ∨ (j ≠ i ∧ xs[j]? = some y) := by
  rw [List.getElem?_set] at h
  split at h
  · rename_i e
    split at h
    · cases h
      exact .inl ⟨e.symm, rfl, by assumption⟩
    · cases h
  · rename_i e
    exact .inr ⟨fun z => e z.symm, h⟩
theorem set_at {α : Type} {xs : List α} {i : Nat} {x : α} (h : i < xs.length) : (xs.set i x)[i]? = some x := by simp [h]
theorem set_off {α : Type} {xs : List α} {i j : Nat} {x : α} (h : j ≠ i) : (xs.set i x)[j]? = xs[j]? := by
  rw [List.getElem?_set, if_neg (fun z => h z.symm)]
/-- slot i gets a value -/
theorem OkS.put (h : OkS F X ρ M N σ H) {i : Nat} (hs : ∀ o, i < ρ.length → o = some (some v) → SlotOk F M (N i) sv o) : OkS F X (ρ.set i sv) M N (σ.set i (some v)) H where
  len := by rw [set_len, set_len]; exact h.len
  sub := h.sub
  base := h.base
  gr := h.gr
  frame := h.frame
  alive := h.alive
  reg := h.reg
  apt := h.apt
  xsub := h.xsub
  xapt := h.xapt
  gok := h.gok
  dis := h.dis
  slot := fun j s e => by
    rcases set_get e with ⟨rfl, rfl, hl⟩ | ⟨hj, e⟩
    · refine hs _ hl ?_
      exact set_at (by rw [h.len]; exact hl)
    · rw [set_off hj]
      exact h.slot j s e
/-- the same store, another view of slot i -/
theorem OkS.view (h : OkS F X ρ M N σ H) {i : Nat} (hs : i < ρ.length → SlotOk F M (N i) sv σ[i]?) : OkS F X (ρ.set i sv) M N σ H where
  len := by rw [set_len]; exact h.len
  sub := h.sub
  base := h.base
  gr := h.gr
  frame := h.frame
  alive := h.alive
  reg := h.reg
  apt := h.apt
  xsub := h.xsub
  xapt := h.xapt
  gok := h.gok
  dis := h.dis
  slot := fun j s e => by
    rcases set_get e with ⟨rfl, rfl, hl⟩ | ⟨hj, e⟩
    · exact hs hl
    · exact h.slot j s e
theorem OkS.put_t (h : OkS F X ρ M N σ H) {i : Nat} (e : OkT M σ (.dat d x) v) : OkS F X (ρ.set i (.dat d x)) M N (σ.set i (some v)) H :=
  h.put fun o _ z => ⟨v, z, e⟩
theorem OkS.put_raw (h : OkS F X ρ M N σ H) {i : Nat} {φ : Hp → V → Prop} (e : OkT M σ (.raw φ) v) : OkS F X (ρ.set i (.raw φ)) M N (σ.set i (some v)) H :=
  h.put fun o _ z => ⟨v, z, e⟩
theorem OkS.put_un (h : OkS F X ρ M N σ H) {i : Nat} {w : Option V} : OkS F X (ρ.set i .un) M N (σ.set i w) H where
  len := by rw [set_len, set_len]; exact h.len
  sub := h.sub
  base := h.base
  gr := h.gr
  frame := h.frame
  alive := h.alive
  reg := h.reg
  apt := h.apt
  xsub := h.xsub
  xapt := h.xapt
  gok := h.gok
  dis := h.dis
  slot := fun j s e => by
    rcases set_get e with ⟨rfl, rfl, hl⟩ | ⟨hj, e⟩
    · trivial
    · rw [set_off hj]
      exact h.slot j s e
/-- region i becomes that of the object at p alone -/
def reN (N : Nat → Hp) (i : Nat) (R : Hp) : Nat → Hp := fun j => if j = i then R else N j
theorem reN_at {i : Nat} {R : Hp} : reN N i R i = R := by unfold reN; rw [if_pos rfl]
theorem reN_ne {i j : Nat} {R : Hp} (h : j ≠ i) : reN N i R j = N j := by unfold reN; rw [if_neg h]
/-- the object at p, which region i has or no one, is changed; other things are new -/
theorem OkS.chg (h : OkS F X ρ M N σ H) {i : Nat} {u : HO} (hp : M p = none) (hx : X p = none) (hn : ∀ j, j ≠ i → N j p = none) (hb : F.H0 p = none ∨ F.bx = some p) (b : But p H H') (e : H' p = some u)
    (hs : ∀ s, ρ[i]? = some s → SlotOk F M (single p u) s σ[i]?) : OkS F X ρ M (reN N i (single p u)) σ H' where
  len := h.len
  sub := fun q o z => b q o (ne_of_none z hp) (h.sub q o z)
  base := h.base
  gr := h.gr
  frame := fun q o n z => by
    refine b q o ?_ (h.frame q o n z)
    intro w
    subst w
    rcases hb with hb | hb
    · rw [hb] at z
      cases z
    · exact n hb
  alive := fun q o z => by
    by_cases w : q = p
    · subst w
      exact ⟨_, e⟩
    · obtain ⟨y, z⟩ := h.alive q o z
      exact ⟨y, b q y w z⟩
  reg := fun j => by
    by_cases w : j = i
    · subst w
      rw [reN_at]
      intro q o z
      obtain ⟨rfl, rfl⟩ := single_un z
      exact e
    · rw [reN_ne w]
      intro q o z
      refine b q o ?_ (h.reg j q o z)
      intro w2
      subst w2
      rw [hn j w] at z
      cases z
  apt := fun j q o z => by
    by_cases w : j = i
    · subst w
      rw [reN_at] at z
      obtain ⟨rfl, rfl⟩ := single_un z
      exact ⟨hp, hb⟩
    · rw [reN_ne w] at z
      exact h.apt j q o z
  gok := h.gok
  xsub := fun q o z => b q o (ne_of_none z hx) (h.xsub q o z)
  xapt := fun q o z => ⟨(h.xapt q o z).1, fun j => by
    by_cases w : j = i
    · subst w
      rw [reN_at]
      exact single_ne (ne_of_none z hx)
    · rw [reN_ne w]
      exact (h.xapt q o z).2 j⟩
  dis := fun j k q o w z => by
    by_cases w1 : j = i
    · subst w1
      rw [reN_at] at z
      obtain ⟨rfl, rfl⟩ := single_un z
      rw [reN_ne (fun z => w z.symm)]
      exact hn k (fun z => w z.symm)
    · rw [reN_ne w1] at z
      by_cases w2 : k = i
      · subst w2
        rw [reN_at]
        refine single_ne ?_
        intro w3
        subst w3
        rw [hn j w1] at z
        cases z
      · rw [reN_ne w2]
        exact h.dis j k q o w z
  slot := fun j s z => by
    by_cases w : j = i
    · subst w
      rw [reN_at]
      exact hs s z
    · rw [reN_ne w]
      exact h.slot j s z
/-- a new list goes to slot i as its own -/
theorem OkS.put_fr (h : OkS F X ρ M N σ H) {i : Nat} (e : OkV F X M N σ H (.fr d) v) : ∃ N', OkS F X (ρ.set i (.own d)) M N' (σ.set i (some v)) H := by
  obtain ⟨p, rfl, e1, e2, e3, e4⟩ := e
  obtain ⟨u, hu⟩ := e4.some
  have h1 : OkS F X (ρ.set i .un) M N (σ.set i (some (.ref p))) H := h.put_un
  have h2 := h1.chg (i := i) (u := u) e1 e3.2 (fun j _ => e2 j) (.inl e3.1) But.refl hu (fun s hs => by
    rcases set_get hs with ⟨_, rfl, _⟩ | ⟨z, _⟩
    · trivial
    · exact (z rfl).elim)
  have h3 := h2.view (i := i) (sv := .own d) (fun hl => ⟨p, ?_, e3.1, ?_⟩)
  · rw [List.set_set] at h3
    exact ⟨_, h3⟩
  · rw [set_at]
    rw [set_len] at hl
    rw [h.len]
    exact hl
  · rw [reN_at]
    refine e4.to fun o z => ?_
    rw [hu] at z
    cases z
    exact single_at
/-- what slot j owns becomes data -/
theorem OkS.frz_own (h : OkS F X ρ M N σ H) {j : Nat} (hj : ρ[j]? = some (.own d)) : ∃ M' N' v, Same M M' ∧ σ[j]? = some (some v) ∧ Rep M' d v ∧ OkS F X (ρ.set j (.dat d none)) M' N' σ H := by
  obtain ⟨p, e, n0, ow⟩ := h.slot j _ hj
  obtain ⟨u, hu⟩ := ow.some
  have hp := (h.apt j p u hu)
  have hH := h.reg j p u hu
  have hr : Rep (ins M H p) d (.ref p) := ow.rep (ins_same hp.1) fun o z => by
    rw [ins_at]
    exact h.reg j p o z
  refine ⟨ins M H p, reN N j fun _ => none, .ref p, ins_same hp.1, e, hr, ⟨by rw [set_len]; exact h.len, ins_sub h.sub, h.base.trans (ins_same hp.1), fun q o z => ?_, h.frame, h.alive, fun i => ?_, fun i q o z => ?_, fun i k q o w z => ?_, fun i s z => ?_, h.xsub, fun q o z => ⟨?_, fun i => ?_⟩, F.up h.gok (Same.refl _) (ins_same hp.1)⟩⟩
  · by_cases w : q = p
    · subst w
      exact .inr n0
    · rw [ins_ne w] at z
      exact h.gr q o z
  · by_cases w : i = j
    · subst w
      rw [reN_at]
      intro q o z
      cases z
    · rw [reN_ne w]
      exact h.reg i
  · by_cases w : i = j
    · subst w
      rw [reN_at] at z
      cases z
    · rw [reN_ne w] at z
      refine ⟨?_, (h.apt i q o z).2⟩
      rw [ins_ne]
      · exact (h.apt i q o z).1
      · intro w2
        subst w2
        rw [h.dis j i _ u (fun z => w z.symm) hu] at z
        cases z
  · by_cases w1 : i = j
    · subst w1
      rw [reN_at] at z
      cases z
    · rw [reN_ne w1] at z
      by_cases w2 : k = j
      · subst w2
        rw [reN_at]
      · rw [reN_ne w2]
        exact h.dis i k q o w z
  · rcases set_get z with ⟨rfl, rfl, hl⟩ | ⟨hi, z⟩
    · exact ⟨_, e, hr, IdOk.none⟩
    · rw [reN_ne hi]
      exact (h.slot i s z).mono (ins_same hp.1)
  · by_cases w : q = p
    · subst w
      rw [(h.xapt q o z).2 j] at hu
      cases hu
    · rw [ins_ne w]
      exact (h.xapt q o z).1
  · by_cases w : i = j
    · subst w
      rw [reN_at]
    · rw [reN_ne w]
      exact (h.xapt q o z).2 i
/-! ### what is wanted behind an expression -/
def Pst (F : Fr) (X : Hp) (M : Hp) (σ : L2.St) (Q : SV → List SV → Prop) (Qh : VK) : Prop := ∀ sv ρ' M' N' v H', Same M M' → OkS F X ρ' M' N' σ H' → OkV F X M' N' σ H' sv v → Q sv ρ' → Qh v H'
def PstT (F : Fr) (X : Hp) (M : Hp) (σ : L2.St) (Q : SV → List SV → Prop) (Qh : VK) : Prop := ∀ sv ρ' M' N' v H', Same M M' → OkS F X ρ' M' N' σ H' → OkT M' σ sv v → Q sv ρ' → Qh v H'
def PstA (F : Fr) (X : Hp) (M : Hp) (σ : L2.St) (Q : List SV → List SV → Prop) (Qh : List V → Hp → Prop) : Prop := ∀ as ρ' M' N' vs H', Same M M' → OkS F X ρ' M' N' σ H' → Paired (OkT M' σ) as vs → Q as ρ' → Qh vs H'
def PstB (F : Fr) (X : Hp) (M : Hp) (σ : L2.St) (Q : Bool → List SV → Prop) (Qh : Bool → Hp → Prop) : Prop := ∀ b ρ' M' N' H', Same M M' → OkS F X ρ' M' N' σ H' → Q b ρ' → Qh b H'
def De (F : Fr) (t : TE) (ρ : List SV) (Q : SV → List SV → Prop) : Prop := ∀ X M N σ H, OkS F X ρ M N σ H → ∀ Qh, Pst F X M σ Q Qh → t σ H Qh
def Dz (F : Fr) (t : TE) (ρ : List SV) (Q : SV → List SV → Prop) : Prop := ∀ X M N σ H, OkS F X ρ M N σ H → ∀ Qh, PstT F X M σ Q Qh → t σ H Qh
def Da (F : Fr) (t : TA) (ρ : List SV) (Q : List SV → List SV → Prop) : Prop := ∀ X M N σ H, OkS F X ρ M N σ H → ∀ Qh, PstA F X M σ Q Qh → t σ H Qh
def Dt (F : Fr) (t : TT) (ρ : List SV) (Q : Bool → List SV → Prop) : Prop := ∀ X M N σ H, OkS F X ρ M N σ H → ∀ Qh, PstB F X M σ Q Qh → t σ H Qh
def Fz (Q : SV → List SV → Prop) (sv : SV) (ρ : List SV) : Prop := match sv with
  | .fr d => Q (.dat d none) ρ
  | s => Q s ρ
theorem Pst.trans {Q : SV → List SV → Prop} {Qh : VK} (P : Pst F X M σ Q Qh) (s : Same M M') : Pst F X M' σ Q Qh := fun sv ρ' M1 N' v H' s' => P sv ρ' M1 N' v H' (s.trans s')
theorem PstT.trans {Q : SV → List SV → Prop} {Qh : VK} (P : PstT F X M σ Q Qh) (s : Same M M') : PstT F X M' σ Q Qh := fun sv ρ' M1 N' v H' s' => P sv ρ' M1 N' v H' (s.trans s')
theorem PstA.trans {Q : List SV → List SV → Prop} {Qh : List V → Hp → Prop} (P : PstA F X M σ Q Qh) (s : Same M M') : PstA F X M' σ Q Qh := fun sv ρ' M1 N' v H' s' => P sv ρ' M1 N' v H' (s.trans s')
theorem PstB.trans {Q : Bool → List SV → Prop} {Qh : Bool → Hp → Prop} (P : PstB F X M σ Q Qh) (s : Same M M') : PstB F X M' σ Q Qh := fun b ρ' M1 N' H' s' => P b ρ' M1 N' H' (s.trans s')
theorem Pst.frozen {Q : SV → List SV → Prop} {Qh : VK} (P : PstT F X M σ Q Qh) : Pst F X M σ (Fz Q) Qh := by
  intro sv ρ' M' N' v H' s ok e q
  cases sv with
  | fr d =>
    obtain ⟨M2, s2, ok2, r⟩ := ok.frz e
    exact P (.dat d none) ρ' M2 N' v H' (s.trans s2) ok2 ⟨r, IdOk.none⟩ q
  | dat d x => exact P (.dat d x) ρ' M' N' v H' s ok e q
  | bor j => exact P (.bor j) ρ' M' N' v H' s ok e q
  | raw φ => exact P (.raw φ) ρ' M' N' v H' s ok e q
  | _ => exact False.elim e
variable {t ta tb tc : TE} {tr : TA} {tt tu : TT} {Q : SV → List SV → Prop}
theorem Dz.of (h : De F t ρ (Fz Q)) : Dz F t ρ Q := fun X M N σ H ok Qh P => h X M N σ H ok Qh (Pst.frozen P)
theorem fz_dat (q : Q (.dat d x) ρ) : Fz Q (.dat d x) ρ := q
theorem fz_fr (q : Q (.dat d none) ρ) : Fz Q (.fr d) ρ := q
theorem fz_bor {j : Nat} (q : Q (.bor j) ρ) : Fz Q (.bor j) ρ := q
theorem fz_raw {φ : Hp → V → Prop} (q : Q (.raw φ) ρ) : Fz Q (.raw φ) ρ := q
/-! the ends of a reading -/
theorem Pst.sc {Qh : VK} (P : Pst F X M σ Q Qh) (ok : OkS F X ρ M N σ H) (r : Rep M d v) (q : Q (.dat d none) ρ) : Qh v H := P (.dat d none) _ _ _ _ _ (Same.refl _) ok ⟨r, IdOk.none⟩ q
theorem Pst.sx {Qh : VK} (P : Pst F X M σ Q Qh) (ok : OkS F X ρ M N σ H) (s : Same H H') (r : Rep M d v) (q : Q (.dat d none) ρ) : Qh v H' := P (.dat d none) _ _ _ _ _ (Same.refl _) (ok.ext s) ⟨r, IdOk.none⟩ q
theorem OkS.noN (ok : OkS F X ρ M N σ H) (n : H p = none) : ∀ i, N i p = none := fun i => by
  cases z : N i p with
  | none => rfl
  | some o =>
    rw [ok.reg i p o z] at n
    cases n
theorem OkS.noM (ok : OkS F X ρ M N σ H) (n : H p = none) : M p = none := by
  cases z : M p with
  | none => rfl
  | some o =>
    rw [ok.sub p o z] at n
    cases n
theorem OkS.noX (ok : OkS F X ρ M N σ H) (n : H p = none) : X p = none := by
  cases z : X p with
  | none => rfl
  | some o =>
    rw [ok.xsub p o z] at n
    cases n
theorem OkS.no0 (ok : OkS F X ρ M N σ H) (n : H p = none) : F.H0 p = none := by
  cases z : F.H0 p with
  | none => rfl
  | some o =>
    obtain ⟨u, e⟩ := ok.alive p o z
    rw [e] at n
    cases n
/-- a new list -/
theorem Pst.nl {Qh : VK} {ds : List D} {xs : List V} (P : Pst F X M σ Q Qh) (ok : OkS F X ρ M N σ H) (n : H p = none) (s : Same H H') (e : H' p = some (.lst xs)) (r : RepL M ds xs) (q : Q (.fr (.lst ds)) ρ) : Qh (.ref p) H' :=
  P (.fr (.lst ds)) _ _ _ _ _ (Same.refl _) (ok.ext s) ⟨p, rfl, ok.noM n, ok.noN n, ⟨ok.no0 n, ok.noX n⟩, xs, e, r⟩ q
theorem Pst.nd {Qh : VK} {ds : List (Key × D)} {xs : List (Key × V)} (P : Pst F X M σ Q Qh) (ok : OkS F X ρ M N σ H) (n : H p = none) (s : Same H H') (e : H' p = some (.dK xs)) (r : RepK M ds xs) (q : Q (.fr (.dct ds)) ρ) : Qh (.ref p) H' :=
  P (.fr (.dct ds)) _ _ _ _ _ (Same.refl _) (ok.ext s) ⟨p, rfl, ok.noM n, ok.noN n, ⟨ok.no0 n, ok.noX n⟩, xs, e, r⟩ q
theorem OkS.ins (ok : OkS F X ρ M N σ H) (n : H p = none) (s : Same H H') : OkS F X ρ (ins M H' p) N σ H' :=
  ok.pure s (ins_same (ok.noM n)) (ins_sub (ok.sub.trans s)) fun q o z => by
    by_cases w : q = p
    · subst w
      exact .inr n
    · rw [ins_ne w] at z
      exact .inl z
/-- a new tuple -/
theorem Pst.nt {Qh : VK} {ds : List D} {xs : List V} (P : Pst F X M σ Q Qh) (ok : OkS F X ρ M N σ H) (n : H p = none) (s : Same H H') (e : H' p = some (.tup xs)) (r : RepL M ds xs) (q : Q (.dat (.tup ds) none) ρ) : Qh (.ref p) H' := by
  refine P (.dat (.tup ds) none) _ (Cr.ins M H' p) N _ _ (ins_same (ok.noM n)) (ok.ins n s) ⟨.tup (xs := xs) (by rw [ins_at]; exact e) (r.mono (ins_same (ok.noM n))), IdOk.none⟩ q
end
end Cr

/-! The data level: expressions. -/
namespace Cr
open PySem PySem.Spec PyProof.Rows L2
section
variable {F : Fr} {X : Hp} {ρ ρ' : List SV} {M M' : Hp} {N : Nat → Hp} {σ : L2.St} {H H' : Hp} {sv : SV} {v : V} {d : D} {x y : Option V} {p a : Addr} {i j : Int} {m n : Nat} {s : Str} {k : Bool}
variable {t ta tb tc : TE} {tr : TA} {tt tu : TT} {Q : SV → List SV → Prop} {Qb : Bool → List SV → Prop} {Qa : List SV → List SV → Prop} {K : PySem.W.Frag}
/-! ### names, constants -/
theorem dv_d (h : ρ[m]? = some (.dat d x)) (q : Q (.dat d x) ρ) : De F (tVar m) ρ Q := fun X M N σ H ok Qh P => by
  obtain ⟨v, e, z⟩ := ok.slot m _ h
  exact ⟨v, e, P (.dat d x) _ _ _ _ _ (Same.refl _) ok z q⟩
theorem dv_o (h : ρ[m]? = some (.own d)) (q : Q (.bor m) ρ) : De F (tVar m) ρ Q := fun X M N σ H ok Qh P => by
  obtain ⟨v, e, z⟩ := ok.slot m _ h
  exact ⟨_, e, P (.bor m) _ _ _ _ _ (Same.refl _) ok e q⟩
theorem dv_b {B : Int} (h : ρ[m]? = some (.box a B)) (q : Q (.bor m) ρ) : De F (tVar m) ρ Q := fun X M N σ H ok Qh P => by
  obtain ⟨e, z⟩ := ok.slot m _ h
  exact ⟨_, e, P (.bor m) _ _ _ _ _ (Same.refl _) ok e q⟩
theorem dv_r {φ : Hp → V → Prop} (h : ρ[m]? = some (.raw φ)) (q : Q (.raw φ) ρ) : De F (tVar m) ρ Q := fun X M N σ H ok Qh P => by
  obtain ⟨v, e, z⟩ := ok.slot m _ h
  exact ⟨_, e, P (.raw φ) _ _ _ _ _ (Same.refl _) ok z q⟩
theorem dc_i (q : Q (.dat (.int i) none) ρ) : De F (tC (.int i)) ρ Q := fun X M N σ H ok Qh P => P.sc ok Rep.int q
theorem dc_b (q : Q (.dat (.bl k) none) ρ) : De F (tC (.bl k)) ρ Q := fun X M N σ H ok Qh P => P.sc ok Rep.bl q
theorem dc_s (q : Q (.dat (.str s) none) ρ) : De F (tC (.str s)) ρ Q := fun X M N σ H ok Qh P => P.sc ok Rep.str q
theorem dc_n (q : Q (.dat .non none) ρ) : De F (tC .non) ρ Q := fun X M N σ H ok Qh P => P.sc ok Rep.non q
abbrev tyS (n : String) : SV := .raw fun _ v => v = .ty n
theorem dc_t {n : String} (q : Q (tyS n) ρ) : De F (tC (.ty n)) ρ Q := fun X M N σ H ok Qh P => P (tyS n) _ _ _ _ _ (Same.refl _) ok (fun _ _ => rfl) q
/-! ### operators -/
def R2d (F : Fr) (r : R2) (a b : SV) (ρ : List SV) (Q : SV → List SV → Prop) : Prop := ∀ X M N σ H va vb, OkS F X ρ M N σ H → OkT M σ a va → OkT M σ b vb → ∀ Qh, Pst F X M σ Q Qh → r va vb H Qh
def R1d (F : Fr) (r : V → Hp → VK → Prop) (a : SV) (ρ : List SV) (Q : SV → List SV → Prop) : Prop := ∀ X M N σ H va, OkS F X ρ M N σ H → OkT M σ a va → ∀ Qh, Pst F X M σ Q Qh → r va H Qh
def RAd (F : Fr) (r : List V → Hp → VK → Prop) (as : List SV) (ρ : List SV) (Q : SV → List SV → Prop) : Prop := ∀ X M N σ H vs, OkS F X ρ M N σ H → Paired (OkT M σ) as vs → ∀ Qh, Pst F X M σ Q Qh → r vs H Qh
def RMd (F : Fr) (r : V → List V → Hp → VK → Prop) (a : SV) (as : List SV) (ρ : List SV) (Q : SV → List SV → Prop) : Prop := ∀ X M N σ H v vs, OkS F X ρ M N σ H → OkT M σ a v → Paired (OkT M σ) as vs → ∀ Qh, Pst F X M σ Q Qh → r v vs H Qh
def RSd (F : Fr) (r : V → Option Int → Option Int → Hp → VK → Prop) (a : SV) (lo hi : Option Int) (ρ : List SV) (Q : SV → List SV → Prop) : Prop := ∀ X M N σ H v, OkS F X ρ M N σ H → OkT M σ a v → ∀ Qh, Pst F X M σ Q Qh → r v lo hi H Qh
theorem pairT_mono (s : Same M M') : ∀ {as : List SV} {vs : List V}, Paired (OkT M σ) as vs → Paired (OkT M' σ) as vs
  | _, _, .nil => .nil
  | _, _, .cons h r => .cons (h.mono s) (pairT_mono s r)
theorem d_op {r : R2} (h : Dz F ta ρ fun a ρ1 => Dz F tb ρ1 fun b ρ2 => R2d F r a b ρ2 Q) : De F (tOp r ta tb) ρ Q := fun X M N σ H ok Qh P =>
  h X M N σ H ok _ fun a ρ1 M1 N1 va H1 s1 ok1 oa hb => hb X M1 N1 σ H1 ok1 _ fun b ρ2 M2 N2 vb H2 s2 ok2 ob hr => hr X M2 N2 σ H2 va vb ok2 (oa.mono s2) ob Qh (P.trans (s1.trans s2))
theorem d_un {r : V → Hp → VK → Prop} (h : Dz F ta ρ fun a ρ1 => R1d F r a ρ1 Q) : De F (tUn r ta) ρ Q := fun X M N σ H ok Qh P =>
  h X M N σ H ok _ fun a ρ1 M1 N1 va H1 s1 ok1 oa hr => hr X M1 N1 σ H1 va ok1 oa Qh (P.trans s1)
theorem da_nil (q : Qa [] ρ) : Da F tNil ρ Qa := fun X M N σ H ok Qh P => P [] _ _ _ [] _ (Same.refl _) ok .nil q
theorem da_cons (h : Dz F ta ρ fun a ρ1 => Da F tr ρ1 fun as ρ2 => Qa (a :: as) ρ2) : Da F (tCons ta tr) ρ Qa := fun X M N σ H ok Qh P =>
  h X M N σ H ok _ fun a ρ1 M1 N1 va H1 s1 ok1 oa hb => hb X M1 N1 σ H1 ok1 _ fun as ρ2 M2 N2 vs H2 s2 ok2 oas q => P _ _ _ _ _ _ (s1.trans s2) ok2 (.cons (oa.mono s2) oas) q
theorem d_cb {r : List V → Hp → VK → Prop} (h : Da F tr ρ fun as ρ1 => RAd F r as ρ1 Q) : De F (tCB r tr) ρ Q := fun X M N σ H ok Qh P =>
  h X M N σ H ok _ fun a ρ1 M1 N1 va H1 s1 ok1 oa hr => hr X M1 N1 σ H1 va ok1 oa Qh (P.trans s1)
/-! ### freezing of what is handed on -/
def FzS : List SV → List SV → (List SV → List SV → Prop) → Prop
  | [], ρ, k => k [] ρ
  | .dat d x :: r, ρ, k => FzS r ρ fun as ρ' => k (.dat d x :: as) ρ'
  | .raw φ :: r, ρ, k => FzS r ρ fun as ρ' => k (.raw φ :: as) ρ'
  | .bor j :: r, ρ, k => (∃ d, ρ[j]? = some (.own d) ∧ FzS r (ρ.set j (.dat d none)) fun as ρ' => k (.dat d none :: as) ρ') ∨ (∃ d x, ρ[j]? = some (.dat d x) ∧ FzS r ρ fun as ρ' => k (.dat d x :: as) ρ') ∨ (∃ a B, ρ[j]? = some (.box a B) ∧ FzS r ρ fun as ρ' => k (.bor j :: as) ρ')
  | _, _, _ => False
theorem fzs : ∀ {as : List SV} {ρ : List SV} {M : Hp} {N : Nat → Hp} {σ : L2.St} {H : Hp} {vs : List V} {k : List SV → List SV → Prop}, OkS F X ρ M N σ H → Paired (OkT M σ) as vs → FzS as ρ k →
    ∃ as' ρ' M' N', Same M M' ∧ OkS F X ρ' M' N' σ H ∧ Paired (OkT M' σ) as' vs ∧ k as' ρ'
  | [], ρ, M, N, σ, H, _, k, ok, .nil, h => ⟨[], ρ, M, N, Same.refl _, ok, .nil, h⟩
  | .dat d x :: r, ρ, M, N, σ, H, _, k, ok, .cons h1 h2, h => by
    obtain ⟨as', ρ', M', N', s, ok', pr, q⟩ := fzs ok h2 h
    exact ⟨_, _, _, _, s, ok', .cons (h1.mono s) pr, q⟩
  | .raw φ :: r, ρ, M, N, σ, H, _, k, ok, .cons h1 h2, h => by
    obtain ⟨as', ρ', M', N', s, ok', pr, q⟩ := fzs ok h2 h
    exact ⟨_, _, _, _, s, ok', .cons (h1.mono s) pr, q⟩
  | .bor j :: r, ρ, M, N, σ, H, _, k, ok, .cons (b := v) h1 h2, h => by
    rcases h with ⟨d, e, h⟩ | ⟨d, x, e, h⟩ | ⟨a, B, e, h⟩
    · obtain ⟨M1, N1, v1, s1, e1, r1, ok1⟩ := ok.frz_own e
      have h1' : σ[j]? = some (some v) := h1
      rw [h1'] at e1
      cases e1
      obtain ⟨as', ρ', M', N', s, ok', pr, q⟩ := fzs ok1 (pairT_mono s1 h2) h
      exact ⟨_, _, _, _, s1.trans s, ok', .cons (OkT.mono (sv := .dat d none) s ⟨r1, IdOk.none⟩) pr, q⟩
    · obtain ⟨v1, e1, z⟩ := ok.slot j _ e
      have h1' : σ[j]? = some (some v) := h1
      rw [h1'] at e1
      cases e1
      obtain ⟨as', ρ', M', N', s, ok', pr, q⟩ := fzs ok h2 h
      exact ⟨_, _, _, _, s, ok', .cons (OkT.mono (sv := .dat d x) s z) pr, q⟩
    · obtain ⟨as', ρ', M', N', s, ok', pr, q⟩ := fzs ok h2 h
      exact ⟨_, _, _, _, s, ok', .cons (h1.mono s) pr, q⟩
  | .un :: _, _, _, _, _, _, _, _, _, _, h => h.elim
  | .own _ :: _, _, _, _, _, _, _, _, _, _, h => h.elim
  | .box _ _ :: _, _, _, _, _, _, _, _, _, _, h => h.elim
  | .fr _ :: _, _, _, _, _, _, _, _, _, _, h => h.elim
  | .lk _ _ _ _ :: _, _, _, _, _, _, _, _, _, _, h => h.elim
theorem fzs_mono : ∀ {as : List SV} {ρ : List SV} {k k' : List SV → List SV → Prop}, (∀ as ρ, k as ρ → k' as ρ) → FzS as ρ k → FzS as ρ k'
  | [], ρ, k, k', i, h => i _ _ h
  | .dat d x :: r, ρ, k, k', i, h => fzs_mono (as := r) (fun as ρ => i _ ρ) h
  | .raw φ :: r, ρ, k, k', i, h => fzs_mono (as := r) (fun as ρ => i _ ρ) h
  | .bor j :: r, ρ, k, k', i, h => by
    rcases h with ⟨d, e, h⟩ | ⟨d, x, e, h⟩ | ⟨a, B, e, h⟩
    · exact .inl ⟨d, e, fzs_mono (as := r) (fun as ρ => i _ ρ) h⟩
    · exact .inr (.inl ⟨d, x, e, fzs_mono (as := r) (fun as ρ => i _ ρ) h⟩)
    · exact .inr (.inr ⟨a, B, e, fzs_mono (as := r) (fun as ρ => i _ ρ) h⟩)
  | .un :: _, _, _, _, _, h => h.elim
  | .own _ :: _, _, _, _, _, h => h.elim
  | .box _ _ :: _, _, _, _, _, h => h.elim
  | .fr _ :: _, _, _, _, _, h => h.elim
  | .lk _ _ _ _ :: _, _, _, _, _, h => h.elim
section
variable {r as : List SV} {kk : List SV → List SV → Prop}
theorem fzs_n (q : kk [] ρ) : FzS [] ρ kk := q
theorem fzs_d (q : FzS r ρ fun as ρ' => kk (.dat d x :: as) ρ') : FzS (.dat d x :: r) ρ kk := q
theorem fzs_r {φ : Hp → V → Prop} (q : FzS r ρ fun as ρ' => kk (.raw φ :: as) ρ') : FzS (.raw φ :: r) ρ kk := q
theorem fzs_o (h : ρ[m]? = some (.own d)) (q : FzS r (ρ.set m (.dat d none)) fun as ρ' => kk (.dat d none :: as) ρ') : FzS (.bor m :: r) ρ kk := .inl ⟨d, h, q⟩
theorem fzs_o2 (h : ρ[m]? = some (.dat d x)) (q : FzS r ρ fun as ρ' => kk (.dat d x :: as) ρ') : FzS (.bor m :: r) ρ kk := .inr (.inl ⟨d, x, h, q⟩)
theorem fzs_b {B : Int} (h : ρ[m]? = some (.box a B)) (q : FzS r ρ fun as ρ' => kk (.bor m :: as) ρ') : FzS (.bor m :: r) ρ kk := .inr (.inr ⟨a, B, h, q⟩)
end
/-- all data -/
def DatL : List SV → List D → Prop
  | [], ds => ds = []
  | .dat d _ :: r, ds => ∃ es, ds = d :: es ∧ DatL r es
  | _, _ => False
theorem datL : ∀ {as : List SV} {ds : List D} {vs : List V}, DatL as ds → Paired (OkT M σ) as vs → RepL M ds vs
  | [], _, _, rfl, .nil => .nil
  | .dat d x :: r, _, _, ⟨es, rfl, h⟩, .cons h1 h2 => .cons h1.1 (datL h h2)
  | .un :: _, _, _, h, _ => h.elim
  | .own _ :: _, _, _, h, _ => h.elim
  | .box _ _ :: _, _, _, h, _ => h.elim
  | .fr _ :: _, _, _, h, _ => h.elim
  | .raw _ :: _, _, _, h, _ => h.elim
  | .bor _ :: _, _, _, h, _ => h.elim
  | .lk _ _ _ _ :: _, _, _, h, _ => h.elim
theorem paired_length {α β : Type} {R : α → β → Prop} : ∀ {xs : List α} {ys : List β}, Paired R xs ys → ys.length = xs.length
  | _, _, .nil => rfl
  | _, _, .cons _ r => by simp [paired_length r]
/-! ### displays -/
theorem d_lst (h : Da F tr ρ fun as ρ1 => FzS as ρ1 fun as' ρ2 => ∃ ds, DatL as' ds ∧ as'.length ≤ 100000 ∧ Q (.fr (.lst ds)) ρ2) : De F (tLst tr) ρ Q := fun X M N σ H ok Qh P =>
  h X M N σ H ok _ fun as ρ1 M1 N1 vs H1 s1 ok1 oas hr => by
    obtain ⟨as', ρ', M', N', s, ok', pr, ds, hd, hl, q⟩ := fzs ok1 oas hr
    refine ⟨szl (by rw [paired_length pr]; exact hl), fun p n => ?_⟩
    exact (P.trans (s1.trans s)).nl ok' n (same_new n) upd_same (datL hd pr) q
theorem d_tup (h : Da F tr ρ fun as ρ1 => FzS as ρ1 fun as' ρ2 => ∃ ds, DatL as' ds ∧ as'.length ≤ 100000 ∧ Q (.dat (.tup ds) none) ρ2) : De F (tTup tr) ρ Q := fun X M N σ H ok Qh P =>
  h X M N σ H ok _ fun as ρ1 M1 N1 vs H1 s1 ok1 oas hr => by
    obtain ⟨as', ρ', M', N', s, ok', pr, ds, hd, hl, q⟩ := fzs ok1 oas hr
    refine ⟨szl (by rw [paired_length pr]; exact hl), fun p n => ?_⟩
    exact (P.trans (s1.trans s)).nt ok' n (same_new n) upd_same (datL hd pr) q
theorem dl_nil {kk : List D → Prop} (q : kk []) : ∃ ds, DatL [] ds ∧ kk ds := ⟨[], rfl, q⟩
/-- the display's items, one by one -/
theorem dl_end {as : List SV} {ds : List D} {kk : List D → Prop} {n : Nat} (h : DatL as ds) (hl : as.length ≤ n) (q : kk ds) : ∃ ds, DatL as ds ∧ as.length ≤ n ∧ kk ds := ⟨ds, h, hl, q⟩
theorem datL_nil : DatL [] [] := rfl
theorem datL_cons {as : List SV} {ds : List D} (h : DatL as ds) : DatL (.dat d x :: as) (d :: ds) := ⟨_, rfl, h⟩
/-! ### tests, choices -/
theorem d_if (h : Dt F tt ρ fun b ρ1 => if b = true then De F ta ρ1 Q else De F tb ρ1 Q) : De F (tIf tt ta tb) ρ Q := fun X M N σ H ok Qh P =>
  h X M N σ H ok _ fun b ρ1 M1 N1 H1 s1 ok1 hr => by
    cases b with
    | true => exact hr X M1 N1 σ H1 ok1 Qh (P.trans s1)
    | false => exact hr X M1 N1 σ H1 ok1 Qh (P.trans s1)
def IsB (sv : SV) (k : Bool → Prop) : Prop := ∃ b x, sv = .dat (.bl b) x ∧ k b
theorem isB {b : Bool} {kk : Bool → Prop} (q : kk b) : IsB (.dat (.bl b) x) kk := ⟨b, x, rfl, q⟩
theorem IsB.to {kk : Bool → Prop} {v : V} {M : Hp} {σ : L2.St} (h : IsB sv kk) (o : OkT M σ sv v) : ∃ b, v = .bl b ∧ kk b := by
  obtain ⟨b, x, rfl, q⟩ := h
  exact ⟨b, Rep.un_bl o.1, q⟩
theorem dt_b (h : Dz F ta ρ fun a ρ1 => IsB a fun b => Qb b ρ1) : Dt F (tB ta) ρ Qb := fun X M N σ H ok Qh P =>
  h X M N σ H ok _ fun a ρ1 M1 N1 va H1 s1 ok1 oa hr => by
    obtain ⟨b, rfl, q⟩ := hr.to oa
    exact ⟨b, rfl, P _ _ _ _ _ s1 ok1 q⟩
theorem dt_t (h : Dz F ta ρ fun a ρ1 => IsB a fun b => Qb b ρ1) : Dt F (tTest ta) ρ Qb := dt_b h
theorem dt_and (h : Dt F tt ρ fun b ρ1 => if b = true then Dt F tu ρ1 Qb else Qb false ρ1) : Dt F (tAnd tt tu) ρ Qb := fun X M N σ H ok Qh P =>
  h X M N σ H ok _ fun b ρ1 M1 N1 H1 s1 ok1 hr => by
    cases b with
    | true => exact hr X M1 N1 σ H1 ok1 Qh (P.trans s1)
    | false => exact P _ _ _ _ _ s1 ok1 hr
theorem dt_or (h : Dt F tt ρ fun b ρ1 => if b = true then Qb true ρ1 else Dt F tu ρ1 Qb) : Dt F (tOr tt tu) ρ Qb := fun X M N σ H ok Qh P =>
  h X M N σ H ok _ fun b ρ1 M1 N1 H1 s1 ok1 hr => by
    cases b with
    | true => exact P _ _ _ _ _ s1 ok1 hr
    | false => exact hr X M1 N1 σ H1 ok1 Qh (P.trans s1)
theorem dt_not (h : Dt F tt ρ fun b ρ1 => Qb (!b) ρ1) : Dt F (tNot tt) ρ Qb := fun X M N σ H ok Qh P =>
  h X M N σ H ok _ fun b ρ1 M1 N1 H1 s1 ok1 hr => P _ _ _ _ _ s1 ok1 hr
theorem dt_yes (q : Qb true ρ) : Dt F tYes ρ Qb := fun X M N σ H ok Qh P => P _ _ _ _ _ (Same.refl _) ok q
theorem d_andV (h : Dz F ta ρ fun a ρ1 => IsB a fun b => if b = true then De F tb ρ1 Q else Q (.dat (.bl false) none) ρ1) : De F (tAndV ta tb) ρ Q := fun X M N σ H ok Qh P =>
  h X M N σ H ok _ fun a ρ1 M1 N1 va H1 s1 ok1 oa hr => by
    obtain ⟨b, rfl, q⟩ := hr.to oa
    refine ⟨b, rfl, ?_⟩
    cases b with
    | true => exact q X M1 N1 σ H1 ok1 Qh (P.trans s1)
    | false => exact (P.trans s1).sc ok1 Rep.bl q
theorem d_orV (h : Dz F ta ρ fun a ρ1 => IsB a fun b => if b = true then Q (.dat (.bl true) none) ρ1 else De F tb ρ1 Q) : De F (tOrV ta tb) ρ Q := fun X M N σ H ok Qh P =>
  h X M N σ H ok _ fun a ρ1 M1 N1 va H1 s1 ok1 oa hr => by
    obtain ⟨b, rfl, q⟩ := hr.to oa
    refine ⟨b, rfl, ?_⟩
    cases b with
    | true => exact (P.trans s1).sc ok1 Rep.bl q
    | false => exact q X M1 N1 σ H1 ok1 Qh (P.trans s1)
theorem d_notV (h : Dz F ta ρ fun a ρ1 => IsB a fun b => Q (.dat (.bl (!b)) none) ρ1) : De F (tNotV ta) ρ Q := fun X M N σ H ok Qh P =>
  h X M N σ H ok _ fun a ρ1 M1 N1 va H1 s1 ok1 oa hr => by
    obtain ⟨b, rfl, q⟩ := hr.to oa
    exact ⟨b, rfl, (P.trans s1).sc ok1 Rep.bl q⟩
theorem d_chain {r r' : R2} (h : Dz F ta ρ fun a ρ1 => Dz F tb ρ1 fun b ρ2 => R2d F r a b ρ2 fun c ρ3 => IsB c fun k => if k = true then Dz F tc ρ3 (fun e ρ4 => R2d F r' b e ρ4 Q) else Q (.dat (.bl false) none) ρ3) : De F (tChain r r' ta tb tc) ρ Q := fun X M N σ H ok Qh P =>
  h X M N σ H ok _ fun a ρ1 M1 N1 va H1 s1 ok1 oa hb => hb X M1 N1 σ H1 ok1 _ fun b ρ2 M2 N2 vb H2 s2 ok2 ob hr => by
    refine hr X M2 N2 σ H2 va vb ok2 (oa.mono s2) ob _ fun c ρ3 M3 N3 vc H3 s3 ok3 oc hc => ?_
    obtain ⟨k, x, rfl, q⟩ := hc
    obtain rfl := Rep.un_bl oc.1
    refine ⟨k, rfl, ?_⟩
    cases k with
    | true => exact q X M3 N3 σ H3 ok3 _ fun e ρ4 M4 N4 ve H4 s4 ok4 oe hr' => hr' X M4 N4 σ H4 vb ve ok4 (ob.mono (s3.trans s4)) oe Qh (P.trans (s1.trans (s2.trans (s3.trans s4))))
    | false => exact (P.trans (s1.trans (s2.trans s3))).sc ok3 Rep.bl q
/-! ### slices -/
def Dp1 (F : Fr) (t : TO) (ρ : List SV) (Q : Option Int → List SV → Prop) : Prop := ∀ X M N σ H, OkS F X ρ M N σ H → ∀ Qh : Option Int → Hp → Prop, (∀ o ρ' M' N' H', Same M M' → OkS F X ρ' M' N' σ H' → Q o ρ' → Qh o H') → t σ H Qh
def IsI (sv : SV) (k : Int → Prop) : Prop := ∃ b x, sv = .dat (.int b) x ∧ k b
theorem isI {kk : Int → Prop} (q : kk i) : IsI (.dat (.int i) x) kk := ⟨i, x, rfl, q⟩
theorem IsI.to {kk : Int → Prop} {v : V} {M : Hp} {σ : L2.St} (h : IsI sv kk) (o : OkT M σ sv v) : ∃ b, v = .int b ∧ kk b := by
  obtain ⟨b, x, rfl, q⟩ := h
  exact ⟨b, Rep.un_int o.1, q⟩
theorem d_po {Qo : Option Int → List SV → Prop} (h : Dz F ta ρ fun a ρ1 => IsI a fun i => Qo (some i) ρ1) : Dp1 F (tPart ta) ρ Qo := fun X M N σ H ok Qh P =>
  h X M N σ H ok _ fun a ρ1 M1 N1 va H1 s1 ok1 oa hr => by
    obtain ⟨i, rfl, q⟩ := hr.to oa
    exact ⟨i, rfl, P _ _ _ _ _ s1 ok1 q⟩
theorem d_pn {Qo : Option Int → List SV → Prop} (h : Qo none ρ) : Dp1 F tNoPart ρ Qo := fun X M N σ H ok Qh P => P _ _ _ _ _ (Same.refl _) ok h
theorem d_sl {r : V → Option Int → Option Int → Hp → VK → Prop} {tl th : TO} (h : Dz F ta ρ fun a ρ1 => Dp1 F tl ρ1 fun lo ρ2 => Dp1 F th ρ2 fun hi ρ3 => RSd F r a lo hi ρ3 Q) : De F (tSl r ta tl th) ρ Q := fun X M N σ H ok Qh P =>
  h X M N σ H ok _ fun a ρ1 M1 N1 va H1 s1 ok1 oa h2 => h2 X M1 N1 σ H1 ok1 _ fun lo ρ2 M2 N2 H2 s2 ok2 h3 => h3 X M2 N2 σ H2 ok2 _ fun hi ρ3 M3 N3 H3 s3 ok3 hr => hr X M3 N3 σ H3 va ok3 (oa.mono (s2.trans s3)) Qh (P.trans (s1.trans (s2.trans s3)))
/-! ### methods -/
def TyD (T : String) (sv : SV) (ρ : List SV) : Prop := match sv with
  | .dat (.str _) _ => T = "str"
  | .dat (.lst _) _ => T = "list"
  | .dat (.dct _) _ => T = "dict"
  | .bor j => (∃ ds, ρ[j]? = some (.own (.lst ds)) ∧ T = "list") ∨ (∃ ds, ρ[j]? = some (.own (.dct ds)) ∧ T = "dict")
  | _ => False
theorem TyD.to {T : String} (h : TyD T sv ρ) (ok : OkS F X ρ M N σ H) (o : OkT M σ sv v) : tyV K T v H := by
  cases sv <;> try exact False.elim h
  · rename_i d x
    cases d <;> try exact False.elim h
    · obtain rfl := Rep.un_str o.1
      have h : T = "str" := h
      exact h
    · obtain ⟨a, xs, rfl, e, _⟩ := Rep.un_lst o.1
      have h : T = "list" := h
      exact .inl ⟨h, _, SqL.of (ok.sub _ _ e)⟩
    · obtain ⟨a, xs, rfl, e, _⟩ := Rep.un_dct o.1
      have h : T = "dict" := h
      exact .inr (.inr (.inl ⟨h, .inl ⟨_, ok.sub _ _ e⟩⟩))
  · rename_i j
    have o : σ[j]? = some (some v) := o
    rcases h with ⟨ds, e, h⟩ | ⟨ds, e, h⟩
    · obtain ⟨p, e1, _, xs, e2, _⟩ := ok.slot j _ e
      rw [o] at e1
      cases e1
      exact .inl ⟨h, _, SqL.of (ok.reg j _ _ e2)⟩
    · obtain ⟨p, e1, _, xs, e2, _⟩ := ok.slot j _ e
      rw [o] at e1
      cases e1
      exact .inr (.inr (.inl ⟨h, .inl ⟨_, ok.reg j _ _ e2⟩⟩))
theorem d_bm {T : String} {r : V → List V → Hp → VK → Prop} (h : Dz F ta ρ fun a ρ1 => TyD T a ρ1 ∧ Da F tr ρ1 fun as ρ2 => FzS as ρ2 fun as' ρ3 => RMd F r a as' ρ3 Q) : De F (tBM K T r ta tr) ρ Q := fun X M N σ H ok Qh P =>
  h X M N σ H ok _ fun a ρ1 M1 N1 va H1 s1 ok1 oa ⟨ht, hr⟩ => ⟨ht.to ok1 oa, hr X M1 N1 σ H1 ok1 _ fun as ρ2 M2 N2 vs H2 s2 ok2 oas hz => by
    obtain ⟨as', ρ', M', N', s, ok', pr, q⟩ := fzs ok2 oas hz
    exact q X M' N' σ H2 va vs ok' (oa.mono (s2.trans s)) pr Qh (P.trans (s1.trans (s2.trans s)))⟩
theorem d_bm0 {T : String} {r : V → List V → Hp → VK → Prop} (h : Dz F ta ρ fun a ρ1 => TyD T a ρ1 ∧ RMd F r a [] ρ1 Q) : De F (tBM0 K T r ta) ρ Q := fun X M N σ H ok Qh P =>
  h X M N σ H ok _ fun a ρ1 M1 N1 va H1 s1 ok1 oa ⟨ht, hr⟩ => ⟨ht.to ok1 oa, hr X M1 N1 σ H1 va [] ok1 oa .nil Qh (P.trans s1)⟩
end
end Cr

/-! The data level: statements, loops, comprehensions. -/
namespace Cr
open PySem PySem.Spec PyProof.Rows L2
structure DEnds where
  nx : List SV → Prop
  rt : SV → List SV → Prop
  bk : List SV → Prop
  ct : List SV → Prop
structure EndsOk (F : Fr) (X : Hp) (M : Hp) (D : DEnds) (Dh : Ends) : Prop where
  nx : ∀ ρ' M' N' σ' H', Same M M' → OkS F X ρ' M' N' σ' H' → D.nx ρ' → Dh.nx σ' H'
  rt : ∀ sv ρ' M' N' σ' v H', Same M M' → OkS F X ρ' M' N' σ' H' → OkV F X M' N' σ' H' sv v → D.rt sv ρ' → Dh.rt v H'
  bk : ∀ ρ' M' N' σ' H', Same M M' → OkS F X ρ' M' N' σ' H' → D.bk ρ' → Dh.bk σ' H'
  ct : ∀ ρ' M' N' σ' H', Same M M' → OkS F X ρ' M' N' σ' H' → D.ct ρ' → Dh.ct σ' H'
def Ds (F : Fr) (t : TS) (D : DEnds) (ρ : List SV) : Prop := ∀ X M N σ H, OkS F X ρ M N σ H → ∀ Dh, EndsOk F X M D Dh → t Dh σ H
/-- a target gets a value -/
def Dg (F : Fr) (g : TG) (sv : SV) (ρ : List SV) (Q : List SV → Prop) : Prop := ∀ X M N σ H v, OkS F X ρ M N σ H → OkV F X M N σ H sv v → ∀ Qh : L2.St → Hp → Prop, (∀ ρ' M' N' σ' H', Same M M' → OkS F X ρ' M' N' σ' H' → Q ρ' → Qh σ' H') → g v σ H Qh
def Dgs (F : Fr) (g : TGs) (ds : List D) (ρ : List SV) (Q : List SV → Prop) : Prop := ∀ X M N σ H vs, OkS F X ρ M N σ H → RepL M ds vs → ∀ Qh : L2.St → Hp → Prop, (∀ ρ' M' N' σ' H', Same M M' → OkS F X ρ' M' N' σ' H' → Q ρ' → Qh σ' H') → g vs σ H Qh
/-- what a for walks: n items, the i-th stands for at i -/
structure ItD where
  n : Nat
  at_ : Nat → D
  ok : List SV → Prop := fun _ => True
def ItOk (F : Fr) (J : It) (M : Hp) (it : ItD) : Prop := ∀ X ρ1 M1 N1 σ1 H1, Same M M1 → OkS F X ρ1 M1 N1 σ1 H1 → it.ok ρ1 → ∀ i, (i < it.n → J.go i H1) ∧ (it.n ≤ i → J.stop i H1) ∧ (i < it.n → ∀ x H', J.yld i H1 x H' → ∃ M2, Same M1 M2 ∧ OkS F X ρ1 M2 N1 σ1 H' ∧ Same H1 H' ∧ Rep M2 (it.at_ i) x)
def Di (F : Fr) (wi : TI) (ρ : List SV) (R : ItD → List SV → Prop) : Prop := ∀ X M N σ H, OkS F X ρ M N σ H → ∀ Rh : It → Hp → Prop, (∀ J it ρ' M' N' H', Same M M' → OkS F X ρ' M' N' σ H' → ItOk F J M' it → R it ρ' → Rh J H') → wi σ H Rh
section
variable {F : Fr} {X : Hp} {ρ ρ' : List SV} {M M' : Hp} {N : Nat → Hp} {σ : L2.St} {H H' : Hp} {sv : SV} {v : V} {d : D} {x y : Option V} {p a : Addr} {i j : Int} {m n : Nat} {s : Str} {k : Bool} {D₀ : DEnds}
variable {t ta tb tc te : TE} {tr : TA} {tt tu : TT} {ts tv : TS} {g : TG} {Q : SV → List SV → Prop} {Qb : Bool → List SV → Prop} {Qa : List SV → List SV → Prop} {Qs : List SV → Prop} {K : PySem.W.Frag}
theorem EndsOk.trans {D : DEnds} {Dh : Ends} (h : EndsOk F X M D Dh) (s : Same M M') : EndsOk F X M' D Dh :=
  ⟨fun a b c d e f => h.nx a b c d e (s.trans f), fun a b c d e f g i => h.rt a b c d e f g (s.trans i), fun a b c d e f => h.bk a b c d e (s.trans f), fun a b c d e f => h.ct a b c d e (s.trans f)⟩
theorem ds_seq (h : Ds F ts { D₀ with nx := fun ρ1 => Ds F tv D₀ ρ1 } ρ) : Ds F (tSeq ts tv) D₀ ρ := fun X M N σ H ok Dh E =>
  h X M N σ H ok _ ⟨fun ρ' M' N' σ' H' s ok' q => q X M' N' σ' H' ok' Dh (E.trans s), E.rt, E.bk, E.ct⟩
theorem ds_next (h : D₀.nx ρ) : Ds F tNext D₀ ρ := fun X M N σ H ok Dh E => E.nx _ _ _ _ _ (Same.refl _) ok h
theorem ds_brk (h : D₀.bk ρ) : Ds F tBreak D₀ ρ := fun X M N σ H ok Dh E => E.bk _ _ _ _ _ (Same.refl _) ok h
theorem ds_cnt (h : D₀.ct ρ) : Ds F tCont D₀ ρ := fun X M N σ H ok Dh E => E.ct _ _ _ _ _ (Same.refl _) ok h
theorem ds_drop (h : De F te ρ fun _ ρ1 => D₀.nx ρ1) : Ds F (tDrop te) D₀ ρ := fun X M N σ H ok Dh E =>
  h X M N σ H ok _ fun sv ρ1 M1 N1 v H1 s ok1 o q => E.nx _ _ _ _ _ s ok1 q
theorem ds_ret (h : De F te ρ fun sv ρ1 => D₀.rt sv ρ1) : Ds F (tRet te) D₀ ρ := fun X M N σ H ok Dh E =>
  h X M N σ H ok _ fun sv ρ1 M1 N1 v H1 s ok1 o q => E.rt _ _ _ _ _ _ _ s ok1 o q
theorem ds_retN (h : D₀.rt (.dat .non none) ρ) : Ds F tRetN D₀ ρ := fun X M N σ H ok Dh E => E.rt (.dat .non none) _ _ _ _ _ _ (Same.refl _) ok ⟨Rep.non, IdOk.none⟩ h
theorem ds_if (h : Dt F tt ρ fun b ρ1 => if b = true then Ds F ts D₀ ρ1 else Ds F tv D₀ ρ1) : Ds F (tIfS tt ts tv) D₀ ρ := fun X M N σ H ok Dh E =>
  h X M N σ H ok _ fun b ρ1 M1 N1 H1 s ok1 q => by
    cases b with
    | true => exact q X M1 N1 σ H1 ok1 Dh (E.trans s)
    | false => exact q X M1 N1 σ H1 ok1 Dh (E.trans s)
theorem ds_never (h : False) : Ds F tNever D₀ ρ := h.elim
/-! ### stores -/
theorem ds_asg (h : De F te ρ fun sv ρ1 => Dg F g sv ρ1 D₀.nx) : Ds F (tAsg te g) D₀ ρ := fun X M N σ H ok Dh E =>
  h X M N σ H ok _ fun sv ρ1 M1 N1 v H1 s ok1 o q => q X M1 N1 σ H1 v ok1 o _ fun ρ2 M2 N2 σ2 H2 s2 ok2 q2 => E.nx _ _ _ _ _ (s.trans s2) ok2 q2
theorem dg_d (q : Qs (ρ.set m (.dat d x))) : Dg F (gName m) (.dat d x) ρ Qs := fun X M N σ H v ok o Qh P => P _ M N _ _ (Same.refl _) (ok.put_t o) q
theorem dg_r {φ : Hp → V → Prop} (q : Qs (ρ.set m (.raw φ))) : Dg F (gName m) (.raw φ) ρ Qs := fun X M N σ H v ok o Qh P => P _ M N _ _ (Same.refl _) (ok.put_raw o) q
/-- a new list: the slot's own -/
theorem dg_f (q : Qs (ρ.set m (.own d))) : Dg F (gName m) (.fr d) ρ Qs := fun X M N σ H v ok o Qh P => by
  obtain ⟨N', ok'⟩ := ok.put_fr (i := m) o
  exact P _ M N' _ _ (Same.refl _) ok' q
/-- .. or data -/
theorem dg_z (q : Qs (ρ.set m (.dat d none))) : Dg F (gName m) (.fr d) ρ Qs := fun X M N σ H v ok o Qh P => by
  obtain ⟨M', s, ok', r⟩ := ok.frz o
  exact P _ M' N _ _ s (ok'.put_t ⟨r, IdOk.none⟩) q
theorem dg_o {n : Nat} (h : ρ[n]? = some (.own d)) (q : Qs ((ρ.set n (.dat d none)).set m (.dat d none))) : Dg F (gName m) (.bor n) ρ Qs := fun X M N σ H v ok o Qh P => by
  obtain ⟨M1, N1, v1, s1, e1, r1, ok1⟩ := ok.frz_own h
  have o : σ[n]? = some (some v) := o
  rw [o] at e1
  cases e1
  exact P _ M1 N1 _ _ s1 (ok1.put_t ⟨r1, IdOk.none⟩) q
theorem dg_tup {K : PySem.W.Frag} {u : TGs} {ds : List D} (hl : ds.length = n) (h : Dgs F u ds ρ Qs) : Dg F (gTup K n u) (.dat (.tup ds) x) ρ Qs := fun X M N σ H v ok o Qh P => by
  obtain ⟨a, xs, rfl, e, r⟩ := Rep.un_tup o.1
  exact ⟨a, xs, rfl, SqT.of (ok.sub _ _ e), by rw [r.len]; exact hl, h X M N σ H xs ok r Qh P⟩
theorem dgs_n (q : Qs ρ) : Dgs F gNil [] ρ Qs := fun X M N σ H vs ok r Qh P => by
  have e : vs = [] := by
    have := r.len
    exact List.length_eq_zero_iff.mp (by simpa using this)
  exact ⟨e, P _ _ _ _ _ (Same.refl _) ok q⟩
theorem RepL.un_cons {d : D} {ds : List D} {vs : List V} (h : RepL M (d :: ds) vs) : ∃ v r, vs = v :: r ∧ Rep M d v ∧ RepL M ds r := by unfold RepL at h; exact h
theorem dgs_c {u : TGs} {ds : List D} (h : Dg F g (.dat d none) ρ fun ρ1 => Dgs F u ds ρ1 Qs) : Dgs F (gCons g u) (d :: ds) ρ Qs := fun X M N σ H vs ok r Qh P => by
  obtain ⟨v, w, rfl, h1, h2⟩ := RepL.un_cons r
  refine ⟨v, w, rfl, h X M N σ H v ok ⟨h1, IdOk.none⟩ _ fun ρ1 M1 N1 σ1 H1 s1 ok1 q => ?_⟩
  exact q X M1 N1 σ1 H1 w ok1 (h2.mono s1) Qh fun ρ2 M2 N2 σ2 H2 s2 => P ρ2 M2 N2 σ2 H2 (s1.trans s2)
def Par2D (i j : Nat) (ρ : List SV) (as : List SV) (Qs : List SV → Prop) : Prop := match as with
  | [.dat d x, .dat e y] => Qs ((ρ.set i (.dat d x)).set j (.dat e y))
  | _ => False
theorem ds_par {i j : Nat} (h : Da F tr ρ fun as ρ1 => FzS as ρ1 fun as' ρ2 => Par2D i j ρ2 as' D₀.nx) : Ds F (tPar i j tr) D₀ ρ := fun X M N σ H ok Dh E =>
  h X M N σ H ok _ fun as ρ1 M1 N1 vs H1 s1 ok1 oas hz => by
    obtain ⟨as', ρ', M', N', s, ok', pr, q⟩ := fzs ok1 oas hz
    unfold Par2D at q
    split at q
    · rename_i d x e y
      cases pr with
      | @cons _ v1 _ _ h1 pr => cases pr with
        | @cons _ v2 _ _ h2 pr => cases pr with
          | nil => exact ⟨v1, v2, rfl, E.nx _ _ _ _ _ (s1.trans s) ((ok'.put_t h1).put_t h2) q⟩
    · exact q.elim
theorem par2d {i j : Nat} {e : D} (q : Qs ((ρ.set i (.dat d x)).set j (.dat e y))) : Par2D i j ρ [.dat d x, .dat e y] Qs := q
def Par3D (i j l : Nat) (ρ : List SV) (as : List SV) (Qs : List SV → Prop) : Prop := match as with
  | [.dat d x, .dat e y, .dat f z] => Qs (((ρ.set i (.dat d x)).set j (.dat e y)).set l (.dat f z))
  | _ => False
theorem ds_par3 {i j l : Nat} (h : Da F tr ρ fun as ρ1 => FzS as ρ1 fun as' ρ2 => Par3D i j l ρ2 as' D₀.nx) : Ds F (tPar3 i j l tr) D₀ ρ := fun X M N σ H ok Dh E =>
  h X M N σ H ok _ fun as ρ1 M1 N1 vs H1 s1 ok1 oas hz => by
    obtain ⟨as', ρ', M', N', s, ok', pr, q⟩ := fzs ok1 oas hz
    unfold Par3D at q
    split at q
    · rename_i d x e y f z
      cases pr with
      | @cons _ v1 _ _ h1 pr => cases pr with
        | @cons _ v2 _ _ h2 pr => cases pr with
          | @cons _ v3 _ _ h3 pr => cases pr with
            | nil => exact ⟨v1, v2, v3, rfl, E.nx _ _ _ _ _ (s1.trans s) (((ok'.put_t h1).put_t h2).put_t h3) q⟩
    · exact q.elim
theorem par3d {i j l : Nat} {e f : D} {z : Option V} (q : Qs (((ρ.set i (.dat d x)).set j (.dat e y)).set l (.dat f z))) : Par3D i j l ρ [.dat d x, .dat e y, .dat f z] Qs := q
theorem ds_augI {f : Int → Int → Int} (h : ρ[m]? = some (.dat (.int i) x)) (q : Dz F te ρ fun sv ρ1 => IsI sv fun j => D₀.nx (ρ1.set m (.dat (.int (f i j)) none))) : Ds F (tAug m te (ipI f)) D₀ ρ := fun X M N σ H ok Dh E => by
  obtain ⟨v, e, r, _⟩ := ok.slot m _ h
  obtain rfl := Rep.un_int r
  refine ⟨_, e, q X M N σ H ok _ fun sv ρ1 M1 N1 v H1 s1 ok1 o z => ?_⟩
  obtain ⟨j, rfl, q⟩ := z.to o
  exact ⟨_, _, rfl, rfl, E.nx _ _ _ _ _ s1 (ok1.put_t (d := .int (f i j)) (x := none) ⟨Rep.int, IdOk.none⟩) q⟩
/-! ### weakening -/
inductive Le1 : SV → SV → Prop
  | refl {s : SV} : Le1 s s
  | un {s : SV} : Le1 s .un
  | id {d : D} {x : Option V} : Le1 (.dat d x) (.dat d none)
  | box {a : Addr} {B C : Int} (h : B ≤ C) : Le1 (.box a B) (.box a C)
def Le (ρ ρ' : List SV) : Prop := Paired Le1 ρ ρ'
theorem Le1.ok {N : Hp} {s s' : SV} {o : Option (Option V)} (l : Le1 s s') (h : SlotOk F M N s o) : SlotOk F M N s' o := by
  cases l with
  | refl => exact h
  | un => trivial
  | id =>
    obtain ⟨v, e, r, _⟩ := h
    exact ⟨v, e, r, IdOk.none⟩
  | box hb => exact ⟨h.1, h.2.le hb⟩
theorem Le.at : ∀ {ρ ρ' : List SV}, Le ρ ρ' → ∀ {i : Nat} {s' : SV}, ρ'[i]? = some s' → ∃ s, ρ[i]? = some s ∧ Le1 s s'
  | _, _, .nil, i, s', e => by simp at e
  | _, _, .cons l _, 0, s', e => by
    simp at e
    subst e
    exact ⟨_, rfl, l⟩
  | _, _, .cons _ r, i + 1, s', e => by
    obtain ⟨s, h1, h2⟩ := Le.at r (i := i) (by simpa using e)
    exact ⟨s, by simpa using h1, h2⟩
theorem OkS.le (h : OkS F X ρ M N σ H) (l : Le ρ ρ') : OkS F X ρ' M N σ H where
  len := by rw [h.len, ← paired_length l]
  sub := h.sub
  base := h.base
  gr := h.gr
  frame := h.frame
  alive := h.alive
  reg := h.reg
  apt := h.apt
  xsub := h.xsub
  xapt := h.xapt
  gok := h.gok
  dis := h.dis
  slot := fun i sv e => by
    obtain ⟨s, e, l⟩ := l.at e
    exact l.ok (h.slot i s e)
theorem Le.refl : ∀ {ρ : List SV}, Le ρ ρ
  | [] => .nil
  | _ :: _ => .cons .refl Le.refl
/-- forget something, then go on -/
theorem ds_le (l : Le ρ ρ') (h : Ds F ts D₀ ρ') : Ds F ts D₀ ρ := fun X M N σ H ok => h X M N σ H (ok.le l)
/-! ### loops -/
/-- .. reached, something forgotten -/
def Up (I : List SV → Prop) (ρ : List SV) : Prop := ∃ ρ', Le ρ ρ' ∧ I ρ'
theorem up {I : List SV → Prop} (l : Le ρ ρ') (h : I ρ') : Up I ρ := ⟨ρ', l, h⟩
theorem ds_for {wi : TI} (h : Di F wi ρ fun it ρ1 => ∃ I : Nat → List SV → Prop, Up (I 0) ρ1 ∧ (∀ i ρ2, i < it.n → I i ρ2 → Dg F g (.dat (it.at_ i) none) ρ2 fun ρ3 => Ds F ts { D₀ with nx := Up (I (i + 1)), ct := Up (I (i + 1)), bk := D₀.nx } ρ3) ∧ (∀ ρ2, I it.n ρ2 → D₀.nx ρ2) ∧ ∀ i ρ2, I i ρ2 → it.ok ρ2) : Ds F (tFor wi g ts) D₀ ρ := fun X M N σ H ok Dh E =>
  h X M N σ H ok _ fun J it ρ1 M1 N1 H1 s1 ok1 hJ ⟨I, h0, ht, he, hk⟩ => by
    refine ⟨fun i m σ2 H2 => m = it.n - i ∧ i ≤ it.n ∧ ∃ ρ2 M2 N2, Same M1 M2 ∧ OkS F X ρ2 M2 N2 σ2 H2 ∧ I i ρ2, ⟨it.n, ?_⟩, ?_⟩
    · obtain ⟨ρ2, l, h0⟩ := h0
      exact ⟨by omega, Nat.zero_le _, ρ2, M1, N1, Same.refl _, ok1.le l, h0⟩
    · rintro i m σ2 H2 ⟨rfl, hi, ρ2, M2, N2, s2, ok2, hI⟩
      obtain ⟨g1, g2, g3⟩ := hJ X ρ2 M2 N2 σ2 H2 s2 ok2 (hk i ρ2 hI) i
      by_cases hl : i < it.n
      · refine .inr ⟨g1 hl, fun σ' H' => ∃ ρ' M' N', Same M2 M' ∧ OkS F X ρ' M' N' σ' H' ∧ Up (I (i + 1)) ρ', ?_, ?_⟩
        · rintro σ' H' ⟨ρ', M', N', s', ok', ρ3, l, hI'⟩
          exact ⟨it.n - (i + 1), by omega, rfl, hl, ρ3, M', N', s2.trans s', ok'.le l, hI'⟩
        · intro x H' hy
          obtain ⟨M3, s3, ok3, sh, hr⟩ := g3 hl x H' hy
          refine ht i ρ2 hl hI X M3 N2 σ2 H' x ok3 ⟨hr, IdOk.none⟩ _ fun ρ4 M4 N4 σ4 H4 s4 ok4 q => ?_
          refine q X M4 N4 σ4 H4 ok4 _ ⟨fun ρ5 M5 N5 σ5 H5 s5 ok5 q5 => ⟨ρ5, M5, N5, s3.trans (s4.trans s5), ok5, q5⟩, fun sv ρ5 M5 N5 σ5 v5 H5 s5 ok5 o5 q5 => E.rt _ _ _ _ _ _ _ (s1.trans (s2.trans (s3.trans (s4.trans s5)))) ok5 o5 q5,
            fun ρ5 M5 N5 σ5 H5 s5 ok5 q5 => E.nx _ _ _ _ _ (s1.trans (s2.trans (s3.trans (s4.trans s5)))) ok5 q5, fun ρ5 M5 N5 σ5 H5 s5 ok5 q5 => ⟨ρ5, M5, N5, s3.trans (s4.trans s5), ok5, q5⟩⟩
      · have e : i = it.n := by omega
        subst e
        exact .inl ⟨g2 (Nat.le_refl _), E.nx _ _ _ _ _ (s1.trans s2) ok2 (he ρ2 hI)⟩
/-- I m: what holds ahead of a turn, m a measure -/
theorem ds_while (I : Nat → List SV → Prop) (n : Nat) (h0 : Up (I n) ρ) (h : ∀ m ρ1, I m ρ1 → Dt F tt ρ1 fun b ρ2 => if b = true then Ds F ts { D₀ with nx := fun ρ3 => ∃ m', m' < m ∧ Up (I m') ρ3, ct := fun ρ3 => ∃ m', m' < m ∧ Up (I m') ρ3, bk := D₀.nx } ρ2 else D₀.nx ρ2) : Ds F (tWhile tt ts) D₀ ρ := fun X M N σ H ok Dh E => by
  refine ⟨fun m σ2 H2 => ∃ ρ2 M2 N2, Same M M2 ∧ OkS F X ρ2 M2 N2 σ2 H2 ∧ I m ρ2, ?_, ?_⟩
  · obtain ⟨ρ2, l, h0⟩ := h0
    exact ⟨n, ρ2, M, N, Same.refl _, ok.le l, h0⟩
  · rintro m σ2 H2 ⟨ρ2, M2, N2, s2, ok2, hI⟩
    refine h m ρ2 hI X M2 N2 σ2 H2 ok2 _ fun b ρ3 M3 N3 H3 s3 ok3 hb => ?_
    cases b with
    | false => exact E.nx _ _ _ _ _ (s2.trans s3) ok3 hb
    | true =>
      have P : ∀ ρ5 M5 N5 σ5 H5, Same M3 M5 → OkS F X ρ5 M5 N5 σ5 H5 → (∃ m', m' < m ∧ Up (I m') ρ5) → ∃ m', m' < m ∧ ∃ ρ2 M2 N2, Same M M2 ∧ OkS F X ρ2 M2 N2 σ5 H5 ∧ I m' ρ2 := fun ρ5 M5 N5 σ5 H5 s5 ok5 ⟨m', hm, ρ6, l, q⟩ =>
        ⟨m', hm, ρ6, M5, N5, s2.trans (s3.trans s5), ok5.le l, q⟩
      exact ⟨fun σ5 H5 => ∃ m', m' < m ∧ ∃ ρ2 M2 N2, Same M M2 ∧ OkS F X ρ2 M2 N2 σ5 H5 ∧ I m' ρ2, fun _ _ z => z, hb X M3 N3 σ2 H3 ok3 _ ⟨P, fun sv ρ5 M5 N5 σ5 v5 H5 s5 ok5 o5 q5 => E.rt _ _ _ _ _ _ _ (s2.trans (s3.trans s5)) ok5 o5 q5, fun ρ5 M5 N5 σ5 H5 s5 ok5 q5 => E.nx _ _ _ _ _ (s2.trans (s3.trans s5)) ok5 q5, P⟩⟩
end
end Cr

/-! The data level: what a for walks, comprehensions. -/
namespace Cr
open PySem PySem.Spec PyProof.Rows L2
def itL (ds : List D) : ItD := { n := ds.length, at_ := fun i => ds.getD i .non }
def itM {α : Type} (xs : List α) (f : α → D) : ItD := { n := xs.length, at_ := fun i => match xs[i]? with
  | some y => f y
  | none => .non }
def itR (lo : Int) (n : Nat) : ItD := { n := n, at_ := fun i => .int (lo + i) }
def itE (it : ItD) : ItD := { n := it.n, at_ := fun i => .tup [.int (i : Nat), it.at_ i] }
def itZ (it1 it2 : ItD) : ItD := { n := min it1.n it2.n, at_ := fun i => .tup [it1.at_ i, it2.at_ i] }
theorem itM_eq {α : Type} (xs : List α) (f : α → D) : itL (xs.map f) = itM xs f := by
  unfold itL itM
  simp only [List.length_map]
  congr 1
  funext i
  rw [List.getD_eq_getElem?_getD, List.getElem?_map]
  cases xs[i]? <;> rfl
section
variable {F : Fr} {X : Hp} {ρ ρ' : List SV} {M M' : Hp} {N : Nat → Hp} {σ : L2.St} {H H' : Hp} {sv : SV} {v : V} {d : D} {x y : Option V} {p a : Addr} {i j : Int} {m n : Nat} {s : Str} {k : Bool} {D₀ : DEnds} {ds es : List D}
variable {t ta tb tc te : TE} {tr : TA} {tt tu : TT} {ts tv : TS} {g : TG} {Q : SV → List SV → Prop} {Qb : Bool → List SV → Prop} {Qa : List SV → List SV → Prop} {Qs : List SV → Prop} {K : PySem.W.Frag} {R : ItD → List SV → Prop}
theorem itL_at {xs : List V} (r : RepL M ds xs) {i : Nat} (h : i < ds.length) : ∃ x, xs[i]? = some x ∧ Rep M ((itL ds).at_ i) x := by
  have e : ds[i]? = some ds[i] := by simp [h]
  obtain ⟨x, e1, e2⟩ := r.get e
  refine ⟨x, e1, ?_⟩
  show Rep M (ds.getD i .non) x
  rw [List.getD_eq_getElem?_getD, e]
  exact e2
/-- a list that is data for good -/
theorem itOk_l {xs : List V} (h : SqL K M a xs) (r : RepL M ds xs) (hk : ∀ (H : Hp), Same M H → SqL K H a xs) : ItOk F (Itl K a) M (itL ds) := fun X ρ1 M1 N1 σ1 H1 s ok _ i => by
  have hq := hk H1 (s.trans ok.sub)
  refine ⟨fun hi => ?_, fun hi => ⟨xs, hq, by rw [r.len]; exact hi⟩, fun hi x H' ⟨e, hy⟩ => ?_⟩
  · obtain ⟨x, e, _⟩ := itL_at r hi
    exact ⟨xs, x, hq, e⟩
  · subst e
    obtain ⟨x', e, h'⟩ := itL_at r hi
    have e2 := hy xs hq
    rw [e] at e2
    cases e2
    exact ⟨M1, Same.refl _, ok, Same.refl _, h'.mono s⟩
theorem itOk_t {xs : List V} (r : RepL M ds xs) (hk : ∀ (H : Hp), Same M H → SqT K H a xs) : ItOk F (Itt K a) M (itL ds) := fun X ρ1 M1 N1 σ1 H1 s ok _ i => by
  have hq := hk H1 (s.trans ok.sub)
  refine ⟨fun hi => ?_, fun hi => ⟨xs, hq, by rw [r.len]; exact hi⟩, fun hi x H' ⟨e, hy⟩ => ?_⟩
  · obtain ⟨x, e, _⟩ := itL_at r hi
    exact ⟨xs, x, hq, e⟩
  · subst e
    obtain ⟨x', e, h'⟩ := itL_at r hi
    have e2 := hy xs hq
    rw [e] at e2
    cases e2
    exact ⟨M1, Same.refl _, ok, Same.refl _, h'.mono s⟩
theorem sqL_data {xs : List V} (h : M a = some (.lst xs)) : ∀ (H : Hp), Same M H → SqL K H a xs := fun H s => SqL.of (s _ _ h)
theorem sqT_data {xs : List V} (h : M a = some (.tup xs)) : ∀ (H : Hp), Same M H → SqT K H a xs := fun H s => SqT.of (s _ _ h)
/-- the argument of a walk: one list or tuple that is data -/
def One (as : List SV) (kk : D → Prop) : Prop := match as with
  | [.dat d _] => kk d
  | _ => False
theorem One.to {as : List SV} {kk : D → Prop} {vs : List V} (h : One as kk) (pr : Paired (OkT M σ) as vs) : ∃ d v, vs = [v] ∧ Rep M d v ∧ kk d := by
  unfold One at h
  split at h
  · cases pr with
    | @cons _ v _ _ h1 pr => cases pr with
      | nil => exact ⟨_, v, rfl, h1.1, h⟩
  · exact h.elim
theorem fz1 (ok : OkS F X ρ M N σ H) (o : OkT M σ sv v) {kk : D → List SV → Prop} (h : FzS [sv] ρ fun as ρ2 => One as fun d => kk d ρ2) : ∃ d ρ' M' N', Same M M' ∧ OkS F X ρ' M' N' σ H ∧ Rep M' d v ∧ kk d ρ' := by
  obtain ⟨as', ρ', M', N', s, ok', pr, q⟩ := fzs ok (.cons o .nil) h
  obtain ⟨d, v', e, r, q⟩ := q.to pr
  cases e
  exact ⟨d, ρ', M', N', s, ok', r, q⟩
def IsL (d : D) (kk : List D → Prop) : Prop := ∃ ds, d = .lst ds ∧ kk ds
def IsT (d : D) (kk : List D → Prop) : Prop := ∃ ds, d = .tup ds ∧ kk ds
def IsLT (d : D) (kk : List D → Prop) : Prop := ∃ ds, (d = .lst ds ∨ d = .tup ds) ∧ kk ds
theorem isL {kk : List D → Prop} (q : kk ds) : IsL (.lst ds) kk := ⟨ds, rfl, q⟩
theorem isT {kk : List D → Prop} (q : kk ds) : IsT (.tup ds) kk := ⟨ds, rfl, q⟩
theorem isLT1 {kk : List D → Prop} (q : kk ds) : IsLT (.lst ds) kk := ⟨ds, .inl rfl, q⟩
theorem isLT2 {kk : List D → Prop} (q : kk ds) : IsLT (.tup ds) kk := ⟨ds, .inr rfl, q⟩
theorem di_l (h : Dz F te ρ fun sv ρ1 => FzS [sv] ρ1 fun as ρ2 => One as fun d => IsL d fun ds => R (itL ds) ρ2) : Di F (iList K te) ρ R := fun X M N σ H ok Rh P =>
  h X M N σ H ok _ fun sv ρ1 M1 N1 v H1 s1 ok1 o q => by
    obtain ⟨d, ρ', M', N', s, ok', r, ds, rfl, q⟩ := fz1 ok1 o q
    obtain ⟨a, xs, rfl, e, r⟩ := Rep.un_lst r
    exact ⟨a, rfl, ⟨xs, SqL.of (ok'.sub _ _ e)⟩, P _ _ _ _ _ _ (s1.trans s) ok' (itOk_l (SqL.of e) r (sqL_data e)) q⟩
theorem di_t (h : Dz F te ρ fun sv ρ1 => FzS [sv] ρ1 fun as ρ2 => One as fun d => IsT d fun ds => R (itL ds) ρ2) : Di F (iTup K te) ρ R := fun X M N σ H ok Rh P =>
  h X M N σ H ok _ fun sv ρ1 M1 N1 v H1 s1 ok1 o q => by
    obtain ⟨d, ρ', M', N', s, ok', r, ds, rfl, q⟩ := fz1 ok1 o q
    obtain ⟨a, xs, rfl, e, r⟩ := Rep.un_tup r
    exact ⟨a, rfl, ⟨xs, SqT.of (ok'.sub _ _ e)⟩, P _ _ _ _ _ _ (s1.trans s) ok' (itOk_t r (sqT_data e)) q⟩
theorem di_s (h : Dz F te ρ fun sv ρ1 => FzS [sv] ρ1 fun as ρ2 => One as fun d => IsLT d fun ds => R (itL ds) ρ2) : Di F (iSeq K te) ρ R := fun X M N σ H ok Rh P =>
  h X M N σ H ok _ fun sv ρ1 M1 N1 v H1 s1 ok1 o q => by
    obtain ⟨d, ρ', M', N', s, ok', r, ds, rfl | rfl, q⟩ := fz1 ok1 o q
    · obtain ⟨a, xs, rfl, e, r⟩ := Rep.un_lst r
      exact .inl ⟨a, rfl, ⟨xs, SqL.of (ok'.sub _ _ e)⟩, P _ _ _ _ _ _ (s1.trans s) ok' (itOk_l (SqL.of e) r (sqL_data e)) q⟩
    · obtain ⟨a, xs, rfl, e, r⟩ := Rep.un_tup r
      exact .inr ⟨a, rfl, ⟨xs, SqT.of (ok'.sub _ _ e)⟩, P _ _ _ _ _ _ (s1.trans s) ok' (itOk_t r (sqT_data e)) q⟩
/-! ranges -/
def Int1 (as : List SV) (kk : Int → Prop) : Prop := match as with
  | [.dat (.int i) _] => kk i
  | _ => False
def Int2 (as : List SV) (kk : Int → Int → Prop) : Prop := match as with
  | [.dat (.int i) _, .dat (.int j) _] => kk i j
  | _ => False
theorem Int1.to {as : List SV} {kk : Int → Prop} {vs : List V} (h : Int1 as kk) (pr : Paired (OkT M σ) as vs) : ∃ i, vs = [.int i] ∧ kk i := by
  unfold Int1 at h
  split at h
  · cases pr with
    | @cons _ v _ _ h1 pr => cases pr with
      | nil =>
        obtain rfl := Rep.un_int h1.1
        exact ⟨_, rfl, h⟩
  · exact h.elim
theorem Int2.to {as : List SV} {kk : Int → Int → Prop} {vs : List V} (h : Int2 as kk) (pr : Paired (OkT M σ) as vs) : ∃ i j, vs = [.int i, .int j] ∧ kk i j := by
  unfold Int2 at h
  split at h
  · cases pr with
    | @cons _ v _ _ h1 pr => cases pr with
      | @cons _ v _ _ h2 pr => cases pr with
        | nil =>
          obtain rfl := Rep.un_int h1.1
          obtain rfl := Rep.un_int h2.1
          exact ⟨_, _, rfl, h⟩
  · exact h.elim
theorem itOk_r {lo : Int} {n : Nat} : ItOk F (Itr lo n) M (itR lo n) := fun X ρ1 M1 N1 σ1 H1 s ok _ i =>
  ⟨fun hi => hi, fun hi => hi, fun hi x H' ⟨e, hy⟩ => by
    subst e
    subst hy
    exact ⟨M1, Same.refl _, ok, Same.refl _, Rep.int⟩⟩
theorem di_r1 (h : Da F tr ρ fun as ρ1 => Int1 as fun j => -4611686018427387904 ≤ j ∧ j < 4611686018427387904 ∧ R (itR 0 j.toNat) ρ1) : Di F (iRng1 tr) ρ R := fun X M N σ H ok Rh P =>
  h X M N σ H ok _ fun as ρ1 M1 N1 vs H1 s1 ok1 pr q => by
    obtain ⟨j, rfl, h1, h2, q⟩ := q.to pr
    exact ⟨j, rfl, by omega, by omega, P _ _ _ _ _ _ s1 ok1 itOk_r q⟩
theorem di_r2 (h : Da F tr ρ fun as ρ1 => Int2 as fun i j => (-4611686018427387904 ≤ i ∧ i < 4611686018427387904 ∧ -4611686018427387904 ≤ j ∧ j < 4611686018427387904) ∧ R (itR i (j - i).toNat) ρ1) : Di F (iRng2 tr) ρ R := fun X M N σ H ok Rh P =>
  h X M N σ H ok _ fun as ρ1 M1 N1 vs H1 s1 ok1 pr q => by
    obtain ⟨i, j, rfl, h1, q⟩ := q.to pr
    exact ⟨i, j, rfl, by omega, P _ _ _ _ _ _ s1 ok1 itOk_r q⟩
theorem int1 {kk : Int → Prop} (q : kk i) : Int1 [.dat (.int i) x] kk := q
theorem int2 {kk : Int → Int → Prop} (q : kk i j) : Int2 [.dat (.int i) x, .dat (.int j) y] kk := q
/-! enumerate, zip -/
theorem ok_tup {T : Addr} {xs : List V} (ok : OkS F X ρ M N σ H) (n : H T = none) (r : RepL M ds xs) : ∃ M2, Same M M2 ∧ OkS F X ρ M2 N σ (upd H T (.tup xs)) ∧ Rep M2 (.tup ds) (.ref T) :=
  ⟨ins M (upd H T (.tup xs)) T, ins_same (ok.noM n), ok.ins n (same_new n), .tup (xs := xs) (by rw [ins_at, upd_same]) (r.mono (ins_same (ok.noM n)))⟩
theorem di_en (h : Da F tr ρ fun as ρ1 => FzS as ρ1 fun as' ρ2 => One as' fun d => IsL d fun ds => R (itE (itL ds)) ρ2) : Di F (iEnum K tr) ρ R := fun X M N σ H ok Rh P =>
  h X M N σ H ok _ fun as ρ1 M1 N1 vs H1 s1 ok1 pr q => by
    obtain ⟨as', ρ', M', N', s, ok', pr', q⟩ := fzs ok1 pr q
    obtain ⟨d, v, rfl, r, ds, rfl, q⟩ := q.to pr'
    obtain ⟨a, xs, rfl, e, r⟩ := Rep.un_lst r
    refine ⟨a, xs, rfl, SqL.of (ok'.sub _ _ e), P _ _ _ _ _ _ (s1.trans s) ok' (fun X ρ1 M1 N1 σ1 H1 s ok _ i => ?_) q⟩
    have hq : SqL K H1 a xs := SqL.of ((s.trans ok.sub) _ _ e)
    refine ⟨fun hi => ?_, fun hi => ⟨xs, hq, by rw [r.len]; exact hi⟩, fun hi x H' hy => ?_⟩
    · obtain ⟨x, e, _⟩ := itL_at r hi
      exact ⟨xs, x, hq, e⟩
    · obtain ⟨T, x', rfl, n, rfl, hy⟩ := hy
      obtain ⟨x2, e, h'⟩ := itL_at r hi
      have e2 := hy xs hq
      rw [e] at e2
      cases e2
      obtain ⟨M2, s2, ok2, r2⟩ := ok_tup ok n (RepL.cons (d := .int (i : Nat)) Rep.int (RepL.cons (h'.mono s) RepL.nil))
      exact ⟨M2, s2, ok2, same_new n, r2⟩
def Two (as : List SV) (kk : D → D → Prop) : Prop := match as with
  | [.dat d _, .dat e _] => kk d e
  | _ => False
theorem Two.to {as : List SV} {kk : D → D → Prop} {vs : List V} (h : Two as kk) (pr : Paired (OkT M σ) as vs) : ∃ d e v w, vs = [v, w] ∧ Rep M d v ∧ Rep M e w ∧ kk d e := by
  unfold Two at h
  split at h
  · cases pr with
    | @cons _ v _ _ h1 pr => cases pr with
      | @cons _ w _ _ h2 pr => cases pr with
        | nil => exact ⟨_, _, v, w, rfl, h1.1, h2.1, h⟩
  · exact h.elim
theorem di_zip (h : Da F tr ρ fun as ρ1 => FzS as ρ1 fun as' ρ2 => Two as' fun d e => IsL d fun ds => IsL e fun es => R (itZ (itL ds) (itL es)) ρ2) : Di F (iZip K tr) ρ R := fun X M N σ H ok Rh P =>
  h X M N σ H ok _ fun as ρ1 M1 N1 vs H1 s1 ok1 pr q => by
    obtain ⟨as', ρ', M', N', s, ok', pr', q⟩ := fzs ok1 pr q
    obtain ⟨d, d', v, w, rfl, r, r', ds, rfl, ds', rfl, q⟩ := q.to pr'
    obtain ⟨a, xs, rfl, e, r⟩ := Rep.un_lst r
    obtain ⟨b, ys, rfl, e', r'⟩ := Rep.un_lst r'
    refine ⟨a, b, xs, ys, rfl, SqL.of (ok'.sub _ _ e), SqL.of (ok'.sub _ _ e'), P _ _ _ _ _ _ (s1.trans s) ok' (fun X ρ1 M1 N1 σ1 H1 s ok _ i => ?_) q⟩
    have hq : SqL K H1 a xs := SqL.of ((s.trans ok.sub) _ _ e)
    have hq' : SqL K H1 b ys := SqL.of ((s.trans ok.sub) _ _ e')
    have hmin : (itZ (itL ds) (itL ds')).n = min ds.length ds'.length := rfl
    refine ⟨fun hi => ?_, fun hi => ⟨xs, ys, hq, hq', ?_⟩, fun hi x H' hy => ?_⟩
    · obtain ⟨x, e, _⟩ := itL_at r (i := i) (by omega)
      obtain ⟨y, e', _⟩ := itL_at r' (i := i) (by omega)
      exact ⟨xs, ys, x, y, hq, hq', e, e'⟩
    · rw [r.len, r'.len]
      omega
    · obtain ⟨T, x', y', rfl, n, rfl, hy, hy'⟩ := hy
      obtain ⟨x2, e, h1⟩ := itL_at r (i := i) (by omega)
      obtain ⟨y2, e', h2⟩ := itL_at r' (i := i) (by omega)
      have e2 := hy xs hq
      rw [e] at e2
      cases e2
      have e2 := hy' ys hq'
      rw [e'] at e2
      cases e2
      obtain ⟨M2, s2, ok2, r2⟩ := ok_tup ok n (RepL.cons (h1.mono s) (RepL.cons (h2.mono s) RepL.nil))
      exact ⟨M2, s2, ok2, same_new n, r2⟩
/-! ### for, by what is walked -/
/-- what a for asks -/
def ForD (F : Fr) (it : ItD) (g : TG) (ts : TS) (D₀ : DEnds) (ρ1 : List SV) : Prop := ∃ I : Nat → List SV → Prop, Up (I 0) ρ1 ∧ (∀ i ρ2, i < it.n → I i ρ2 → Dg F g (.dat (it.at_ i) none) ρ2 fun ρ3 => Ds F ts { D₀ with nx := Up (I (i + 1)), ct := Up (I (i + 1)), bk := D₀.nx } ρ3) ∧ (∀ ρ2, I it.n ρ2 → D₀.nx ρ2) ∧ ∀ i ρ2, I i ρ2 → it.ok ρ2
theorem ds_forD {wi : TI} (h : Di F wi ρ fun it ρ1 => ForD F it g ts D₀ ρ1) : Ds F (tFor wi g ts) D₀ ρ := ds_for h
theorem for_l (I : Nat → List SV → Prop) (h0 : Up (I 0) ρ) (ht : ∀ i d ρ2, ds[i]? = some d → I i ρ2 → Dg F g (.dat d none) ρ2 fun ρ3 => Ds F ts { D₀ with nx := Up (I (i + 1)), ct := Up (I (i + 1)), bk := D₀.nx } ρ3) (he : ∀ ρ2, I ds.length ρ2 → D₀.nx ρ2) : ForD F (itL ds) g ts D₀ ρ :=
  ⟨I, h0, fun i ρ2 hi hI => by
    have hi : i < ds.length := hi
    have e : ds[i]? = some ds[i] := by simp [hi]
    have e2 : (itL ds).at_ i = ds[i] := by
      show ds.getD i .non = _
      rw [List.getD_eq_getElem?_getD, e]
      rfl
    rw [e2]
    exact ht i _ ρ2 e hI, he, fun _ _ _ => trivial⟩
theorem itM_at {α : Type} {xs : List α} {f : α → D} {i : Nat} {y : α} (e : xs[i]? = some y) : (itM xs f).at_ i = f y := by
  show (match xs[i]? with
  | some y => f y
  | none => .non) = _
  rw [e]
theorem for_m {α : Type} {xs : List α} {f : α → D} (I : Nat → List SV → Prop) (h0 : Up (I 0) ρ) (ht : ∀ i y ρ2, xs[i]? = some y → I i ρ2 → Dg F g (.dat (f y) none) ρ2 fun ρ3 => Ds F ts { D₀ with nx := Up (I (i + 1)), ct := Up (I (i + 1)), bk := D₀.nx } ρ3) (he : ∀ ρ2, I xs.length ρ2 → D₀.nx ρ2) : ForD F (itL (xs.map f)) g ts D₀ ρ := by
  rw [itM_eq]
  refine ⟨I, h0, fun i ρ2 hi hI => ?_, he, fun _ _ _ => trivial⟩
  have hi : i < xs.length := hi
  have e : xs[i]? = some xs[i] := by simp [hi]
  rw [itM_at e]
  exact ht i _ ρ2 e hI
theorem for_r {lo : Int} (I : Nat → List SV → Prop) (h0 : Up (I 0) ρ) (ht : ∀ i ρ2, i < n → I i ρ2 → Dg F g (.dat (.int (lo + i)) none) ρ2 fun ρ3 => Ds F ts { D₀ with nx := Up (I (i + 1)), ct := Up (I (i + 1)), bk := D₀.nx } ρ3) (he : ∀ ρ2, I n ρ2 → D₀.nx ρ2) : ForD F (itR lo n) g ts D₀ ρ := ⟨I, h0, ht, he, fun _ _ _ => trivial⟩
theorem for_e {α : Type} {xs : List α} {f : α → D} (I : Nat → List SV → Prop) (h0 : Up (I 0) ρ) (ht : ∀ i y ρ2, xs[i]? = some y → I i ρ2 → Dg F g (.dat (.tup [.int (i : Nat), f y]) none) ρ2 fun ρ3 => Ds F ts { D₀ with nx := Up (I (i + 1)), ct := Up (I (i + 1)), bk := D₀.nx } ρ3) (he : ∀ ρ2, I xs.length ρ2 → D₀.nx ρ2) : ForD F (itE (itL (xs.map f))) g ts D₀ ρ := by
  rw [itM_eq]
  refine ⟨I, h0, fun i ρ2 hi hI => ?_, he, fun _ _ _ => trivial⟩
  have hi : i < xs.length := hi
  have e : xs[i]? = some xs[i] := by simp [hi]
  show Dg F g (.dat (.tup [.int (i : Nat), (itM xs f).at_ i]) none) ρ2 _
  rw [itM_at e]
  exact ht i _ ρ2 e hI
theorem for_z {α β : Type} {xs : List α} {f : α → D} {ys : List β} {h : β → D} (I : Nat → List SV → Prop) (h0 : Up (I 0) ρ) (ht : ∀ i y z ρ2, xs[i]? = some y → ys[i]? = some z → I i ρ2 → Dg F g (.dat (.tup [f y, h z]) none) ρ2 fun ρ3 => Ds F ts { D₀ with nx := Up (I (i + 1)), ct := Up (I (i + 1)), bk := D₀.nx } ρ3) (he : ∀ ρ2, I (min xs.length ys.length) ρ2 → D₀.nx ρ2) : ForD F (itZ (itL (xs.map f)) (itL (ys.map h))) g ts D₀ ρ := by
  rw [itM_eq, itM_eq]
  refine ⟨I, h0, fun i ρ2 hi hI => ?_, he, fun _ _ _ => trivial⟩
  have hi : i < min xs.length ys.length := hi
  have e : xs[i]? = some xs[i] := by
    have : i < xs.length := by omega
    simp [this]
  have e' : ys[i]? = some ys[i] := by
    have : i < ys.length := by omega
    simp [this]
  show Dg F g (.dat (.tup [(itM xs f).at_ i, (itM ys h).at_ i]) none) ρ2 _
  rw [itM_at e, itM_at e']
  exact ht i _ _ ρ2 e e' hI
/-! ### comprehensions -/
def wipeD (ρ : List SV) : List Nat → List SV
  | [] => ρ
  | v :: vs => (wipeD ρ vs).set v .un
/-- what is known of the own names of a block behind it -/
def keep1 (sv : Option SV) : SV := match sv with
  | some (.dat d x) => .dat d x
  | some (.raw φ) => .raw φ
  | _ => .un
def backD (ρ ρ' : List SV) : List Nat → List SV
  | [] => ρ'
  | v :: vs => (backD ρ ρ' vs).set v (keep1 ρ[v]?)
theorem wipeD_len {vs : List Nat} : (wipeD ρ vs).length = ρ.length := by
  induction vs with
  | nil => rfl
  | cons v vs ih => unfold wipeD; rw [set_len, ih]
theorem backD_len {vs : List Nat} : (backD ρ ρ' vs).length = ρ'.length := by
  induction vs with
  | nil => rfl
  | cons v vs ih => unfold backD; rw [set_len, ih]
theorem OkS.wipe (h : OkS F X ρ M N σ H) : ∀ vs : List Nat, OkS F X (wipeD ρ vs) M N (wipe σ vs) H
  | [] => h
  | v :: vs => by
    unfold wipeD L2.wipe
    exact (h.wipe vs).put_un
theorem wipe_get {σ σ' : L2.St} {i : Nat} : ∀ {vs : List Nat}, i ∉ vs → wipe σ vs = wipe σ' vs → σ[i]? = σ'[i]?
  | [], _, e => by
    unfold L2.wipe at e
    rw [e]
  | v :: vs, hn, e => by
    have h1 : i ≠ v := fun z => hn (z ▸ List.mem_cons_self)
    have h2 : i ∉ vs := fun z => hn (List.mem_cons_of_mem _ z)
    have h3 : ∀ (σ : L2.St), (wipe σ (v :: vs))[i]? = (wipe σ vs)[i]? := fun σ => by
      show ((wipe σ vs).set v none)[i]? = _
      rw [set_off h1]
    have h4 : ∀ (σ : L2.St) (ws : List Nat), i ∉ ws → (wipe σ ws)[i]? = σ[i]? := by
      intro σ ws
      induction ws with
      | nil => intro _; rfl
      | cons w ws ih =>
        intro hw
        show ((wipe σ ws).set w none)[i]? = _
        rw [set_off (fun z => hw (by rw [z]; exact List.mem_cons_self)), ih (fun z => hw (List.mem_cons_of_mem _ z))]
    rw [← h4 σ (v :: vs) hn, ← h4 σ' (v :: vs) hn, e]
theorem backD_get {i : Nat} {sv : SV} : ∀ {vs : List Nat}, (backD ρ ρ' vs)[i]? = some sv → (i ∉ vs ∧ ρ'[i]? = some sv) ∨ (i ∈ vs ∧ sv = keep1 ρ[i]?)
  | [], h => .inl ⟨by simp, h⟩
  | v :: vs, h => by
    unfold backD at h
    rcases set_get h with ⟨rfl, rfl, _⟩ | ⟨hn, h⟩
    · exact .inr ⟨List.mem_cons_self, rfl⟩
    · rcases backD_get h with ⟨h1, h2⟩ | ⟨h1, h2⟩
      · refine .inl ⟨fun z => ?_, h2⟩
        rcases List.mem_cons.mp z with z | z
        · exact hn z
        · exact h1 z
      · exact .inr ⟨List.mem_cons_of_mem _ h1, h2⟩
theorem OkS.back {M0 M1 : Hp} {N0 N1 : Nat → Hp} {σ0 σ1 : L2.St} {H0 H1 : Hp} {vs : List Nat} (h : OkS F X ρ M0 N0 σ0 H0) (h1 : OkS F X ρ' M1 N1 σ1 H1) (s : Same M0 M1) (w : L2.wipe σ1 vs = L2.wipe σ0 vs) : OkS F X (backD ρ ρ' vs) M1 N1 σ0 H1 where
  len := by
    rw [backD_len, ← h1.len]
    have e : (L2.wipe σ1 vs).length = (L2.wipe σ0 vs).length := by rw [w]
    rw [wipe_length, wipe_length] at e
    exact e.symm
  sub := h1.sub
  base := h1.base
  gr := h1.gr
  frame := h1.frame
  alive := h1.alive
  reg := h1.reg
  apt := h1.apt
  dis := h1.dis
  xsub := h1.xsub
  xapt := h1.xapt
  gok := h1.gok
  slot := fun i sv e => by
    rcases backD_get e with ⟨hn, e⟩ | ⟨hm, rfl⟩
    · rw [← wipe_get hn w]
      exact h1.slot i sv e
    · cases z : ρ[i]? with
      | none => trivial
      | some s0 =>
        cases s0 <;> try exact trivial
        · obtain ⟨v, e1, r, ix⟩ := h.slot i _ z
          exact ⟨v, e1, r.mono s, ix⟩
        · obtain ⟨v, e1, r⟩ := h.slot i _ z
          exact ⟨v, e1, fun M' s' => r M' (s.trans s')⟩
/-- what a comprehension asks: I i acc, what holds ahead of turn i, acc made so far -/
def LcD (F : Fr) (it : ItD) (g : TG) (tt : TT) (te : TE) (vs : List Nat) (ρ1 : List SV) (Q : SV → List SV → Prop) : Prop := it.n ≤ 90000 ∧ ∃ I : Nat → List D → List SV → Prop, Up (I 0 []) ρ1 ∧
  (∀ i acc ρ2, i < it.n → I i acc ρ2 → Dg F g (.dat (it.at_ i) none) (wipeD ρ2 vs) fun ρ3 => Dt F tt ρ3 fun b ρ4 => if b = true then Dz F te ρ4 fun sv ρ5 => FzS [sv] ρ5 fun as ρ6 => One as fun d => Up (I (i + 1) (acc ++ [d])) (backD ρ2 ρ6 vs) else Up (I (i + 1) acc) (backD ρ2 ρ4 vs)) ∧
  (∀ acc ρ2, I it.n acc ρ2 → Q (.fr (.lst acc)) ρ2) ∧ ∀ i acc ρ2, I i acc ρ2 → it.ok ρ2
/-- the target of a comprehension leaves the other slots -/
def GOwn (g : TG) (vs : List Nat) : Prop := ∀ v σ H Q, g v (wipe σ vs) H Q → g v (wipe σ vs) H fun σ2 H2 => wipe σ2 vs = wipe σ vs ∧ Q σ2 H2
theorem wipe_set {σ : L2.St} {m : Nat} {w : Option V} : ∀ {vs : List Nat}, m ∈ vs → wipe (σ.set m w) vs = wipe σ vs
  | v :: vs, h => by
    show (wipe (σ.set m w) vs).set v none = (wipe σ vs).set v none
    by_cases e : m ∈ vs
    · rw [wipe_set e]
    · have e1 : m = v := by
        rcases List.mem_cons.mp h with z | z
        · exact z
        · exact absurd z e
      subst e1
      have h4 : ∀ (ws : List Nat), m ∉ ws → wipe (σ.set m w) ws = (wipe σ ws).set m w := by
        intro ws
        induction ws with
        | nil => intro _; rfl
        | cons u ws ih =>
          intro hw
          show (wipe (σ.set m w) ws).set u none = ((wipe σ ws).set u none).set m w
          rw [ih (fun z => hw (List.mem_cons_of_mem _ z)), List.set_comm _ _ (fun z => hw (by rw [z]; exact List.mem_cons_self))]
      rw [h4 vs e, List.set_set]
theorem wipe_idem {σ : L2.St} : ∀ {vs : List Nat}, wipe (wipe σ vs) vs = wipe σ vs := by
  intro vs
  have h : ∀ (ws : List Nat), (∀ w ∈ ws, w ∈ vs) → wipe (wipe σ ws) vs = wipe σ vs := by
    intro ws
    induction ws with
    | nil => intro _; rfl
    | cons u ws ih =>
      intro hw
      show wipe ((wipe σ ws).set u none) vs = _
      rw [wipe_set (hw u List.mem_cons_self), ih (fun w z => hw w (List.mem_cons_of_mem _ z))]
  exact h vs fun _ z => z
/-- own names alone -/
inductive GN (vs : List Nat) : TG → Prop
  | name {m : Nat} (h : m ∈ vs) : GN vs (gName m)
inductive GNs (vs : List Nat) : TGs → Prop
  | nil : GNs vs gNil
  | cons {g : TG} {u : TGs} (h : GN vs g) (r : GNs vs u) : GNs vs (gCons g u)
def GoodG (vs : List Nat) (g : TG) : Prop := ∀ (v : V) (σ0 σ : L2.St) (H : Hp) (Q : L2.St → Hp → Prop), wipe σ vs = σ0 → g v σ H (fun σ2 H2 => wipe σ2 vs = σ0 → Q σ2 H2) → g v σ H fun σ2 H2 => wipe σ2 vs = σ0 ∧ Q σ2 H2
def GoodGs (vs : List Nat) (g : TGs) : Prop := ∀ (v : List V) (σ0 σ : L2.St) (H : Hp) (Q : L2.St → Hp → Prop), wipe σ vs = σ0 → g v σ H (fun σ2 H2 => wipe σ2 vs = σ0 → Q σ2 H2) → g v σ H fun σ2 H2 => wipe σ2 vs = σ0 ∧ Q σ2 H2
theorem good_n {vs : List Nat} {m : Nat} (h : m ∈ vs) : GoodG vs (gName m) := fun v σ0 σ H Q e q => by
  have e1 : wipe (σ.set m (some v)) vs = σ0 := by
    rw [wipe_set h]
    exact e
  exact ⟨e1, q e1⟩
theorem goods_n {vs : List Nat} : GoodGs vs gNil := fun v σ0 σ H Q e q => ⟨q.1, e, q.2 e⟩
def MonG (g : TG) : Prop := ∀ (v : V) (σ : L2.St) (H : Hp) (Q Q' : L2.St → Hp → Prop), (∀ σ H, Q σ H → Q' σ H) → g v σ H Q → g v σ H Q'
def MonGs (g : TGs) : Prop := ∀ (v : List V) (σ : L2.St) (H : Hp) (Q Q' : L2.St → Hp → Prop), (∀ σ H, Q σ H → Q' σ H) → g v σ H Q → g v σ H Q'
structure GG (vs : List Nat) (g : TG) : Prop where
  good : GoodG vs g
  mon : MonG g
structure GGs (vs : List Nat) (g : TGs) : Prop where
  good : GoodGs vs g
  mon : MonGs g
theorem gg_n {vs : List Nat} {m : Nat} (h : m ∈ vs) : GG vs (gName m) := ⟨good_n h, fun v σ H Q Q' i q => i _ _ q⟩
theorem ggs_n {vs : List Nat} : GGs vs gNil := ⟨goods_n, fun v σ H Q Q' i q => ⟨q.1, i _ _ q.2⟩⟩
theorem ggs_c {vs : List Nat} {g : TG} {u : TGs} (h : GG vs g) (r : GGs vs u) : GGs vs (gCons g u) :=
  ⟨fun v σ0 σ H Q e q => by
    obtain ⟨w, ws, rfl, q⟩ := q
    exact ⟨w, ws, rfl, h.mon _ _ _ _ _ (fun σ2 H2 z => r.good _ _ _ _ _ z.1 z.2) (h.good w σ0 σ H (fun σ2 H2 => u ws σ2 H2 fun σ3 H3 => wipe σ3 vs = σ0 → Q σ3 H3) e (h.mon _ _ _ _ _ (fun _ _ z _ => z) q))⟩,
   fun v σ H Q Q' i q => by
    obtain ⟨w, ws, rfl, q⟩ := q
    exact ⟨w, ws, rfl, h.mon _ _ _ _ _ (fun σ2 H2 z => r.mon _ _ _ _ _ i z) q⟩⟩
theorem gg_t {vs : List Nat} {K : PySem.W.Frag} {n : Nat} {u : TGs} (r : GGs vs u) : GG vs (gTup K n u) :=
  ⟨fun v σ0 σ H Q e q => by
    obtain ⟨a, xs, rfl, h, hl, q⟩ := q
    exact ⟨a, xs, rfl, h, hl, r.good _ _ _ _ _ e q⟩,
   fun v σ H Q Q' i q => by
    obtain ⟨a, xs, rfl, h, hl, q⟩ := q
    exact ⟨a, xs, rfl, h, hl, r.mon _ _ _ _ _ i q⟩⟩
theorem OkS.xin {C : Addr} (h : OkS F X ρ M N σ H) (c1 : X C = none) (c2 : M C = none) (c3 : ∀ j, N j C = none) : OkS F (Cr.ins X H C) ρ M N σ H :=
  { h with
    gok := F.up h.gok (ins_same c1) (Same.refl _)
    xsub := ins_sub h.xsub
    xapt := fun p o e => by
      by_cases z : p = C
      · subst z
        exact ⟨c2, c3⟩
      · rw [ins_ne z] at e
        exact h.xapt p o e }
theorem OkS.xout {C : Addr} {H0 : Hp} (h : OkS F (Cr.ins X H0 C) ρ M N σ H) (c1 : X C = none) (g : F.G X M) : OkS F X ρ M N σ H :=
  { h with
    gok := g
    xsub := (ins_same c1).trans h.xsub
    xapt := fun p o e => h.xapt p o (ins_same c1 _ _ e) }
/-- an object that no one tracks is changed -/
theorem OkS.off (h : OkS F X ρ M N σ H) (b : But p H H') (c1 : X p = none) (c2 : M p = none) (c3 : ∀ j, N j p = none) (c4 : F.H0 p = none) : OkS F X ρ M N σ H' :=
  { h with
    sub := fun q o z => b q o (ne_of_none z c2) (h.sub q o z)
    frame := fun q o n z => b q o (ne_of_none z c4) (h.frame q o n z)
    alive := fun q o z => by
      obtain ⟨u, e⟩ := h.alive q o z
      exact ⟨u, b q u (ne_of_none z c4) e⟩
    reg := fun j q o z => b q o (ne_of_none z (c3 j)) (h.reg j q o z)
    xsub := fun q o z => b q o (ne_of_none z c1) (h.xsub q o z) }
theorem d_lc {wi : TI} {vs : List Nat} (hg : GG vs g) (h : Di F wi ρ fun it ρ1 => LcD F it g tt te vs ρ1 Q) : De F (tLc wi g tt te vs) ρ Q := fun X M N σ H ok Qh P =>
  h X M N σ H ok _ fun J it ρ1 M1 N1 H1 s1 ok1 hJ ⟨hn, I, h0, ht, he, hk⟩ C nC => by
    obtain ⟨ρ0, l0, h0⟩ := h0
    -- the list at C is no one's: it is kept out of M and of every region
    refine ⟨fun i m H2 => m = it.n - i ∧ i ≤ it.n ∧ ∃ ρ2 M2 N2 acc ys, Same M1 M2 ∧ OkS F X ρ2 M2 N2 σ H2 ∧ I i acc ρ2 ∧ M2 C = none ∧ (∀ j, N2 j C = none) ∧ H2 C = some (.lst ys) ∧ RepL M2 acc ys ∧ acc.length ≤ i, ⟨it.n, ?_⟩, ?_⟩
    · have okC : OkS F X ρ0 M1 N1 σ (upd H1 C (.lst [])) := (ok1.le l0).ext (same_new nC)
      exact ⟨by omega, Nat.zero_le _, ρ0, M1, N1, [], [], Same.refl _, okC, h0, ok1.noM nC, ok1.noN nC, upd_same, RepL.nil, Nat.le_refl _⟩
    · have c3 := ok1.no0 nC
      have c7 := ok1.noX nC
      rintro i m H2 ⟨rfl, hi, ρ2, M2, N2, acc, ys, s2, ok2, hI, c1, c2, c4, c5, c6⟩
      obtain ⟨g1, g2, g3⟩ := hJ (Cr.ins X H2 C) ρ2 M2 N2 σ H2 s2 (ok2.xin c7 c1 c2) (hk i acc ρ2 hI) i
      by_cases hl : i < it.n
      · refine .inr ⟨g1 hl, fun H' => ∃ ρ' M' N' acc' ys', Same M2 M' ∧ OkS F X ρ' M' N' σ H' ∧ Up (I (i + 1) acc') ρ' ∧ M' C = none ∧ (∀ j, N' j C = none) ∧ H' C = some (.lst ys') ∧ RepL M' acc' ys' ∧ acc'.length ≤ i + 1, ?_, ?_⟩
        · rintro H' ⟨ρ', M', N', acc', ys', s', ok', ⟨ρ3, l, hI'⟩, k1, k2, k3, k4, k5⟩
          exact ⟨it.n - (i + 1), by omega, rfl, hl, ρ3, M', N', acc', ys', s2.trans s', ok'.le l, hI', k1, k2, k3, k4, k5⟩
        · intro x H3 hy
          obtain ⟨M3, s3, ok3, sh, hr⟩ := g3 hl x H3 hy
          refine hg.good x _ (L2.wipe σ vs) H3 _ wipe_idem ?_
          refine ht i acc ρ2 hl hI (Cr.ins X H2 C) M3 N2 (L2.wipe σ vs) H3 x (ok3.wipe vs) ⟨hr, IdOk.none⟩ _ fun ρ4 M4 N4 σ4 H4 s4 ok4 q w4 => ?_
          have at_C : ∀ {ρ' : List SV} {M' : Hp} {N' : Nat → Hp} {σ' : L2.St} {H' : Hp}, OkS F (Cr.ins X H2 C) ρ' M' N' σ' H' → H' C = some (.lst ys) ∧ M' C = none ∧ ∀ j, N' j C = none := fun ok' => by
            have e : Cr.ins X H2 C C = some (.lst ys) := by
              rw [ins_at]
              exact c4
            exact ⟨ok'.xsub _ _ e, (ok'.xapt _ _ e).1, (ok'.xapt _ _ e).2⟩
          refine q (Cr.ins X H2 C) M4 N4 σ4 H4 ok4 _ fun b ρ5 M5 N5 H5 s5 ok5 hb => ?_
          cases b with
          | false =>
            obtain ⟨e1, e2, e3⟩ := at_C ok5
            exact ⟨backD ρ2 ρ5 vs, M5, N5, acc, ys, s3.trans (s4.trans s5), ((ok2.xin c7 c1 c2).back ok5 (s3.trans (s4.trans s5)) w4).xout c7 (F.up ok2.gok (Same.refl _) (s3.trans (s4.trans s5))), hb, e2, e3, e1, c5.mono (s3.trans (s4.trans s5)), by omega⟩
          | true =>
            refine hb (Cr.ins X H2 C) M5 N5 σ4 H5 ok5 _ fun sv ρ6 M6 N6 v H6 s6 ok6 o6 q6 => ?_
            obtain ⟨d, ρ7, M7, N7, s7, ok7, r7, q7⟩ := fz1 ok6 o6 q6
            obtain ⟨e1, e2, e3⟩ := at_C ok7
            have s27 := s3.trans (s4.trans (s5.trans (s6.trans s7)))
            have ok8 := (((ok2.xin c7 c1 c2).back ok7 s27 w4).xout c7 (F.up ok2.gok (Same.refl _) s27)).off (H' := upd H6 C (.lst (ys ++ [v]))) (p := C) (fun b o n z => by rw [upd_ne n]; exact z) c7 e2 e3 c3
            refine ⟨ys, e1, szt (by rw [c5.len]; omega), backD ρ2 ρ7 vs, M7, N7, acc ++ [d], ys ++ [v], s27, ok8, q7, e2, e3, upd_same, RepL.snoc r7 (c5.mono s27), by simp; omega⟩
      · have e : i = it.n := by omega
        subst e
        refine .inl ⟨g2 (Nat.le_refl _), ?_⟩
        exact P (.fr (.lst acc)) ρ2 M2 N2 _ _ (s1.trans s2) ok2 ⟨C, rfl, c1, c2, ⟨c3, c7⟩, ys, c4, c5⟩ (he acc ρ2 hI)
end
end Cr

/-! The data level: defs, their promises, calls, errors. -/
namespace Cr
open PySem PySem.Spec PyProof.Rows L2
/-- a promise upon data: of the arguments, what is handed back (with how far the box has come), what is raised -/
abbrev DSp := List SV → (SV → Int → Prop) → (Addr → List Str → List SV → Prop) → Prop
def FrameB (bx : Option Addr) (H H' : Hp) : Prop := ∀ p o, bx ≠ some p → H p = some o → H' p = some o
/-- M and what is new -/
def Gr (M H H' : Hp) : Hp := fun p => match H p with
  | none => H' p
  | some _ => M p
def del1 (G : Hp) (p : Addr) : Hp := fun q => if q = p then none else G q
def OkA (M : Hp) (sv : SV) (v : V) : Prop := match sv with
  | .dat d x => Rep M d v ∧ IdOk x v
  | .raw φ => ∀ M', Same M M' → φ M' v
  | _ => False
def ArgsOk (M H : Hp) (bx : Option Addr) (as : List SV) (vs : List V) : Prop :=
  (bx = none ∧ Paired (OkA M) as vs) ∨ ∃ a B r ws, bx = some a ∧ as = .box a B :: r ∧ vs = .ref a :: ws ∧ M a = none ∧ IsBox H a B ∧ Paired (OkA M) r ws
def RetOk (M H H' : Hp) (sv : SV) (v : V) : Prop := match sv with
  | .dat d x => Rep (Gr M H H') d v ∧ IdOk x v
  | .fr d => ∃ p, v = .ref p ∧ H p = none ∧ OwnAt (del1 (Gr M H H') p) H' p d
  | _ => False
def spOf (dsp : DSp) : Sp := fun vs H Q E => ∃ (M : Hp) (bx : Option Addr) (as : List SV) (Qd : SV → Int → Prop) (Ed : Addr → List Str → List SV → Prop), Same M H ∧ ArgsOk M H bx as vs ∧ dsp as Qd Ed ∧
  (∀ sv B' v H', Qd sv B' → FrameB bx H H' → (∀ a, bx = some a → IsBox H' a B') → RetOk M H H' sv v → Q v H') ∧
  (∀ C fs svs p vs' H', Ed C fs svs → FrameB bx H H' → H p = none → H' p = some (.xd (fs.zip vs').reverse) → Paired (OkA (Gr M H H')) svs vs' → E (.ref C) (some p) H') ∧
  (∀ C H', Ed C [] [] → FrameB bx H H' → E (.ref C) none H')
section
variable {F : Fr} {X : Hp} {ρ ρ' : List SV} {M M' : Hp} {N : Nat → Hp} {σ : L2.St} {H H' : Hp} {sv : SV} {v : V} {d : D} {x y : Option V} {p a : Addr} {i j : Int} {m n : Nat} {s : Str} {k : Bool} {D₀ : DEnds}
variable {t ta tb tc te : TE} {tr : TA} {tt tu : TT} {ts tv : TS} {g : TG} {Q : SV → List SV → Prop} {Qb : Bool → List SV → Prop} {Qa : List SV → List SV → Prop} {Qs : List SV → Prop} {K : PySem.W.Frag}
theorem Gr.nw (h : H p = none) : Gr M H H' p = H' p := by unfold Gr; rw [h]
theorem Gr.st {o : HO} (h : H p = some o) : Gr M H H' p = M p := by unfold Gr; rw [h]
theorem Gr.of (s : Same M H) : Same M (Gr M H H') := fun p o e => by rw [Gr.st (s _ _ e)]; exact e
theorem Gr.un {o : HO} (h : Gr M H H' p = some o) : (H p = none ∧ H' p = some o) ∨ M p = some o := by
  cases e : H p with
  | none =>
    rw [Gr.nw e] at h
    exact .inl ⟨rfl, h⟩
  | some u =>
    rw [Gr.st e] at h
    exact .inr h
theorem del1_ne {G : Hp} {q : Addr} (h : q ≠ p) : del1 G p q = G q := by unfold del1; rw [if_neg h]
theorem del1_at {G : Hp} : del1 G p p = none := by unfold del1; rw [if_pos rfl]
theorem del1_sub {G : Hp} : Same (del1 G p) G := fun q o e => by
  by_cases z : q = p
  · subst z
    rw [del1_at] at e
    cases e
  · rw [del1_ne z] at e
    exact e
/-! ### errors that leave -/
structure WRel (F : Fr) (W : WX) (E : Addr → List Str → List SV → List SV → Prop) : Prop where
  some : ∀ C fs svs X ρ' M' N' σ' H' p vs, OkS F X ρ' M' N' σ' H' → M' p = some (.xd (fs.zip vs).reverse) → Paired (OkA M') svs vs → (∀ o, F.H0 p ≠ some o) → E C fs svs ρ' → W (.ref C) (some p) σ' H'
  none : ∀ C X ρ' M' N' σ' H', OkS F X ρ' M' N' σ' H' → E C [] [] ρ' → W (.ref C) none σ' H'
theorem pairA_T {as : List SV} {vs : List V} : Paired (OkA M) as vs → Paired (OkT M σ) as vs := by
  intro h
  induction h with
  | nil => exact .nil
  | @cons a b _ _ h1 _ ih =>
    refine .cons ?_ ih
    cases a <;> first | exact h1 | exact False.elim h1
theorem OkA.mono (s : Same M M') (h : OkA M sv v) : OkA M' sv v := by
  cases sv <;> try exact h
  · exact ⟨h.1.mono s, h.2⟩
  · exact fun M'' s' => h M'' (s.trans s')
theorem pairA_mono (s : Same M M') : ∀ {as : List SV} {vs : List V}, Paired (OkA M) as vs → Paired (OkA M') as vs
  | _, _, .nil => .nil
  | _, _, .cons h r => .cons (h.mono s) (pairA_mono s r)
/-- data alone -/
def NoBor : List SV → Prop
  | [] => True
  | .dat _ _ :: r => NoBor r
  | .raw _ :: r => NoBor r
  | _ => False
theorem pairT_A : ∀ {as : List SV} {vs : List V}, NoBor as → Paired (OkT M σ) as vs → Paired (OkA M) as vs
  | [], _, _, .nil => .nil
  | .dat d x :: r, _, h, .cons h1 h2 => .cons h1 (pairT_A h h2)
  | .raw φ :: r, _, h, .cons h1 h2 => .cons h1 (pairT_A h h2)
  | .un :: _, _, h, _ => h.elim
  | .own _ :: _, _, h, _ => h.elim
  | .box _ _ :: _, _, h, _ => h.elim
  | .fr _ :: _, _, h, _ => h.elim
  | .bor _ :: _, _, h, _ => h.elim
  | .lk _ _ _ _ :: _, _, h, _ => h.elim
theorem noW : WRel F (fun _ _ _ _ => False) (fun _ _ _ _ => False) := ⟨fun _ _ _ _ _ _ _ _ _ _ _ _ _ _ _ h => h, fun _ _ _ _ _ _ _ _ h => h⟩
/-! ### calls -/
def CallD (F : Fr) (sp : Sp) (E : L2.St → XK) (as : List SV) (ρ : List SV) (Q : SV → List SV → Prop) : Prop := ∀ X M N σ H vs, OkS F X ρ M N σ H → Paired (OkT M σ) as vs → ∀ Qh, Pst F X M σ Q Qh → sp vs H Qh (E σ)
theorem d_call {sp : Sp} {E : L2.St → XK} (h : Da F tr ρ fun as ρ1 => FzS as ρ1 fun as' ρ2 => CallD F sp E as' ρ2 Q) : De F (tCallS sp E tr) ρ Q := fun X M N σ H ok Qh P =>
  h X M N σ H ok _ fun as ρ1 M1 N1 vs H1 s1 ok1 pr q => by
    obtain ⟨as', ρ', M', N', s, ok', pr', q⟩ := fzs ok1 pr q
    exact q X M' N' σ H1 vs ok' pr' Qh (P.trans (s1.trans s))
/-- by keywords, too -/
theorem d_kw {n m : Nat} {sp : Sp} {π : {α : Type} → List α → List α → List α} {E : L2.St → XK} {tk : TA} (h : Da F tr ρ fun as ρ1 => FzS as ρ1 fun as1 ρ1' => Da F tk ρ1' fun zs ρ2 => FzS zs ρ2 fun zs1 ρ3 => as1.length = n ∧ zs1.length = m ∧
    (∀ (M : Hp) (σ : L2.St) (vs ws : List V), Paired (OkT M σ) as1 vs → Paired (OkT M σ) zs1 ws → Paired (OkT M σ) (π as1 zs1) (π vs ws)) ∧ CallD F sp E (π as1 zs1) ρ3 Q) : De F (tKw n m sp π E tr tk) ρ Q := fun X M N σ H ok Qh P =>
  h X M N σ H ok _ fun as ρ1 M1 N1 vs H1 s1 ok1 pr q => by
    obtain ⟨as', ρ', M', N', s, ok', pr', q⟩ := fzs ok1 pr q
    refine q X M' N' σ H1 ok' _ fun zs ρ2 M2 N2 ws H2 s2 ok2 prz q2 => ?_
    obtain ⟨zs', ρ3, M3, N3, s3, ok3, prz', l1, l2, hp, q3⟩ := fzs ok2 prz q2
    exact ⟨by rw [paired_length pr']; exact l1, by rw [paired_length prz']; exact l2, q3 X M3 N3 σ H2 _ ok3 (hp M3 σ vs ws (pairT_mono (s2.trans s3) pr') prz') Qh (P.trans (s1.trans (s.trans (s2.trans s3))))⟩
/-- what a promise upon data gives to its caller -/
theorem OkS.grown (ok : OkS F X ρ M N σ H) (s : Same H H') : OkS F X ρ (Gr M H H') N σ H' :=
  ok.pure s (Gr.of ok.sub) (fun q o e => by
    rcases Gr.un e with e | e
    · exact e.2
    · exact s _ _ (ok.sub _ _ e)) fun q o e => by
    rcases Gr.un e with e | e
    · exact .inr e.1
    · exact .inl e
theorem OkS.grownD (ok : OkS F X ρ M N σ H) (s : Same H H') (n : H p = none) : OkS F X ρ (del1 (Gr M H H') p) N σ H' :=
  ok.pure s (fun q o e => by
    rw [del1_ne (ne_of_none (ok.sub _ _ e) n)]
    exact Gr.of ok.sub _ _ e) (fun q o e => by
    rcases Gr.un (del1_sub _ _ e) with e | e
    · exact e.2
    · exact s _ _ (ok.sub _ _ e)) fun q o e => by
    rcases Gr.un (del1_sub _ _ e) with e | e
    · exact .inr e.1
    · exact .inl e
theorem ret_val (ok : OkS F X ρ M N σ H) (s : Same H H') (r : RetOk M H H' sv v) {Qh : VK} (P : Pst F X M σ Q Qh) (q : Q sv ρ) : Qh v H' := by
  cases sv <;> try exact False.elim r
  · rename_i d x
    exact P (.dat d x) ρ (Gr M H H') N v H' (Gr.of ok.sub) (ok.grown s) r q
  · rename_i d
    obtain ⟨p, rfl, n, ow⟩ := r
    refine P (.fr d) ρ (del1 (Gr M H H') p) N _ H' (fun q o e => ?_) (ok.grownD s n) ⟨p, rfl, del1_at, ok.noN n, ⟨ok.no0 n, ok.noX n⟩, ow⟩ q
    rw [del1_ne (ne_of_none (ok.sub _ _ e) n)]
    exact Gr.of ok.sub _ _ e
theorem call_p {dsp : DSp} {W : WX} {E : Addr → List Str → List SV → List SV → Prop} {as : List SV} (hW : WRel F W E) (nb : NoBor as) (h : dsp as (fun sv _ => Q sv ρ) (fun C fs svs => E C fs svs ρ)) : CallD F (spOf dsp) (WE W) as ρ Q := fun X M N σ H vs ok pr Qh P => by
  refine ⟨M, none, as, _, _, ok.sub, .inl ⟨rfl, pairT_A nb pr⟩, h, fun sv B' v H' q fb _ r => ?_, fun C fs svs p vs' H' e fb n hp prs => ?_, fun C H' e fb => ?_⟩
  · exact ret_val ok (fun p o => fb p o (by intro z; cases z)) r P q
  · have s : Same H H' := fun p o => fb p o (by intro z; cases z)
    refine hW.some C fs svs X ρ (Gr M H H') N σ H' p vs' (ok.grown s) ?_ prs (fun o z => ?_) e
    · rw [Gr.nw n]
      exact hp
    · rw [ok.no0 n] at z
      cases z
  · exact hW.none C X ρ M N σ H' (ok.ext fun p o => fb p o (by intro z; cases z)) e
/-- the heap between: all that is new, the box as it was -/
theorem call_b {dsp : DSp} {E : L2.St → XK} {as : List SV} {j : Nat} {B : Int} (hj : ρ[j]? = some (.box a B)) (nb : NoBor as) (h : dsp (.box a B :: as) (fun sv B' => Q sv (ρ.set j (.box a B'))) (fun _ _ _ => False)) : CallD F (spOf dsp) E (.bor j :: as) ρ Q := fun X M N σ H vs ok pr Qh P => by
  obtain ⟨ej, ib⟩ := ok.slot j _ hj
  have ib' := ib
  obtain ⟨g0, r0, c0, k0, e0, _⟩ := ib'
  have hN := ok.apt j a _ e0
  have hH := ok.reg j a _ e0
  match vs, pr with
  | v0 :: ws, .cons h1 h2 =>
    have h1 : σ[j]? = some (some v0) := h1
    rw [ej] at h1
    cases h1
    have ibH : IsBox H a B := by
      obtain ⟨g, r, c, k, e1, z⟩ := ib
      exact ⟨g, r, c, k, ok.reg j _ _ e1, z⟩
    refine ⟨M, some a, .box a B :: as, _, _, ok.sub, .inr ⟨a, B, as, ws, rfl, rfl, rfl, hN.1, ibH, pairT_A nb h2⟩, h, fun sv B' v H' q fb hb r => ?_, fun C fs svs p vs' H' e => e.elim, fun C H' e => e.elim⟩
    have ib2 := hb a rfl
    -- all but the box
    have smid : Same H (fun q => if q = a then H a else H' q) := fun q o e => by
      by_cases z : q = a
      · show (if q = a then H a else H' q) = _
        rw [if_pos z, ← z]
        exact e
      · show (if q = a then H a else H' q) = _
        rw [if_neg z]
        exact fb q o (fun w => z (Option.some.inj w).symm) e
    have gmid : Gr M H (fun q => if q = a then H a else H' q) = Gr M H H' := by
      funext q
      cases e : H q with
      | none =>
        rw [Gr.nw e, Gr.nw e]
        show (if q = a then H a else H' q) = _
        rw [if_neg (fun z => by rw [z, hH] at e; cases e)]
      | some o => rw [Gr.st e, Gr.st e]
    have bmid : But a (fun q => if q = a then H a else H' q) H' := fun q o n e => by
      have e : (if q = a then H a else H' q) = some o := e
      rw [if_neg n] at e
      exact e
    have key : ∀ {G : Hp}, G a = none → OkS F X ρ G N σ (fun q => if q = a then H a else H' q) → ∃ N', OkS F X (ρ.set j (.box a B')) G N' σ H' ∧ ∀ q, H q = none → q ≠ a → ∀ i, N' i q = none := by
      intro G hG okG
      obtain ⟨g, r, c, k, e1, z⟩ := ib2
      have xa : X a = none := by
        cases z : X a with
        | none => rfl
        | some o =>
          have := (ok.xapt a o z).2 j
          rw [e0] at this
          cases this
      have o2 := okG.put_un (i := j) (w := some (.ref a))
      have o3 := o2.chg (i := j) hG xa (fun l hl => ?_) hN.2 bmid e1 (fun s hs => by
        rcases set_get hs with ⟨_, rfl, _⟩ | ⟨z, _⟩
        · trivial
        · exact (z rfl).elim)
      · have o4 := o3.view (i := j) (sv := .box a B') (fun hl => ⟨?_, ?_⟩)
        · rw [List.set_set] at o4
          have es : List.set σ j (some (.ref a)) = σ := by
            have hl : j < σ.length := (List.getElem?_eq_some_iff.mp ej).1
            rw [List.getElem?_eq_some_iff] at ej
            obtain ⟨_, ej⟩ := ej
            rw [← ej]
            exact List.set_getElem_self hl
          rw [es] at o4
          refine ⟨_, o4, fun q hq hqa i => ?_⟩
          by_cases w : i = j
          · subst w
            rw [reN_at]
            exact single_ne hqa
          · rw [reN_ne w]
            cases z : N i q with
            | none => rfl
            | some o =>
              rw [ok.reg i q o z] at hq
              cases hq
        · rw [set_at]
          rw [set_len] at hl
          rw [ok.len]
          exact hl
        · rw [reN_at]
          exact ⟨g, r, c, k, single_at, z⟩
      · exact ok.dis j l a _ (fun z => hl z.symm) e0
    cases sv <;> try exact False.elim r
    · rename_i d x
      have okG := ok.grown smid
      rw [gmid] at okG
      have hGa : Gr M H H' a = none := by
        rw [Gr.st hH]
        exact hN.1
      obtain ⟨N', okF, _⟩ := key hGa okG
      exact P (.dat d x) _ (Gr M H H') N' v H' (Gr.of ok.sub) okF r q
    · rename_i d
      obtain ⟨p, rfl, n, ow⟩ := r
      have okG := ok.grownD smid n
      rw [gmid] at okG
      have hGa : del1 (Gr M H H') p a = none := by
        rw [del1_ne (ne_of_none hH n), Gr.st hH]
        exact hN.1
      obtain ⟨N', okF, hN'⟩ := key hGa okG
      refine P (.fr d) _ (del1 (Gr M H H') p) N' _ H' (fun q o e => ?_) okF ⟨p, rfl, del1_at, hN' p n (ne_of_none hH n).symm, ⟨ok.no0 n, ok.noX n⟩, ow⟩ q
      rw [del1_ne (ne_of_none (ok.sub _ _ e) n)]
      exact Gr.of ok.sub _ _ e
/-! ### the body of a def -/
def bxOf (as : List SV) : Option Addr := match as with
  | .box a _ :: _ => some a
  | _ => none
/-- what a return gives -/
inductive RetV : SV → List SV → SV → Prop
  | d {d : D} {x : Option V} {ρ : List SV} : RetV (.dat d x) ρ (.dat d x)
  | dn {d : D} {x : Option V} {ρ : List SV} : RetV (.dat d x) ρ (.dat d none)
  | f {d : D} {ρ : List SV} : RetV (.fr d) ρ (.fr d)
  | fn {d : D} {ρ : List SV} : RetV (.fr d) ρ (.dat d none)
  | b {d : D} {j : Nat} {ρ : List SV} (h : ρ[j]? = some (.own d)) : RetV (.bor j) ρ (.fr d)
  | bn {d : D} {j : Nat} {ρ : List SV} (h : ρ[j]? = some (.own d)) : RetV (.bor j) ρ (.dat d none)
def RetQ (F : Fr) (Q : SV → Int → Prop) (sv : SV) (ρ : List SV) : Prop := ∃ sv' B', RetV sv ρ sv' ∧ (∀ a, F.bx = some a → ∃ B r, ρ = .box a B :: r ∧ B ≤ B') ∧ Q sv' B'
theorem OkS.toGr (ok : OkS F X ρ M N σ H) (h0 : Same F.M0 F.H0) : Same M (Gr F.M0 F.H0 H) := fun p o e => by
  rcases ok.gr p o e with e' | e'
  · rw [Gr.st (h0 _ _ e')]
    exact e'
  · rw [Gr.nw e']
    exact ok.sub _ _ e
theorem ret_end (ok : OkS F X ρ M N σ H) (h0 : Same F.M0 F.H0) {sv' : SV} (o : OkV F X M N σ H sv v) (r : RetV sv ρ sv') : RetOk F.M0 F.H0 H sv' v := by
  have s := ok.toGr h0
  have fr : ∀ {d : D} {v : V}, (∃ p, v = .ref p ∧ M p = none ∧ F.H0 p = none ∧ OwnAt M H p d) → RetOk F.M0 F.H0 H (.fr d) v ∧ RetOk F.M0 F.H0 H (.dat d none) v := by
    rintro d v ⟨p, rfl, e1, e3, e4⟩
    have sd : Same M (del1 (Gr F.M0 F.H0 H) p) := fun q o e => by
      rw [del1_ne (ne_of_none e e1)]
      exact s _ _ e
    refine ⟨⟨p, rfl, e3, e4.mono sd⟩, e4.rep s (fun o e => ?_), IdOk.none⟩
    rw [Gr.nw e3]
    exact e
  have own : ∀ {d : D} {j : Nat}, ρ[j]? = some (.own d) → σ[j]? = some (some v) → ∃ p, v = .ref p ∧ M p = none ∧ F.H0 p = none ∧ OwnAt M H p d := by
    intro d j h o
    obtain ⟨p, e, n0, ow⟩ := ok.slot j _ h
    rw [o] at e
    cases e
    obtain ⟨u, hu⟩ := ow.some
    exact ⟨p, rfl, (ok.apt j p u hu).1, n0, ow.to fun o e => ok.reg j p o e⟩
  cases r with
  | d => exact ⟨o.1.mono s, o.2⟩
  | dn => exact ⟨o.1.mono s, IdOk.none⟩
  | f =>
    obtain ⟨p, e0, e1, _, e3, e4⟩ := o
    exact (fr ⟨p, e0, e1, e3.1, e4⟩).1
  | fn =>
    obtain ⟨p, e0, e1, _, e3, e4⟩ := o
    exact (fr ⟨p, e0, e1, e3.1, e4⟩).2
  | b h => exact (fr (own h o)).1
  | bn h => exact (fr (own h o)).2
theorem retp {Qd : SV → Int → Prop} {B : Int} {sv' : SV} (h : F.bx = none) (r : RetV sv ρ sv') (q : Qd sv' B) : RetQ F Qd sv ρ := ⟨sv', B, r, fun a z => (by rw [h] at z; cases z), q⟩
theorem retb {Qd : SV → Int → Prop} {B B' : Int} {sv' : SV} {r' : List SV} (h : F.bx = some a) (e : ρ = .box a B :: r') (hB : B ≤ B') (r : RetV sv ρ sv') (q : Qd sv' B') : RetQ F Qd sv ρ := ⟨sv', B', r, fun a' z => by
  rw [h] at z
  cases z
  exact ⟨B, r', e, hB⟩, q⟩
/-- slots at the start -/
def startD (as : List SV) (n : Nat) : List SV := as ++ List.replicate (n - as.length) .un
theorem pair_get {α β : Type} {R : α → β → Prop} : ∀ {xs : List α} {ys : List β}, Paired R xs ys → ∀ {i : Nat} {x : α}, xs[i]? = some x → ∃ y, ys[i]? = some y ∧ R x y := fun h => pair_at h
theorem startD_get {as : List SV} {n i : Nat} {sv : SV} (h : (startD as n)[i]? = some sv) : as[i]? = some sv ∨ sv = .un := by
  unfold startD at h
  rw [List.getElem?_append] at h
  split at h
  · exact .inl h
  · rw [List.getElem?_replicate] at h
    split at h
    · exact .inr (Option.some.inj h).symm
    · cases h
theorem start_get {Nm : List Str} {vs : List V} {i : Nat} {v : V} (h : vs[i]? = some v) : (L2.start Nm vs)[i]? = some (some v) := by
  have hl := (List.getElem?_eq_some_iff.mp h).1
  unfold L2.start
  rw [List.getElem?_append_left (by simpa using hl), List.getElem?_map, h]
  rfl
theorem start_len {Nm : List Str} {as : List SV} {vs : List V} (h : vs.length = as.length) : (L2.start Nm vs).length = (startD as Nm.length).length := by
  unfold L2.start startD
  simp
  omega
theorem okA_slot {N : Hp} {sv : SV} {v : V} (h : OkA M sv v) : SlotOk F M N sv (some (some v)) := by
  cases sv <;> try exact False.elim h
  · exact ⟨v, rfl, h⟩
  · exact ⟨v, rfl, h⟩
theorem entry {bx : Option Addr} {as : List SV} {vs : List V} {Nm : List Str} (s : Same M H) (h : ArgsOk M H bx as vs) : bx = bxOf as ∧ ∃ N, OkS ⟨H, M, bx, fun _ _ => True, fun _ _ _ => trivial⟩ (fun _ => none) (startD as Nm.length) M N (L2.start Nm vs) H := by
  rcases h with ⟨rfl, pr⟩ | ⟨a, B, r, ws, rfl, rfl, rfl, hM, ib, pr⟩
  · refine ⟨?_, fun _ _ => none, ⟨start_len (paired_length pr), s, Same.refl _, fun p o e => .inl e, fun p o _ e => e, fun p o e => ⟨o, e⟩, fun i q o e => (by cases e), fun i q o e => (by cases e), fun i k q o _ _ => rfl, fun i sv e => ?_, fun q o e => (by cases e), fun q o e => (by cases e), trivial⟩⟩
    · cases pr with
      | nil => rfl
      | @cons x _ _ _ h1 _ => cases x <;> first | rfl | exact False.elim h1
    · rcases startD_get e with e | rfl
      · obtain ⟨y, ey, hy⟩ := pair_get pr e
        rw [start_get ey]
        exact okA_slot hy
      · trivial
  · have ib' := ib
    obtain ⟨g, r0, c, k, e1, e2⟩ := ib'
    refine ⟨rfl, reN (fun _ _ => none) 0 (single a (.lst [.int g, .bl k, .int r0, .int c])), ⟨start_len (by simp [paired_length pr]), s, Same.refl _, fun p o e => .inl e, fun p o _ e => e, fun p o e => ⟨o, e⟩, fun i q o e => ?_, fun i q o e => ?_, fun i k q o hk e => ?_, fun i sv e => ?_, fun q o e => (by cases e), fun q o e => (by cases e), trivial⟩⟩
    · by_cases w : i = 0
      · subst w
        rw [reN_at] at e
        obtain ⟨rfl, rfl⟩ := single_un e
        exact e1
      · rw [reN_ne w] at e
        cases e
    · by_cases w : i = 0
      · subst w
        rw [reN_at] at e
        obtain ⟨rfl, rfl⟩ := single_un e
        exact ⟨hM, .inr rfl⟩
      · rw [reN_ne w] at e
        cases e
    · by_cases w : i = 0
      · subst w
        rw [reN_ne (fun z => hk z.symm)]
      · rw [reN_ne w] at e
        cases e
    · rcases startD_get e with e | rfl
      · match i, e with
        | 0, e =>
          cases e
          refine ⟨start_get rfl, ?_⟩
          rw [reN_at]
          exact ⟨g, r0, c, k, single_at, e2⟩
        | i + 1, e =>
          obtain ⟨y, ey, hy⟩ := pair_get pr (i := i) e
          rw [start_get (i := i + 1) (v := y) ey]
          exact okA_slot hy
      · trivial
abbrev retD (F : Fr) (Qd : SV → Int → Prop) : DEnds := { nx := fun ρ => RetQ F Qd (.dat .non none) ρ, rt := fun sv ρ => RetQ F Qd sv ρ, bk := fun _ => False, ct := fun _ => False }
theorem mk_dd {P : Program} {w : World} {mg : Str → Option Value} {base : Heap} {x : Str} {st : Stmt} {Nm ps : List Str} {k : Nat} {dsp : DSp} (h : Has K mg x st) (S : FnScope Nm ps (defScope st))
    (hb : ∀ (kV doc pm : Value) (an : Option Addr) (cdv ct : Value) (us : List Value), us.length = ps.length →
      bindArgs (PySem.W.fnOf x x (defArgs st) (defBody st) (defScope st) .none kV doc pm an cdv ct) ⟨us, []⟩ = pure (ps.zip us))
    (len : ∀ as Q E, dsp as Q E → as.length = ps.length)
    (body : ∀ (f : Addr) (cdv : Value) (A : Around) (outer : List Env) (s : Shared) (H : Hp) (E : XK) (F : Fr) (as : List SV) (Qd : SV → Int → Prop) (Ed : Addr → List Str → List SV → Prop),
      Room k (A.deeper (envOfC x (defScope st) s.heap.objs.size f cdv)) → dsp as Qd Ed → F.bx = bxOf as → WRel F (fun cls d _ H' => E cls d H') (fun C fs svs _ => Ed C fs svs) →
      ∃ t, PSs (cxOf (L2N.CX P w) P w K mg base Nm x (defScope st) f cdv A outer s H E) (defBody st) t ∧ Ds F t (retD F Qd) (startD as Nm.length)) : Df P w K mg base (k + 1) x st ps (spOf dsp) := by
  have alen : ∀ {M H : Hp} {bx : Option Addr} {as : List SV} {vs : List V}, ArgsOk M H bx as vs → vs.length = as.length := by
    rintro M H bx as vs (⟨rfl, pr⟩ | ⟨a, B, r, ws, rfl, rfl, rfl, hM, ib, pr⟩)
    · exact paired_length pr
    · simp [paired_length pr]
  refine mk_df h S hb (fun vs H Q E ⟨M, bx, as, Qd, Ed, s, ao, hd, _⟩ => by rw [alen ao]; exact len _ _ _ hd) fun f cdv A outer s H vs Q E hr ⟨M, bx, as, Qd, Ed, sm, ao, hd, q1, q2, q3⟩ => ?_
  obtain ⟨hbx, N, ok⟩ := entry (Nm := Nm) sm ao
  have key : ∀ {H' : Hp} {X' M' : Hp} {N' : Nat → Hp} {σ' : L2.St} {ρ' : List SV} {v : V} {sv : SV}, OkS ⟨H, M, bx, fun _ _ => True, fun _ _ _ => trivial⟩ X' ρ' M' N' σ' H' → OkV ⟨H, M, bx, fun _ _ => True, fun _ _ _ => trivial⟩ X' M' N' σ' H' sv v → RetQ ⟨H, M, bx, fun _ _ => True, fun _ _ _ => trivial⟩ Qd sv ρ' → Q v H' := by
    rintro H' X' M' N' σ' ρ' v sv ok' o ⟨sv', B', rv, hB, q⟩
    refine q1 sv' B' v H' q (fun p o n e => ok'.frame p o n e) (fun a e => ?_) (ret_end ok' sm o rv)
    obtain ⟨B, r, rfl, hle⟩ := hB a e
    obtain ⟨_, g, r0, c, k, e1, e2⟩ := ok'.slot 0 _ rfl
    exact IsBox.le ⟨g, r0, c, k, ok'.reg 0 _ _ e1, e2⟩ hle
  obtain ⟨t, ht, hds⟩ := body f cdv A outer s H E ⟨H, M, bx, fun _ _ => True, fun _ _ _ => trivial⟩ as Qd Ed hr hd hbx
    ⟨fun C fs svs X ρ' M' N' σ' H' p vs ok' hp prs hn e => q2 C fs svs p vs H' e (fun p o n e => ok'.frame p o n e) (by
        cases z : H p with
        | none => rfl
        | some o => exact absurd z (hn o)) (ok'.sub _ _ hp) (pairA_mono (ok'.toGr sm) prs),
     fun C X ρ' M' N' σ' H' ok' e => q3 C H' e fun p o n e => ok'.frame p o n e⟩
  refine ⟨t, ht, hds _ M N _ H ok _ ⟨fun ρ' M' N' σ' H' _ ok' q => key (sv := .dat .non none) ok' ⟨Rep.non, IdOk.none⟩ q, fun sv ρ' M' N' σ' v H' _ ok' o q => key ok' o q, fun ρ' M' N' σ' H' _ _ q => q.elim, fun ρ' M' N' σ' H' _ _ q => q.elim⟩⟩
/-! ### raise -/
theorem ds_err {C : Addr} {fs : List Str} {W : WX} {E : Addr → List Str → List SV → List SV → Prop} (hW : WRel F W E) (h : Da F tr ρ fun as ρ1 => FzS as ρ1 fun as' ρ2 => as'.length = fs.length ∧ as'.length ≤ 1000 ∧ NoBor as' ∧ E C fs as' ρ2) :
    Ds F (fun _ σ H => tErr C fs tr σ H fun cls d H' => W cls d σ H') D₀ ρ := fun X M N σ H ok Dh _ =>
  h X M N σ H ok _ fun as ρ1 M1 N1 vs H1 s1 ok1 pr q => by
    obtain ⟨as', ρ', M', N', s, ok', pr', l1, l2, nb, e⟩ := fzs ok1 pr q
    refine ⟨by rw [paired_length pr']; exact l1, by rw [paired_length pr']; exact l2, fun d n => ?_⟩
    have okE := ok'.ins n (same_new (o := .xd (fs.zip vs).reverse) n)
    have pa := pairT_A nb pr'
    refine hW.some C fs as' X ρ' _ N' σ _ d vs okE (by rw [ins_at, upd_same]) (pairA_mono (ins_same (ok'.noM n)) pa) (fun o z => by rw [ok'.no0 n] at z; cases z) e
end
end Cr

/-! The data level: operators, built-ins, methods by data. -/
namespace Cr
open PySem PySem.Spec PyProof.Rows L2
/-- the value has the data d now -/
def Hs (ρ : List SV) (sv : SV) (d : D) : Prop := (∃ x, sv = .dat d x) ∨ ∃ j, sv = .bor j ∧ ρ[j]? = some (.own d)
section
variable {F : Fr} {X : Hp} {ρ ρ' : List SV} {M M' : Hp} {N : Nat → Hp} {σ : L2.St} {H H' : Hp} {sv a b c : SV} {v : V} {d e : D} {x y z : Option V} {p : Addr} {i j : Int} {m n : Nat} {s u : Str} {k l : Bool} {D₀ : DEnds} {ds es : List D}
variable {t ta tb tc te : TE} {tr : TA} {tt tu : TT} {ts tv : TS} {g : TG} {Q : SV → List SV → Prop} {Qb : Bool → List SV → Prop} {Qa : List SV → List SV → Prop} {Qs : List SV → Prop} {K : PySem.W.Frag}
theorem has_d : Hs ρ (.dat d x) d := .inl ⟨x, rfl⟩
theorem has_o (h : ρ[m]? = some (.own d)) : Hs ρ (.bor m) d := .inr ⟨m, rfl, h⟩
theorem Hs.rep (h : Hs ρ a d) (ok : OkS F X ρ M N σ H) (o : OkT M σ a v) : Rep H d v := by
  rcases h with ⟨x, rfl⟩ | ⟨j, rfl, h⟩
  · exact o.1.mono ok.sub
  · obtain ⟨p, e, n0, ow⟩ := ok.slot j _ h
    have o : σ[j]? = some (some v) := o
    rw [o] at e
    cases e
    exact ow.rep ok.sub fun o z => ok.reg j p o z
theorem Hs.toL (h : Hs ρ a (.lst ds)) (ok : OkS F X ρ M N σ H) (o : OkT M σ a v) : ∃ p xs, v = .ref p ∧ H p = some (.lst xs) ∧ RepL M ds xs := by
  rcases h with ⟨x, rfl⟩ | ⟨j, rfl, h⟩
  · obtain ⟨p, xs, rfl, e, r⟩ := Rep.un_lst o.1
    exact ⟨p, xs, rfl, ok.sub _ _ e, r⟩
  · obtain ⟨p, e, n0, xs, e1, r⟩ := ok.slot j _ h
    have o : σ[j]? = some (some v) := o
    rw [o] at e
    cases e
    exact ⟨p, xs, rfl, ok.reg j p _ e1, r⟩
theorem Hs.toK {kvs : List (Key × D)} (h : Hs ρ a (.dct kvs)) (ok : OkS F X ρ M N σ H) (o : OkT M σ a v) : ∃ p xs, v = .ref p ∧ H p = some (.dK xs) ∧ RepK M kvs xs := by
  rcases h with ⟨x, rfl⟩ | ⟨j, rfl, h⟩
  · obtain ⟨p, xs, rfl, e, r⟩ := Rep.un_dct o.1
    exact ⟨p, xs, rfl, ok.sub _ _ e, r⟩
  · obtain ⟨p, e, n0, xs, e1, r⟩ := ok.slot j _ h
    have o : σ[j]? = some (some v) := o
    rw [o] at e
    cases e
    exact ⟨p, xs, rfl, ok.reg j p _ e1, r⟩
theorem okT_t (ok : OkS F X ρ M N σ H) (o : OkT M σ (.dat (.tup ds) x) v) : ∃ p xs, v = .ref p ∧ H p = some (.tup xs) ∧ RepL M ds xs := by
  obtain ⟨p, xs, rfl, e, r⟩ := Rep.un_tup o.1
  exact ⟨p, xs, rfl, ok.sub _ _ e, r⟩
theorem RepL.at_ {xs : List V} (r : RepL M ds xs) {i : Int} (e : atI ds i = some d) : ∃ v, atI xs i = some v ∧ Rep M d v := by
  unfold atI at e ⊢
  rw [r.len]
  cases z : ixN ds.length i with
  | none =>
    rw [z] at e
    cases e
  | some j =>
    rw [z] at e
    exact r.get e
theorem RepL.drop {xs : List V} : ∀ {ds : List D} {xs : List V} (n : Nat), RepL M ds xs → RepL M (ds.drop n) (xs.drop n)
  | ds, xs, 0, r => r
  | [], xs, n + 1, r => by
    have e := r.len
    have e : xs = [] := List.length_eq_zero_iff.mp e
    rw [e]
    simp
    exact RepL.nil
  | d :: ds, xs, n + 1, r => by
    obtain ⟨v, w, rfl, _, h2⟩ := RepL.un_cons r
    simpa using RepL.drop (xs := xs) n h2
theorem RepL.take : ∀ {ds : List D} {xs : List V} (n : Nat), RepL M ds xs → RepL M (ds.take n) (xs.take n)
  | ds, xs, 0, r => by
    simp
    exact RepL.nil
  | [], xs, n + 1, r => by
    have e := r.len
    have e : xs = [] := List.length_eq_zero_iff.mp e
    rw [e]
    simp
    exact RepL.nil
  | d :: ds, xs, n + 1, r => by
    obtain ⟨v, w, rfl, h1, h2⟩ := RepL.un_cons r
    simpa using RepL.cons h1 (RepL.take n h2)
theorem RepL.rev : ∀ {ds : List D} {xs : List V}, RepL M ds xs → RepL M ds.reverse xs.reverse
  | [], xs, r => by
    have e := r.len
    have e : xs = [] := List.length_eq_zero_iff.mp e
    rw [e]
    exact RepL.nil
  | d :: ds, xs, r => by
    obtain ⟨v, w, rfl, h1, h2⟩ := RepL.un_cons r
    rw [List.reverse_cons, List.reverse_cons]
    exact RepL.snoc h1 (RepL.rev h2)
theorem RepL.unints : ∀ {ns : List Int} {xs : List V}, RepL M (ns.map D.int) xs → xs = ns.map V.int
  | [], xs, r => List.length_eq_zero_iff.mp r.len
  | n :: ns, xs, r => by
    obtain ⟨v, w, rfl, h1, h2⟩ := RepL.un_cons r
    rw [Rep.un_int h1, RepL.unints h2]
    rfl
theorem RepL.unbls : ∀ {ns : List Bool} {xs : List V}, RepL M (ns.map D.bl) xs → xs = ns.map V.bl
  | [], xs, r => List.length_eq_zero_iff.mp r.len
  | n :: ns, xs, r => by
    obtain ⟨v, w, rfl, h1, h2⟩ := RepL.un_cons r
    rw [Rep.un_bl h1, RepL.unbls h2]
    rfl
/-- a slice of any list -/
def cutL {α : Type} (xs : List α) (lo hi : Option Int) : List α := (xs.drop (HT.sIx xs.length 0 lo)).take (HT.sIx xs.length xs.length hi - HT.sIx xs.length 0 lo)
theorem RepL.cut {xs : List V} (r : RepL M ds xs) (lo hi : Option Int) : RepL M (cutL ds lo hi) (cutV xs lo hi) := by
  unfold cutL cutV
  rw [r.len]
  exact (r.drop (xs := xs) _).take _
theorem cutL_map {α β : Type} (xs : List α) (f : α → β) (lo hi : Option Int) : cutL (xs.map f) lo hi = (cutL xs lo hi).map f := by
  unfold cutL
  rw [List.length_map, List.map_take, List.map_drop]
theorem cutL_len {α : Type} {xs : List α} {lo hi : Option Int} : (cutL xs lo hi).length ≤ xs.length := by
  unfold cutL
  rw [List.length_take, List.length_drop]
  omega
theorem cutL_pre {α : Type} (xs : List α) {i : Int} (h : 0 ≤ i) : cutL xs none (some i) = xs.take i.toNat := by
  unfold cutL
  have e : HT.sIx xs.length xs.length (some i) = min i.toNat xs.length := by
    unfold HT.sIx
    have : ¬ i < 0 := by omega
    simp [this]
  rw [e]
  have e0 : HT.sIx xs.length 0 none = 0 := rfl
  rw [e0, List.drop_zero, Nat.sub_zero]
  rcases Nat.le_total i.toNat xs.length with h1 | h1
  · rw [Nat.min_eq_left h1]
  · rw [Nat.min_eq_right h1, List.take_of_length_le (Nat.le_refl _), List.take_of_length_le h1]
theorem cutL_suf {α : Type} (xs : List α) {i : Int} (h : 0 ≤ i) : cutL xs (some i) none = xs.drop i.toNat := by
  unfold cutL
  have e : HT.sIx xs.length 0 (some i) = min i.toNat xs.length := by
    unfold HT.sIx
    have : ¬ i < 0 := by omega
    simp [this]
  rw [e]
  show (xs.drop _).take (xs.length - _) = _
  rw [List.take_of_length_le (by rw [List.length_drop]; omega)]
  rcases Nat.le_total i.toNat xs.length with h1 | h1
  · rw [Nat.min_eq_left h1]
  · rw [Nat.min_eq_right h1, List.drop_eq_nil_of_le (Nat.le_refl _), List.drop_eq_nil_of_le h1]
/-! ### numbers -/
theorem ad_ii (q : Q (.dat (.int (i + j)) none) ρ) : R2d F (rAddU K) (.dat (.int i) x) (.dat (.int j) y) ρ Q := fun X M N σ H va vb ok oa ob Qh P => by
  obtain rfl := Rep.un_int oa.1
  obtain rfl := Rep.un_int ob.1
  exact add_ii (P.sc ok Rep.int q)
theorem sb_ii (q : Q (.dat (.int (i - j)) none) ρ) : R2d F rSubU (.dat (.int i) x) (.dat (.int j) y) ρ Q := fun X M N σ H va vb ok oa ob Qh P => by
  obtain rfl := Rep.un_int oa.1
  obtain rfl := Rep.un_int ob.1
  exact sub_ii (P.sc ok Rep.int q)
theorem ml_ii (h : CMul i j) (q : Q (.dat (.int (i * j)) none) ρ) : R2d F (rMulU K) (.dat (.int i) x) (.dat (.int j) y) ρ Q := fun X M N σ H va vb ok oa ob Qh P => by
  obtain rfl := Rep.un_int oa.1
  obtain rfl := Rep.un_int ob.1
  exact mul_ii h (P.sc ok Rep.int q)
theorem ml_iw (h : CMulW i j) (q : Q (.dat (.int (i * j)) none) ρ) : R2d F (rMulU K) (.dat (.int i) x) (.dat (.int j) y) ρ Q := fun X M N σ H va vb ok oa ob Qh P => by
  obtain rfl := Rep.un_int oa.1
  obtain rfl := Rep.un_int ob.1
  exact mul_iw h (P.sc ok Rep.int q)
theorem dv_ii (h : CDivW i j) (q : Q (.dat (.int (i / j)) none) ρ) : R2d F rDivU (.dat (.int i) x) (.dat (.int j) y) ρ Q := fun X M N σ H va vb ok oa ob Qh P => by
  obtain rfl := Rep.un_int oa.1
  obtain rfl := Rep.un_int ob.1
  exact div_ii h (P.sc ok Rep.int q)
theorem md_ii (h : 0 < j) (q : Q (.dat (.int (i % j)) none) ρ) : R2d F rModU (.dat (.int i) x) (.dat (.int j) y) ρ Q := fun X M N σ H va vb ok oa ob Qh P => by
  obtain rfl := Rep.un_int oa.1
  obtain rfl := Rep.un_int ob.1
  exact mod_ii h (P.sc ok Rep.int q)
theorem pw_ii (h : CPow i j) (q : Q (.dat (.int (i ^ j.toNat)) none) ρ) : R2d F rPowU (.dat (.int i) x) (.dat (.int j) y) ρ Q := fun X M N σ H va vb ok oa ob Qh P => by
  obtain rfl := Rep.un_int oa.1
  obtain rfl := Rep.un_int ob.1
  exact pow_ii h (P.sc ok Rep.int q)
theorem ng_i (q : Q (.dat (.int (-i)) none) ρ) : R1d F (rU fun i => .int (-i)) (.dat (.int i) x) ρ Q := fun X M N σ H va ok oa Qh P => by
  obtain rfl := Rep.un_int oa.1
  exact neg_i (P.sc ok Rep.int q)
theorem lt_d (q : Q (.dat (.bl (decide (i < j))) none) ρ) : R2d F rLtU (.dat (.int i) x) (.dat (.int j) y) ρ Q := fun X M N σ H va vb ok oa ob Qh P => by
  obtain rfl := Rep.un_int oa.1
  obtain rfl := Rep.un_int ob.1
  exact lt_ii (P.sc ok Rep.bl q)
theorem lt_sd (q : Q (.dat (.bl (decide (s.cps.toList < u.cps.toList))) none) ρ) : R2d F rLtU (.dat (.str s) x) (.dat (.str u) y) ρ Q := fun X M N σ H va vb ok oa ob Qh P => by
  obtain rfl := Rep.un_str oa.1
  obtain rfl := Rep.un_str ob.1
  exact lt_ss (P.sc ok Rep.bl q)
theorem le_d (q : Q (.dat (.bl (decide (i ≤ j))) none) ρ) : R2d F rLeU (.dat (.int i) x) (.dat (.int j) y) ρ Q := fun X M N σ H va vb ok oa ob Qh P => by
  obtain rfl := Rep.un_int oa.1
  obtain rfl := Rep.un_int ob.1
  exact le_ii (P.sc ok Rep.bl q)
theorem gt_d (q : Q (.dat (.bl (decide (j < i))) none) ρ) : R2d F rGtU (.dat (.int i) x) (.dat (.int j) y) ρ Q := fun X M N σ H va vb ok oa ob Qh P => by
  obtain rfl := Rep.un_int oa.1
  obtain rfl := Rep.un_int ob.1
  exact gt_ii (P.sc ok Rep.bl q)
theorem ge_d (q : Q (.dat (.bl (decide (j ≤ i))) none) ρ) : R2d F rGeU (.dat (.int i) x) (.dat (.int j) y) ρ Q := fun X M N σ H va vb ok oa ob Qh P => by
  obtain rfl := Rep.un_int oa.1
  obtain rfl := Rep.un_int ob.1
  exact ge_ii (P.sc ok Rep.bl q)
theorem eq_d (q : Q (.dat (.bl (decide (i = j))) none) ρ) : R2d F (rEqU K) (.dat (.int i) x) (.dat (.int j) y) ρ Q := fun X M N σ H va vb ok oa ob Qh P => by
  obtain rfl := Rep.un_int oa.1
  obtain rfl := Rep.un_int ob.1
  exact eq_ii (P.sc ok Rep.bl q)
theorem eq_sd (q : Q (.dat (.bl (decide (s = u))) none) ρ) : R2d F (rEqU K) (.dat (.str s) x) (.dat (.str u) y) ρ Q := fun X M N σ H va vb ok oa ob Qh P => by
  obtain rfl := Rep.un_str oa.1
  obtain rfl := Rep.un_str ob.1
  exact eq_ss (P.sc ok Rep.bl q)
theorem eq_bd (q : Q (.dat (.bl (decide (k = l))) none) ρ) : R2d F (rEqU K) (.dat (.bl k) x) (.dat (.bl l) y) ρ Q := fun X M N σ H va vb ok oa ob Qh P => by
  obtain rfl := Rep.un_bl oa.1
  obtain rfl := Rep.un_bl ob.1
  exact eq_bb (P.sc ok Rep.bl q)
theorem ne_d (q : Q (.dat (.bl (!decide (i = j))) none) ρ) : R2d F (rNeU K) (.dat (.int i) x) (.dat (.int j) y) ρ Q := fun X M N σ H va vb ok oa ob Qh P => by
  obtain rfl := Rep.un_int oa.1
  obtain rfl := Rep.un_int ob.1
  exact ne_ii (P.sc ok Rep.bl q)
theorem ne_sd (q : Q (.dat (.bl (!decide (s = u))) none) ρ) : R2d F (rNeU K) (.dat (.str s) x) (.dat (.str u) y) ρ Q := fun X M N σ H va vb ok oa ob Qh P => by
  obtain rfl := Rep.un_str oa.1
  obtain rfl := Rep.un_str ob.1
  exact ne_ss (P.sc ok Rep.bl q)
theorem ne_bd (q : Q (.dat (.bl (!decide (k = l))) none) ρ) : R2d F (rNeU K) (.dat (.bl k) x) (.dat (.bl l) y) ρ Q := fun X M N σ H va vb ok oa ob Qh P => by
  obtain rfl := Rep.un_bl oa.1
  obtain rfl := Rep.un_bl ob.1
  exact ne_bb (P.sc ok Rep.bl q)
def _root_.Cr.D.isNon : D → Bool
  | .non => true
  | _ => false
theorem rep_non (r : Rep H d v) : decide (v = .non) = d.isNon := by
  cases d with
  | non =>
    obtain rfl := Rep.un_non r
    rfl
  | bl b =>
    obtain rfl := Rep.un_bl r
    rfl
  | int b =>
    obtain rfl := Rep.un_int r
    rfl
  | str b =>
    obtain rfl := Rep.un_str r
    rfl
  | lst b =>
    obtain ⟨p, _, rfl, _⟩ := Rep.un_lst r
    rfl
  | tup b =>
    obtain ⟨p, _, rfl, _⟩ := Rep.un_tup r
    rfl
  | dct b =>
    obtain ⟨p, _, rfl, _⟩ := Rep.un_dct r
    rfl
theorem is_d (h : Hs ρ a d) (q : Q (.dat (.bl d.isNon) none) ρ) : R2d F rIsU a (.dat .non y) ρ Q := fun X M N σ H va vb ok oa ob Qh P => by
  obtain rfl := Rep.un_non ob.1
  refine is_n ?_
  rw [rep_non (h.rep ok oa)]
  exact P.sc ok Rep.bl q
theorem isn_d (h : Hs ρ a d) (q : Q (.dat (.bl (!d.isNon)) none) ρ) : R2d F rIsnU a (.dat .non y) ρ Q := fun X M N σ H va vb ok oa ob Qh P => by
  obtain rfl := Rep.un_non ob.1
  refine isn_n ?_
  rw [rep_non (h.rep ok oa)]
  exact P.sc ok Rep.bl q
theorem is_bd (q : Q (.dat (.bl (decide (k = l))) none) ρ) : R2d F rIsU (.dat (.bl k) x) (.dat (.bl l) y) ρ Q := fun X M N σ H va vb ok oa ob Qh P => by
  obtain rfl := Rep.un_bl oa.1
  obtain rfl := Rep.un_bl ob.1
  exact is_bb (P.sc ok Rep.bl q)
/-! ### texts, lists, tuples -/
theorem ad_ss (h : s.length + u.length ≤ 100000) (q : Q (.dat (.str (s ++ u)) none) ρ) : R2d F (rAddU K) (.dat (.str s) x) (.dat (.str u) y) ρ Q := fun X M N σ H va vb ok oa ob Qh P => by
  obtain rfl := Rep.un_str oa.1
  obtain rfl := Rep.un_str ob.1
  exact add_ss (szl h) (P.sc ok Rep.str q)
theorem ad_ll (ha : Hs ρ a (.lst ds)) (hb : Hs ρ b (.lst es)) (h : ds.length + es.length ≤ 100000) (q : Q (.fr (.lst (ds ++ es))) ρ) : R2d F (rAddU K) a b ρ Q := fun X M N σ H va vb ok oa ob Qh P => by
  obtain ⟨p, xs, rfl, e1, r1⟩ := ha.toL ok oa
  obtain ⟨p', ys, rfl, e2, r2⟩ := hb.toL ok ob
  exact add_ll e1 e2 (szl (by rw [r1.len, r2.len]; exact h)) fun p' H' n s e => P.nl ok n s e (r1.app r2) q
theorem ad_tt (h : ds.length + es.length ≤ 100000) (q : Q (.dat (.tup (ds ++ es)) none) ρ) : R2d F (rAddU K) (.dat (.tup ds) x) (.dat (.tup es) y) ρ Q := fun X M N σ H va vb ok oa ob Qh P => by
  have oa' := oa
  have ob' := ob
  obtain ⟨p, xs, rfl, e1, r1⟩ := okT_t ok oa
  obtain ⟨p', ys, rfl, e2, r2⟩ := okT_t ok ob
  refine add_tt (SqT.of e1) (SqT.of e2) (szl (by rw [r1.len, r2.len]; exact h)) (fun z => ?_) (fun _ z => ?_) fun _ _ p' H' n s e => P.nt ok n s e (r1.app r2) q
  · subst z
    have e : ds = [] := List.length_eq_zero_iff.mp r1.len.symm
    subst e
    exact P.sc ok ob'.1 q
  · subst z
    have e : es = [] := List.length_eq_zero_iff.mp r2.len.symm
    subst e
    rw [List.append_nil] at q
    exact P.sc ok oa'.1 q
theorem ml_li (ha : Hs ρ a (.lst ds)) (h1 : -(2 ^ 63) ≤ i) (h2 : i < 2 ^ 63) (h : ds.length * i.toNat ≤ 100000) (q : Q (.fr (.lst (List.replicate i.toNat ds).flatten)) ρ) : R2d F (rMulU K) a (.dat (.int i) y) ρ Q := fun X M N σ H va vb ok oa ob Qh P => by
  obtain ⟨p, xs, rfl, e1, r1⟩ := ha.toL ok oa
  obtain rfl := Rep.un_int ob.1
  exact mul_li e1 h1 h2 (szl (by rw [r1.len]; exact h)) fun p' H' n s e => P.nl ok n s e (r1.rep _) q
theorem ix_ld (ha : Hs ρ a (.lst ds)) (h : atI ds i = some d) (q : Q (.dat d none) ρ) : R2d F (rIx K) a (.dat (.int i) y) ρ Q := fun X M N σ H va vb ok oa ob Qh P => by
  obtain ⟨p, xs, rfl, e1, r1⟩ := ha.toL ok oa
  obtain rfl := Rep.un_int ob.1
  obtain ⟨v, e, r⟩ := r1.at_ h
  exact ix_l (SqL.of e1) e (P.sc ok r q)
theorem ix_td (h : atI ds i = some d) (q : Q (.dat d none) ρ) : R2d F (rIx K) (.dat (.tup ds) x) (.dat (.int i) y) ρ Q := fun X M N σ H va vb ok oa ob Qh P => by
  obtain ⟨p, xs, rfl, e1, r1⟩ := okT_t ok oa
  obtain rfl := Rep.un_int ob.1
  obtain ⟨v, e, r⟩ := r1.at_ h
  exact ix_t (SqT.of e1) e (P.sc ok r q)
theorem ix_sd {c : Nat} (h : s.length ≤ 100000) (e : atI s.cps.toList i = some c) (q : Q (.dat (.str ⟨#[c]⟩) none) ρ) : R2d F (rIx K) (.dat (.str s) x) (.dat (.int i) y) ρ Q := fun X M N σ H va vb ok oa ob Qh P => by
  obtain rfl := Rep.un_str oa.1
  obtain rfl := Rep.un_int ob.1
  exact ix_s (szl h) e (P.sc ok Rep.str q)
theorem sl_ld {lo hi : Option Int} (ha : Hs ρ a (.lst ds)) (q : Q (.fr (.lst (cutL ds lo hi))) ρ) : RSd F (rSliU K) a lo hi ρ Q := fun X M N σ H va ok oa Qh P => by
  obtain ⟨p, xs, rfl, e1, r1⟩ := ha.toL ok oa
  exact sl_l (SqL.of e1) fun p' H' n s e => P.nl ok n s e (r1.cut _ _) q
theorem sl_sd {lo hi : Option Int} (h : s.length ≤ 100000) (q : Q (.dat (.str (cutS s lo hi)) none) ρ) : RSd F (rSliU K) (.dat (.str s) x) lo hi ρ Q := fun X M N σ H va ok oa Qh P => by
  obtain rfl := Rep.un_str oa.1
  exact sl_s (szl h) (P.sc ok Rep.str q)
theorem rv_ld (h : Dz F te ρ fun sv ρ1 => ∃ ds, Hs ρ1 sv (.lst ds) ∧ Q (.fr (.lst ds.reverse)) ρ1) : De F (tRevL K te) ρ Q := fun X M N σ H ok Qh P =>
  h X M N σ H ok _ fun sv ρ1 M1 N1 v H1 s1 ok1 o ⟨ds, hs, q⟩ => by
    obtain ⟨p, xs, rfl, e1, r1⟩ := hs.toL ok1 o
    exact ⟨p, xs, rfl, SqL.of e1, fun p' n => (P.trans s1).nl ok1 n (same_new n) upd_same r1.rev q⟩
/-! ### built-ins -/
theorem pair1 {R : SV → V → Prop} {vs : List V} (h : Paired R [a] vs) : ∃ v, vs = [v] ∧ R a v := by
  cases h with
  | @cons _ v _ _ h1 r => cases r with
    | nil => exact ⟨v, rfl, h1⟩
theorem pair2 {R : SV → V → Prop} {vs : List V} (h : Paired R [a, b] vs) : ∃ v w, vs = [v, w] ∧ R a v ∧ R b w := by
  cases h with
  | @cons _ v _ _ h1 r => cases r with
    | @cons _ w _ _ h2 r => cases r with
      | nil => exact ⟨v, w, rfl, h1, h2⟩
theorem pair3 {R : SV → V → Prop} {vs : List V} (h : Paired R [a, b, c] vs) : ∃ v w u, vs = [v, w, u] ∧ R a v ∧ R b w ∧ R c u := by
  cases h with
  | @cons _ v _ _ h1 r => cases r with
    | @cons _ w _ _ h2 r => cases r with
      | @cons _ u _ _ h3 r => cases r with
        | nil => exact ⟨v, w, u, rfl, h1, h2, h3⟩
theorem len_ld (ha : Hs ρ a (.lst ds)) (q : Q (.dat (.int ds.length) none) ρ) : RAd F (rLenU K) [a] ρ Q := fun X M N σ H vs ok pr Qh P => by
  obtain ⟨v, rfl, oa⟩ := pair1 pr
  obtain ⟨p, xs, rfl, e1, r1⟩ := ha.toL ok oa
  refine len_l (SqL.of e1) ?_
  rw [r1.len]
  exact P.sc ok Rep.int q
theorem len_td (q : Q (.dat (.int ds.length) none) ρ) : RAd F (rLenU K) [.dat (.tup ds) x] ρ Q := fun X M N σ H vs ok pr Qh P => by
  obtain ⟨v, rfl, oa⟩ := pair1 pr
  obtain ⟨p, xs, rfl, e1, r1⟩ := okT_t ok oa
  refine len_t (SqT.of e1) ?_
  rw [r1.len]
  exact P.sc ok Rep.int q
theorem len_sd (h : s.length ≤ 100000) (q : Q (.dat (.int s.length) none) ρ) : RAd F (rLenU K) [.dat (.str s) x] ρ Q := fun X M N σ H vs ok pr Qh P => by
  obtain ⟨v, rfl, oa⟩ := pair1 pr
  obtain rfl := Rep.un_str oa.1
  exact len_s (szl h) (P.sc ok Rep.int q)
theorem len_kd {kvs : List (Key × D)} (ha : Hs ρ a (.dct kvs)) (q : Q (.dat (.int kvs.length) none) ρ) : RAd F (rLenU K) [a] ρ Q := fun X M N σ H vs ok pr Qh P => by
  obtain ⟨v, rfl, oa⟩ := pair1 pr
  obtain ⟨p, xs, rfl, e1, r1⟩ := ha.toK ok oa
  refine len_d e1 ?_
  rw [r1.len]
  exact P.sc ok Rep.int q
theorem int_id (q : Q (.dat (.int i) none) ρ) : RAd F rIntU [.dat (.int i) x] ρ Q := fun X M N σ H vs ok pr Qh P => by
  obtain ⟨v, rfl, oa⟩ := pair1 pr
  obtain rfl := Rep.un_int oa.1
  exact int_i (P.sc ok Rep.int q)
theorem int_bd (q : Q (.dat (.int (if k then 1 else 0)) none) ρ) : RAd F rIntU [.dat (.bl k) x] ρ Q := fun X M N σ H vs ok pr Qh P => by
  obtain ⟨v, rfl, oa⟩ := pair1 pr
  obtain rfl := Rep.un_bl oa.1
  exact int_b (P.sc ok Rep.int q)
theorem abs_d (q : Q (.dat (.int (if i < 0 then -i else i)) none) ρ) : RAd F rAbsU [.dat (.int i) x] ρ Q := fun X M N σ H vs ok pr Qh P => by
  obtain ⟨v, rfl, oa⟩ := pair1 pr
  obtain rfl := Rep.un_int oa.1
  exact abs_i (P.sc ok Rep.int q)
theorem max_2d (q : Q (.dat (.int (if j > i then j else i)) none) ρ) : RAd F rMax2U [.dat (.int i) x, .dat (.int j) y] ρ Q := fun X M N σ H vs ok pr Qh P => by
  obtain ⟨v, w, rfl, oa, ob⟩ := pair2 pr
  obtain rfl := Rep.un_int oa.1
  obtain rfl := Rep.un_int ob.1
  exact max_2 (P.sc ok Rep.int q)
theorem min_2d (q : Q (.dat (.int (if j < i then j else i)) none) ρ) : RAd F rMin2U [.dat (.int i) x, .dat (.int j) y] ρ Q := fun X M N σ H vs ok pr Qh P => by
  obtain ⟨v, w, rfl, oa, ob⟩ := pair2 pr
  obtain rfl := Rep.un_int oa.1
  obtain rfl := Rep.un_int ob.1
  exact min_2 (P.sc ok Rep.int q)
theorem gcd_d (q : Q (.dat (.int ((Nat.gcd i.natAbs j.natAbs : Nat) : Int)) none) ρ) : RAd F rGcd [.dat (.int i) x, .dat (.int j) y] ρ Q := fun X M N σ H vs ok pr Qh P => by
  obtain ⟨v, w, rfl, oa, ob⟩ := pair2 pr
  obtain rfl := Rep.un_int oa.1
  obtain rfl := Rep.un_int ob.1
  exact ⟨_, _, rfl, P.sc ok Rep.int q⟩
theorem Hs.ints {ns : List Int} (h : Hs ρ a (.lst (ns.map .int))) (ok : OkS F X ρ M N σ H) (o : OkT M σ a v) : ∃ p, v = .ref p ∧ H p = some (.lst (ns.map V.int)) := by
  obtain ⟨p, xs, rfl, e1, r1⟩ := h.toL ok o
  rw [r1.unints] at e1
  exact ⟨p, rfl, e1⟩
theorem Hs.bls {ns : List Bool} (h : Hs ρ a (.lst (ns.map .bl))) (ok : OkS F X ρ M N σ H) (o : OkT M σ a v) : ∃ p, v = .ref p ∧ H p = some (.lst (ns.map V.bl)) := by
  obtain ⟨p, xs, rfl, e1, r1⟩ := h.toL ok o
  rw [r1.unbls] at e1
  exact ⟨p, rfl, e1⟩
theorem sum_d {ns : List Int} (ha : Hs ρ a (.lst (ns.map .int))) (q : Q (.dat (.int ns.sum) none) ρ) : RAd F (rSum K) [a] ρ Q := fun X M N σ H vs ok pr Qh P => by
  obtain ⟨v, rfl, oa⟩ := pair1 pr
  obtain ⟨p, rfl, e1⟩ := ha.ints ok oa
  exact sum_l (SqL.of e1) (P.sc ok Rep.int q)
theorem all_d {ns : List Bool} (ha : Hs ρ a (.lst (ns.map .bl))) (q : Q (.dat (.bl (ns.all id)) none) ρ) : RAd F (rAll K) [a] ρ Q := fun X M N σ H vs ok pr Qh P => by
  obtain ⟨v, rfl, oa⟩ := pair1 pr
  obtain ⟨p, rfl, e1⟩ := ha.bls ok oa
  exact all_l (SqL.of e1) (P.sc ok Rep.bl q)
theorem any_d {ns : List Bool} (ha : Hs ρ a (.lst (ns.map .bl))) (q : Q (.dat (.bl (ns.any id)) none) ρ) : RAd F (rAny K) [a] ρ Q := fun X M N σ H vs ok pr Qh P => by
  obtain ⟨v, rfl, oa⟩ := pair1 pr
  obtain ⟨p, rfl, e1⟩ := ha.bls ok oa
  exact any_l (SqL.of e1) (P.sc ok Rep.bl q)
theorem max_ld {ns : List Int} (ha : Hs ρ a (.lst (ns.map .int))) (hn : 0 < ns.length) (q : ∀ m, m ∈ ns → (∀ y, y ∈ ns → y ≤ m) → Q (.dat (.int m) none) ρ) : RAd F (rMax K) [a] ρ Q := fun X M N σ H vs ok pr Qh P => by
  obtain ⟨v, rfl, oa⟩ := pair1 pr
  obtain ⟨p, rfl, e1⟩ := ha.ints ok oa
  exact ⟨p, ns, rfl, SqL.of e1, hn, fun m hm hy => P.sc ok Rep.int (q m hm hy)⟩
theorem min_ld {ns : List Int} (ha : Hs ρ a (.lst (ns.map .int))) (hn : 0 < ns.length) (q : ∀ m, m ∈ ns → (∀ y, y ∈ ns → m ≤ y) → Q (.dat (.int m) none) ρ) : RAd F (rMin K) [a] ρ Q := fun X M N σ H vs ok pr Qh P => by
  obtain ⟨v, rfl, oa⟩ := pair1 pr
  obtain ⟨p, rfl, e1⟩ := ha.ints ok oa
  exact ⟨p, ns, rfl, SqL.of e1, hn, fun m hm hy => P.sc ok Rep.int (q m hm hy)⟩
theorem srt_d {ns : List Int} (ha : Hs ρ a (.lst (ns.map .int))) (q : ∀ ns' : List Int, ns'.Perm ns → ns'.Pairwise (· ≤ ·) → Q (.fr (.lst (ns'.map .int))) ρ) : RAd F (rSortedI K) [a] ρ Q := fun X M N σ H vs ok pr Qh P => by
  obtain ⟨v, rfl, oa⟩ := pair1 pr
  obtain ⟨p, rfl, e1⟩ := ha.ints ok oa
  exact ⟨p, ns, rfl, SqL.of e1, fun ns' p' hp hs n => P.nl ok n (same_new n) upd_same (RepL.ints ns') (q ns' hp hs)⟩
theorem lst_ld (ha : Hs ρ a (.lst ds)) (q : Q (.fr (.lst ds)) ρ) : RAd F (rListOf K) [a] ρ Q := fun X M N σ H vs ok pr Qh P => by
  obtain ⟨v, rfl, oa⟩ := pair1 pr
  obtain ⟨p, xs, rfl, e1, r1⟩ := ha.toL ok oa
  exact list_l (SqL.of e1) fun p' H' n s e => P.nl ok n s e r1 q
theorem lst_td (q : Q (.fr (.lst ds)) ρ) : RAd F (rListOf K) [.dat (.tup ds) x] ρ Q := fun X M N σ H vs ok pr Qh P => by
  obtain ⟨v, rfl, oa⟩ := pair1 pr
  obtain ⟨p, xs, rfl, e1, r1⟩ := okT_t ok oa
  exact list_t (SqT.of e1) fun p' H' n s e => P.nl ok n s e r1 q
theorem tup_ld (ha : Hs ρ a (.lst ds)) (q : Q (.dat (.tup ds) none) ρ) : RAd F (rTupOf K) [a] ρ Q := fun X M N σ H vs ok pr Qh P => by
  obtain ⟨v, rfl, oa⟩ := pair1 pr
  obtain ⟨p, xs, rfl, e1, r1⟩ := ha.toL ok oa
  exact tuple_l (SqL.of e1) fun p' H' n s e => P.nt ok n s e r1 q
theorem tup_td (q : Q (.dat (.tup ds) x) ρ) : RAd F (rTupOf K) [.dat (.tup ds) x] ρ Q := fun X M N σ H vs ok pr Qh P => by
  obtain ⟨v, rfl, oa⟩ := pair1 pr
  have oa' := oa
  obtain ⟨p, xs, rfl, e1, r1⟩ := okT_t ok oa
  exact tuple_t (SqT.of e1) (P (.dat (.tup ds) x) _ _ _ _ _ (Same.refl _) ok oa' q)
/-! ### isinstance -/
def tyIs (m n : String) : Bool := m == n || (m == "bool" && n == "int")
def _root_.Cr.D.tyN : D → String
  | .non => "NoneType"
  | .bl _ => "bool"
  | .int _ => "int"
  | .str _ => "str"
  | .lst _ => "list"
  | .tup _ => "tuple"
  | .dct _ => "dict"
def sixTy (n : String) : Bool := n == "bool" || n == "int" || n == "str" || n == "list" || n == "tuple" || n == "dict"
theorem sixTy_of {n : String} (h : sixTy n = true) : n = "bool" ∨ n = "int" ∨ n = "str" ∨ n = "list" ∨ n = "tuple" ∨ n = "dict" := by
  unfold sixTy at h
  simp only [Bool.or_eq_true, beq_iff_eq] at h
  rcases h with ((((h | h) | h) | h) | h) | h <;> simp [h]
def _root_.Cr.D.isTy (d : D) (n : String) : Bool := tyIs d.tyN n
theorem kit_NoneType {n : String} (hn : sixTy n = true) : kitB "NoneType" n = some (tyIs "NoneType" n) := by
  rcases sixTy_of hn with rfl | rfl | rfl | rfl | rfl | rfl <;> decide +kernel
theorem kit_bool {n : String} (hn : sixTy n = true) : kitB "bool" n = some (tyIs "bool" n) := by
  rcases sixTy_of hn with rfl | rfl | rfl | rfl | rfl | rfl <;> decide +kernel
theorem kit_int {n : String} (hn : sixTy n = true) : kitB "int" n = some (tyIs "int" n) := by
  rcases sixTy_of hn with rfl | rfl | rfl | rfl | rfl | rfl <;> decide +kernel
theorem kit_str {n : String} (hn : sixTy n = true) : kitB "str" n = some (tyIs "str" n) := by
  rcases sixTy_of hn with rfl | rfl | rfl | rfl | rfl | rfl <;> decide +kernel
theorem kit_list {n : String} (hn : sixTy n = true) : kitB "list" n = some (tyIs "list" n) := by
  rcases sixTy_of hn with rfl | rfl | rfl | rfl | rfl | rfl <;> decide +kernel
theorem kit_tuple {n : String} (hn : sixTy n = true) : kitB "tuple" n = some (tyIs "tuple" n) := by
  rcases sixTy_of hn with rfl | rfl | rfl | rfl | rfl | rfl <;> decide +kernel
theorem kit_dict {n : String} (hn : sixTy n = true) : kitB "dict" n = some (tyIs "dict" n) := by
  rcases sixTy_of hn with rfl | rfl | rfl | rfl | rfl | rfl <;> decide +kernel
theorem isTy_rep {n : String} (hn : sixTy n = true) (r : Rep H d v) : TyX K H v (.type d.tyN) ∧ kitB d.tyN n = some (d.isTy n) := by
  cases d with
  | non =>
    obtain rfl := Rep.un_non r
    exact ⟨.base .non, kit_NoneType hn⟩
  | bl b =>
    obtain rfl := Rep.un_bl r
    exact ⟨.base (.bl b), kit_bool hn⟩
  | int b =>
    obtain rfl := Rep.un_int r
    exact ⟨.base (.int b), kit_int hn⟩
  | str b =>
    obtain rfl := Rep.un_str r
    exact ⟨.base (.str b), kit_str hn⟩
  | lst b =>
    obtain ⟨p, xs, rfl, e, _⟩ := Rep.un_lst r
    exact ⟨ty_l e, kit_list hn⟩
  | tup b =>
    obtain ⟨p, xs, rfl, e, _⟩ := Rep.un_tup r
    exact ⟨ty_t e, kit_tuple hn⟩
  | dct b =>
    obtain ⟨p, xs, rfl, e, _⟩ := Rep.un_dct r
    exact ⟨ty_d e, kit_dict hn⟩
theorem isi_d {n : String} (ha : Hs ρ a d) (hn : sixTy n = true) (q : Q (.dat (.bl (d.isTy n)) none) ρ) : RAd F (rIsi K) [a, tyS n] ρ Q := fun X M N σ H vs ok pr Qh P => by
  obtain ⟨v, w, rfl, oa, ob⟩ := pair2 pr
  have ob : w = .ty n := ob M (Same.refl _)
  subst ob
  obtain ⟨h1, h2⟩ := isTy_rep (K := K) hn (ha.rep ok oa)
  exact isi_ty h1 h2 (P.sc ok Rep.bl q)
/-- a tuple of two types -/
abbrev tyS2 (n m : String) : SV := .raw fun M v => ∃ p, v = .ref p ∧ M p = some (.tup [.ty n, .ty m])
theorem d_tup_ty {n m : String} (q : Q (tyS2 n m) ρ) : De F (tTup (tCons (tC (.ty n)) (tCons (tC (.ty m)) tNil))) ρ Q := fun X M N σ H ok Qh P => by
  show (2 : Nat) ≤ sizeLine ∧ _
  refine ⟨by decide, fun p np => ?_⟩
  refine P (tyS2 n m) ρ (Cr.ins M (upd H p (.tup [.ty n, .ty m])) p) N _ _ (ins_same (ok.noM np)) (ok.ins np (same_new np)) (fun M' s => ⟨p, rfl, s _ _ ?_⟩) q
  rw [ins_at, upd_same]
theorem isi_d2 {n m : String} (ha : Hs ρ a d) (hn : sixTy n = true) (hm : sixTy m = true) (q : Q (.dat (.bl (d.isTy n || d.isTy m)) none) ρ) : RAd F (rIsiT K) [a, tyS2 n m] ρ Q := fun X M N σ H vs ok pr Qh P => by
  obtain ⟨v, w, rfl, oa, ob⟩ := pair2 pr
  obtain ⟨p, rfl, e⟩ := ob M (Same.refl _)
  obtain ⟨h1, h2⟩ := isTy_rep (K := K) hn (ha.rep ok oa)
  obtain ⟨h1', h2'⟩ := isTy_rep (K := K) hm (ha.rep ok oa)
  exact isi_two h1 (ok.sub _ _ e) h2 h2' (P.sc ok Rep.bl q)
end
end Cr

/-! The data level: lists and dicts that are changed, the box of the draws. -/
namespace Cr
open PySem PySem.Spec PyProof.Rows L2
section
variable {F : Fr} {X : Hp} {ρ ρ' : List SV} {M M' : Hp} {N : Nat → Hp} {σ : L2.St} {H H' : Hp} {sv a b c : SV} {v : V} {d e : D} {x y z : Option V} {p : Addr} {i : Int} {j m n : Nat} {s u : Str} {k : Bool} {D₀ : DEnds} {ds es : List D}
variable {t ta tb tc te : TE} {tr : TA} {tt tu : TT} {ts tv : TS} {g : TG} {Q : SV → List SV → Prop} {Qb : Bool → List SV → Prop} {Qa : List SV → List SV → Prop} {Qs : List SV → Prop} {K : PySem.W.Frag}
/-- what slot j owns is changed -/
theorem OkS.own_chg (ok : OkS F X ρ M N σ H) (hj : ρ[j]? = some (.own d)) : ∃ p u, σ[j]? = some (some (.ref p)) ∧ H p = some u ∧ OwnAt M H p d ∧ ∀ {o : HO} {e : D} {H' : Hp}, But p H H' → H' p = some o → OwnAt M (single p o) p e → ∃ N', OkS F X (ρ.set j (.own e)) M N' σ H' := by
  obtain ⟨p, ep, n0, ow⟩ := ok.slot j _ hj
  obtain ⟨u, hu⟩ := ow.some
  have hp := ok.apt j p u hu
  refine ⟨p, u, ep, ok.reg j p u hu, ow.to fun o z => ok.reg j p o z, fun {o e H'} b eo oe => ?_⟩
  have o2 := ok.put_un (i := j) (w := some (.ref p))
  have xa : X p = none := by
    cases z : X p with
    | none => rfl
    | some o =>
      have := (ok.xapt p o z).2 j
      rw [hu] at this
      cases this
  have o3 := o2.chg (i := j) hp.1 xa (fun l hl => ok.dis j l p _ (fun z => hl z.symm) hu) hp.2 b eo (fun s hs => by
    rcases set_get hs with ⟨_, rfl, _⟩ | ⟨z, _⟩
    · trivial
    · exact (z rfl).elim)
  have o4 := o3.view (i := j) (sv := .own e) (fun hl => ⟨p, ?_, n0, ?_⟩)
  · rw [List.set_set] at o4
    have es : List.set σ j (some (.ref p)) = σ := by
      have hl : j < σ.length := (List.getElem?_eq_some_iff.mp ep).1
      rw [List.getElem?_eq_some_iff] at ep
      obtain ⟨_, ep⟩ := ep
      rw [← ep]
      exact List.set_getElem_self hl
    rw [es] at o4
    exact ⟨_, o4⟩
  · rw [set_at]
    rw [set_len] at hl
    rw [ok.len]
    exact hl
  · rw [reN_at]
    exact oe
theorem ownAt_l {xs : List V} (r : RepL M ds xs) : OwnAt M (single p (.lst xs)) p (.lst ds) := ⟨xs, single_at, r⟩
theorem ownAt_k {kvs : List (Key × D)} {xs : List (Key × V)} (r : RepK M kvs xs) : OwnAt M (single p (.dK xs)) p (.dct kvs) := ⟨xs, single_at, r⟩
theorem mt_ap (hj : ρ[j]? = some (.own (.lst ds))) (hl : ds.length < 100000) (q : Q (.dat .non none) (ρ.set j (.own (.lst (ds ++ [e]))))) : RMd F rAppend (.bor j) [.dat e x] ρ Q := fun X M N σ H v vs ok o pr Qh P => by
  obtain ⟨p, u, e1, e2, ⟨xs, e3, r⟩, k⟩ := ok.own_chg hj
  obtain ⟨w, rfl, ow⟩ := pair1 pr
  have o : σ[j]? = some (some v) := o
  rw [o] at e1
  cases e1
  obtain ⟨N', ok'⟩ := k But.upd upd_same (ownAt_l (RepL.snoc ow.1 r))
  exact m_app e3 (by rw [r.len]; exact hl) (P (.dat .non none) _ M N' _ _ (Same.refl _) ok' ⟨Rep.non, IdOk.none⟩ q)
theorem mt_ex (hj : ρ[j]? = some (.own (.lst ds))) (hl : ds.length + es.length ≤ 100000) (q : Q (.dat .non none) (ρ.set j (.own (.lst (ds ++ es))))) : RMd F rExtend (.bor j) [.dat (.lst es) x] ρ Q := fun X M N σ H v vs ok o pr Qh P => by
  obtain ⟨p, u, e1, e2, ⟨xs, e3, r⟩, k⟩ := ok.own_chg hj
  obtain ⟨w, rfl, ow⟩ := pair1 pr
  have o : σ[j]? = some (some v) := o
  rw [o] at e1
  cases e1
  obtain ⟨b, ys, rfl, eb, r2⟩ := Rep.un_lst ow.1
  obtain ⟨N', ok'⟩ := k But.upd upd_same (ownAt_l (r.app r2))
  exact m_ext e3 (ok.sub _ _ eb) (by rw [r.len, r2.len]; exact hl) (P (.dat .non none) _ M N' _ _ (Same.refl _) ok' ⟨Rep.non, IdOk.none⟩ q)
theorem mt_rv (hj : ρ[j]? = some (.own (.lst ds))) (q : Q (.dat .non none) (ρ.set j (.own (.lst ds.reverse)))) : RMd F rReverse (.bor j) [] ρ Q := fun X M N σ H v vs ok o pr Qh P => by
  obtain ⟨p, u, e1, e2, ⟨xs, e3, r⟩, k⟩ := ok.own_chg hj
  cases pr
  have o : σ[j]? = some (some v) := o
  rw [o] at e1
  cases e1
  obtain ⟨N', ok'⟩ := k But.upd upd_same (ownAt_l r.rev)
  exact m_rev e3 (P (.dat .non none) _ M N' _ _ (Same.refl _) ok' ⟨Rep.non, IdOk.none⟩ q)
theorem RepL.erase {xs : List V} : ∀ {ds : List D} {xs : List V} (n : Nat), RepL M ds xs → RepL M (ds.eraseIdx n) (xs.eraseIdx n)
  | [], xs, n, r => by
    have e : xs = [] := List.length_eq_zero_iff.mp r.len
    rw [e]
    exact RepL.nil
  | d :: ds, xs, 0, r => by
    obtain ⟨v, w, rfl, h1, h2⟩ := RepL.un_cons r
    exact h2
  | d :: ds, xs, n + 1, r => by
    obtain ⟨v, w, rfl, h1, h2⟩ := RepL.un_cons r
    exact RepL.cons h1 (RepL.erase (xs := xs) n h2)
theorem RepL.set_ : ∀ {ds : List D} {xs : List V} (n : Nat) {d : D} {v : V}, RepL M ds xs → Rep M d v → RepL M (ds.set n d) (xs.set n v)
  | [], xs, n, d, v, r, h => by
    have e : xs = [] := List.length_eq_zero_iff.mp r.len
    rw [e]
    exact RepL.nil
  | d :: ds, xs, 0, _, _, r, h => by
    obtain ⟨v, w, rfl, h1, h2⟩ := RepL.un_cons r
    exact RepL.cons h h2
  | d :: ds, xs, n + 1, _, _, r, h => by
    obtain ⟨v, w, rfl, h1, h2⟩ := RepL.un_cons r
    exact RepL.cons h1 (RepL.set_ n h2 h)
theorem mt_pp (hj : ρ[j]? = some (.own (.lst ds))) (h0 : 0 ≤ i) (h1 : i < ds.length) (hl : ds.length ≤ 100000) (he : ds[i.toNat]? = some e) (q : Q (.dat e none) (ρ.set j (.own (.lst (ds.eraseIdx i.toNat))))) : RMd F rPopAt (.bor j) [.dat (.int i) x] ρ Q := fun X M N σ H v vs ok o pr Qh P => by
  obtain ⟨p, u, e1, e2, ⟨xs, e3, r⟩, k⟩ := ok.own_chg hj
  obtain ⟨w, rfl, ow⟩ := pair1 pr
  obtain rfl := Rep.un_int ow.1
  have o : σ[j]? = some (some v) := o
  rw [o] at e1
  cases e1
  obtain ⟨y, ey, ry⟩ := r.get he
  obtain ⟨N', ok'⟩ := k But.upd upd_same (ownAt_l (r.erase (xs := xs) i.toNat))
  exact m_popat e3 h0 (by rw [r.len]; exact h1) (by rw [r.len]; exact hl) ey (P (.dat e none) _ M N' _ _ (Same.refl _) ok' ⟨ry, IdOk.none⟩ q)
/-- a value becomes data -/
def FzV (sv : SV) (ρ : List SV) (k : D → List SV → Prop) : Prop := match sv with
  | .dat d _ => k d ρ
  | .fr d => k d ρ
  | .bor j => ∃ d, ρ[j]? = some (.own d) ∧ k d (ρ.set j (.dat d none))
  | _ => False
theorem fzv {k : D → List SV → Prop} (ok : OkS F X ρ M N σ H) (o : OkV F X M N σ H sv v) (h : FzV sv ρ k) : ∃ d ρ' M' N', Same M M' ∧ OkS F X ρ' M' N' σ H ∧ Rep M' d v ∧ k d ρ' := by
  cases sv <;> try exact False.elim h
  · exact ⟨_, ρ, M, N, Same.refl _, ok, o.1, h⟩
  · obtain ⟨d, e, h⟩ := h
    obtain ⟨M1, N1, v1, s1, e1, r1, ok1⟩ := ok.frz_own e
    have o : σ[_]? = some (some v) := o
    rw [o] at e1
    cases e1
    exact ⟨_, _, M1, N1, s1, ok1, r1, h⟩
  · obtain ⟨M', s, ok', r⟩ := ok.frz o
    exact ⟨_, ρ, M', N, s, ok', r, h⟩
theorem fzv_d {k : D → List SV → Prop} (q : k d ρ) : FzV (.dat d x) ρ k := q
theorem fzv_f {k : D → List SV → Prop} (q : k d ρ) : FzV (.fr d) ρ k := q
theorem fzv_o {k : D → List SV → Prop} (h : ρ[j]? = some (.own d)) (q : k d (ρ.set j (.dat d none))) : FzV (.bor j) ρ k := ⟨d, h, q⟩
/-- xs[i] = value -/
def SetL (o ix : SV) (e : D) (ρ : List SV) (Qs : List SV → Prop) : Prop := ∃ j ds k x m, o = .bor j ∧ ρ[j]? = some (.own (.lst ds)) ∧ ix = .dat (.int k) x ∧ ixN ds.length k = some m ∧ Qs (ρ.set j (.own (.lst (ds.set m e))))
theorem setl {k : Int} (hj : ρ[j]? = some (.own (.lst ds))) (hm : ixN ds.length k = some m) (q : Qs (ρ.set j (.own (.lst (ds.set m e))))) : SetL (.bor j) (.dat (.int k) x) e ρ Qs := ⟨j, ds, k, x, m, rfl, hj, rfl, hm, q⟩
theorem dg_sub {to ti : TE} (h : FzV sv ρ fun e ρ0 => Dz F to ρ0 fun o ρ1 => Dz F ti ρ1 fun ix ρ2 => SetL o ix e ρ2 Qs) : Dg F (gSub to ti rSetL) sv ρ Qs := fun X M N σ H v ok o Qh P => by
  obtain ⟨e, ρ0, M0, N0, s0, ok0, r0, h⟩ := fzv ok o h
  refine h X M0 N0 σ H ok0 _ fun o1 ρ1 M1 N1 v1 H1 s1 ok1 oo1 h => h X M1 N1 σ H1 ok1 _ fun ix ρ2 M2 N2 v2 H2 s2 ok2 oo2 h => ?_
  obtain ⟨j, ds, k, x, m, rfl, hj, rfl, hm, q⟩ := h
  obtain ⟨p, u, e1, e2, ⟨xs, e3, r⟩, kk⟩ := ok2.own_chg hj
  have oo1 : σ[j]? = some (some v1) := oo1
  rw [oo1] at e1
  cases e1
  obtain rfl := Rep.un_int oo2.1
  obtain ⟨N', ok'⟩ := kk But.upd upd_same (ownAt_l (r.set_ m (r0.mono (s1.trans s2))))
  exact set_l e3 (by rw [r.len]; exact hm) (P _ M2 N' σ _ (s0.trans (s1.trans s2)) ok' q)
/-! ### the box -/
theorem OkS.boxed {a : Addr} {B B' : Int} (ok : OkS F X ρ M N σ H) (hj : ρ[j]? = some (.box a B)) : σ[j]? = some (some (.ref a)) ∧ IsBox H a B ∧ M a = none ∧ ∀ {H' : Hp}, But a H H' → IsBox H' a B' → ∃ N', OkS F X (ρ.set j (.box a B')) M N' σ H' := by
  obtain ⟨ej, g0, r0, c0, k0, e0, ib0⟩ := ok.slot j _ hj
  have hN := ok.apt j a _ e0
  refine ⟨ej, ⟨g0, r0, c0, k0, ok.reg j _ _ e0, ib0⟩, hN.1, fun {H'} b ⟨g, r, c, k, e1, ib⟩ => ?_⟩
  have xa : X a = none := by
    cases z : X a with
    | none => rfl
    | some o =>
      have := (ok.xapt a o z).2 j
      rw [e0] at this
      cases this
  have o2 := ok.put_un (i := j) (w := some (.ref a))
  have o3 := o2.chg (i := j) hN.1 xa (fun l hl => ok.dis j l a _ (fun z => hl z.symm) e0) hN.2 b e1 (fun s hs => by
    rcases set_get hs with ⟨_, rfl, _⟩ | ⟨z, _⟩
    · trivial
    · exact (z rfl).elim)
  have o4 := o3.view (i := j) (sv := .box a B') (fun hl => ⟨?_, ?_⟩)
  · rw [List.set_set] at o4
    have es : List.set σ j (some (.ref a)) = σ := by
      have hl : j < σ.length := (List.getElem?_eq_some_iff.mp ej).1
      rw [List.getElem?_eq_some_iff] at ej
      obtain ⟨_, ej⟩ := ej
      rw [← ej]
      exact List.set_getElem_self hl
    rw [es] at o4
    exact ⟨_, o4⟩
  · rw [set_at]
    rw [set_len] at hl
    rw [ok.len]
    exact hl
  · rw [reN_at]
    exact ⟨g, r, c, k, single_at, ib⟩
theorem take_d {a : Addr} {B m : Int} {E : L2.St → XK} (hj : ρ[j]? = some (.box a B)) (hB : B < 100000000) (h1 : 1 ≤ m) (h2 : m < 18446744073709551616) (q : ∀ t, 0 ≤ t → t < m → Q (.dat (.int t) none) (ρ.set j (.box a (B + 1)))) : CallD F spTake E [.bor j, .dat (.int m) x] ρ Q := fun X M N σ H vs ok pr Qh P => by
  obtain ⟨v, w, rfl, oa, ob⟩ := pair2 pr
  obtain rfl := Rep.un_int ob.1
  obtain ⟨e1, ib, _, k⟩ := ok.boxed (B' := B + 1) hj
  have oa : σ[j]? = some (some v) := oa
  rw [oa] at e1
  cases e1
  refine ⟨a, m, B, rfl, ib, hB, h1, h2, fun t H' b ib' t0 t1 => ?_⟩
  obtain ⟨N', ok'⟩ := k b ib'
  exact P (.dat (.int t) none) _ M N' _ _ (Same.refl _) ok' ⟨Rep.int, IdOk.none⟩ (q t t0 t1)
theorem RepL.of_mem : ∀ {ds : List D} {xs : List V} {v : V}, RepL M ds xs → v ∈ xs → ∃ d ∈ ds, Rep M d v
  | [], xs, v, r, h => by
    have e : xs = [] := List.length_eq_zero_iff.mp r.len
    rw [e] at h
    cases h
  | d :: ds, xs, v, r, h => by
    obtain ⟨w, ws, rfl, h1, h2⟩ := RepL.un_cons r
    rcases List.mem_cons.mp h with rfl | h
    · exact ⟨d, List.mem_cons_self, h1⟩
    · obtain ⟨e, he, hr⟩ := RepL.of_mem h2 h
      exact ⟨e, List.mem_cons_of_mem _ he, hr⟩
theorem pick_d {a : Addr} {B : Int} {E : L2.St → XK} (hj : ρ[j]? = some (.box a B)) (hB : B < 100000000) (hd : d = .lst ds ∨ d = .tup ds) (h1 : ds ≠ []) (h2 : ds.length ≤ 100000) (q : ∀ e ∈ ds, Q (.dat e none) (ρ.set j (.box a (B + 1)))) : CallD F (spPick K) E [.bor j, .dat d x] ρ Q := fun X M N σ H vs ok pr Qh P => by
  obtain ⟨v, w, rfl, oa, ob⟩ := pair2 pr
  obtain ⟨e1, ib, hM, k⟩ := ok.boxed (B' := B + 1) hj
  have oa : σ[j]? = some (some v) := oa
  rw [oa] at e1
  cases e1
  have fin : ∀ {p : Addr} {xs : List V} {o : HO}, RepL M ds xs → M p = some o → (SqL K H p xs ∨ SqT K H p xs) → spPick K [.ref a, .ref p] H Qh (E σ) := fun {p xs o} r e h => by
    refine ⟨a, p, xs, B, rfl, ib, hB, ne_of_none e hM, h, fun z => ?_, by rw [r.len]; exact h2, fun v H' hm b ib' => ?_⟩
    · subst z
      exact h1 (List.length_eq_zero_iff.mp r.len.symm)
    · obtain ⟨N', ok'⟩ := k b ib'
      obtain ⟨e, he, hr⟩ := r.of_mem hm
      exact P (.dat e none) _ M N' _ _ (Same.refl _) ok' ⟨hr, IdOk.none⟩ (q e he)
  rcases hd with rfl | rfl
  · obtain ⟨p, xs, rfl, e, r⟩ := Rep.un_lst ob.1
    exact fin r e (.inl (SqL.of (ok.sub _ _ e)))
  · obtain ⟨p, xs, rfl, e, r⟩ := Rep.un_tup ob.1
    exact fin r e (.inr (SqT.of (ok.sub _ _ e)))
/-! ### a list or a tuple -/
def IsSq (d : D) (ds : List D) : Prop := d = .lst ds ∨ d = .tup ds
theorem len_q (h : IsSq d ds) (q : Q (.dat (.int ds.length) none) ρ) : RAd F (rLenU K) [.dat d x] ρ Q := by
  rcases h with rfl | rfl
  · exact len_ld has_d q
  · exact len_td q
theorem ix_q (h : IsSq d ds) (e0 : atI ds i = some e) (q : Q (.dat e none) ρ) : R2d F (rIx K) (.dat d x) (.dat (.int i) y) ρ Q := by
  rcases h with rfl | rfl
  · exact ix_ld has_d e0 q
  · exact ix_td e0 q
theorem lst_q (h : IsSq d ds) (q : Q (.fr (.lst ds)) ρ) : RAd F (rListOf K) [.dat d x] ρ Q := by
  rcases h with rfl | rfl
  · exact lst_ld has_d q
  · exact lst_td q
theorem tup_q (h : IsSq d ds) (q : Q (.dat (.tup ds) none) ρ) : RAd F (rTupOf K) [.dat d x] ρ Q := by
  rcases h with rfl | rfl
  · exact tup_ld has_d q
  · exact fun X M N σ H vs ok pr Qh P => by
      obtain ⟨v, rfl, oa⟩ := pair1 pr
      obtain ⟨p, xs, rfl, e1, r1⟩ := okT_t ok oa
      exact tuple_t (SqT.of e1) (P.sc ok oa.1 q)
theorem isLTq {kk : List D → Prop} (h : IsSq d ds) (q : kk ds) : IsLT d kk := ⟨ds, h, q⟩
/-- an int of a list or tuple of ints -/
theorem ix_qi {ns : List Int} (h : IsSq d (ns.map .int)) (h0 : 0 ≤ i) (h1 : i < ns.length) (q : Q (.dat (.int (ns.getD i.toNat 0)) none) ρ) : R2d F (rIx K) (.dat d x) (.dat (.int i) y) ρ Q := by
  refine ix_q h (e := .int (ns.getD i.toNat 0)) ?_ q
  obtain ⟨m, rfl⟩ : ∃ m : Nat, i = m := ⟨i.toNat, by omega⟩
  have h2 : m < ns.length := by omega
  refine atI_nat ?_
  simp [h2]
theorem w_tyT {n : String} {A B : Prop} (h : d.isTy n = true) (q : A) : if d.isTy n = true then A else B := by rw [if_pos h]; exact q
theorem w_tyF {n : String} {A B : Prop} (h : d.isTy n = false) (q : B) : if d.isTy n = true then A else B := by rw [if_neg (by rw [h]; exact Bool.false_ne_true)]; exact q
theorem w_tyNT {n : String} {A B : Prop} (h : d.isTy n = true) (q : B) : if (!d.isTy n) = true then A else B := by rw [h]; exact q
theorem w_tyNF {n : String} {A B : Prop} (h : d.isTy n = false) (q : A) : if (!d.isTy n) = true then A else B := by rw [h]; exact q
theorem w_ty2T {n m : String} {A B : Prop} (h : (d.isTy n || d.isTy m) = true) (q : A) : if (d.isTy n || d.isTy m) = true then A else B := by rw [if_pos h]; exact q
theorem w_ty2F {n m : String} {A B : Prop} (h : (d.isTy n || d.isTy m) = false) (q : B) : if (d.isTy n || d.isTy m) = true then A else B := by rw [if_neg (by rw [h]; exact Bool.false_ne_true)]; exact q
theorem w_ty2NT {n m : String} {A B : Prop} (h : (d.isTy n || d.isTy m) = true) (q : B) : if (!(d.isTy n || d.isTy m)) = true then A else B := by rw [h]; exact q
theorem w_ty2NF {n m : String} {A B : Prop} (h : (d.isTy n || d.isTy m) = false) (q : A) : if (!(d.isTy n || d.isTy m)) = true then A else B := by rw [h]; exact q
theorem w_nonT {A B : Prop} (h : d.isNon = true) (q : A) : if d.isNon = true then A else B := by rw [if_pos h]; exact q
theorem w_nonF {A B : Prop} (h : d.isNon = false) (q : B) : if d.isNon = true then A else B := by rw [if_neg (by rw [h]; exact Bool.false_ne_true)]; exact q
theorem w_nonNT {A B : Prop} (h : d.isNon = true) (q : B) : if (!d.isNon) = true then A else B := by rw [h]; exact q
theorem w_nonNF {A B : Prop} (h : d.isNon = false) (q : A) : if (!d.isNon) = true then A else B := by rw [h]; exact q
/-! ### small ways in -/
theorem one_d {kk : D → Prop} (q : kk d) : One [.dat d x] kk := q
theorem two_d {kk : D → D → Prop} (q : kk d e) : Two [.dat d x, .dat e y] kk := q
theorem tyd_l {P : Prop} (q : P) : TyD "list" (.dat (.lst ds) x) ρ ∧ P := ⟨rfl, q⟩
theorem tyd_k {P : Prop} {kvs : List (Key × D)} (q : P) : TyD "dict" (.dat (.dct kvs) x) ρ ∧ P := ⟨rfl, q⟩
theorem tyd_s {P : Prop} (q : P) : TyD "str" (.dat (.str s) x) ρ ∧ P := ⟨rfl, q⟩
theorem tyd_o {P : Prop} (h : ρ[m]? = some (.own (.lst ds))) (q : P) : TyD "list" (.bor m) ρ ∧ P := ⟨.inl ⟨ds, h, rfl⟩, q⟩
theorem tyd_ok {P : Prop} {kvs : List (Key × D)} (h : ρ[m]? = some (.own (.dct kvs))) (q : P) : TyD "dict" (.bor m) ρ ∧ P := ⟨.inr ⟨kvs, h, rfl⟩, q⟩
end
end Cr

/-! The data level: walks as lists of Lean, comprehensions as map and filter. -/
namespace Cr
open PySem PySem.Spec PyProof.Rows L2
section
variable {F : Fr} {X : Hp} {ρ ρ' : List SV} {sv : SV} {d : D} {x y : Option V} {i j : Int} {m n : Nat} {D₀ : DEnds} {ds es : List D} {α β : Type}
variable {t ta tb tc te : TE} {tt : TT} {ts : TS} {g : TG} {Q : SV → List SV → Prop} {vs : List Nat}
theorem ItD.ext_ {a b : ItD} (h1 : a.n = b.n) (h2 : ∀ i, i < a.n → a.at_ i = b.at_ i) (h3 : ∀ ρ, b.ok ρ → a.ok ρ) : ∀ {g : TG} {ts : TS} {D₀ : DEnds} {ρ : List SV}, ForD F b g ts D₀ ρ → ForD F a g ts D₀ ρ := by
  rintro g ts D₀ ρ ⟨I, h0, ht, he, hk⟩
  exact ⟨I, h0, fun i ρ2 hi hI => by rw [h2 i hi]; exact ht i ρ2 (by rw [← h1]; exact hi) hI, fun ρ2 h => he ρ2 (by rw [← h1]; exact h), fun i ρ2 h => h3 ρ2 (hk i ρ2 h)⟩
theorem LcD.ext_ {a b : ItD} (h1 : a.n = b.n) (h2 : ∀ i, i < a.n → a.at_ i = b.at_ i) (h3 : ∀ ρ, b.ok ρ → a.ok ρ) : LcD F b g tt te vs ρ Q → LcD F a g tt te vs ρ Q := by
  rintro ⟨hn, I, h0, ht, he, hk⟩
  exact ⟨by rw [h1]; exact hn, I, h0, fun i acc ρ2 hi hI => by rw [h2 i hi]; exact ht i acc ρ2 (by rw [← h1]; exact hi) hI, fun acc ρ2 h => he acc ρ2 (by rw [← h1]; exact h), fun i acc ρ2 h => h3 ρ2 (hk i acc ρ2 h)⟩
theorem itR_n {lo : Int} : (itR lo n).n = (itM (List.range n) fun i => .int (lo + (i : Nat))).n := by
  show n = (List.range n).length
  rw [List.length_range]
theorem itR_at {lo : Int} : ∀ i, i < (itR lo n).n → (itR lo n).at_ i = (itM (List.range n) fun i => .int (lo + (i : Nat))).at_ i := fun i hi => by
  have hi : i < n := hi
  rw [itM_at (y := i) (by simp [hi])]
  rfl
theorem itE_n {xs : List α} {f : α → D} : (itE (itM xs f)).n = (itM xs.zipIdx fun p => .tup [.int (p.2 : Nat), f p.1]).n := by
  show xs.length = xs.zipIdx.length
  simp
theorem itE_at {xs : List α} {f : α → D} : ∀ i, i < (itE (itM xs f)).n → (itE (itM xs f)).at_ i = (itM xs.zipIdx fun p => .tup [.int (p.2 : Nat), f p.1]).at_ i := fun i hi => by
  have hi : i < xs.length := hi
  have e : xs.zipIdx[i]? = some (xs[i], i) := by
    rw [List.getElem?_zipIdx]
    simp [hi]
  rw [itM_at e]
  show D.tup [.int (i : Nat), (itM xs f).at_ i] = _
  rw [itM_at (y := xs[i]) (by simp [hi])]
theorem itZ_n {xs : List α} {f : α → D} {ys : List β} {h : β → D} : (itZ (itM xs f) (itM ys h)).n = (itM (xs.zip ys) fun p => .tup [f p.1, h p.2]).n := by
  show min xs.length ys.length = (xs.zip ys).length
  simp
theorem itZ_at {xs : List α} {f : α → D} {ys : List β} {h : β → D} : ∀ i, i < (itZ (itM xs f) (itM ys h)).n → (itZ (itM xs f) (itM ys h)).at_ i = (itM (xs.zip ys) fun p => .tup [f p.1, h p.2]).at_ i := fun i hi => by
  have hi : i < min xs.length ys.length := hi
  have e1 : xs[i]? = some xs[i] := by
    have : i < xs.length ∧ i < ys.length := by omega
    simp [this.1, this.2]
  have e2 : ys[i]? = some ys[i] := by
    have : i < xs.length ∧ i < ys.length := by omega
    simp [this.1, this.2]
  have e : (xs.zip ys)[i]? = some (xs[i], ys[i]) := by
    rw [List.getElem?_zip_eq_some]
    exact ⟨e1, e2⟩
  rw [itM_at e]
  show D.tup [(itM xs f).at_ i, (itM ys h).at_ i] = _
  rw [itM_at e1, itM_at e2]
/-! a walk as one over a list of Lean -/
theorem forM_l {xs : List α} {f : α → D} (h : ForD F (itM xs f) g ts D₀ ρ) : ForD F (itL (xs.map f)) g ts D₀ ρ := by rw [itM_eq]; exact h
theorem forM_r {lo : Int} (h : ForD F (itM (List.range n) fun i => .int (lo + (i : Nat))) g ts D₀ ρ) : ForD F (itR lo n) g ts D₀ ρ := ItD.ext_ itR_n itR_at (fun _ _ => trivial) h
theorem forM_e {xs : List α} {f : α → D} (h : ForD F (itM xs.zipIdx fun p => .tup [.int (p.2 : Nat), f p.1]) g ts D₀ ρ) : ForD F (itE (itL (xs.map f))) g ts D₀ ρ := by
  rw [itM_eq]
  exact ItD.ext_ itE_n itE_at (fun _ _ => trivial) h
theorem forM_z {xs : List α} {f : α → D} {ys : List β} {h' : β → D} (h : ForD F (itM (xs.zip ys) fun p => .tup [f p.1, h' p.2]) g ts D₀ ρ) : ForD F (itZ (itL (xs.map f)) (itL (ys.map h'))) g ts D₀ ρ := by
  rw [itM_eq, itM_eq]
  exact ItD.ext_ itZ_n itZ_at (fun _ _ => trivial) h
theorem lcM_l {xs : List α} {f : α → D} (h : LcD F (itM xs f) g tt te vs ρ Q) : LcD F (itL (xs.map f)) g tt te vs ρ Q := by rw [itM_eq]; exact h
theorem lcM_d (h : LcD F (itM ds id) g tt te vs ρ Q) : LcD F (itL ds) g tt te vs ρ Q := by
  have e : itL ds = itM ds id := by rw [← itM_eq, List.map_id]
  rw [e]
  exact h
theorem lcM_r {lo : Int} (h : LcD F (itM (List.range n) fun i => .int (lo + (i : Nat))) g tt te vs ρ Q) : LcD F (itR lo n) g tt te vs ρ Q := LcD.ext_ itR_n itR_at (fun _ _ => trivial) h
theorem lcM_e {xs : List α} {f : α → D} (h : LcD F (itM xs.zipIdx fun p => .tup [.int (p.2 : Nat), f p.1]) g tt te vs ρ Q) : LcD F (itE (itL (xs.map f))) g tt te vs ρ Q := by
  rw [itM_eq]
  exact LcD.ext_ itE_n itE_at (fun _ _ => trivial) h
theorem lcM_z {xs : List α} {f : α → D} {ys : List β} {h' : β → D} (h : LcD F (itM (xs.zip ys) fun p => .tup [f p.1, h' p.2]) g tt te vs ρ Q) : LcD F (itZ (itL (xs.map f)) (itL (ys.map h'))) g tt te vs ρ Q := by
  rw [itM_eq, itM_eq]
  exact LcD.ext_ itZ_n itZ_at (fun _ _ => trivial) h
/-! loops with a ghost state: st is folded -/
/-- for over a list: ahead of turn i the slots stand for V (of what was done so far, of type γ), which the fold of what is left takes to r -/
theorem forM {xs : List α} {f : α → D} (I : Nat → List SV → Prop) (h0 : Up (I 0) ρ) (ht : ∀ i y ρ2, xs[i]? = some y → I i ρ2 → Dg F g (.dat (f y) none) ρ2 fun ρ3 => Ds F ts { D₀ with nx := Up (I (i + 1)), ct := Up (I (i + 1)), bk := D₀.nx } ρ3) (he : ∀ ρ2, I xs.length ρ2 → D₀.nx ρ2) : ForD F (itM xs f) g ts D₀ ρ :=
  ⟨I, h0, fun i ρ2 hi hI => by
    have hi : i < xs.length := hi
    have e : xs[i]? = some xs[i] := by simp [hi]
    rw [itM_at e]
    exact ht i _ ρ2 e hI, he, fun _ _ _ => trivial⟩
/-- .. told by the rest of the list: G (rest) ρ -/
theorem forR {xs : List α} {f : α → D} (G : List α → List SV → Prop) (h0 : Up (G xs) ρ) (ht : ∀ y r ρ2, y ∈ xs → G (y :: r) ρ2 → Dg F g (.dat (f y) none) ρ2 fun ρ3 => Ds F ts { D₀ with nx := Up (G r), ct := Up (G r), bk := D₀.nx } ρ3) (he : ∀ ρ2, G [] ρ2 → D₀.nx ρ2) : ForD F (itM xs f) g ts D₀ ρ := by
  refine forM (fun i ρ2 => G (xs.drop i) ρ2) h0 (fun i y ρ2 hy hG => ?_) fun ρ2 hG => he ρ2 ?_
  · have hl := (List.getElem?_eq_some_iff.mp hy).1
    have e : xs.drop i = y :: xs.drop (i + 1) := by
      rw [List.drop_eq_getElem_cons hl]
      congr 1
      exact (List.getElem?_eq_some_iff.mp hy).2
    have hG : G (xs.drop i) ρ2 := hG
    rw [e] at hG
    exact ht y _ ρ2 (List.mem_of_getElem? hy) hG
  · have hG : G (xs.drop xs.length) ρ2 := hG
    rw [List.drop_length] at hG
    exact hG
/-- a comprehension that maps -/
theorem lc_map {xs : List α} {f : α → D} (h : α → D) (hn : xs.length ≤ 90000) (ht : ∀ y, y ∈ xs → Dg F g (.dat (f y) none) (wipeD ρ vs) fun ρ3 => Dt F tt ρ3 fun b ρ4 => b = true ∧ Dz F te ρ4 fun sv ρ5 => FzS [sv] ρ5 fun as ρ6 => One as fun d => d = h y ∧ Le (backD ρ ρ6 vs) ρ)
    (q : Q (.fr (.lst (xs.map h))) ρ) : LcD F (itM xs f) g tt te vs ρ Q := by
  refine ⟨hn, fun i acc ρ2 => ρ2 = ρ ∧ acc = (xs.take i).map h, up Le.refl ⟨rfl, by simp⟩, ?_, ?_, fun _ _ _ _ => trivial⟩
  · rintro i acc ρ2 hi ⟨rfl, rfl⟩
    have hi : i < xs.length := hi
    have e : xs[i]? = some xs[i] := by simp [hi]
    rw [itM_at e]
    refine fun X M N σ H v ok o Qh P => ht _ (List.getElem_mem hi) X M N σ H v ok o Qh fun ρ' M' N' σ' H' s ok' q => P ρ' M' N' σ' H' s ok' ?_
    refine fun X M N σ H ok Qh P => q X M N σ H ok Qh fun b ρ' M' N' H' s ok' q => P b ρ' M' N' H' s ok' ?_
    obtain ⟨rfl, q⟩ := q
    show Dz F te _ _
    refine fun X M N σ H ok Qh P => q X M N σ H ok Qh fun sv ρ' M' N' v H' s ok' o q => P sv ρ' M' N' v H' s ok' o ?_
    refine fzs_mono (fun as ρ6 q => ?_) q
    unfold One at q ⊢
    split at q
    · obtain ⟨rfl, l⟩ := q
      exact up l ⟨rfl, by rw [List.take_add_one, e, List.map_append]; rfl⟩
    · exact q
  · rintro acc ρ2 ⟨rfl, rfl⟩
    have e : xs.take (itM xs f).n = xs := List.take_length
    rw [e]
    exact q
/-- .. that maps and keeps some -/
theorem lc_fil {xs : List α} {f : α → D} (p : α → Bool) (h : α → D) (hn : xs.length ≤ 90000) (ht : ∀ y, y ∈ xs → Dg F g (.dat (f y) none) (wipeD ρ vs) fun ρ3 => Dt F tt ρ3 fun b ρ4 => b = p y ∧ if b = true then Dz F te ρ4 fun sv ρ5 => FzS [sv] ρ5 fun as ρ6 => One as fun d => d = h y ∧ Le (backD ρ ρ6 vs) ρ else Le (backD ρ ρ4 vs) ρ)
    (q : Q (.fr (.lst ((xs.filter p).map h))) ρ) : LcD F (itM xs f) g tt te vs ρ Q := by
  refine ⟨hn, fun i acc ρ2 => ρ2 = ρ ∧ acc = ((xs.take i).filter p).map h, up Le.refl ⟨rfl, by simp⟩, ?_, ?_, fun _ _ _ _ => trivial⟩
  · rintro i acc ρ2 hi ⟨rfl, rfl⟩
    have hi : i < xs.length := hi
    have e : xs[i]? = some xs[i] := by simp [hi]
    rw [itM_at e]
    refine fun X M N σ H v ok o Qh P => ht _ (List.getElem_mem hi) X M N σ H v ok o Qh fun ρ' M' N' σ' H' s ok' q => P ρ' M' N' σ' H' s ok' ?_
    refine fun X M N σ H ok Qh P => q X M N σ H ok Qh fun b ρ' M' N' H' s ok' q => P b ρ' M' N' H' s ok' ?_
    obtain ⟨eb, q⟩ := q
    have et : (xs.take (i + 1)).filter p = (xs.take i).filter p ++ if p xs[i] = true then [xs[i]] else [] := by
      rw [List.take_add_one, e, List.filter_append]
      congr 1
      show [xs[i]].filter p = _
      rw [List.filter_cons]
      rfl
    cases b with
    | false =>
      rw [if_neg Bool.false_ne_true] at q ⊢
      refine up q ⟨rfl, ?_⟩
      rw [et, ← eb]
      simp
    | true =>
      rw [if_pos rfl] at q ⊢
      refine fun X M N σ H ok Qh P => q X M N σ H ok Qh fun sv ρ' M' N' v H' s ok' o q => P sv ρ' M' N' v H' s ok' o ?_
      refine fzs_mono (fun as ρ6 q => ?_) q
      unfold One at q ⊢
      split at q
      · obtain ⟨rfl, l⟩ := q
        refine up l ⟨rfl, ?_⟩
        rw [et, ← eb, if_pos rfl, List.map_append]
        rfl
      · exact q
  · rintro acc ρ2 ⟨rfl, rfl⟩
    have e : xs.take (itM xs f).n = xs := List.take_length
    rw [e]
    exact q
end
end Cr

/-! The data level: what the laws' own defs ask: the script, the box, the same. -/
namespace Cr
open PySem PySem.Spec PyProof.Rows L2
section
variable {F : Fr} {X : Hp} {ρ ρ' : List SV} {M M' : Hp} {N : Nat → Hp} {σ : L2.St} {H H' : Hp} {sv a b c : SV} {v : V} {d e : D} {x y z : Option V} {p : Addr} {i k : Int} {j m n : Nat} {s u : Str} {D₀ : DEnds} {ds es : List D} {ts : TS}
variable {Q : SV → List SV → Prop} {K : PySem.W.Frag} {E : L2.St → XK}
/-- the script of a law -/
def ScriptS (K : PySem.W.Frag) : Hp → V → Prop := fun M v => ∃ (a : Addr) (ns : List Int), v = .ref a ∧ SqL K M a (ns.map V.int)
theorem cell_d (h0 : 0 ≤ k) (h1 : k ≤ 1000) (q : ∀ i, Q (.dat (.int i) none) ρ) : CallD F (spCell K) E [.raw (ScriptS K), .dat (.int k) x] ρ Q := fun X M N σ H vs ok pr Qh P => by
  obtain ⟨v, w, rfl, oa, ob⟩ := pair2 pr
  obtain rfl := Rep.un_int ob.1
  obtain ⟨a, ns, rfl, hs⟩ := oa M (Same.refl _)
  exact ⟨a, ns, k, rfl, sqL_mono hs ok.sub, h0, h1, fun i H' s => P.sx ok s Rep.int (q i)⟩
theorem len_scr (q : ∀ n : Nat, Q (.dat (.int n) none) ρ) : RAd F (rLenU K) [.raw (ScriptS K)] ρ Q := fun X M N σ H vs ok pr Qh P => by
  obtain ⟨v, rfl, oa⟩ := pair1 pr
  obtain ⟨a, ns, rfl, hs⟩ := oa M (Same.refl _)
  exact len_l (sqL_mono hs ok.sub) (P.sc ok Rep.int (q _))
theorem box_d (q : ∀ g k r c, 0 ≤ r → r < 2147483629 → 0 ≤ c → c ≤ 0 → Q (.fr (.lst [.int g, .bl k, .int r, .int c])) ρ) : CallD F spBox E [.dat (.int i) x] ρ Q := fun X M N σ H vs ok pr Qh P => by
  obtain ⟨v, rfl, oa⟩ := pair1 pr
  obtain rfl := Rep.un_int oa.1
  refine ⟨i, rfl, fun p H' s n ⟨g, r, c, k, e1, h1, h2, h3, h4⟩ => ?_⟩
  exact P.nl ok n s e1 (.cons .int (.cons .bl (.cons .int (.cons .int .nil)))) (q g k r c h1 h2 h3 h4)
/-- a new box in slot j -/
theorem to_box {g r c B : Int} {k : Bool} (hj : ρ[j]? = some (.own (.lst [.int g, .bl k, .int r, .int c]))) (h1 : 0 ≤ r) (h2 : r < 2147483629) (h3 : 0 ≤ c) (h4 : c ≤ B) (h : ∀ a, Ds F ts D₀ (ρ.set j (.box a B))) : Ds F ts D₀ ρ := fun X M N σ H ok Dh E => by
  obtain ⟨p, e, n0, xs, e1, r1⟩ := ok.slot j _ hj
  obtain ⟨v1, w1, rfl, q1, r1⟩ := RepL.un_cons r1
  obtain ⟨v2, w2, rfl, q2, r1⟩ := RepL.un_cons r1
  obtain ⟨v3, w3, rfl, q3, r1⟩ := RepL.un_cons r1
  obtain ⟨v4, w4, rfl, q4, r1⟩ := RepL.un_cons r1
  have e4 : w4 = [] := List.length_eq_zero_iff.mp r1.len
  subst e4
  obtain rfl := Rep.un_int q1
  obtain rfl := Rep.un_bl q2
  obtain rfl := Rep.un_int q3
  obtain rfl := Rep.un_int q4
  exact h p X M N σ H (ok.view fun _ => ⟨e, g, r, c, k, e1, h1, h2, h3, h4⟩) Dh E
/-- a list or a dict of its own, else data -/
def frOf (d : D) : SV := match d with
  | .lst _ => .fr d
  | .dct _ => .fr d
  | _ => .dat d none
theorem new_val (ok : OkS F X ρ M N σ H) (s : Same H H') (r : Rep (New H H') d v) {Qh : VK} (P : Pst F X M σ Q Qh) (q : Q (frOf d) ρ) : Qh v H' := by
  have sc : ∀ {d : D}, Rep (New H H') d v → Q (.dat d none) ρ → Qh v H' := fun {d} r q =>
    P (.dat d none) ρ (Gr M H H') N v H' (Gr.of ok.sub) (ok.grown s) ⟨r.mono (fun p o e => by
      obtain ⟨e1, e2⟩ := New.un e
      rw [Gr.nw e1]
      exact e2), IdOk.none⟩ q
  have top : ∀ {p : Addr} {o : HO}, New H H' p = some o → Same (del1 (New H H') p) (del1 (Gr M H H') p) := fun {p o} hp q o e => by
    by_cases z : q = p
    · subst z
      rw [del1_at] at e
      cases e
    · rw [del1_ne z] at e ⊢
      obtain ⟨e1, e2⟩ := New.un e
      rw [Gr.nw e1]
      exact e2
  cases d with
  | lst ds =>
    have r0 := r
    obtain ⟨p, xs, rfl, e, r1⟩ := Rep.un_lst r
    obtain ⟨e1, e2⟩ := New.un e
    refine P (.fr (.lst ds)) ρ (del1 (Gr M H H') p) N _ H' (fun q o z => ?_) (ok.grownD s e1) ⟨p, rfl, del1_at, ok.noN e1, ⟨ok.no0 e1, ok.noX e1⟩, xs, e2, RepL.mono (top e) ?_⟩ q
    · rw [del1_ne (ne_of_none (ok.sub _ _ z) e1)]
      exact Gr.of ok.sub _ _ z
    · have hd : del1 (New H H') p = fun q => if q = p then none else New H H' q := rfl
      refine RepL.keep ds (fun d' b o hs hr hb => ?_) r1
      by_cases z : b = p
      · subst z
        have := Rep.inj_size _ _ _ _ (Nat.le_refl _) hr r0
        rw [D.size_lst] at this
        omega
      · rw [del1_ne z]
        exact hb
  | dct ks =>
    have r0 := r
    obtain ⟨p, xs, rfl, e, r1⟩ := Rep.un_dct r
    obtain ⟨e1, e2⟩ := New.un e
    refine P (.fr (.dct ks)) ρ (del1 (Gr M H H') p) N _ H' (fun q o z => ?_) (ok.grownD s e1) ⟨p, rfl, del1_at, ok.noN e1, ⟨ok.no0 e1, ok.noX e1⟩, xs, e2, RepK.mono (top e) ?_⟩ q
    · rw [del1_ne (ne_of_none (ok.sub _ _ z) e1)]
      exact Gr.of ok.sub _ _ z
    · refine RepK.keep ks (fun d' b o hs hr hb => ?_) r1
      by_cases z : b = p
      · subst z
        have := Rep.inj_size _ _ _ _ (Nat.le_refl _) hr r0
        rw [D.size_dct] at this
        omega
      · rw [del1_ne z]
        exact hb
  | non => exact sc r q
  | bl b => exact sc r q
  | int b => exact sc r q
  | str b => exact sc r q
  | tup b => exact sc r q
/-! ### how deep, how long -/
theorem D.fitL_cons : D.fitL (d :: ds) ↔ d.fit ∧ D.fitL ds := by
  rw [D.fitL]
theorem D.fitL_nil : D.fitL [] ↔ True := by
  unfold D.fitL
  exact Iff.rfl
theorem D.deepL_cons : D.deepL (d :: ds) = max d.deep (D.deepL ds) := by
  rw [D.deepL]
theorem D.deepL_nil : D.deepL [] = 0 := by
  unfold D.deepL
  rfl
theorem D.fitL_all : D.fitL ds ↔ ∀ d ∈ ds, d.fit := by
  induction ds with
  | nil => simp [D.fitL_nil]
  | cons d ds ih => rw [D.fitL_cons, ih]; simp
theorem D.deepL_all {n : Nat} : D.deepL ds ≤ n ↔ ∀ d ∈ ds, d.deep ≤ n := by
  induction ds with
  | nil => simp [D.deepL_nil]
  | cons d ds ih =>
    rw [D.deepL_cons, Nat.max_le, ih]
    simp
end
/-- what a law promises -/
def dsLaw (K : PySem.W.Frag) : DSp := fun as Q _ => as = [.raw (ScriptS K)] ∧ Q (.dat (.bl true) none) 0
def spLaw (K : PySem.W.Frag) : Sp := fun vs H Q _ => ∃ (a : Addr) (ns : List Int), vs = [.ref a] ∧ SqL K H a (ns.map V.int) ∧ ∀ H', Q (.bl true) H'
theorem law_weak {K : PySem.W.Frag} {vs : List V} {H : Hp} {Q : VK} {E : XK} (h : spLaw K vs H Q E) : spOf (dsLaw K) vs H Q E := by
  obtain ⟨a, ns, rfl, hs, q⟩ := h
  refine ⟨H, none, [.raw (ScriptS K)], fun sv _ => sv = .dat (.bl true) none, fun _ _ _ => False, Same.refl _, .inl ⟨rfl, .cons (fun M' s => ⟨a, ns, rfl, sqL_mono hs s⟩) .nil⟩, ⟨rfl, rfl⟩, ?_, fun _ _ _ _ _ _ h => h.elim, fun _ _ h => h.elim⟩
  rintro sv B' v H' rfl _ _ ⟨r, _⟩
  obtain rfl := Rep.un_bl r
  exact q H'
end Cr

/-! The data level: several values at once, new lists among them kept apart. -/
namespace Cr
open PySem PySem.Spec PyProof.Rows L2
def FrOk (F : Fr) (M : Hp) (N : Nat → Hp) (σ : L2.St) (H : Hp) : Hp → List SV → List V → Prop
  | _, [], vs => vs = []
  | X, .fr d :: r, vs => ∃ p w, vs = .ref p :: w ∧ OkV F X M N σ H (.fr d) (.ref p) ∧ FrOk F M N σ H (ins X H p) r w
  | X, sv :: r, vs => ∃ v w, vs = v :: w ∧ OkT M σ sv v ∧ FrOk F M N σ H X r w
def DaF (F : Fr) (t : TA) (ρ : List SV) (Q : List SV → List SV → Prop) : Prop := ∀ X M N σ H, OkS F X ρ M N σ H → ∀ Qh : List V → Hp → Prop, (∀ as ρ' M' N' vs H', Same M M' → OkS F X ρ' M' N' σ H' → FrOk F M' N' σ H' X as vs → Q as ρ' → Qh vs H') → t σ H Qh
/-- what is no new list becomes data -/
def Kp (sv : SV) (ρ : List SV) (k : SV → List SV → Prop) : Prop := match sv with
  | .fr d => k (.fr d) ρ
  | .dat d x => k (.dat d x) ρ
  | .raw φ => k (.raw φ) ρ
  | .bor j => ∃ d, ρ[j]? = some (.own d) ∧ k (.dat d none) (ρ.set j (.dat d none))
  | _ => False
section
variable {F : Fr} {X : Hp} {ρ ρ' : List SV} {M M' : Hp} {N : Nat → Hp} {σ : L2.St} {H H' : Hp} {sv a b c : SV} {v : V} {d e : D} {x y z : Option V} {p : Addr} {j m n : Nat} {D₀ : DEnds}
variable {ta tb tc te : TE} {tr : TA} {Q : SV → List SV → Prop} {Qa : List SV → List SV → Prop} {Qs : List SV → Prop}
theorem kp_f {k : SV → List SV → Prop} (q : k (.fr d) ρ) : Kp (.fr d) ρ k := q
theorem kp_d {k : SV → List SV → Prop} (q : k (.dat d x) ρ) : Kp (.dat d x) ρ k := q
theorem kp_r {k : SV → List SV → Prop} {φ : Hp → V → Prop} (q : k (.raw φ) ρ) : Kp (.raw φ) ρ k := q
theorem kp_b {k : SV → List SV → Prop} (h : ρ[j]? = some (.own d)) (q : k (.dat d none) (ρ.set j (.dat d none))) : Kp (.bor j) ρ k := ⟨d, h, q⟩
theorem daf_nil (q : Qa [] ρ) : DaF F tNil ρ Qa := fun X M N σ H ok Qh P => P [] _ _ _ [] _ (Same.refl _) ok rfl q
theorem daf_cons (h : De F ta ρ fun a ρ1 => Kp a ρ1 fun a' ρ1' => DaF F tr ρ1' fun as ρ2 => Qa (a' :: as) ρ2) : DaF F (tCons ta tr) ρ Qa := fun X M N σ H ok Qh P =>
  h X M N σ H ok _ fun a ρ1 M1 N1 va H1 s1 ok1 oa hk => by
    have dat : ∀ {sv : SV} {ρ2 : List SV} {M2 : Hp} {N2 : Nat → Hp}, (∀ d, sv ≠ .fr d) → Same M M2 → OkS F X ρ2 M2 N2 σ H1 → OkT M2 σ sv va → DaF F tr ρ2 (fun as ρ3 => Qa (sv :: as) ρ3) → tr σ H1 fun xs H2 => Qh (va :: xs) H2 := by
      intro sv ρ2 M2 N2 nf s2 ok2 o2 h2
      refine h2 X M2 N2 σ H1 ok2 _ fun as ρ' M' N' vs H' s' ok' fo q => P (sv :: as) ρ' M' N' (va :: vs) H' (s2.trans s') ok' ?_ q
      cases sv <;> first | exact ⟨va, vs, rfl, o2.mono s', fo⟩ | exact absurd rfl (nf _)
    cases a <;> try exact False.elim hk
    · exact dat (sv := .dat _ _) (fun d => by intro z; cases z) s1 ok1 oa hk
    · obtain ⟨d, e, hk⟩ := hk
      obtain ⟨M2, N2, v1, s2, e1, r1, ok2⟩ := ok1.frz_own e
      have oa : σ[_]? = some (some va) := oa
      rw [oa] at e1
      cases e1
      exact dat (sv := .dat d none) (fun d => by intro z; cases z) (s1.trans s2) ok2 ⟨r1, IdOk.none⟩ hk
    · rename_i d
      obtain ⟨p, rfl, e1, e2, e3, e4⟩ := oa
      obtain ⟨u, hu⟩ := e4.some
      have hk : DaF F tr ρ1 fun as ρ2 => Qa (.fr d :: as) ρ2 := hk
      refine hk (ins X H1 p) M1 N1 σ H1 (ok1.xin e3.2 e1 e2) _ fun as ρ' M' N' vs H' s' ok' fo q => ?_
      have hp : ins X H1 p p = some u := by
        rw [ins_at]
        exact hu
      have ap := ok'.xapt p u hp
      have hH := ok'.xsub p u hp
      refine P (.fr d :: as) ρ' M' N' (.ref p :: vs) H' (s1.trans s') (ok'.xout e3.2 (F.up ok1.gok (Same.refl _) s')) ⟨p, vs, rfl, ⟨p, rfl, ap.1, ap.2, e3, (e4.mono s').to fun o z => ?_⟩, ?_⟩ q
      · rw [hu] at z
        cases z
        exact hH
      · have e : ins X H' p = ins X H1 p := by
          funext q
          by_cases z : q = p
          · subst z
            rw [ins_at, ins_at, hH, hu]
          · rw [ins_ne z, ins_ne z]
        rw [e]
        exact fo
    · exact dat (sv := .raw _) (fun d => by intro z; cases z) s1 ok1 oa hk
def stD (sv : SV) : SV := match sv with
  | .fr d => .own d
  | s => s
/-- the slots get the values, one by one -/
def putAll : List Nat → List SV → List SV → List SV
  | i :: is, sv :: r, ρ => putAll is r (ρ.set i (stD sv))
  | _, _, ρ => ρ
def setAll : List Nat → List V → L2.St → L2.St
  | i :: is, v :: r, σ => setAll is r (σ.set i (some v))
  | _, _, σ => σ
def GoodF : List SV → Prop
  | [] => True
  | .fr _ :: r => GoodF r
  | .dat _ _ :: r => GoodF r
  | .raw _ :: r => GoodF r
  | _ => False
theorem OkS.put_fr2 (h : OkS F X ρ M N σ H) {i : Nat} (e : OkV F X M N σ H (.fr d) (.ref p)) : ∃ N', OkS F X (ρ.set i (.own d)) M N' (σ.set i (some (.ref p))) H ∧ ∀ j q o, N' j q = some o → N j q = some o ∨ q = p := by
  obtain ⟨p', ep, e1, e2, e3, e4⟩ := e
  cases ep
  obtain ⟨u, hu⟩ := e4.some
  have h1 : OkS F X (ρ.set i .un) M N (σ.set i (some (.ref p))) H := h.put_un
  have h2 := h1.chg (i := i) (u := u) e1 e3.2 (fun j _ => e2 j) (.inl e3.1) But.refl hu (fun s hs => by
    rcases set_get hs with ⟨_, rfl, _⟩ | ⟨z, _⟩
    · trivial
    · exact (z rfl).elim)
  have h3 := h2.view (i := i) (sv := .own d) (fun hl => ⟨p, ?_, e3.1, ?_⟩)
  · rw [List.set_set] at h3
    refine ⟨_, h3, fun j q o z => ?_⟩
    by_cases w : j = i
    · subst w
      rw [reN_at] at z
      exact .inr (single_un z).1
    · rw [reN_ne w] at z
      exact .inl z
  · rw [set_at]
    rw [set_len] at hl
    rw [h.len]
    exact hl
  · rw [reN_at]
    refine e4.to fun o z => ?_
    rw [hu] at z
    cases z
    exact single_at
theorem OkS.putAll {N0 : Nat → Hp} {σ0 : L2.St} : ∀ {is : List Nat} {as : List SV} {vs : List V} {Y : Hp} {ρ : List SV} {N : Nat → Hp} {σ : L2.St}, GoodF as → is.length = as.length → Same X Y →
    (∀ j q o, N j q = some o → (∃ u, N0 j q = some u) ∨ ∃ u, Y q = some u) → OkS F X ρ M N σ H → FrOk F M N0 σ0 H Y as vs → ∃ N', OkS F X (Cr.putAll is as ρ) M N' (setAll is vs σ) H
  | [], [], vs, Y, ρ, N, σ, _, _, _, _, ok, fo => by
    have e : vs = [] := fo
    subst e
    exact ⟨N, ok⟩
  | i :: is, .fr d :: r, vs, Y, ρ, N, σ, gf, hl, sy, inv, ok, fo => by
    obtain ⟨p, w, rfl, ⟨p', ep, e1, e2, e3, e4⟩, fo⟩ := fo
    cases ep
    obtain ⟨u, hu⟩ := e4.some
    have n1 : ∀ j, N j p = none := fun j => by
      cases z : N j p with
      | none => rfl
      | some o =>
        rcases inv j p o z with ⟨u, z⟩ | ⟨u, z⟩
        · rw [e2 j] at z
          cases z
        · rw [e3.2] at z
          cases z
    have n2 : X p = none := by
      cases z : X p with
      | none => rfl
      | some o =>
        have := sy p o z
        rw [e3.2] at this
        cases this
    have ov : OkV F X M N σ H (.fr d) (.ref p) := ⟨p, rfl, e1, n1, ⟨e3.1, n2⟩, e4⟩
    obtain ⟨N', ok', hN'⟩ := ok.put_fr2 (i := i) ov
    refine OkS.putAll (is := is) gf (by simpa using hl) (fun q o z => ?_) (fun j q o z => ?_) ok' fo
    · rw [ins_ne]
      · exact sy q o z
      · intro w
        subst w
        have := sy q o z
        rw [e3.2] at this
        cases this
    · rcases hN' j q o z with z | rfl
      · rcases inv j q o z with z | ⟨u', z⟩
        · exact .inl z
        · refine .inr ⟨u', ?_⟩
          rw [ins_ne]
          · exact z
          · intro w
            subst w
            rw [e3.2] at z
            cases z
      · refine .inr ⟨u, ?_⟩
        rw [ins_at]
        exact hu
  | i :: is, .dat d x :: r, vs, Y, ρ, N, σ, gf, hl, sy, inv, ok, fo => by
    obtain ⟨v, w, rfl, o, fo⟩ := fo
    exact OkS.putAll (is := is) gf (by simpa using hl) sy inv (ok.put_t o) fo
  | i :: is, .raw φ :: r, vs, Y, ρ, N, σ, gf, hl, sy, inv, ok, fo => by
    obtain ⟨v, w, rfl, o, fo⟩ := fo
    exact OkS.putAll (is := is) gf (by simpa using hl) sy inv (ok.put_raw o) fo
  | [], _ :: _, _, _, _, _, _, _, hl, _, _, _, _ => by cases hl
  | _ :: _, [], _, _, _, _, _, _, hl, _, _, _, _ => by cases hl
  | _, .un :: _, _, _, _, _, _, gf, _, _, _, _, _ => gf.elim
  | _, .own _ :: _, _, _, _, _, _, gf, _, _, _, _, _ => gf.elim
  | _, .box _ _ :: _, _, _, _, _, _, gf, _, _, _, _, _ => gf.elim
  | _, .bor _ :: _, _, _, _, _, _, gf, _, _, _, _, _ => gf.elim
  | _, .lk _ _ _ _ :: _, _, _, _, _, _, gf, _, _, _, _, _ => gf.elim
theorem frOk_len : ∀ {as : List SV} {vs : List V} {X : Hp}, FrOk F M N σ H X as vs → vs.length = as.length
  | [], vs, X, h => by
    have e : vs = [] := h
    rw [e]
    rfl
  | .fr d :: r, vs, X, h => by
    obtain ⟨p, w, rfl, _, h⟩ := h
    simp [frOk_len h]
  | .dat d x :: r, vs, X, h => by
    obtain ⟨v, w, rfl, _, h⟩ := h
    simp [frOk_len h]
  | .raw d :: r, vs, X, h => by
    obtain ⟨v, w, rfl, _, h⟩ := h
    simp [frOk_len h]
  | .bor d :: r, vs, X, h => by
    obtain ⟨v, w, rfl, _, h⟩ := h
    simp [frOk_len h]
  | .un :: r, vs, X, h => by
    obtain ⟨v, w, rfl, h, _⟩ := h
    exact h.elim
  | .own d :: r, vs, X, h => by
    obtain ⟨v, w, rfl, h, _⟩ := h
    exact h.elim
  | .box d e :: r, vs, X, h => by
    obtain ⟨v, w, rfl, h, _⟩ := h
    exact h.elim
  | .lk _ _ _ _ :: r, vs, X, h => by
    obtain ⟨v, w, rfl, h, _⟩ := h
    exact h.elim
theorem ds_parF {i j : Nat} (h : DaF F tr ρ fun as ρ1 => as.length = 2 ∧ GoodF as ∧ D₀.nx (putAll [i, j] as ρ1)) : Ds F (tPar i j tr) D₀ ρ := fun X M N σ H ok Dh E =>
  h X M N σ H ok _ fun as ρ1 M1 N1 vs H1 s1 ok1 fo ⟨hl, gf, q⟩ => by
    have hv := frOk_len fo
    rw [hl] at hv
    match vs, hv with
    | [v, w], _ =>
      obtain ⟨N', ok'⟩ := OkS.putAll (is := [i, j]) gf hl.symm (Same.refl _) (fun j q o z => .inl ⟨o, z⟩) ok1 fo
      exact ⟨v, w, rfl, E.nx _ _ _ _ _ s1 ok' q⟩
theorem ds_parF3 {i j l : Nat} (h : DaF F tr ρ fun as ρ1 => as.length = 3 ∧ GoodF as ∧ D₀.nx (putAll [i, j, l] as ρ1)) : Ds F (tPar3 i j l tr) D₀ ρ := fun X M N σ H ok Dh E =>
  h X M N σ H ok _ fun as ρ1 M1 N1 vs H1 s1 ok1 fo ⟨hl, gf, q⟩ => by
    have hv := frOk_len fo
    rw [hl] at hv
    match vs, hv with
    | [v, w, u], _ =>
      obtain ⟨N', ok'⟩ := OkS.putAll (is := [i, j, l]) gf hl.symm (Same.refl _) (fun j q o z => .inl ⟨o, z⟩) ok1 fo
      exact ⟨v, w, u, rfl, E.nx _ _ _ _ _ s1 ok' q⟩
theorem dl0 {kk : List D → Prop} (q : kk []) : ∃ ds, DatL [] ds ∧ ([] : List SV).length ≤ 100000 ∧ kk ds := ⟨_, datL_nil, Nat.le_of_ble_eq_true rfl, q⟩
theorem dl1 {d0 : D} {x0 : Option V} {kk : List D → Prop} (q : kk [d0]) : ∃ ds, DatL [.dat d0 x0] ds ∧ ([.dat d0 x0] : List SV).length ≤ 100000 ∧ kk ds := ⟨_, datL_cons (datL_nil), Nat.le_of_ble_eq_true rfl, q⟩
theorem dl2 {d0 d1 : D} {x0 x1 : Option V} {kk : List D → Prop} (q : kk [d0, d1]) : ∃ ds, DatL [.dat d0 x0, .dat d1 x1] ds ∧ ([.dat d0 x0, .dat d1 x1] : List SV).length ≤ 100000 ∧ kk ds := ⟨_, datL_cons (datL_cons (datL_nil)), Nat.le_of_ble_eq_true rfl, q⟩
theorem dl3 {d0 d1 d2 : D} {x0 x1 x2 : Option V} {kk : List D → Prop} (q : kk [d0, d1, d2]) : ∃ ds, DatL [.dat d0 x0, .dat d1 x1, .dat d2 x2] ds ∧ ([.dat d0 x0, .dat d1 x1, .dat d2 x2] : List SV).length ≤ 100000 ∧ kk ds := ⟨_, datL_cons (datL_cons (datL_cons (datL_nil))), Nat.le_of_ble_eq_true rfl, q⟩
theorem dl4 {d0 d1 d2 d3 : D} {x0 x1 x2 x3 : Option V} {kk : List D → Prop} (q : kk [d0, d1, d2, d3]) : ∃ ds, DatL [.dat d0 x0, .dat d1 x1, .dat d2 x2, .dat d3 x3] ds ∧ ([.dat d0 x0, .dat d1 x1, .dat d2 x2, .dat d3 x3] : List SV).length ≤ 100000 ∧ kk ds := ⟨_, datL_cons (datL_cons (datL_cons (datL_cons (datL_nil)))), Nat.le_of_ble_eq_true rfl, q⟩
theorem dl5 {d0 d1 d2 d3 d4 : D} {x0 x1 x2 x3 x4 : Option V} {kk : List D → Prop} (q : kk [d0, d1, d2, d3, d4]) : ∃ ds, DatL [.dat d0 x0, .dat d1 x1, .dat d2 x2, .dat d3 x3, .dat d4 x4] ds ∧ ([.dat d0 x0, .dat d1 x1, .dat d2 x2, .dat d3 x3, .dat d4 x4] : List SV).length ≤ 100000 ∧ kk ds := ⟨_, datL_cons (datL_cons (datL_cons (datL_cons (datL_cons (datL_nil))))), Nat.le_of_ble_eq_true rfl, q⟩
theorem dl6 {d0 d1 d2 d3 d4 d5 : D} {x0 x1 x2 x3 x4 x5 : Option V} {kk : List D → Prop} (q : kk [d0, d1, d2, d3, d4, d5]) : ∃ ds, DatL [.dat d0 x0, .dat d1 x1, .dat d2 x2, .dat d3 x3, .dat d4 x4, .dat d5 x5] ds ∧ ([.dat d0 x0, .dat d1 x1, .dat d2 x2, .dat d3 x3, .dat d4 x4, .dat d5 x5] : List SV).length ≤ 100000 ∧ kk ds := ⟨_, datL_cons (datL_cons (datL_cons (datL_cons (datL_cons (datL_cons (datL_nil)))))), Nat.le_of_ble_eq_true rfl, q⟩
theorem dl7 {d0 d1 d2 d3 d4 d5 d6 : D} {x0 x1 x2 x3 x4 x5 x6 : Option V} {kk : List D → Prop} (q : kk [d0, d1, d2, d3, d4, d5, d6]) : ∃ ds, DatL [.dat d0 x0, .dat d1 x1, .dat d2 x2, .dat d3 x3, .dat d4 x4, .dat d5 x5, .dat d6 x6] ds ∧ ([.dat d0 x0, .dat d1 x1, .dat d2 x2, .dat d3 x3, .dat d4 x4, .dat d5 x5, .dat d6 x6] : List SV).length ≤ 100000 ∧ kk ds := ⟨_, datL_cons (datL_cons (datL_cons (datL_cons (datL_cons (datL_cons (datL_cons (datL_nil))))))), Nat.le_of_ble_eq_true rfl, q⟩
theorem dl8 {d0 d1 d2 d3 d4 d5 d6 d7 : D} {x0 x1 x2 x3 x4 x5 x6 x7 : Option V} {kk : List D → Prop} (q : kk [d0, d1, d2, d3, d4, d5, d6, d7]) : ∃ ds, DatL [.dat d0 x0, .dat d1 x1, .dat d2 x2, .dat d3 x3, .dat d4 x4, .dat d5 x5, .dat d6 x6, .dat d7 x7] ds ∧ ([.dat d0 x0, .dat d1 x1, .dat d2 x2, .dat d3 x3, .dat d4 x4, .dat d5 x5, .dat d6 x6, .dat d7 x7] : List SV).length ≤ 100000 ∧ kk ds := ⟨_, datL_cons (datL_cons (datL_cons (datL_cons (datL_cons (datL_cons (datL_cons (datL_cons (datL_nil)))))))), Nat.le_of_ble_eq_true rfl, q⟩
theorem dl9 {d0 d1 d2 d3 d4 d5 d6 d7 d8 : D} {x0 x1 x2 x3 x4 x5 x6 x7 x8 : Option V} {kk : List D → Prop} (q : kk [d0, d1, d2, d3, d4, d5, d6, d7, d8]) : ∃ ds, DatL [.dat d0 x0, .dat d1 x1, .dat d2 x2, .dat d3 x3, .dat d4 x4, .dat d5 x5, .dat d6 x6, .dat d7 x7, .dat d8 x8] ds ∧ ([.dat d0 x0, .dat d1 x1, .dat d2 x2, .dat d3 x3, .dat d4 x4, .dat d5 x5, .dat d6 x6, .dat d7 x7, .dat d8 x8] : List SV).length ≤ 100000 ∧ kk ds := ⟨_, datL_cons (datL_cons (datL_cons (datL_cons (datL_cons (datL_cons (datL_cons (datL_cons (datL_cons (datL_nil))))))))), Nat.le_of_ble_eq_true rfl, q⟩
theorem dl10 {d0 d1 d2 d3 d4 d5 d6 d7 d8 d9 : D} {x0 x1 x2 x3 x4 x5 x6 x7 x8 x9 : Option V} {kk : List D → Prop} (q : kk [d0, d1, d2, d3, d4, d5, d6, d7, d8, d9]) : ∃ ds, DatL [.dat d0 x0, .dat d1 x1, .dat d2 x2, .dat d3 x3, .dat d4 x4, .dat d5 x5, .dat d6 x6, .dat d7 x7, .dat d8 x8, .dat d9 x9] ds ∧ ([.dat d0 x0, .dat d1 x1, .dat d2 x2, .dat d3 x3, .dat d4 x4, .dat d5 x5, .dat d6 x6, .dat d7 x7, .dat d8 x8, .dat d9 x9] : List SV).length ≤ 100000 ∧ kk ds := ⟨_, datL_cons (datL_cons (datL_cons (datL_cons (datL_cons (datL_cons (datL_cons (datL_cons (datL_cons (datL_cons (datL_nil)))))))))), Nat.le_of_ble_eq_true rfl, q⟩
theorem dl11 {d0 d1 d2 d3 d4 d5 d6 d7 d8 d9 d10 : D} {x0 x1 x2 x3 x4 x5 x6 x7 x8 x9 x10 : Option V} {kk : List D → Prop} (q : kk [d0, d1, d2, d3, d4, d5, d6, d7, d8, d9, d10]) : ∃ ds, DatL [.dat d0 x0, .dat d1 x1, .dat d2 x2, .dat d3 x3, .dat d4 x4, .dat d5 x5, .dat d6 x6, .dat d7 x7, .dat d8 x8, .dat d9 x9, .dat d10 x10] ds ∧ ([.dat d0 x0, .dat d1 x1, .dat d2 x2, .dat d3 x3, .dat d4 x4, .dat d5 x5, .dat d6 x6, .dat d7 x7, .dat d8 x8, .dat d9 x9, .dat d10 x10] : List SV).length ≤ 100000 ∧ kk ds := ⟨_, datL_cons (datL_cons (datL_cons (datL_cons (datL_cons (datL_cons (datL_cons (datL_cons (datL_cons (datL_cons (datL_cons (datL_nil))))))))))), Nat.le_of_ble_eq_true rfl, q⟩
theorem dl12 {d0 d1 d2 d3 d4 d5 d6 d7 d8 d9 d10 d11 : D} {x0 x1 x2 x3 x4 x5 x6 x7 x8 x9 x10 x11 : Option V} {kk : List D → Prop} (q : kk [d0, d1, d2, d3, d4, d5, d6, d7, d8, d9, d10, d11]) : ∃ ds, DatL [.dat d0 x0, .dat d1 x1, .dat d2 x2, .dat d3 x3, .dat d4 x4, .dat d5 x5, .dat d6 x6, .dat d7 x7, .dat d8 x8, .dat d9 x9, .dat d10 x10, .dat d11 x11] ds ∧ ([.dat d0 x0, .dat d1 x1, .dat d2 x2, .dat d3 x3, .dat d4 x4, .dat d5 x5, .dat d6 x6, .dat d7 x7, .dat d8 x8, .dat d9 x9, .dat d10 x10, .dat d11 x11] : List SV).length ≤ 100000 ∧ kk ds := ⟨_, datL_cons (datL_cons (datL_cons (datL_cons (datL_cons (datL_cons (datL_cons (datL_cons (datL_cons (datL_cons (datL_cons (datL_cons (datL_nil)))))))))))), Nat.le_of_ble_eq_true rfl, q⟩
theorem dl13 {d0 d1 d2 d3 d4 d5 d6 d7 d8 d9 d10 d11 d12 : D} {x0 x1 x2 x3 x4 x5 x6 x7 x8 x9 x10 x11 x12 : Option V} {kk : List D → Prop} (q : kk [d0, d1, d2, d3, d4, d5, d6, d7, d8, d9, d10, d11, d12]) : ∃ ds, DatL [.dat d0 x0, .dat d1 x1, .dat d2 x2, .dat d3 x3, .dat d4 x4, .dat d5 x5, .dat d6 x6, .dat d7 x7, .dat d8 x8, .dat d9 x9, .dat d10 x10, .dat d11 x11, .dat d12 x12] ds ∧ ([.dat d0 x0, .dat d1 x1, .dat d2 x2, .dat d3 x3, .dat d4 x4, .dat d5 x5, .dat d6 x6, .dat d7 x7, .dat d8 x8, .dat d9 x9, .dat d10 x10, .dat d11 x11, .dat d12 x12] : List SV).length ≤ 100000 ∧ kk ds := ⟨_, datL_cons (datL_cons (datL_cons (datL_cons (datL_cons (datL_cons (datL_cons (datL_cons (datL_cons (datL_cons (datL_cons (datL_cons (datL_cons (datL_nil))))))))))))), Nat.le_of_ble_eq_true rfl, q⟩
theorem dl14 {d0 d1 d2 d3 d4 d5 d6 d7 d8 d9 d10 d11 d12 d13 : D} {x0 x1 x2 x3 x4 x5 x6 x7 x8 x9 x10 x11 x12 x13 : Option V} {kk : List D → Prop} (q : kk [d0, d1, d2, d3, d4, d5, d6, d7, d8, d9, d10, d11, d12, d13]) : ∃ ds, DatL [.dat d0 x0, .dat d1 x1, .dat d2 x2, .dat d3 x3, .dat d4 x4, .dat d5 x5, .dat d6 x6, .dat d7 x7, .dat d8 x8, .dat d9 x9, .dat d10 x10, .dat d11 x11, .dat d12 x12, .dat d13 x13] ds ∧ ([.dat d0 x0, .dat d1 x1, .dat d2 x2, .dat d3 x3, .dat d4 x4, .dat d5 x5, .dat d6 x6, .dat d7 x7, .dat d8 x8, .dat d9 x9, .dat d10 x10, .dat d11 x11, .dat d12 x12, .dat d13 x13] : List SV).length ≤ 100000 ∧ kk ds := ⟨_, datL_cons (datL_cons (datL_cons (datL_cons (datL_cons (datL_cons (datL_cons (datL_cons (datL_cons (datL_cons (datL_cons (datL_cons (datL_cons (datL_cons (datL_nil)))))))))))))), Nat.le_of_ble_eq_true rfl, q⟩
theorem dl15 {d0 d1 d2 d3 d4 d5 d6 d7 d8 d9 d10 d11 d12 d13 d14 : D} {x0 x1 x2 x3 x4 x5 x6 x7 x8 x9 x10 x11 x12 x13 x14 : Option V} {kk : List D → Prop} (q : kk [d0, d1, d2, d3, d4, d5, d6, d7, d8, d9, d10, d11, d12, d13, d14]) : ∃ ds, DatL [.dat d0 x0, .dat d1 x1, .dat d2 x2, .dat d3 x3, .dat d4 x4, .dat d5 x5, .dat d6 x6, .dat d7 x7, .dat d8 x8, .dat d9 x9, .dat d10 x10, .dat d11 x11, .dat d12 x12, .dat d13 x13, .dat d14 x14] ds ∧ ([.dat d0 x0, .dat d1 x1, .dat d2 x2, .dat d3 x3, .dat d4 x4, .dat d5 x5, .dat d6 x6, .dat d7 x7, .dat d8 x8, .dat d9 x9, .dat d10 x10, .dat d11 x11, .dat d12 x12, .dat d13 x13, .dat d14 x14] : List SV).length ≤ 100000 ∧ kk ds := ⟨_, datL_cons (datL_cons (datL_cons (datL_cons (datL_cons (datL_cons (datL_cons (datL_cons (datL_cons (datL_cons (datL_cons (datL_cons (datL_cons (datL_cons (datL_cons (datL_nil))))))))))))))), Nat.le_of_ble_eq_true rfl, q⟩
theorem dl16 {d0 d1 d2 d3 d4 d5 d6 d7 d8 d9 d10 d11 d12 d13 d14 d15 : D} {x0 x1 x2 x3 x4 x5 x6 x7 x8 x9 x10 x11 x12 x13 x14 x15 : Option V} {kk : List D → Prop} (q : kk [d0, d1, d2, d3, d4, d5, d6, d7, d8, d9, d10, d11, d12, d13, d14, d15]) : ∃ ds, DatL [.dat d0 x0, .dat d1 x1, .dat d2 x2, .dat d3 x3, .dat d4 x4, .dat d5 x5, .dat d6 x6, .dat d7 x7, .dat d8 x8, .dat d9 x9, .dat d10 x10, .dat d11 x11, .dat d12 x12, .dat d13 x13, .dat d14 x14, .dat d15 x15] ds ∧ ([.dat d0 x0, .dat d1 x1, .dat d2 x2, .dat d3 x3, .dat d4 x4, .dat d5 x5, .dat d6 x6, .dat d7 x7, .dat d8 x8, .dat d9 x9, .dat d10 x10, .dat d11 x11, .dat d12 x12, .dat d13 x13, .dat d14 x14, .dat d15 x15] : List SV).length ≤ 100000 ∧ kk ds := ⟨_, datL_cons (datL_cons (datL_cons (datL_cons (datL_cons (datL_cons (datL_cons (datL_cons (datL_cons (datL_cons (datL_cons (datL_cons (datL_cons (datL_cons (datL_cons (datL_cons (datL_nil)))))))))))))))), Nat.le_of_ble_eq_true rfl, q⟩
theorem dl17 {d0 d1 d2 d3 d4 d5 d6 d7 d8 d9 d10 d11 d12 d13 d14 d15 d16 : D} {x0 x1 x2 x3 x4 x5 x6 x7 x8 x9 x10 x11 x12 x13 x14 x15 x16 : Option V} {kk : List D → Prop} (q : kk [d0, d1, d2, d3, d4, d5, d6, d7, d8, d9, d10, d11, d12, d13, d14, d15, d16]) : ∃ ds, DatL [.dat d0 x0, .dat d1 x1, .dat d2 x2, .dat d3 x3, .dat d4 x4, .dat d5 x5, .dat d6 x6, .dat d7 x7, .dat d8 x8, .dat d9 x9, .dat d10 x10, .dat d11 x11, .dat d12 x12, .dat d13 x13, .dat d14 x14, .dat d15 x15, .dat d16 x16] ds ∧ ([.dat d0 x0, .dat d1 x1, .dat d2 x2, .dat d3 x3, .dat d4 x4, .dat d5 x5, .dat d6 x6, .dat d7 x7, .dat d8 x8, .dat d9 x9, .dat d10 x10, .dat d11 x11, .dat d12 x12, .dat d13 x13, .dat d14 x14, .dat d15 x15, .dat d16 x16] : List SV).length ≤ 100000 ∧ kk ds := ⟨_, datL_cons (datL_cons (datL_cons (datL_cons (datL_cons (datL_cons (datL_cons (datL_cons (datL_cons (datL_cons (datL_cons (datL_cons (datL_cons (datL_cons (datL_cons (datL_cons (datL_cons (datL_nil))))))))))))))))), Nat.le_of_ble_eq_true rfl, q⟩
theorem dl18 {d0 d1 d2 d3 d4 d5 d6 d7 d8 d9 d10 d11 d12 d13 d14 d15 d16 d17 : D} {x0 x1 x2 x3 x4 x5 x6 x7 x8 x9 x10 x11 x12 x13 x14 x15 x16 x17 : Option V} {kk : List D → Prop} (q : kk [d0, d1, d2, d3, d4, d5, d6, d7, d8, d9, d10, d11, d12, d13, d14, d15, d16, d17]) : ∃ ds, DatL [.dat d0 x0, .dat d1 x1, .dat d2 x2, .dat d3 x3, .dat d4 x4, .dat d5 x5, .dat d6 x6, .dat d7 x7, .dat d8 x8, .dat d9 x9, .dat d10 x10, .dat d11 x11, .dat d12 x12, .dat d13 x13, .dat d14 x14, .dat d15 x15, .dat d16 x16, .dat d17 x17] ds ∧ ([.dat d0 x0, .dat d1 x1, .dat d2 x2, .dat d3 x3, .dat d4 x4, .dat d5 x5, .dat d6 x6, .dat d7 x7, .dat d8 x8, .dat d9 x9, .dat d10 x10, .dat d11 x11, .dat d12 x12, .dat d13 x13, .dat d14 x14, .dat d15 x15, .dat d16 x16, .dat d17 x17] : List SV).length ≤ 100000 ∧ kk ds := ⟨_, datL_cons (datL_cons (datL_cons (datL_cons (datL_cons (datL_cons (datL_cons (datL_cons (datL_cons (datL_cons (datL_cons (datL_cons (datL_cons (datL_cons (datL_cons (datL_cons (datL_cons (datL_cons (datL_nil)))))))))))))))))), Nat.le_of_ble_eq_true rfl, q⟩
theorem dl19 {d0 d1 d2 d3 d4 d5 d6 d7 d8 d9 d10 d11 d12 d13 d14 d15 d16 d17 d18 : D} {x0 x1 x2 x3 x4 x5 x6 x7 x8 x9 x10 x11 x12 x13 x14 x15 x16 x17 x18 : Option V} {kk : List D → Prop} (q : kk [d0, d1, d2, d3, d4, d5, d6, d7, d8, d9, d10, d11, d12, d13, d14, d15, d16, d17, d18]) : ∃ ds, DatL [.dat d0 x0, .dat d1 x1, .dat d2 x2, .dat d3 x3, .dat d4 x4, .dat d5 x5, .dat d6 x6, .dat d7 x7, .dat d8 x8, .dat d9 x9, .dat d10 x10, .dat d11 x11, .dat d12 x12, .dat d13 x13, .dat d14 x14, .dat d15 x15, .dat d16 x16, .dat d17 x17, .dat d18 x18] ds ∧ ([.dat d0 x0, .dat d1 x1, .dat d2 x2, .dat d3 x3, .dat d4 x4, .dat d5 x5, .dat d6 x6, .dat d7 x7, .dat d8 x8, .dat d9 x9, .dat d10 x10, .dat d11 x11, .dat d12 x12, .dat d13 x13, .dat d14 x14, .dat d15 x15, .dat d16 x16, .dat d17 x17, .dat d18 x18] : List SV).length ≤ 100000 ∧ kk ds := ⟨_, datL_cons (datL_cons (datL_cons (datL_cons (datL_cons (datL_cons (datL_cons (datL_cons (datL_cons (datL_cons (datL_cons (datL_cons (datL_cons (datL_cons (datL_cons (datL_cons (datL_cons (datL_cons (datL_cons (datL_nil))))))))))))))))))), Nat.le_of_ble_eq_true rfl, q⟩
theorem dl20 {d0 d1 d2 d3 d4 d5 d6 d7 d8 d9 d10 d11 d12 d13 d14 d15 d16 d17 d18 d19 : D} {x0 x1 x2 x3 x4 x5 x6 x7 x8 x9 x10 x11 x12 x13 x14 x15 x16 x17 x18 x19 : Option V} {kk : List D → Prop} (q : kk [d0, d1, d2, d3, d4, d5, d6, d7, d8, d9, d10, d11, d12, d13, d14, d15, d16, d17, d18, d19]) : ∃ ds, DatL [.dat d0 x0, .dat d1 x1, .dat d2 x2, .dat d3 x3, .dat d4 x4, .dat d5 x5, .dat d6 x6, .dat d7 x7, .dat d8 x8, .dat d9 x9, .dat d10 x10, .dat d11 x11, .dat d12 x12, .dat d13 x13, .dat d14 x14, .dat d15 x15, .dat d16 x16, .dat d17 x17, .dat d18 x18, .dat d19 x19] ds ∧ ([.dat d0 x0, .dat d1 x1, .dat d2 x2, .dat d3 x3, .dat d4 x4, .dat d5 x5, .dat d6 x6, .dat d7 x7, .dat d8 x8, .dat d9 x9, .dat d10 x10, .dat d11 x11, .dat d12 x12, .dat d13 x13, .dat d14 x14, .dat d15 x15, .dat d16 x16, .dat d17 x17, .dat d18 x18, .dat d19 x19] : List SV).length ≤ 100000 ∧ kk ds := ⟨_, datL_cons (datL_cons (datL_cons (datL_cons (datL_cons (datL_cons (datL_cons (datL_cons (datL_cons (datL_cons (datL_cons (datL_cons (datL_cons (datL_cons (datL_cons (datL_cons (datL_cons (datL_cons (datL_cons (datL_cons (datL_nil)))))))))))))))))))), Nat.le_of_ble_eq_true rfl, q⟩
theorem dl21 {d0 d1 d2 d3 d4 d5 d6 d7 d8 d9 d10 d11 d12 d13 d14 d15 d16 d17 d18 d19 d20 : D} {x0 x1 x2 x3 x4 x5 x6 x7 x8 x9 x10 x11 x12 x13 x14 x15 x16 x17 x18 x19 x20 : Option V} {kk : List D → Prop} (q : kk [d0, d1, d2, d3, d4, d5, d6, d7, d8, d9, d10, d11, d12, d13, d14, d15, d16, d17, d18, d19, d20]) : ∃ ds, DatL [.dat d0 x0, .dat d1 x1, .dat d2 x2, .dat d3 x3, .dat d4 x4, .dat d5 x5, .dat d6 x6, .dat d7 x7, .dat d8 x8, .dat d9 x9, .dat d10 x10, .dat d11 x11, .dat d12 x12, .dat d13 x13, .dat d14 x14, .dat d15 x15, .dat d16 x16, .dat d17 x17, .dat d18 x18, .dat d19 x19, .dat d20 x20] ds ∧ ([.dat d0 x0, .dat d1 x1, .dat d2 x2, .dat d3 x3, .dat d4 x4, .dat d5 x5, .dat d6 x6, .dat d7 x7, .dat d8 x8, .dat d9 x9, .dat d10 x10, .dat d11 x11, .dat d12 x12, .dat d13 x13, .dat d14 x14, .dat d15 x15, .dat d16 x16, .dat d17 x17, .dat d18 x18, .dat d19 x19, .dat d20 x20] : List SV).length ≤ 100000 ∧ kk ds := ⟨_, datL_cons (datL_cons (datL_cons (datL_cons (datL_cons (datL_cons (datL_cons (datL_cons (datL_cons (datL_cons (datL_cons (datL_cons (datL_cons (datL_cons (datL_cons (datL_cons (datL_cons (datL_cons (datL_cons (datL_cons (datL_cons (datL_nil))))))))))))))))))))), Nat.le_of_ble_eq_true rfl, q⟩
theorem dl22 {d0 d1 d2 d3 d4 d5 d6 d7 d8 d9 d10 d11 d12 d13 d14 d15 d16 d17 d18 d19 d20 d21 : D} {x0 x1 x2 x3 x4 x5 x6 x7 x8 x9 x10 x11 x12 x13 x14 x15 x16 x17 x18 x19 x20 x21 : Option V} {kk : List D → Prop} (q : kk [d0, d1, d2, d3, d4, d5, d6, d7, d8, d9, d10, d11, d12, d13, d14, d15, d16, d17, d18, d19, d20, d21]) : ∃ ds, DatL [.dat d0 x0, .dat d1 x1, .dat d2 x2, .dat d3 x3, .dat d4 x4, .dat d5 x5, .dat d6 x6, .dat d7 x7, .dat d8 x8, .dat d9 x9, .dat d10 x10, .dat d11 x11, .dat d12 x12, .dat d13 x13, .dat d14 x14, .dat d15 x15, .dat d16 x16, .dat d17 x17, .dat d18 x18, .dat d19 x19, .dat d20 x20, .dat d21 x21] ds ∧ ([.dat d0 x0, .dat d1 x1, .dat d2 x2, .dat d3 x3, .dat d4 x4, .dat d5 x5, .dat d6 x6, .dat d7 x7, .dat d8 x8, .dat d9 x9, .dat d10 x10, .dat d11 x11, .dat d12 x12, .dat d13 x13, .dat d14 x14, .dat d15 x15, .dat d16 x16, .dat d17 x17, .dat d18 x18, .dat d19 x19, .dat d20 x20, .dat d21 x21] : List SV).length ≤ 100000 ∧ kk ds := ⟨_, datL_cons (datL_cons (datL_cons (datL_cons (datL_cons (datL_cons (datL_cons (datL_cons (datL_cons (datL_cons (datL_cons (datL_cons (datL_cons (datL_cons (datL_cons (datL_cons (datL_cons (datL_cons (datL_cons (datL_cons (datL_cons (datL_cons (datL_nil)))))))))))))))))))))), Nat.le_of_ble_eq_true rfl, q⟩
theorem dl23 {d0 d1 d2 d3 d4 d5 d6 d7 d8 d9 d10 d11 d12 d13 d14 d15 d16 d17 d18 d19 d20 d21 d22 : D} {x0 x1 x2 x3 x4 x5 x6 x7 x8 x9 x10 x11 x12 x13 x14 x15 x16 x17 x18 x19 x20 x21 x22 : Option V} {kk : List D → Prop} (q : kk [d0, d1, d2, d3, d4, d5, d6, d7, d8, d9, d10, d11, d12, d13, d14, d15, d16, d17, d18, d19, d20, d21, d22]) : ∃ ds, DatL [.dat d0 x0, .dat d1 x1, .dat d2 x2, .dat d3 x3, .dat d4 x4, .dat d5 x5, .dat d6 x6, .dat d7 x7, .dat d8 x8, .dat d9 x9, .dat d10 x10, .dat d11 x11, .dat d12 x12, .dat d13 x13, .dat d14 x14, .dat d15 x15, .dat d16 x16, .dat d17 x17, .dat d18 x18, .dat d19 x19, .dat d20 x20, .dat d21 x21, .dat d22 x22] ds ∧ ([.dat d0 x0, .dat d1 x1, .dat d2 x2, .dat d3 x3, .dat d4 x4, .dat d5 x5, .dat d6 x6, .dat d7 x7, .dat d8 x8, .dat d9 x9, .dat d10 x10, .dat d11 x11, .dat d12 x12, .dat d13 x13, .dat d14 x14, .dat d15 x15, .dat d16 x16, .dat d17 x17, .dat d18 x18, .dat d19 x19, .dat d20 x20, .dat d21 x21, .dat d22 x22] : List SV).length ≤ 100000 ∧ kk ds := ⟨_, datL_cons (datL_cons (datL_cons (datL_cons (datL_cons (datL_cons (datL_cons (datL_cons (datL_cons (datL_cons (datL_cons (datL_cons (datL_cons (datL_cons (datL_cons (datL_cons (datL_cons (datL_cons (datL_cons (datL_cons (datL_cons (datL_cons (datL_cons (datL_nil))))))))))))))))))))))), Nat.le_of_ble_eq_true rfl, q⟩
theorem dl24 {d0 d1 d2 d3 d4 d5 d6 d7 d8 d9 d10 d11 d12 d13 d14 d15 d16 d17 d18 d19 d20 d21 d22 d23 : D} {x0 x1 x2 x3 x4 x5 x6 x7 x8 x9 x10 x11 x12 x13 x14 x15 x16 x17 x18 x19 x20 x21 x22 x23 : Option V} {kk : List D → Prop} (q : kk [d0, d1, d2, d3, d4, d5, d6, d7, d8, d9, d10, d11, d12, d13, d14, d15, d16, d17, d18, d19, d20, d21, d22, d23]) : ∃ ds, DatL [.dat d0 x0, .dat d1 x1, .dat d2 x2, .dat d3 x3, .dat d4 x4, .dat d5 x5, .dat d6 x6, .dat d7 x7, .dat d8 x8, .dat d9 x9, .dat d10 x10, .dat d11 x11, .dat d12 x12, .dat d13 x13, .dat d14 x14, .dat d15 x15, .dat d16 x16, .dat d17 x17, .dat d18 x18, .dat d19 x19, .dat d20 x20, .dat d21 x21, .dat d22 x22, .dat d23 x23] ds ∧ ([.dat d0 x0, .dat d1 x1, .dat d2 x2, .dat d3 x3, .dat d4 x4, .dat d5 x5, .dat d6 x6, .dat d7 x7, .dat d8 x8, .dat d9 x9, .dat d10 x10, .dat d11 x11, .dat d12 x12, .dat d13 x13, .dat d14 x14, .dat d15 x15, .dat d16 x16, .dat d17 x17, .dat d18 x18, .dat d19 x19, .dat d20 x20, .dat d21 x21, .dat d22 x22, .dat d23 x23] : List SV).length ≤ 100000 ∧ kk ds := ⟨_, datL_cons (datL_cons (datL_cons (datL_cons (datL_cons (datL_cons (datL_cons (datL_cons (datL_cons (datL_cons (datL_cons (datL_cons (datL_cons (datL_cons (datL_cons (datL_cons (datL_cons (datL_cons (datL_cons (datL_cons (datL_cons (datL_cons (datL_cons (datL_cons (datL_nil)))))))))))))))))))))))), Nat.le_of_ble_eq_true rfl, q⟩
theorem dl25 {d0 d1 d2 d3 d4 d5 d6 d7 d8 d9 d10 d11 d12 d13 d14 d15 d16 d17 d18 d19 d20 d21 d22 d23 d24 : D} {x0 x1 x2 x3 x4 x5 x6 x7 x8 x9 x10 x11 x12 x13 x14 x15 x16 x17 x18 x19 x20 x21 x22 x23 x24 : Option V} {kk : List D → Prop} (q : kk [d0, d1, d2, d3, d4, d5, d6, d7, d8, d9, d10, d11, d12, d13, d14, d15, d16, d17, d18, d19, d20, d21, d22, d23, d24]) : ∃ ds, DatL [.dat d0 x0, .dat d1 x1, .dat d2 x2, .dat d3 x3, .dat d4 x4, .dat d5 x5, .dat d6 x6, .dat d7 x7, .dat d8 x8, .dat d9 x9, .dat d10 x10, .dat d11 x11, .dat d12 x12, .dat d13 x13, .dat d14 x14, .dat d15 x15, .dat d16 x16, .dat d17 x17, .dat d18 x18, .dat d19 x19, .dat d20 x20, .dat d21 x21, .dat d22 x22, .dat d23 x23, .dat d24 x24] ds ∧ ([.dat d0 x0, .dat d1 x1, .dat d2 x2, .dat d3 x3, .dat d4 x4, .dat d5 x5, .dat d6 x6, .dat d7 x7, .dat d8 x8, .dat d9 x9, .dat d10 x10, .dat d11 x11, .dat d12 x12, .dat d13 x13, .dat d14 x14, .dat d15 x15, .dat d16 x16, .dat d17 x17, .dat d18 x18, .dat d19 x19, .dat d20 x20, .dat d21 x21, .dat d22 x22, .dat d23 x23, .dat d24 x24] : List SV).length ≤ 100000 ∧ kk ds := ⟨_, datL_cons (datL_cons (datL_cons (datL_cons (datL_cons (datL_cons (datL_cons (datL_cons (datL_cons (datL_cons (datL_cons (datL_cons (datL_cons (datL_cons (datL_cons (datL_cons (datL_cons (datL_cons (datL_cons (datL_cons (datL_cons (datL_cons (datL_cons (datL_cons (datL_cons (datL_nil))))))))))))))))))))))))), Nat.le_of_ble_eq_true rfl, q⟩
theorem dl26 {d0 d1 d2 d3 d4 d5 d6 d7 d8 d9 d10 d11 d12 d13 d14 d15 d16 d17 d18 d19 d20 d21 d22 d23 d24 d25 : D} {x0 x1 x2 x3 x4 x5 x6 x7 x8 x9 x10 x11 x12 x13 x14 x15 x16 x17 x18 x19 x20 x21 x22 x23 x24 x25 : Option V} {kk : List D → Prop} (q : kk [d0, d1, d2, d3, d4, d5, d6, d7, d8, d9, d10, d11, d12, d13, d14, d15, d16, d17, d18, d19, d20, d21, d22, d23, d24, d25]) : ∃ ds, DatL [.dat d0 x0, .dat d1 x1, .dat d2 x2, .dat d3 x3, .dat d4 x4, .dat d5 x5, .dat d6 x6, .dat d7 x7, .dat d8 x8, .dat d9 x9, .dat d10 x10, .dat d11 x11, .dat d12 x12, .dat d13 x13, .dat d14 x14, .dat d15 x15, .dat d16 x16, .dat d17 x17, .dat d18 x18, .dat d19 x19, .dat d20 x20, .dat d21 x21, .dat d22 x22, .dat d23 x23, .dat d24 x24, .dat d25 x25] ds ∧ ([.dat d0 x0, .dat d1 x1, .dat d2 x2, .dat d3 x3, .dat d4 x4, .dat d5 x5, .dat d6 x6, .dat d7 x7, .dat d8 x8, .dat d9 x9, .dat d10 x10, .dat d11 x11, .dat d12 x12, .dat d13 x13, .dat d14 x14, .dat d15 x15, .dat d16 x16, .dat d17 x17, .dat d18 x18, .dat d19 x19, .dat d20 x20, .dat d21 x21, .dat d22 x22, .dat d23 x23, .dat d24 x24, .dat d25 x25] : List SV).length ≤ 100000 ∧ kk ds := ⟨_, datL_cons (datL_cons (datL_cons (datL_cons (datL_cons (datL_cons (datL_cons (datL_cons (datL_cons (datL_cons (datL_cons (datL_cons (datL_cons (datL_cons (datL_cons (datL_cons (datL_cons (datL_cons (datL_cons (datL_cons (datL_cons (datL_cons (datL_cons (datL_cons (datL_cons (datL_cons (datL_nil)))))))))))))))))))))))))), Nat.le_of_ble_eq_true rfl, q⟩
theorem dl27 {d0 d1 d2 d3 d4 d5 d6 d7 d8 d9 d10 d11 d12 d13 d14 d15 d16 d17 d18 d19 d20 d21 d22 d23 d24 d25 d26 : D} {x0 x1 x2 x3 x4 x5 x6 x7 x8 x9 x10 x11 x12 x13 x14 x15 x16 x17 x18 x19 x20 x21 x22 x23 x24 x25 x26 : Option V} {kk : List D → Prop} (q : kk [d0, d1, d2, d3, d4, d5, d6, d7, d8, d9, d10, d11, d12, d13, d14, d15, d16, d17, d18, d19, d20, d21, d22, d23, d24, d25, d26]) : ∃ ds, DatL [.dat d0 x0, .dat d1 x1, .dat d2 x2, .dat d3 x3, .dat d4 x4, .dat d5 x5, .dat d6 x6, .dat d7 x7, .dat d8 x8, .dat d9 x9, .dat d10 x10, .dat d11 x11, .dat d12 x12, .dat d13 x13, .dat d14 x14, .dat d15 x15, .dat d16 x16, .dat d17 x17, .dat d18 x18, .dat d19 x19, .dat d20 x20, .dat d21 x21, .dat d22 x22, .dat d23 x23, .dat d24 x24, .dat d25 x25, .dat d26 x26] ds ∧ ([.dat d0 x0, .dat d1 x1, .dat d2 x2, .dat d3 x3, .dat d4 x4, .dat d5 x5, .dat d6 x6, .dat d7 x7, .dat d8 x8, .dat d9 x9, .dat d10 x10, .dat d11 x11, .dat d12 x12, .dat d13 x13, .dat d14 x14, .dat d15 x15, .dat d16 x16, .dat d17 x17, .dat d18 x18, .dat d19 x19, .dat d20 x20, .dat d21 x21, .dat d22 x22, .dat d23 x23, .dat d24 x24, .dat d25 x25, .dat d26 x26] : List SV).length ≤ 100000 ∧ kk ds := ⟨_, datL_cons (datL_cons (datL_cons (datL_cons (datL_cons (datL_cons (datL_cons (datL_cons (datL_cons (datL_cons (datL_cons (datL_cons (datL_cons (datL_cons (datL_cons (datL_cons (datL_cons (datL_cons (datL_cons (datL_cons (datL_cons (datL_cons (datL_cons (datL_cons (datL_cons (datL_cons (datL_cons (datL_nil))))))))))))))))))))))))))), Nat.le_of_ble_eq_true rfl, q⟩
theorem dl28 {d0 d1 d2 d3 d4 d5 d6 d7 d8 d9 d10 d11 d12 d13 d14 d15 d16 d17 d18 d19 d20 d21 d22 d23 d24 d25 d26 d27 : D} {x0 x1 x2 x3 x4 x5 x6 x7 x8 x9 x10 x11 x12 x13 x14 x15 x16 x17 x18 x19 x20 x21 x22 x23 x24 x25 x26 x27 : Option V} {kk : List D → Prop} (q : kk [d0, d1, d2, d3, d4, d5, d6, d7, d8, d9, d10, d11, d12, d13, d14, d15, d16, d17, d18, d19, d20, d21, d22, d23, d24, d25, d26, d27]) : ∃ ds, DatL [.dat d0 x0, .dat d1 x1, .dat d2 x2, .dat d3 x3, .dat d4 x4, .dat d5 x5, .dat d6 x6, .dat d7 x7, .dat d8 x8, .dat d9 x9, .dat d10 x10, .dat d11 x11, .dat d12 x12, .dat d13 x13, .dat d14 x14, .dat d15 x15, .dat d16 x16, .dat d17 x17, .dat d18 x18, .dat d19 x19, .dat d20 x20, .dat d21 x21, .dat d22 x22, .dat d23 x23, .dat d24 x24, .dat d25 x25, .dat d26 x26, .dat d27 x27] ds ∧ ([.dat d0 x0, .dat d1 x1, .dat d2 x2, .dat d3 x3, .dat d4 x4, .dat d5 x5, .dat d6 x6, .dat d7 x7, .dat d8 x8, .dat d9 x9, .dat d10 x10, .dat d11 x11, .dat d12 x12, .dat d13 x13, .dat d14 x14, .dat d15 x15, .dat d16 x16, .dat d17 x17, .dat d18 x18, .dat d19 x19, .dat d20 x20, .dat d21 x21, .dat d22 x22, .dat d23 x23, .dat d24 x24, .dat d25 x25, .dat d26 x26, .dat d27 x27] : List SV).length ≤ 100000 ∧ kk ds := ⟨_, datL_cons (datL_cons (datL_cons (datL_cons (datL_cons (datL_cons (datL_cons (datL_cons (datL_cons (datL_cons (datL_cons (datL_cons (datL_cons (datL_cons (datL_cons (datL_cons (datL_cons (datL_cons (datL_cons (datL_cons (datL_cons (datL_cons (datL_cons (datL_cons (datL_cons (datL_cons (datL_cons (datL_cons (datL_nil)))))))))))))))))))))))))))), Nat.le_of_ble_eq_true rfl, q⟩
theorem dl29 {d0 d1 d2 d3 d4 d5 d6 d7 d8 d9 d10 d11 d12 d13 d14 d15 d16 d17 d18 d19 d20 d21 d22 d23 d24 d25 d26 d27 d28 : D} {x0 x1 x2 x3 x4 x5 x6 x7 x8 x9 x10 x11 x12 x13 x14 x15 x16 x17 x18 x19 x20 x21 x22 x23 x24 x25 x26 x27 x28 : Option V} {kk : List D → Prop} (q : kk [d0, d1, d2, d3, d4, d5, d6, d7, d8, d9, d10, d11, d12, d13, d14, d15, d16, d17, d18, d19, d20, d21, d22, d23, d24, d25, d26, d27, d28]) : ∃ ds, DatL [.dat d0 x0, .dat d1 x1, .dat d2 x2, .dat d3 x3, .dat d4 x4, .dat d5 x5, .dat d6 x6, .dat d7 x7, .dat d8 x8, .dat d9 x9, .dat d10 x10, .dat d11 x11, .dat d12 x12, .dat d13 x13, .dat d14 x14, .dat d15 x15, .dat d16 x16, .dat d17 x17, .dat d18 x18, .dat d19 x19, .dat d20 x20, .dat d21 x21, .dat d22 x22, .dat d23 x23, .dat d24 x24, .dat d25 x25, .dat d26 x26, .dat d27 x27, .dat d28 x28] ds ∧ ([.dat d0 x0, .dat d1 x1, .dat d2 x2, .dat d3 x3, .dat d4 x4, .dat d5 x5, .dat d6 x6, .dat d7 x7, .dat d8 x8, .dat d9 x9, .dat d10 x10, .dat d11 x11, .dat d12 x12, .dat d13 x13, .dat d14 x14, .dat d15 x15, .dat d16 x16, .dat d17 x17, .dat d18 x18, .dat d19 x19, .dat d20 x20, .dat d21 x21, .dat d22 x22, .dat d23 x23, .dat d24 x24, .dat d25 x25, .dat d26 x26, .dat d27 x27, .dat d28 x28] : List SV).length ≤ 100000 ∧ kk ds := ⟨_, datL_cons (datL_cons (datL_cons (datL_cons (datL_cons (datL_cons (datL_cons (datL_cons (datL_cons (datL_cons (datL_cons (datL_cons (datL_cons (datL_cons (datL_cons (datL_cons (datL_cons (datL_cons (datL_cons (datL_cons (datL_cons (datL_cons (datL_cons (datL_cons (datL_cons (datL_cons (datL_cons (datL_cons (datL_cons (datL_nil))))))))))))))))))))))))))))), Nat.le_of_ble_eq_true rfl, q⟩
theorem dl30 {d0 d1 d2 d3 d4 d5 d6 d7 d8 d9 d10 d11 d12 d13 d14 d15 d16 d17 d18 d19 d20 d21 d22 d23 d24 d25 d26 d27 d28 d29 : D} {x0 x1 x2 x3 x4 x5 x6 x7 x8 x9 x10 x11 x12 x13 x14 x15 x16 x17 x18 x19 x20 x21 x22 x23 x24 x25 x26 x27 x28 x29 : Option V} {kk : List D → Prop} (q : kk [d0, d1, d2, d3, d4, d5, d6, d7, d8, d9, d10, d11, d12, d13, d14, d15, d16, d17, d18, d19, d20, d21, d22, d23, d24, d25, d26, d27, d28, d29]) : ∃ ds, DatL [.dat d0 x0, .dat d1 x1, .dat d2 x2, .dat d3 x3, .dat d4 x4, .dat d5 x5, .dat d6 x6, .dat d7 x7, .dat d8 x8, .dat d9 x9, .dat d10 x10, .dat d11 x11, .dat d12 x12, .dat d13 x13, .dat d14 x14, .dat d15 x15, .dat d16 x16, .dat d17 x17, .dat d18 x18, .dat d19 x19, .dat d20 x20, .dat d21 x21, .dat d22 x22, .dat d23 x23, .dat d24 x24, .dat d25 x25, .dat d26 x26, .dat d27 x27, .dat d28 x28, .dat d29 x29] ds ∧ ([.dat d0 x0, .dat d1 x1, .dat d2 x2, .dat d3 x3, .dat d4 x4, .dat d5 x5, .dat d6 x6, .dat d7 x7, .dat d8 x8, .dat d9 x9, .dat d10 x10, .dat d11 x11, .dat d12 x12, .dat d13 x13, .dat d14 x14, .dat d15 x15, .dat d16 x16, .dat d17 x17, .dat d18 x18, .dat d19 x19, .dat d20 x20, .dat d21 x21, .dat d22 x22, .dat d23 x23, .dat d24 x24, .dat d25 x25, .dat d26 x26, .dat d27 x27, .dat d28 x28, .dat d29 x29] : List SV).length ≤ 100000 ∧ kk ds := ⟨_, datL_cons (datL_cons (datL_cons (datL_cons (datL_cons (datL_cons (datL_cons (datL_cons (datL_cons (datL_cons (datL_cons (datL_cons (datL_cons (datL_cons (datL_cons (datL_cons (datL_cons (datL_cons (datL_cons (datL_cons (datL_cons (datL_cons (datL_cons (datL_cons (datL_cons (datL_cons (datL_cons (datL_cons (datL_cons (datL_cons (datL_nil)))))))))))))))))))))))))))))), Nat.le_of_ble_eq_true rfl, q⟩
theorem up_eq {S : List SV} (l : Le ρ S) : Up (fun ρ => ρ = S) ρ := ⟨S, l, rfl⟩
theorem up_e1 {α : Type} {S : α → List SV} {P : α → Prop} (a : α) (l : Le ρ (S a)) (h : P a) : Up (fun ρ => ∃ a, ρ = S a ∧ P a) ρ := ⟨S a, l, a, rfl, h⟩
theorem up_e2 {α β : Type} {S : α → β → List SV} {P : α → β → Prop} (a : α) (b : β) (l : Le ρ (S a b)) (h : P a b) : Up (fun ρ => ∃ a b, ρ = S a b ∧ P a b) ρ := ⟨S a b, l, a, b, rfl, h⟩
theorem up_e3 {α β γ : Type} {S : α → β → γ → List SV} {P : α → β → γ → Prop} (a : α) (b : β) (c : γ) (l : Le ρ (S a b c)) (h : P a b c) : Up (fun ρ => ∃ a b c, ρ = S a b c ∧ P a b c) ρ := ⟨S a b c, l, a, b, c, rfl, h⟩
theorem up_e4 {α β γ δ : Type} {S : α → β → γ → δ → List SV} {P : α → β → γ → δ → Prop} (a : α) (b : β) (c : γ) (e : δ) (l : Le ρ (S a b c e)) (h : P a b c e) : Up (fun ρ => ∃ a b c e, ρ = S a b c e ∧ P a b c e) ρ := ⟨S a b c e, l, a, b, c, e, rfl, h⟩
theorem rg1 {j : Int} {R : Prop} (h1 : -4611686018427387904 ≤ j) (h2 : j < 4611686018427387904) (q : R) : -4611686018427387904 ≤ j ∧ j < 4611686018427387904 ∧ R := ⟨h1, h2, q⟩
theorem rg2 {i j : Int} {R : Prop} (h1 : -4611686018427387904 ≤ i) (h2 : i < 4611686018427387904) (h3 : -4611686018427387904 ≤ j) (h4 : j < 4611686018427387904) (q : R) : (-4611686018427387904 ≤ i ∧ i < 4611686018427387904 ∧ -4611686018427387904 ≤ j ∧ j < 4611686018427387904) ∧ R := ⟨⟨h1, h2, h3, h4⟩, q⟩
theorem toN1 (n : Nat) : ((n : Int) + 1 - 1).toNat = n := by omega
theorem toN0 (n : Nat) : ((n : Int)).toNat = n := rfl
theorem rv_end {ds : List D} (h : Hs ρ sv (.lst ds)) (q : Q (.fr (.lst ds.reverse)) ρ) : ∃ ds, Hs ρ sv (.lst ds) ∧ Q (.fr (.lst ds.reverse)) ρ := ⟨ds, h, q⟩
theorem parf_end {as : List SV} {P : Prop} {n : Nat} (h1 : as.length = n) (h2 : GoodF as) (q : P) : as.length = n ∧ GoodF as ∧ P := ⟨h1, h2, q⟩
end
end Cr

/-! The data level: dicts. -/
namespace Cr
open PySem PySem.Spec PyProof.Rows L2
def keyD : Key → D
  | .inl i => .int i
  | .inr s => .str s
def getK {α : Type} (ks : List (Key × α)) (k : Key) : Option α := (ks.find? fun kv => decide (kv.1 = k)).map (·.2)
def setK {α : Type} (ks : List (Key × α)) (k : Key) (v : α) : List (Key × α) :=
  if (ks.any fun kv => decide (kv.1 = k)) = true then ks.map (fun kv => if kv.1 = k then (kv.1, v) else kv) else ks ++ [(k, v)]
def HasKey (sv : SV) (k : Key) : Prop := ∃ x, sv = .dat (keyD k) x
/-- a dict that is read: data, one's own, or one that is walked -/
def HsK (ρ : List SV) (sv : SV) (ks : List (Key × D)) : Prop := Hs ρ sv (.dct ks) ∨ ∃ j p ob es, sv = .bor j ∧ ρ[j]? = some (.lk p ob es ks)
section
variable {F : Fr} {X : Hp} {ρ ρ' : List SV} {M M' : Hp} {N : Nat → Hp} {σ : L2.St} {H H' : Hp} {sv a b c : SV} {v : V} {d e : D} {x y z : Option V} {p : Addr} {i : Int} {j m n : Nat} {s : Str} {D₀ : DEnds} {ks : List (Key × D)} {k : Key}
variable {t ta tb tc te td ty tx tv : TE} {ts : TS} {g : TG} {Q : SV → List SV → Prop} {Qs : List SV → Prop}
theorem key_i : HasKey (.dat (.int i) x) (.inl i) := ⟨x, rfl⟩
theorem key_s : HasKey (.dat (.str s) x) (.inr s) := ⟨x, rfl⟩
theorem rep_key {k : Key} (h : Rep M (keyD k) v) : v = kV k := by
  cases k with
  | inl i => exact Rep.un_int h
  | inr s => exact Rep.un_str h
theorem rep_kV {k : Key} : Rep M (keyD k) (kV k) := by
  cases k with
  | inl i => exact Rep.int
  | inr s => exact Rep.str
theorem HasKey.to (h : HasKey a k) (o : OkT M σ a v) : v = kV k := by
  obtain ⟨x, rfl⟩ := h
  exact rep_key o.1
theorem hsk (h : Hs ρ a (.dct ks)) : HsK ρ a ks := .inl h
theorem hsk_l {ob : Obj} {es : List (Key × V)} (h : ρ[j]? = some (.lk p ob es ks)) : HsK ρ (.bor j) ks := .inr ⟨j, p, ob, es, rfl, h⟩
theorem HsK.to (h : HsK ρ a ks) (ok : OkS F X ρ M N σ H) (o : OkT M σ a v) : ∃ p es, v = .ref p ∧ Rd H p (.dK es) ∧ RepK M ks es := by
  rcases h with h | ⟨j, p, ob, es, rfl, h⟩
  · obtain ⟨p, es, rfl, e, r⟩ := h.toK ok o
    exact ⟨p, es, rfl, .inl e, r⟩
  · obtain ⟨e, n, e1, r⟩ := ok.slot j _ h
    have o : σ[j]? = some (some v) := o
    rw [o] at e
    cases e
    exact ⟨p, es, rfl, .inr ⟨ob, ok.reg j _ _ e1⟩, r⟩
theorem RepK.un_cons {k : Key} {d : D} {ks : List (Key × D)} {es : List (Key × V)} (h : RepK M ((k, d) :: ks) es) : ∃ v r, es = (k, v) :: r ∧ Rep M d v ∧ RepK M ks r := by unfold RepK at h; exact h
theorem repK_get : ∀ {ks : List (Key × D)} {es : List (Key × V)}, RepK M ks es → (∀ d, getK ks k = some d → ∃ v, valV es k = some v ∧ Rep M d v) ∧ (getK ks k = none → valV es k = none)
  | [], es, r => by
    have e : es = [] := List.length_eq_zero_iff.mp r.len
    subst e
    exact ⟨fun d h => (by cases h), fun _ => rfl⟩
  | (k', d') :: ks, es, r => by
    obtain ⟨v, w, rfl, h1, h2⟩ := RepK.un_cons r
    have ih := repK_get h2
    by_cases e : k' = k
    · refine ⟨fun d h => ⟨v, valV_pos e, ?_⟩, fun h => ?_⟩
      · have : getK ((k', d') :: ks) k = some d' := by simp [getK, List.find?_cons, e]
        rw [this] at h
        cases h
        exact h1
      · have : getK ((k', d') :: ks) k = some d' := by simp [getK, List.find?_cons, e]
        rw [this] at h
        cases h
    · have e1 : getK ((k', d') :: ks) k = getK ks k := by simp [getK, List.find?_cons, e]
      rw [e1, valV_neg (p := (k', v)) e]
      exact ih
theorem repK_any : ∀ {ks : List (Key × D)} {es : List (Key × V)}, RepK M ks es → (es.any fun kv => decide (kv.1 = k)) = (ks.any fun kv => decide (kv.1 = k))
  | [], es, r => by
    have e : es = [] := List.length_eq_zero_iff.mp r.len
    subst e
    rfl
  | (k', d') :: ks, es, r => by
    obtain ⟨v, w, rfl, h1, h2⟩ := RepK.un_cons r
    rw [List.any_cons, List.any_cons, repK_any h2]
theorem repK_map (h : Rep M d v) : ∀ {ks : List (Key × D)} {es : List (Key × V)}, RepK M ks es → RepK M (ks.map fun kv => if kv.1 = k then (kv.1, d) else kv) (es.map fun kv => if kv.1 = k then (kv.1, v) else kv)
  | [], es, r => by
    have e : es = [] := List.length_eq_zero_iff.mp r.len
    subst e
    exact RepK.nil
  | (k', d') :: ks, es, r => by
    obtain ⟨v', w, rfl, h1, h2⟩ := RepK.un_cons r
    rw [List.map_cons, List.map_cons]
    by_cases e : k' = k
    · rw [if_pos e, if_pos e]
      exact RepK.cons h (repK_map h h2)
    · rw [if_neg e, if_neg e]
      exact RepK.cons h1 (repK_map h h2)
theorem repK_set {es : List (Key × V)} (r : RepK M ks es) (h : Rep M d v) : RepK M (setK ks k d) (putK es k v) := by
  unfold setK putK
  rw [repK_any r]
  split
  · exact repK_map h r
  · exact RepK.snoc h r
/-! ### rules -/
theorem d_dnew (q : Q (.fr (.dct [])) ρ) : De F tDNewK ρ Q := fun X M N σ H ok Qh P p n => P.nd ok n (same_new n) upd_same RepK.nil q
theorem d_dget2 (h : Dz F td ρ fun a ρ1 => ∃ ks0, HsK ρ1 a ks0 ∧ Dz F ty ρ1 fun y ρ2 => Dz F tx ρ2 fun z ρ3 => ∃ ks k e x, HsK ρ3 a ks ∧ HasKey y k ∧ z = .dat e x ∧ Q (.dat ((getK ks k).getD e) none) ρ3) : De F (tDGet2 td ty tx) ρ Q := fun X M N σ H ok Qh P =>
  h X M N σ H ok _ fun a ρ1 M1 N1 va H1 s1 ok1 oa ⟨ks0, h0, h⟩ => by
    obtain ⟨p, es, rfl, rd, r⟩ := h0.to ok1 oa
    refine ⟨p, rfl, .inl ⟨es, rd⟩, h X M1 N1 σ H1 ok1 _ fun y ρ2 M2 N2 vy H2 s2 ok2 oy h => h X M2 N2 σ H2 ok2 _ fun z ρ3 M3 N3 vz H3 s3 ok3 oz h => ?_⟩
    obtain ⟨ks, k, e, x, h1, hk, rfl, q⟩ := h
    obtain ⟨p', es', ep, rd', r'⟩ := h1.to ok3 (oa.mono (s2.trans s3))
    cases ep
    obtain rfl := hk.to oy
    obtain ⟨g1, g2⟩ := repK_get (k := k) r'
    refine ⟨valV es' k, .inl ⟨es', k, rd', rfl, rfl⟩, ?_⟩
    cases eg : getK ks k with
    | none =>
      rw [eg] at q
      rw [g2 eg]
      exact (P.trans (s1.trans (s2.trans s3))).sc ok3 oz.1 q
    | some d =>
      rw [eg] at q
      obtain ⟨v, e1, r1⟩ := g1 d eg
      rw [e1]
      exact (P.trans (s1.trans (s2.trans s3))).sc ok3 r1 q
theorem d_dget (h : Dz F td ρ fun a ρ1 => Dz F ty ρ1 fun y ρ2 => ∃ ks k d, HsK ρ2 a ks ∧ HasKey y k ∧ getK ks k = some d ∧ Q (.dat d none) ρ2) : De F (tDGet td ty) ρ Q := fun X M N σ H ok Qh P =>
  h X M N σ H ok _ fun a ρ1 M1 N1 va H1 s1 ok1 oa h => h X M1 N1 σ H1 ok1 _ fun y ρ2 M2 N2 vy H2 s2 ok2 oy ⟨ks, k, d, h1, hk, eg, q⟩ => by
    obtain ⟨p, es, rfl, rd, r⟩ := h1.to ok2 (oa.mono s2)
    obtain rfl := hk.to oy
    obtain ⟨v, e1, r1⟩ := (repK_get (k := k) r).1 d eg
    exact ⟨p, v, rfl, .inl ⟨es, k, rd, rfl, e1.symm⟩, (P.trans (s1.trans s2)).sc ok2 r1 q⟩
theorem d_din (h : Dz F ty ρ fun y ρ1 => Dz F td ρ1 fun a ρ2 => ∃ ks k, HsK ρ2 a ks ∧ HasKey y k ∧ Q (.dat (.bl (getK ks k).isSome) none) ρ2) : De F (tDIn ty td) ρ Q := fun X M N σ H ok Qh P =>
  h X M N σ H ok _ fun y ρ1 M1 N1 vy H1 s1 ok1 oy h => h X M1 N1 σ H1 ok1 _ fun a ρ2 M2 N2 va H2 s2 ok2 oa ⟨ks, k, h1, hk, q⟩ => by
    obtain ⟨p, es, rfl, rd, r⟩ := h1.to ok2 oa
    obtain rfl := hk.to (oy.mono s2)
    refine ⟨p, valV es k, rfl, .inl ⟨es, k, rd, rfl, rfl⟩, ?_⟩
    have e : (valV es k).isSome = (getK ks k).isSome := by
      obtain ⟨g1, g2⟩ := repK_get (k := k) r
      cases eg : getK ks k with
      | none =>
        rw [g2 eg]
        rfl
      | some d =>
        obtain ⟨v, e1, _⟩ := g1 d eg
        rw [e1]
        rfl
    rw [e]
    exact (P.trans (s1.trans s2)).sc ok2 Rep.bl q
theorem d_dnin (h : Dz F ty ρ fun y ρ1 => Dz F td ρ1 fun a ρ2 => ∃ ks k, HsK ρ2 a ks ∧ HasKey y k ∧ Q (.dat (.bl (!(getK ks k).isSome)) none) ρ2) : De F (tDNotIn ty td) ρ Q := fun X M N σ H ok Qh P =>
  h X M N σ H ok _ fun y ρ1 M1 N1 vy H1 s1 ok1 oy h => h X M1 N1 σ H1 ok1 _ fun a ρ2 M2 N2 va H2 s2 ok2 oa ⟨ks, k, h1, hk, q⟩ => by
    obtain ⟨p, es, rfl, rd, r⟩ := h1.to ok2 oa
    obtain rfl := hk.to (oy.mono s2)
    refine ⟨p, valV es k, rfl, .inl ⟨es, k, rd, rfl, rfl⟩, ?_⟩
    have e : (valV es k).isSome = (getK ks k).isSome := by
      obtain ⟨g1, g2⟩ := repK_get (k := k) r
      cases eg : getK ks k with
      | none =>
        rw [g2 eg]
        rfl
      | some d =>
        obtain ⟨v, e1, _⟩ := g1 d eg
        rw [e1]
        rfl
    rw [e]
    exact (P.trans (s1.trans s2)).sc ok2 Rep.bl q
theorem ds_dput (h : Dz F tv ρ fun v ρ1 => Dz F td ρ1 fun a ρ2 => Dz F ty ρ2 fun y ρ3 => ∃ j ks k e x, a = .bor j ∧ ρ3[j]? = some (.own (.dct ks)) ∧ HasKey y k ∧ v = .dat e x ∧ ks.length < 100000 ∧ D₀.nx (ρ3.set j (.own (.dct (setK ks k e))))) : Ds F (sDPut td ty tv) D₀ ρ := fun X M N σ H ok Dh E =>
  h X M N σ H ok _ fun v ρ1 M1 N1 vv H1 s1 ok1 ov h => h X M1 N1 σ H1 ok1 _ fun a ρ2 M2 N2 va H2 s2 ok2 oa h => h X M2 N2 σ H2 ok2 _ fun y ρ3 M3 N3 vy H3 s3 ok3 oy ⟨j, ks, k, e, x, ea, hj, hk, ev, hl, q⟩ => by
    subst ea
    subst ev
    obtain ⟨p, u, e1, e2, ⟨es, e3, r⟩, kk⟩ := ok3.own_chg hj
    have oa : σ[j]? = some (some va) := oa
    rw [oa] at e1
    cases e1
    obtain rfl := hk.to oy
    obtain ⟨N', ok'⟩ := kk But.upd upd_same (ownAt_k (repK_set (k := k) r (ov.1.mono (s2.trans s3))))
    exact ⟨p, _, rfl, .inl ⟨es, k, e3, rfl, szt (by rw [r.len]; exact hl), rfl⟩, E.nx _ _ _ _ _ (s1.trans (s2.trans s3)) ok' q⟩
/-! ### the keys of a dict of one's own, walked -/
def LkOut (j : Nat) (p : Addr) (ob : Obj) (es : List (Key × V)) (ks : List (Key × D)) (Qs : List SV → Prop) (ρ : List SV) : Prop := ρ[j]? = some (.lk p ob es ks) ∧ Qs (ρ.set j (.own (.dct ks)))
theorem OkS.unlk (ok : OkS F X ρ M N σ H) {ob : Obj} {es : List (Key × V)} (hj : ρ[j]? = some (.lk p ob es ks)) : H p = some (.frz ob (.dK es)) ∧ ∃ N', OkS F X (ρ.set j (.own (.dct ks))) M N' σ (upd H p (.dK es)) := by
  obtain ⟨ep, n0, e1, r⟩ := ok.slot j _ hj
  have hp := ok.apt j p _ e1
  have o2 := ok.put_un (i := j) (w := some (.ref p))
  have xa : X p = none := by
    cases z : X p with
    | none => rfl
    | some o =>
      have := (ok.xapt p o z).2 j
      rw [e1] at this
      cases this
  have o3 := o2.chg (i := j) (H' := upd H p (.dK es)) hp.1 xa (fun l hl => ok.dis j l p _ (fun z => hl z.symm) e1) hp.2 But.upd upd_same (fun s hs => by
    rcases set_get hs with ⟨_, rfl, _⟩ | ⟨z, _⟩
    · trivial
    · exact (z rfl).elim)
  have o4 := o3.view (i := j) (sv := .own (.dct ks)) (fun hl => ⟨p, ?_, n0, ?_⟩)
  · rw [List.set_set] at o4
    have es' : List.set σ j (some (.ref p)) = σ := by
      have hl : j < σ.length := (List.getElem?_eq_some_iff.mp ep).1
      rw [List.getElem?_eq_some_iff] at ep
      obtain ⟨_, ep⟩ := ep
      rw [← ep]
      exact List.set_getElem_self hl
    rw [es'] at o4
    exact ⟨ok.reg j _ _ e1, _, o4⟩
  · rw [set_at]
    rw [set_len] at hl
    rw [ok.len]
    exact hl
  · rw [reN_at]
    exact ownAt_k r
theorem ds_lock (hj : ρ[j]? = some (.own (.dct ks))) (h : ∀ p ob es, Ds F ts { nx := LkOut j p ob es ks D₀.nx, rt := fun sv ρ' => ρ'[j]? = some (.lk p ob es ks) ∧ (∃ d x, sv = .dat d x) ∧ D₀.rt sv (ρ'.set j (.own (.dct ks))), bk := LkOut j p ob es ks D₀.bk, ct := LkOut j p ob es ks D₀.ct } (ρ.set j (.lk p ob es ks))) : Ds F (tLock ts) D₀ ρ := fun X M N σ H ok Dh E => by
  obtain ⟨p, u, e1, e2, ⟨es, e3, r⟩, _⟩ := ok.own_chg hj
  obtain ⟨p', ep', n0, _⟩ := ok.slot j _ hj
  rw [e1] at ep'
  cases ep'
  refine ⟨p, .dK es, e3, trivial, fun ob => ?_⟩
  have ow := ok.slot j _ hj
  obtain ⟨q', eq', _, es2, eN, _⟩ := ow
  rw [e1] at eq'
  cases eq'
  have hp := ok.apt j p _ eN
  have xa : X p = none := by
    cases z : X p with
    | none => rfl
    | some o =>
      have := (ok.xapt p o z).2 j
      rw [eN] at this
      cases this
  have o2 := ok.put_un (i := j) (w := some (.ref p))
  have o3 := o2.chg (i := j) (H' := upd H p (.frz ob (.dK es))) hp.1 xa (fun l hl => ok.dis j l p _ (fun z => hl z.symm) eN) hp.2 But.upd upd_same (fun s hs => by
    rcases set_get hs with ⟨_, rfl, _⟩ | ⟨z, _⟩
    · trivial
    · exact (z rfl).elim)
  have o4 := o3.view (i := j) (sv := .lk p ob es ks) (fun hl => ⟨?_, n0, ?_, r⟩)
  · rw [List.set_set] at o4
    have es' : List.set σ j (some (.ref p)) = σ := by
      have hl : j < σ.length := (List.getElem?_eq_some_iff.mp e1).1
      rw [List.getElem?_eq_some_iff] at e1
      obtain ⟨_, e1⟩ := e1
      rw [← e1]
      exact List.set_getElem_self hl
    rw [es'] at o4
    refine h p ob es X M _ σ _ o4 _ ⟨fun ρ' M' N' σ' H' s ok' q => ?_, fun sv ρ' M' N' σ' v H' s ok' o q => ?_, fun ρ' M' N' σ' H' s ok' q => ?_, fun ρ' M' N' σ' H' s ok' q => ?_⟩
    · obtain ⟨q1, q2⟩ := q
      obtain ⟨z, N2, ok2⟩ := ok'.unlk q1
      exact ⟨z, E.nx _ _ _ _ _ s ok2 q2⟩
    · obtain ⟨q1, ⟨d, x, rfl⟩, q2⟩ := q
      obtain ⟨z, N2, ok2⟩ := ok'.unlk q1
      exact ⟨z, E.rt (.dat d x) _ _ _ _ _ _ s ok2 o q2⟩
    · obtain ⟨q1, q2⟩ := q
      obtain ⟨z, N2, ok2⟩ := ok'.unlk q1
      exact ⟨z, E.bk _ _ _ _ _ s ok2 q2⟩
    · obtain ⟨q1, q2⟩ := q
      obtain ⟨z, N2, ok2⟩ := ok'.unlk q1
      exact ⟨z, E.ct _ _ _ _ _ s ok2 q2⟩
  · rw [set_at]
    rw [set_len] at hl
    rw [ok.len]
    exact hl
  · rw [reN_at]
    exact single_at
def keyAt (ks : List (Key × D)) (i : Nat) : D := match ks[i]? with
  | some kv => keyD kv.1
  | none => .non
def itK (ks : List (Key × D)) (j : Nat) (p : Addr) (ob : Obj) (es : List (Key × V)) : ItD := ⟨ks.length, keyAt ks, fun ρ => ρ[j]? = some (.lk p ob es ks)⟩
theorem di_keys {R : ItD → List SV → Prop} (h : Dz F td ρ fun a ρ1 => ∃ j p ob es ks, a = .bor j ∧ ρ1[j]? = some (.lk p ob es ks) ∧ R (itK ks j p ob es) ρ1) : Di F (iKeys td) ρ R := fun X M N σ H ok Rh P =>
  h X M N σ H ok _ fun a ρ1 M1 N1 v H1 s1 ok1 o ⟨j, p, ob, es, ks, ea, hj, q⟩ => by
    subst ea
    obtain ⟨ep, n0, e1, r⟩ := ok1.slot j _ hj
    have o : σ[j]? = some (some v) := o
    rw [o] at ep
    cases ep
    refine ⟨p, ob, rfl, .inl ⟨es, ok1.reg j _ _ e1, P _ _ _ _ _ _ s1 ok1 (fun X ρ2 M2 N2 σ2 H2 s2 ok2 hok i => ?_) q⟩⟩
    obtain ⟨ep2, _, e2, r2⟩ := ok2.slot j _ hok
    have hH := ok2.reg j _ _ e2
    have hl := r2.len
    refine ⟨fun hi => ⟨hH, ?_⟩, fun hi => ⟨hH, ?_⟩, fun hi x H' hy => ?_⟩
    · rw [hl]
      exact hi
    · rw [hl]
      exact hi
    · obtain ⟨rfl, k', v', ek, rfl⟩ := hy
      have hi : i < ks.length := hi
      have e : ks[i]? = some (ks[i].1, ks[i].2) := by simp [hi]
      obtain ⟨v2, ev2, rv2⟩ := r2.get e
      rw [ek] at ev2
      cases ev2
      refine ⟨M2, Same.refl _, ok2, Same.refl _, ?_⟩
      show Rep M2 (match ks[i]? with
        | some kv => keyD kv.1
        | none => .non) _
      rw [e]
      exact rep_kV
theorem for_k {ob : Obj} {es : List (Key × V)} (G : List (Key × D) → List SV → Prop) (h0 : Up (G ks) ρ) (ht : ∀ kv r ρ2, kv ∈ ks → G (kv :: r) ρ2 → Dg F g (.dat (keyD kv.1) none) ρ2 fun ρ3 => Ds F ts { D₀ with nx := Up (G r), ct := Up (G r), bk := D₀.nx } ρ3) (he : ∀ ρ2, G [] ρ2 → D₀.nx ρ2)
    (hk : ∀ r ρ2, G r ρ2 → ρ2[j]? = some (.lk p ob es ks)) : ForD F (itK ks j p ob es) g ts D₀ ρ := by
  refine ⟨fun i ρ2 => G (ks.drop i) ρ2, h0, fun i ρ2 hi hG => ?_, fun ρ2 hG => he ρ2 ?_, fun i ρ2 hG => hk _ ρ2 hG⟩
  · have hi : i < ks.length := hi
    have e : ks.drop i = ks[i] :: ks.drop (i + 1) := List.drop_eq_getElem_cons hi
    have hG : G (ks.drop i) ρ2 := hG
    rw [e] at hG
    have e2 : (itK ks j p ob es).at_ i = keyD ks[i].1 := by
      show (match ks[i]? with
        | some kv => keyD kv.1
        | none => .non) = _
      have e3 : ks[i]? = some ks[i] := by simp [hi]
      rw [e3]
    rw [e2]
    exact ht _ _ ρ2 (List.getElem_mem hi) hG
  · have hG : G (ks.drop ks.length) ρ2 := hG
    rw [List.drop_length] at hG
    exact hG
theorem ix_li {K : PySem.W.Frag} {ns : List Int} (ha : Hs ρ a (.lst (ns.map .int))) (h0 : 0 ≤ i) (h1 : i < ns.length) (q : Q (.dat (.int (ns.getD i.toNat 0)) none) ρ) : R2d F (rIx K) a (.dat (.int i) y) ρ Q := by
  refine ix_ld ha (d := .int (ns.getD i.toNat 0)) ?_ q
  obtain ⟨m, rfl⟩ : ∃ m : Nat, i = m := ⟨i.toNat, by omega⟩
  have h2 : m < ns.length := by omega
  refine atI_nat ?_
  simp [h2]
theorem ix_ti {K : PySem.W.Frag} {ns : List Int} (h0 : 0 ≤ i) (h1 : i < ns.length) (q : Q (.dat (.int (ns.getD i.toNat 0)) none) ρ) : R2d F (rIx K) (.dat (.tup (ns.map .int)) x) (.dat (.int i) y) ρ Q := ix_qi (.inr rfl) h0 h1 q
theorem hk2 {P : Prop} (h : HsK ρ a ks) (q : P) : ∃ ks0, HsK ρ a ks0 ∧ P := ⟨ks, h, q⟩
theorem g2e {P : List (Key × D) → Key → D → Prop} (h : HsK ρ a ks) (hk : HasKey b k) (q : P ks k e) : ∃ ks k e' x', HsK ρ a ks ∧ HasKey b k ∧ SV.dat e x = .dat e' x' ∧ P ks k e' := ⟨ks, k, e, x, h, hk, rfl, q⟩
theorem ine {P : List (Key × D) → Key → Prop} (h : HsK ρ a ks) (hk : HasKey b k) (q : P ks k) : ∃ ks k, HsK ρ a ks ∧ HasKey b k ∧ P ks k := ⟨ks, k, h, hk, q⟩
theorem gete {P : D → Prop} (h : HsK ρ a ks) (hk : HasKey b k) (e : getK ks k = some d) (q : P d) : ∃ ks k d, HsK ρ a ks ∧ HasKey b k ∧ getK ks k = some d ∧ P d := ⟨ks, k, d, h, hk, e, q⟩
theorem pute {P : Nat → List (Key × D) → Key → D → Prop} (hj : ρ[j]? = some (.own (.dct ks))) (hk : HasKey b k) (hl : ks.length < 100000) (q : P j ks k e) : ∃ j' ks k e' x', SV.bor j = .bor j' ∧ ρ[j']? = some (.own (.dct ks)) ∧ HasKey b k ∧ SV.dat e x = .dat e' x' ∧ ks.length < 100000 ∧ P j' ks k e' := ⟨j, ks, k, e, x, rfl, hj, hk, rfl, hl, q⟩
theorem keye {ob : Obj} {es : List (Key × V)} {P : Nat → Addr → Obj → List (Key × V) → List (Key × D) → Prop} (h : ρ[j]? = some (.lk p ob es ks)) (q : P j p ob es ks) : ∃ j' p ob es ks, SV.bor j = .bor j' ∧ ρ[j']? = some (.lk p ob es ks) ∧ P j' p ob es ks := ⟨j, p, ob, es, ks, rfl, h, q⟩
theorem dv_l {ob : Obj} {es : List (Key × V)} (h : ρ[m]? = some (.lk p ob es ks)) (q : Q (.bor m) ρ) : De F (tVar m) ρ Q := fun X M N σ H ok Qh P => by
  obtain ⟨e, z⟩ := ok.slot m _ h
  exact ⟨_, e, P (.bor m) _ _ _ _ _ (Same.refl _) ok e q⟩
end
end Cr

/-! The data level: lists that are drawn. -/
namespace Cr
open PySem PySem.Spec PyProof.Rows L2
theorem pickI {p : Int → Prop} {l : List Int} (h : ∀ z ∈ l, p z) {k : Nat} (hk : k < l.length) : p (l.getD k 0) := by
  have e : l.getD k 0 = l[k] := by simp [hk]
  rw [e]
  exact h _ (List.getElem_mem hk)
theorem ints_ex {p : Int → Prop} : ∀ {ds : List D}, (∀ d ∈ ds, ∃ z, d = .int z ∧ p z) → ∃ ns : List Int, ds = ns.map .int ∧ ∀ z ∈ ns, p z
  | [], _ => ⟨[], rfl, fun _ h => absurd h List.not_mem_nil⟩
  | d :: r, h => by
    obtain ⟨z, rfl, hz⟩ := h d List.mem_cons_self
    obtain ⟨ns, rfl, hn⟩ := ints_ex (p := p) (ds := r) fun d hd => h d (List.mem_cons_of_mem _ hd)
    exact ⟨z :: ns, rfl, fun w hw => by
      rcases List.mem_cons.mp hw with rfl | hw
      · exact hz
      · exact hn w hw⟩
section
variable {F : Fr} {X : Hp} {ρ ρ' : List SV} {sv : SV} {d : D} {x y : Option V} {j m n : Nat} {ds : List D} {α : Type}
variable {te : TE} {tt : TT} {ts : TS} {g : TG} {Q : SV → List SV → Prop} {vs : List Nat}
/-- a comprehension that draws: c draws an item, each item good -/
theorem lc_draw {xs : List α} {f : α → D} {a : Addr} {B : Int} (c : Nat) (P : α → D → Prop) (hj : ρ[j]? = some (.box a B)) (hn : xs.length ≤ 90000) (ht : ∀ y, y ∈ xs → ∀ B', B ≤ B' → B' ≤ B + c * xs.length → Dg F g (.dat (f y) none) (wipeD (ρ.set j (.box a B')) vs) fun ρ3 => Dt F tt ρ3 fun b ρ4 => b = true ∧ Dz F te ρ4 fun sv ρ5 => FzS [sv] ρ5 fun as ρ6 => One as fun d => P y d ∧ Le (backD (ρ.set j (.box a B')) ρ6 vs) (ρ.set j (.box a (B' + c))))
    (q : ∀ ds : List D, ds.length = xs.length → (∀ (i : Nat) (y : α) (d : D), xs[i]? = some y → ds[i]? = some d → P y d) → Q (.fr (.lst ds)) (ρ.set j (.box a (B + c * xs.length)))) : LcD F (itM xs f) g tt te vs ρ Q := by
  have hjl : j < ρ.length := (List.getElem?_eq_some_iff.mp hj).1
  have e0 : ρ.set j (.box a B) = ρ := by
    rw [List.getElem?_eq_some_iff] at hj
    obtain ⟨_, hj⟩ := hj
    rw [← hj]
    exact List.set_getElem_self hjl
  have cm : ∀ i : Nat, i ≤ xs.length → (c : Int) * i ≤ c * xs.length := fun i hi => Int.mul_le_mul_of_nonneg_left (by omega) (by omega)
  refine ⟨hn, fun i acc ρ2 => i ≤ xs.length ∧ ρ2 = ρ.set j (.box a (B + c * i)) ∧ acc.length = i ∧ ∀ (k : Nat) (y : α) (d : D), xs[k]? = some y → acc[k]? = some d → P y d, up (ρ' := ρ.set j (.box a (B + c * (0 : Nat)))) (by rw [show B + (c : Int) * ((0 : Nat) : Int) = B by simp, e0]; exact Le.refl) ⟨Nat.zero_le _, rfl, rfl, fun k y d _ h => by simp at h⟩, ?_, ?_, fun _ _ _ _ => trivial⟩
  · rintro i acc ρ2 hi ⟨hil, rfl, hl, hP⟩
    have hi : i < xs.length := hi
    have e : xs[i]? = some xs[i] := by simp [hi]
    rw [itM_at e]
    have h0 := cm i hil
    have hp0 : 0 ≤ (c : Int) * i := Int.mul_nonneg (by omega) (by omega)
    refine fun X M N σ H v ok o Qh P' => ht _ (List.getElem_mem hi) (B + c * i) (by omega) (by omega) X M N σ H v ok o Qh fun ρ' M' N' σ' H' s ok' q => P' ρ' M' N' σ' H' s ok' ?_
    refine fun X M N σ H ok Qh P' => q X M N σ H ok Qh fun b ρ' M' N' H' s ok' q => P' b ρ' M' N' H' s ok' ?_
    obtain ⟨rfl, q⟩ := q
    show Dz F te _ _
    refine fun X M N σ H ok Qh P' => q X M N σ H ok Qh fun sv ρ' M' N' v H' s ok' o q => P' sv ρ' M' N' v H' s ok' o ?_
    refine fzs_mono (fun as ρ6 q => ?_) q
    unfold One at q ⊢
    split at q
    · rename_i d x
      obtain ⟨hd, l⟩ := q
      refine up l ⟨by omega, ?_, by simp [hl], fun k y d' hk hd' => ?_⟩
      · have e9 : B + (c : Int) * (i : Nat) + c = B + c * ((i + 1 : Nat) : Int) := by
          rw [Int.natCast_add, Int.mul_add, Int.add_assoc]
          simp
        rw [e9]
      · by_cases hkl : k < acc.length
        · rw [List.getElem?_append_left hkl] at hd'
          exact hP k y d' hk hd'
        · have hke : k = acc.length := by
            have := (List.getElem?_eq_some_iff.mp hd').1
            simp at this
            omega
          subst hke
          rw [List.getElem?_concat_length] at hd'
          cases hd'
          rw [hl, e] at hk
          cases hk
          exact hd
    · exact q
  · rintro acc ρ2 ⟨_, rfl, hl, hP⟩
    exact q acc hl hP
/-- .. ints -/
theorem lc_drawI {xs : List α} {f : α → D} {a : Addr} {B : Int} (c : Nat) (p : Int → Prop) (hj : ρ[j]? = some (.box a B)) (hn : xs.length ≤ 90000) (ht : ∀ y, y ∈ xs → ∀ B', B ≤ B' → B' ≤ B + c * xs.length → Dg F g (.dat (f y) none) (wipeD (ρ.set j (.box a B')) vs) fun ρ3 => Dt F tt ρ3 fun b ρ4 => b = true ∧ Dz F te ρ4 fun sv ρ5 => FzS [sv] ρ5 fun as ρ6 => One as fun d => (∃ z, d = .int z ∧ p z) ∧ Le (backD (ρ.set j (.box a B')) ρ6 vs) (ρ.set j (.box a (B' + c))))
    (q : ∀ ns : List Int, ns.length = xs.length → (∀ z ∈ ns, p z) → Q (.fr (.lst (ns.map .int))) (ρ.set j (.box a (B + c * xs.length)))) : LcD F (itM xs f) g tt te vs ρ Q := by
  refine lc_draw c (fun _ d => ∃ z, d = .int z ∧ p z) hj hn ht fun ds hl hP => ?_
  obtain ⟨ns, rfl, hns⟩ := ints_ex (p := p) (ds := ds) fun d hd => by
    obtain ⟨i, hi⟩ := List.getElem?_of_mem hd
    have hil := (List.getElem?_eq_some_iff.mp hi).1
    rw [hl] at hil
    exact hP i xs[i] d (by simp [hil]) hi
  exact q ns (by simpa using hl) hns
/-! joins -/
variable {ta tb : TE} {tv : TS} {D₀ : DEnds}
theorem d_ifJ (Q' : SV → List SV → Prop) (h : Dt F tt ρ fun b ρ1 => if b = true then De F ta ρ1 Q' else De F tb ρ1 Q') (k : ∀ sv ρ', Q' sv ρ' → Q sv ρ') : De F (tIf tt ta tb) ρ Q := fun X M N σ H ok Qh P =>
  d_if h X M N σ H ok Qh fun sv ρ' M' N' v H' s ok' o q => P sv ρ' M' N' v H' s ok' o (k sv ρ' q)
/-- both ways give v and leave the slots -/
theorem d_ifV (v : SV) (h : Dt F tt ρ fun b ρ1 => if b = true then De F ta ρ1 (fun sv ρ' => sv = v ∧ ρ' = ρ) else De F tb ρ1 (fun sv ρ' => sv = v ∧ ρ' = ρ)) (q : Q v ρ) : De F (tIf tt ta tb) ρ Q :=
  d_ifJ (fun sv ρ' => sv = v ∧ ρ' = ρ) h fun sv ρ' ⟨e1, e2⟩ => by rw [e1, e2]; exact q
theorem if_V {b : Bool} (v : SV) (h1 : De F ta ρ fun sv ρ' => sv = v ∧ ρ' = ρ) (h2 : De F tb ρ fun sv ρ' => sv = v ∧ ρ' = ρ) (q : Q v ρ) : if b = true then De F ta ρ Q else De F tb ρ Q := by
  have k : ∀ {t : TE}, De F t ρ (fun sv ρ' => sv = v ∧ ρ' = ρ) → De F t ρ Q := fun h X M N σ H ok Qh P => h X M N σ H ok Qh fun sv ρ' M' N' v' H' s ok' o ⟨e1, e2⟩ => P sv ρ' M' N' v' H' s ok' o (by rw [e1, e2]; exact q)
  cases b with
  | true => rw [if_pos rfl]; exact k h1
  | false => rw [if_neg Bool.false_ne_true]; exact k h2
theorem if_J {b : Bool} (Q' : SV → List SV → Prop) (h1 : De F ta ρ Q') (h2 : De F tb ρ Q') (q : ∀ sv ρ', Q' sv ρ' → Q sv ρ') : if b = true then De F ta ρ Q else De F tb ρ Q := by
  have k : ∀ {t : TE}, De F t ρ Q' → De F t ρ Q := fun h X M N σ H ok Qh P => h X M N σ H ok Qh fun sv ρ' M' N' v' H' s ok' o z => P sv ρ' M' N' v' H' s ok' o (q _ _ z)
  cases b with
  | true => rw [if_pos rfl]; exact k h1
  | false => rw [if_neg Bool.false_ne_true]; exact k h2
theorem kw_end {A B : Prop} {C : Prop} {D : Prop} (l1 : A) (l2 : B) (hp : C) (q : D) : A ∧ B ∧ C ∧ D := ⟨l1, l2, hp, q⟩
theorem pair0 {R : SV → V → Prop} {vs : List V} (h : Paired R [] vs) : vs = [] := by cases h; rfl
theorem ds_ifJ (I : List SV → Prop) (h : Ds F (tIfS tt ts tv) { D₀ with nx := Up I } ρ) (k : ∀ ρ', I ρ' → D₀.nx ρ') : Ds F (tIfS tt ts tv) D₀ ρ := fun X M N σ H ok Dh E =>
  h X M N σ H ok Dh ⟨fun ρ' M' N' σ' H' s ok' ⟨ρ2, l, q⟩ => E.nx _ _ _ _ _ s (ok'.le l) (k _ q), E.rt, E.bk, E.ct⟩
/-- a list or tuple of equal kinds, walked -/
theorem forL {ds : List D} (G : List D → List SV → Prop) (h0 : Up (G ds) ρ) (ht : ∀ d r ρ2, d ∈ ds → G (d :: r) ρ2 → Dg F g (.dat d none) ρ2 fun ρ3 => Ds F ts { D₀ with nx := Up (G r), ct := Up (G r), bk := D₀.nx } ρ3) (he : ∀ ρ2, G [] ρ2 → D₀.nx ρ2) : ForD F (itL ds) g ts D₀ ρ := by
  have e : itL ds = itM ds id := by rw [← itM_eq, List.map_id]
  rw [e]
  exact forR G h0 ht he
end
end Cr

namespace Cr
open PySem PySem.Spec PyProof.Rows L2 L2H
local macro_rules | `(tactic| walk_at "rd") => `(tactic| first
  | ((with_reducible refine' w_var ?hv ?_); (case hv => first | rfl | assumption))
  | (with_reducible refine w_c ?_)
  | (with_reducible refine w_op ?_)
  | (with_reducible refine w_cons ?_)
  | (with_reducible refine w_nil ?_)
  | (with_reducible refine w_cb ?_)
  | (with_reducible refine w_call ?_)
  | (with_reducible refine w_seq ?_)
  | (with_reducible refine w_asg ?_)
  | (with_reducible refine w_name ?_)
  | (with_reducible refine w_sub ?_)
  | (with_reducible refine w_ret ?_)
  | (with_reducible refine w_ifS ?_)
  | (with_reducible refine w_next ?_)
  | (with_reducible refine w_test ?_)
  | (with_reducible refine w_b ?_)
  | (with_reducible refine w_bl ?_)
  | (with_reducible refine w_and ?_)
  | (with_reducible refine w_or ?_)
  | (with_reducible refine w_not ?_)
  | (with_reducible refine w_andV ?_)
  | (with_reducible refine w_orV ?_)
  | (with_reducible refine w_notV ?_)
  | (with_reducible refine w_ifNT ?_)
  | (with_reducible refine w_ifNF ?_)
  | (with_reducible refine w_if ?_)
  | (with_reducible refine w_ifT ?_)
  | (with_reducible refine w_ifF ?_)
  | (with_reducible refine w_chain ?_)
  | (with_reducible refine add_ii ?_)
  | (with_reducible refine sub_ii ?_)
  | ((with_reducible refine mul_ii ?hc ?_); (case hc => first | exact cmul1 (by omega) (by omega) | exact cmul2 (by omega) (by omega)))
  | ((with_reducible refine div_ii ?hc ?_); (case hc => exact cdivs (by omega) (by omega)))
  | ((with_reducible refine mod_ii ?hc ?_); (case hc => omega))
  | ((with_reducible refine pow_ii ?hc ?_); (case hc => exact cpows (by omega) (by omega) (by omega) (by omega)))
  | (with_reducible refine neg_i ?_)
  | (with_reducible refine w_un ?_)
  | (with_reducible refine lt_ii ?_)
  | (with_reducible refine le_ii ?_)
  | (with_reducible refine gt_ii ?_)
  | (with_reducible refine ge_ii ?_)
  | (with_reducible refine eq_ii ?_)
  | (with_reducible refine eq_ss ?_)
  | (with_reducible refine eq_btt ?_)
  | (with_reducible refine eq_bff ?_)
  | (with_reducible refine eq_bb ?_)
  | (with_reducible refine ne_ii ?_)
  | (with_reducible refine ne_ss ?_)
  | (with_reducible refine ne_btt ?_)
  | (with_reducible refine ne_bff ?_)
  | (with_reducible refine ne_bb ?_)
  | (with_reducible refine isi_non_bool ?_)
  | (with_reducible refine isi_non_int ?_)
  | (with_reducible refine isi_non_str ?_)
  | (with_reducible refine isi_non_dict ?_)
  | (with_reducible refine isi_non_list ?_)
  | (with_reducible refine isi_non_tuple ?_)
  | (with_reducible refine isi_bl_bool ?_)
  | (with_reducible refine isi_bl_int ?_)
  | (with_reducible refine isi_bl_str ?_)
  | (with_reducible refine isi_bl_dict ?_)
  | (with_reducible refine isi_bl_list ?_)
  | (with_reducible refine isi_bl_tuple ?_)
  | (with_reducible refine isi_int_bool ?_)
  | (with_reducible refine isi_int_int ?_)
  | (with_reducible refine isi_int_str ?_)
  | (with_reducible refine isi_int_dict ?_)
  | (with_reducible refine isi_int_list ?_)
  | (with_reducible refine isi_int_tuple ?_)
  | (with_reducible refine isi_str_bool ?_)
  | (with_reducible refine isi_str_int ?_)
  | (with_reducible refine isi_str_str ?_)
  | (with_reducible refine isi_str_dict ?_)
  | (with_reducible refine isi_str_list ?_)
  | (with_reducible refine isi_str_tuple ?_)
  | (with_reducible refine is_bl_n ?_)
  | (with_reducible refine isn_bl_n ?_)
  | (with_reducible refine is_int_n ?_)
  | (with_reducible refine isn_int_n ?_)
  | (with_reducible refine is_str_n ?_)
  | (with_reducible refine isn_str_n ?_)
  | (with_reducible refine is_ref_n ?_)
  | (with_reducible refine isn_ref_n ?_)
  | (with_reducible refine is_non_n ?_)
  | (with_reducible refine isn_non_n ?_)
  | (with_reducible refine is_n ?_)
  | (with_reducible refine is_bb ?_)
  | (with_reducible refine isn_n ?_)
  | (with_reducible refine int_i ?_)
  | (with_reducible refine int_b ?_)
  | (with_reducible refine abs_i ?_)
  | (with_reducible refine max_2 ?_)
  | (with_reducible refine min_2 ?_)
  | (with_reducible refine w_drop ?_)
  | (with_reducible refine w_lst ?_)
  | (with_reducible refine w_tup ?_)
  | (with_reducible refine w_bm ?_)
  | (with_reducible refine w_sl ?_)
  | (with_reducible refine w_po ?_)
  | (with_reducible refine w_poI ?_)
  | (with_reducible refine w_no ?_)
  | (with_reducible refine w_par2 ?_)
  | (with_reducible refine par2 ?_)
  | (with_reducible refine w_kw ?_)
  | (with_reducible refine w_xf ?_)
  | (with_reducible refine w_dnew ?_)
  | (with_reducible refine w_disp ?_)
  | (with_reducible refine w_gc ?_)
  | (with_reducible refine w_gn ?_)
  | (with_reducible refine w_revL ?_)
  | (with_reducible refine w_ip ?_)
  | (with_reducible refine par3 ?_)
  | (with_reducible refine w_par3 ?_)
  | (with_reducible refine w_err ?_)
  | (with_reducible refine w_lc ?_)
  | (with_reducible refine w_while ?_)
  | (with_reducible refine w_dnin ?_)
  | (with_reducible refine w_din ?_)
  | (with_reducible refine w_dget ?_)
  | (with_reducible refine w_dput ?_)
  | (with_reducible refine w_yes ?_)
  | (with_reducible refine w_keys ?_)
  | (with_reducible refine w_keysH ?_)
  | (with_reducible refine w_enum ?_)
  | (with_reducible refine w_brk ?_)
  | (with_reducible refine w_cnt ?_)
  | (with_reducible refine w_lockE ?_)
  | (with_reducible refine w_for ?_)
  | (with_reducible refine w_rng1 ?_)
  | (with_reducible refine w_rng2 ?_)
  | (with_reducible refine w_il ?_)
  | (with_reducible refine w_it ?_)
  | (with_reducible refine w_is ?_)
  | ((with_reducible refine r_rng1 ?h1 ?h2 ?_); (case h1 => omega); (case h2 => omega))
  | ((with_reducible refine r_rng2 ?h1 ?h2 ?h3 ?h4 ?_); (case h1 => omega); (case h2 => omega); (case h3 => omega); (case h4 => omega))
  | ((with_reducible refine' w_aug ?hv ?_); (case hv => first | rfl | assumption)))
local macro_rules | `(tactic| walk_at "rds") => `(tactic| repeat (walk_at "rd"))
local macro_rules | `(tactic| walk_at "dd") => `(tactic| first
  | (with_reducible refine Dz.of ?_)
  | (with_reducible refine fz_dat ?_)
  | (with_reducible refine fz_fr ?_)
  | (with_reducible refine fz_bor ?_)
  | (with_reducible refine fz_raw ?_)
  | (with_reducible refine da_nil ?_)
  | (with_reducible refine da_cons ?_)
  | (with_reducible refine fzs_n ?_)
  | (with_reducible refine fzs_d ?_)
  | (with_reducible refine fzs_r ?_)
  | ((with_reducible refine' dv_d ?h ?_); (case h => rfl))
  | ((with_reducible refine' dv_o ?h ?_); (case h => rfl))
  | ((with_reducible refine' dv_b ?h ?_); (case h => rfl))
  | ((with_reducible refine' dv_r ?h ?_); (case h => rfl))
  | ((with_reducible refine' fzs_o ?h ?_); (case h => rfl))
  | ((with_reducible refine' fzs_o2 ?h ?_); (case h => rfl))
  | ((with_reducible refine' fzs_b ?h ?_); (case h => rfl))
  | ((with_reducible refine' dg_o ?h ?_); (case h => rfl))
  | ((with_reducible refine' fzv_o ?h ?_); (case h => rfl))
  | (with_reducible refine ds_seq ?_)
  | (with_reducible refine ds_next ?_)
  | (with_reducible refine ds_if ?_)
  | (with_reducible refine ds_ret ?_)
  | (with_reducible refine ds_drop ?_)
  | (with_reducible refine ds_asg ?_)
  | (with_reducible refine dg_d ?_)
  | (with_reducible refine dg_f ?_)
  | (with_reducible refine dg_r ?_)
  | (with_reducible refine d_op ?_)
  | (with_reducible refine d_call ?_)
  | (with_reducible refine d_cb ?_)
  | (with_reducible refine dc_i ?_)
  | (with_reducible refine dc_b ?_)
  | (with_reducible refine dc_s ?_)
  | (with_reducible refine dc_n ?_)
  | (with_reducible refine dc_t ?_)
  | (with_reducible refine d_tup_ty ?_)
  | (with_reducible refine d_lst ?_)
  | (with_reducible refine d_tup ?_)
  | (with_reducible refine dt_b ?_)
  | (with_reducible refine dt_t ?_)
  | (with_reducible refine dt_and ?_)
  | (with_reducible refine dt_or ?_)
  | (with_reducible refine dt_not ?_)
  | (with_reducible refine dt_yes ?_)
  | (with_reducible refine isB ?_)
  | (with_reducible refine isI ?_)
  | (with_reducible refine d_if ?_)
  | (with_reducible refine d_andV ?_)
  | (with_reducible refine d_orV ?_)
  | (with_reducible refine d_notV ?_)
  | (with_reducible refine d_chain ?_)
  | (with_reducible refine d_sl ?_)
  | (with_reducible refine d_po ?_)
  | (with_reducible refine d_pn ?_)
  | (with_reducible refine d_un ?_)
  | (with_reducible refine rv_ld ?_)
  | (with_reducible refine ds_retN ?_)
  | (with_reducible refine ds_parF ?_)
  | (with_reducible refine ds_parF3 ?_)
  | (with_reducible refine daf_nil ?_)
  | (with_reducible refine daf_cons ?_)
  | (with_reducible refine kp_f ?_)
  | (with_reducible refine kp_d ?_)
  | (with_reducible refine kp_r ?_)
  | (with_reducible refine ds_brk ?_)
  | (with_reducible refine ds_cnt ?_)
  | (with_reducible refine w_ifNT ?_)
  | (with_reducible refine w_ifNF ?_)
  | (with_reducible refine w_ifT ?_)
  | (with_reducible refine w_ifF ?_)
  | (with_reducible refine ad_ii ?_)
  | (with_reducible refine sb_ii ?_)
  | (with_reducible refine lt_d ?_)
  | (with_reducible refine le_d ?_)
  | (with_reducible refine gt_d ?_)
  | (with_reducible refine ge_d ?_)
  | (with_reducible refine eq_d ?_)
  | (with_reducible refine ne_d ?_)
  | (with_reducible refine eq_sd ?_)
  | (with_reducible refine ne_sd ?_)
  | (with_reducible refine eq_bd ?_)
  | (with_reducible refine ne_bd ?_)
  | (with_reducible refine lt_sd ?_)
  | (with_reducible refine is_bd ?_)
  | (with_reducible refine ng_i ?_)
  | (with_reducible refine int_id ?_)
  | (with_reducible refine int_bd ?_)
  | (with_reducible refine abs_d ?_)
  | (with_reducible refine max_2d ?_)
  | (with_reducible refine min_2d ?_)
  | (with_reducible refine gcd_d ?_)
  | (with_reducible refine len_td ?_)
  | (with_reducible refine lst_td ?_)
  | (with_reducible refine tup_td ?_)
  | (with_reducible refine di_l ?_)
  | (with_reducible refine di_t ?_)
  | (with_reducible refine di_s ?_)
  | (with_reducible refine di_r1 ?_)
  | (with_reducible refine di_r2 ?_)
  | (with_reducible refine di_en ?_)
  | (with_reducible refine di_zip ?_)
  | (with_reducible refine one_d ?_)
  | (with_reducible refine two_d ?_)
  | (with_reducible refine int1 ?_)
  | (with_reducible refine int2 ?_)
  | (with_reducible refine isL ?_)
  | (with_reducible refine isT ?_)
  | (with_reducible refine isLT1 ?_)
  | (with_reducible refine isLT2 ?_)
  | (with_reducible refine ds_forD ?_)
  | (with_reducible refine d_bm ?_)
  | (with_reducible refine d_bm0 ?_)
  | (with_reducible refine dg_sub ?_)
  | (with_reducible refine fzv_d ?_)
  | (with_reducible refine fzv_f ?_)
  | (with_reducible refine dgs_n ?_)
  | (with_reducible refine dgs_c ?_)
  | (with_reducible refine d_kw ?_)
  | (with_reducible refine d_dnew ?_)
  | (with_reducible refine d_dget2 ?_)
  | (with_reducible refine d_dget ?_)
  | (with_reducible refine d_din ?_)
  | (with_reducible refine d_dnin ?_)
  | (with_reducible refine ds_dput ?_)
  | (with_reducible refine di_keys ?_)
  | (with_reducible refine d_kw ?_)
  | ((with_reducible refine' md_ii ?h ?_); (case h => omega))
  | ((with_reducible refine' dv_ii ?h ?_); (case h => exact cdivs (by omega) (by omega)))
  | ((with_reducible refine' ml_ii ?h ?_); (case h => first | exact cmul1 (by omega) (by omega) | exact cmul2 (by omega) (by omega)))
  | ((with_reducible refine' pw_ii ?h ?_); (case h => exact cpows (by omega) (by omega) (by omega) (by omega)))
  | ((with_reducible refine' len_ld ?ha ?_); (case ha => first | exact has_d | exact has_o rfl))
  | ((with_reducible refine' len_kd ?ha ?_); (case ha => first | exact has_d | exact has_o rfl))
  | ((with_reducible refine' lst_ld ?ha ?_); (case ha => first | exact has_d | exact has_o rfl))
  | ((with_reducible refine' tup_ld ?ha ?_); (case ha => first | exact has_d | exact has_o rfl))
  | ((with_reducible refine' isi_d ?ha ?hn ?_); (case ha => first | exact has_d | exact has_o rfl); (case hn => rfl))
  | ((with_reducible refine' isi_d2 ?ha ?hn ?hm ?_); (case ha => first | exact has_d | exact has_o rfl); (case hn => rfl); (case hm => rfl))
  | ((with_reducible refine' is_d ?h ?_); (case h => first | exact has_d | exact has_o rfl))
  | ((with_reducible refine' isn_d ?h ?_); (case h => first | exact has_d | exact has_o rfl))
  | ((with_reducible refine' sl_ld ?ha ?_); (case ha => first | exact has_d | exact has_o rfl))
  | ((with_reducible refine' ds_augI ?h ?_); (case h => rfl))
  | ((with_reducible refine' dg_tup ?hl ?_); (case hl => rfl))
  | ((with_reducible refine' d_lc ?hg ?_); (case hg => (first | exact gg_n (by decide) | exact gg_t (by repeat (first | exact ggs_n | refine ggs_c (gg_n (by decide)) ?_)))))
  | ((with_reducible refine' mt_ap ?hj ?hl ?_); (case hj => rfl); (case hl => first | omega | (simp only [List.length_append, List.length_map, List.length_cons, List.length_nil]; omega) | (simp only [List.length_append, List.length_map, List.length_cons, List.length_nil]; done)))
  | ((with_reducible refine' ad_ll ?ha ?hb ?h ?_); (case ha => first | exact has_d | exact has_o rfl); (case hb => first | exact has_d | exact has_o rfl); (case h => first | omega | (simp only [List.length_append, List.length_map, List.length_cons, List.length_nil, List.length_reverse]; omega) | (simp only [List.length_append, List.length_map, List.length_cons, List.length_nil, List.length_reverse]; done)))
  | ((with_reducible refine' w_tyT ?h ?_); (case h => rfl))
  | ((with_reducible refine' w_tyF ?h ?_); (case h => rfl))
  | ((with_reducible refine' w_tyNT ?h ?_); (case h => rfl))
  | ((with_reducible refine' w_tyNF ?h ?_); (case h => rfl))
  | ((with_reducible refine' w_ty2T ?h ?_); (case h => rfl))
  | ((with_reducible refine' w_ty2F ?h ?_); (case h => rfl))
  | ((with_reducible refine' w_ty2NT ?h ?_); (case h => rfl))
  | ((with_reducible refine' w_ty2NF ?h ?_); (case h => rfl))
  | ((with_reducible refine' w_nonT ?h ?_); (case h => rfl))
  | ((with_reducible refine' w_nonF ?h ?_); (case h => rfl))
  | ((with_reducible refine' w_nonNT ?h ?_); (case h => rfl))
  | ((with_reducible refine' w_nonNF ?h ?_); (case h => rfl))
  | ((with_reducible refine' len_q ?h ?_); (case h => assumption))
  | ((with_reducible refine' lst_q ?h ?_); (case h => assumption))
  | ((with_reducible refine' tup_q ?h ?_); (case h => assumption))
  | ((with_reducible refine' isLTq ?h ?_); (case h => assumption))
  | ((with_reducible refine' ix_qi ?h ?h0 ?h1 ?_); (case h => assumption); (case h0 => omega); (case h1 => omega))
  | ((with_reducible refine' call_p ?hW ?nb ?_); (case hW => first | assumption | exact noW); (case nb => exact trivial))
  | ((with_reducible refine' call_b ?hj ?nb ?_); (case hj => rfl); (case nb => exact trivial))
  | ((with_reducible refine' take_d ?hj ?hB ?h1 ?h2 ?_); (case hj => rfl); (case hB => omega); (case h1 => omega); (case h2 => omega))
  | ((with_reducible refine' kp_b ?h ?_); (case h => rfl))
  | ((with_reducible refine' ix_li ?ha ?h0 ?h1 ?_); (case ha => first | exact has_d | exact has_o rfl); (case h0 => omega); (case h1 => omega))
  | ((with_reducible refine' ix_ti ?h0 ?h1 ?_); (case h0 => omega); (case h1 => omega))
  | ((with_reducible refine' dv_l ?h ?_); (case h => rfl))
  | ((with_reducible refine' hk2 ?h ?_); (case h => first | exact hsk has_d | exact hsk (has_o rfl) | exact hsk_l rfl))
  | ((with_reducible refine' g2e ?h ?hk ?_); (case h => first | exact hsk has_d | exact hsk (has_o rfl) | exact hsk_l rfl); (case hk => first | exact key_i | exact key_s))
  | ((with_reducible refine' ine ?h ?hk ?_); (case h => first | exact hsk has_d | exact hsk (has_o rfl) | exact hsk_l rfl); (case hk => first | exact key_i | exact key_s))
  | ((with_reducible refine' pute ?hj ?hk ?hl ?_); (case hj => rfl); (case hk => first | exact key_i | exact key_s); (case hl => omega))
  | ((with_reducible refine' keye ?h ?_); (case h => rfl))
  | ((with_reducible refine' kw_end ?l1 ?l2 ?hp ?_); (case l1 => rfl); (case l2 => rfl); (case hp => (intro M σ vs ws h1 h2; (first | (have eh1 := pair0 h1; subst eh1) | (obtain ⟨_, eh1, _⟩ := pair1 h1; subst eh1) | (obtain ⟨_, _, eh1, _, _⟩ := pair2 h1; subst eh1) | (obtain ⟨_, _, _, eh1, _, _, _⟩ := pair3 h1; subst eh1)); (first | (have eh2 := pair0 h2; subst eh2) | (obtain ⟨_, eh2, _⟩ := pair1 h2; subst eh2) | (obtain ⟨_, _, eh2, _, _⟩ := pair2 h2; subst eh2) | (obtain ⟨_, _, _, eh2, _, _, _⟩ := pair3 h2; subst eh2)); repeat (first | exact Paired.nil | refine Paired.cons (by assumption) ?_))))
  | ((with_reducible refine' rg1 ?h1 ?h2 ?_); (case h1 => omega); (case h2 => omega))
  | ((with_reducible refine' rg2 ?h1 ?h2 ?h3 ?h4 ?_); (case h1 => omega); (case h2 => omega); (case h3 => omega); (case h4 => omega))
  | ((with_reducible refine' rv_end ?h ?_); (case h => first | exact has_d | exact has_o rfl))
  | ((with_reducible refine' parf_end ?h1 ?h2 ?_); (case h1 => rfl); (case h2 => exact trivial))
  | ((with_reducible refine' tyd_l  ?_))
  | ((with_reducible refine' tyd_o ?h ?_); (case h => rfl))
  | ((with_reducible refine' tyd_k  ?_))
  | ((with_reducible refine' tyd_ok ?h ?_); (case h => rfl))
  | ((with_reducible refine' tyd_s  ?_))
  | ((with_reducible refine' dl0  ?_))
  | ((with_reducible refine' dl1  ?_))
  | ((with_reducible refine' dl2  ?_))
  | ((with_reducible refine' dl3  ?_))
  | ((with_reducible refine' dl4  ?_))
  | ((with_reducible refine' dl5  ?_))
  | ((with_reducible refine' dl6  ?_))
  | ((with_reducible refine' dl7  ?_))
  | ((with_reducible refine' dl8  ?_))
  | ((with_reducible refine' dl9  ?_))
  | ((with_reducible refine' dl10  ?_))
  | ((with_reducible refine' dl11  ?_))
  | ((with_reducible refine' dl12  ?_))
  | ((with_reducible refine' dl13  ?_))
  | ((with_reducible refine' dl14  ?_))
  | ((with_reducible refine' dl15  ?_))
  | ((with_reducible refine' dl16  ?_))
  | ((with_reducible refine' dl17  ?_))
  | ((with_reducible refine' dl18  ?_))
  | ((with_reducible refine' dl19  ?_))
  | ((with_reducible refine' dl20  ?_))
  | ((with_reducible refine' dl21  ?_))
  | ((with_reducible refine' dl22  ?_))
  | ((with_reducible refine' dl23  ?_))
  | ((with_reducible refine' dl24  ?_))
  | ((with_reducible refine' dl25  ?_))
  | ((with_reducible refine' dl26  ?_))
  | ((with_reducible refine' dl27  ?_))
  | ((with_reducible refine' dl28  ?_))
  | ((with_reducible refine' dl29  ?_))
  | ((with_reducible refine' dl30  ?_))
  | walk_at "dc"
  | rw [toN1]
  | rw [toN0]
  | rw [List.length_map])
local macro_rules | `(tactic| walk_at "dc") => `(tactic| fail)
local macro_rules | `(tactic| walk_at "dds") => `(tactic| repeat (walk_at "dd"))
local macro_rules | `(tactic| walk_at "le") => `(tactic| repeat (first | exact Le.refl | exact Paired.nil | refine Paired.cons Le1.refl ?_ | refine Paired.cons Le1.id ?_ | refine Paired.cons (Le1.box (by omega)) ?_ | refine Paired.cons Le1.un ?_))
def topS (i : Nat) : Stmt := PySem.Challenge.pw_comerounds_k15_multiples_of_rows.main.body.getD i (.Pass ⟨0, 0, 0, 0⟩)
abbrev s_RowError : Stmt := topS 2
abbrev s_InvalidRow : Stmt := topS 3
abbrev s_is_integer : Stmt := topS 5
theorem sc_is_integer : FnScope ["value"] ["value"] (defScope s_is_integer) := ⟨rfl, rfl, rfl, by decide +kernel, rfl, by decide +kernel, by decide +kernel⟩
abbrev s_is_sequence : Stmt := topS 6
theorem sc_is_sequence : FnScope ["value"] ["value"] (defScope s_is_sequence) := ⟨rfl, rfl, rfl, by decide +kernel, rfl, by decide +kernel, by decide +kernel⟩
abbrev s_are_integers : Stmt := topS 7
theorem sc_are_integers : FnScope ["value", "least", "greatest", "item"] ["value", "least", "greatest"] (defScope s_are_integers) := ⟨rfl, rfl, rfl, by decide +kernel, rfl, by decide +kernel, by decide +kernel⟩
abbrev s_divisors_of : Stmt := topS 9
theorem sc_divisors_of : FnScope ["number", "low", "high", "k"] ["number"] (defScope s_divisors_of) := ⟨rfl, rfl, rfl, by decide +kernel, rfl, by decide +kernel, by decide +kernel⟩
abbrev s_factors_of : Stmt := topS 10
theorem sc_factors_of : FnScope ["number", "found", "left", "l", "power"] ["number"] (defScope s_factors_of) := ⟨rfl, rfl, rfl, by decide +kernel, rfl, by decide +kernel, by decide +kernel⟩
abbrev s_mu_of : Stmt := topS 11
theorem sc_mu_of : FnScope ["number", "found", "l", "power"] ["number"] (defScope s_mu_of) := ⟨rfl, rfl, rfl, by decide +kernel, rfl, by decide +kernel, by decide +kernel⟩
abbrev s_is_row : Stmt := topS 14
theorem sc_is_row : FnScope ["value"] ["value"] (defScope s_is_row) := ⟨rfl, rfl, rfl, by decide +kernel, rfl, by decide +kernel, by decide +kernel⟩
abbrev s_check_row : Stmt := topS 15
theorem sc_check_row : FnScope ["row"] ["row"] (defScope s_check_row) := ⟨rfl, rfl, rfl, by decide +kernel, rfl, by decide +kernel, by decide +kernel⟩
abbrev s_sum_at : Stmt := topS 16
theorem sc_sum_at : FnScope ["row", "n", "d"] ["row", "n"] (defScope s_sum_at) := ⟨rfl, rfl, rfl, by decide +kernel, rfl, by decide +kernel, by decide +kernel⟩
abbrev s_multiple : Stmt := topS 18
theorem sc_multiple : FnScope ["row", "found", "n", "lacks"] ["row"] (defScope s_multiple) := ⟨rfl, rfl, rfl, by decide +kernel, rfl, by decide +kernel, by decide +kernel⟩
abbrev s_check_two : Stmt := topS 20
theorem sc_check_two : FnScope ["one", "other"] ["one", "other"] (defScope s_check_two) := ⟨rfl, rfl, rfl, by decide +kernel, rfl, by decide +kernel, by decide +kernel⟩
abbrev s_sum_of : Stmt := topS 21
theorem sc_sum_of : FnScope ["one", "other", "left", "right"] ["one", "other"] (defScope s_sum_of) := ⟨rfl, rfl, rfl, by decide +kernel, rfl, by decide +kernel, by decide +kernel⟩
abbrev s_product_of : Stmt := topS 22
theorem sc_product_of : FnScope ["one", "other", "left", "right"] ["one", "other"] (defScope s_product_of) := ⟨rfl, rfl, rfl, by decide +kernel, rfl, by decide +kernel, by decide +kernel⟩
abbrev s_cell : Stmt := topS 24
theorem sc_cell : FnScope ["script", "k"] ["script", "k"] (defScope s_cell) := ⟨rfl, rfl, rfl, by decide +kernel, rfl, by decide +kernel, by decide +kernel⟩
abbrev s_box : Stmt := topS 25
theorem sc_box : FnScope ["great"] ["great"] (defScope s_box) := ⟨rfl, rfl, rfl, by decide +kernel, rfl, by decide +kernel, by decide +kernel⟩
abbrev s_take : Stmt := topS 26
theorem sc_take : FnScope ["box", "many", "digit", "mixed"] ["box", "many"] (defScope s_take) := ⟨rfl, rfl, rfl, by decide +kernel, rfl, by decide +kernel, by decide +kernel⟩
abbrev s_pick : Stmt := topS 27
theorem sc_pick : FnScope ["box", "items"] ["box", "items"] (defScope s_pick) := ⟨rfl, rfl, rfl, by decide +kernel, rfl, by decide +kernel, by decide +kernel⟩
abbrev s_same : Stmt := topS 28
theorem sc_same : FnScope ["given", "due", "k", "key"] ["given", "due"] (defScope s_same) := ⟨rfl, rfl, rfl, by decide +kernel, rfl, by decide +kernel, by decide +kernel⟩
abbrev s_copy : Stmt := topS 29
theorem sc_copy : FnScope ["value", "item", "key"] ["value"] (defScope s_copy) := ⟨rfl, rfl, rfl, by decide +kernel, rfl, by decide +kernel, by decide +kernel⟩
abbrev s_very : Stmt := topS 30
theorem sc_very : FnScope ["given", "value"] ["given", "value"] (defScope s_very) := ⟨rfl, rfl, rfl, by decide +kernel, rfl, by decide +kernel, by decide +kernel⟩
abbrev s_gcd : Stmt := topS 31
theorem sc_gcd : FnScope ["one", "other", "turn"] ["one", "other"] (defScope s_gcd) := ⟨rfl, rfl, rfl, by decide +kernel, rfl, by decide +kernel, by decide +kernel⟩
abbrev s_row : Stmt := topS 32
theorem sc_row : FnScope ["rings", "n", "d"] ["rings"] (defScope s_row) := ⟨rfl, rfl, rfl, by decide +kernel, rfl, by decide +kernel, by decide +kernel⟩
abbrev s_drawn_row : Stmt := topS 33
theorem sc_drawn_row : FnScope ["box", "most", "many", "way", "row", "at", "k"] ["box", "most"] (defScope s_drawn_row) := ⟨rfl, rfl, rfl, by decide +kernel, rfl, by decide +kernel, by decide +kernel⟩
abbrev s_primes : Stmt := topS 34
theorem sc_primes : FnScope ["n", "found", "l", "power", "left", "size", "turn"] ["n"] (defScope s_primes) := ⟨rfl, rfl, rfl, by decide +kernel, rfl, by decide +kernel, by decide +kernel⟩
abbrev s_is_net : Stmt := topS 35
theorem sc_is_net : FnScope ["row", "n", "l", "power", "size"] ["row"] (defScope s_is_net) := ⟨rfl, rfl, rfl, by decide +kernel, rfl, by decide +kernel, by decide +kernel⟩
abbrev s_some_row : Stmt := topS 37
theorem sc_some_row : FnScope ["box", "most", "way", "many", "great", "row", "at", "k"] ["box", "most"] (defScope s_some_row) := ⟨rfl, rfl, rfl, by decide +kernel, rfl, by decide +kernel, by decide +kernel⟩
abbrev s_l_multiple : Stmt := topS 38
theorem sc_l_multiple : FnScope ["row", "lacks", "n", "l", "power", "size", "rest", "there", "one", "turn", "found"] ["row"] (defScope s_l_multiple) := ⟨rfl, rfl, rfl, by decide +kernel, rfl, by decide +kernel, by decide +kernel⟩
abbrev s_one_right : Stmt := topS 39
theorem sc_one_right : FnScope ["box", "row", "named", "due", "kept", "told", "l", "times", "more", "size", "short", "term"] ["box", "row", "named"] (defScope s_one_right) := ⟨rfl, rfl, rfl, by decide +kernel, rfl, by decide +kernel, by decide +kernel⟩
abbrev s_pair_right : Stmt := topS 40
theorem sc_pair_right : FnScope ["one", "other", "named", "size", "needs", "both", "total", "whole", "told", "k"] ["one", "other", "named"] (defScope s_pair_right) := ⟨rfl, rfl, rfl, by decide +kernel, rfl, by decide +kernel, by decide +kernel⟩
abbrev s_refused : Stmt := topS 41
theorem sc_refused : FnScope ["value", "named", "e"] ["value", "named"] (defScope s_refused) := ⟨rfl, rfl, rfl, by decide +kernel, rfl, by decide +kernel, by decide +kernel⟩
abbrev s_law : Stmt := topS 42
theorem sc_law : FnScope ["script", "odd", "k", "box", "named", "one", "other", "same", "bent", "turn", "at", "row", "pair", "value", "told"] ["script"] (defScope s_law) := ⟨rfl, rfl, rfl, by decide +kernel, rfl, by decide +kernel, by decide +kernel⟩
def pi_multiple_0_row {α : Type} (us ws : List α) : List α := match us, ws with
  | [], [b0] => [b0]
  | _, _ => []
theorem kw_multiple_0_row : Kw "multiple" s_multiple ["row"] ["row"] 0 pi_multiple_0_row :=
  ⟨fun _ _ _ _ _ _ us ws h1 h2 => match us, ws, h1, h2 with | [], [_], _, _ => rfl,
   fun h1 h2 r z => by
    rename_i vs zs us ws
    match vs, zs, us, ws, h1, h2, r, z with
    | [], [_], _, _, _, _, .nil, .cons z0 (.nil) => exact .cons z0 (.nil)⟩
/-- where the classes stand -/
structure Ad where
  RowError : Addr
  InvalidRow : Addr
/-- what the top leaves -/
structure Txt (K : PySem.W.Frag) (mg : Str → Option Value) (A : Ad) : Prop where
  b_abs : mg "abs" = none
  b_all : mg "all" = none
  b_bool : mg "bool" = none
  b_dict : mg "dict" = none
  b_int : mg "int" = none
  b_isinstance : mg "isinstance" = none
  b_len : mg "len" = none
  b_list : mg "list" = none
  b_max : mg "max" = none
  b_min : mg "min" = none
  b_range : mg "range" = none
  b_str : mg "str" = none
  b_sum : mg "sum" = none
  b_tuple : mg "tuple" = none
  b_zip : mg "zip" = none
  c_MOST_TERMS : ∃ u, mg "MOST_TERMS" = some u ∧ RelV (.int 60) u
  m_gcd : mg "gcd" = some (.builtin "math.gcd")
  h_is_integer : Has K mg "is_integer" s_is_integer
  h_is_sequence : Has K mg "is_sequence" s_is_sequence
  h_are_integers : Has K mg "are_integers" s_are_integers
  h_divisors_of : Has K mg "divisors_of" s_divisors_of
  h_factors_of : Has K mg "factors_of" s_factors_of
  h_mu_of : Has K mg "mu_of" s_mu_of
  h_is_row : Has K mg "is_row" s_is_row
  h_check_row : Has K mg "check_row" s_check_row
  h_sum_at : Has K mg "sum_at" s_sum_at
  h_multiple : Has K mg "multiple" s_multiple
  h_check_two : Has K mg "check_two" s_check_two
  h_sum_of : Has K mg "sum_of" s_sum_of
  h_product_of : Has K mg "product_of" s_product_of
  h_cell : Has K mg "_law_cell" s_cell
  h_box : Has K mg "_law_box" s_box
  h_take : Has K mg "_law_take" s_take
  h_pick : Has K mg "_law_pick" s_pick
  h_same : Has K mg "_law_same" s_same
  h_copy : Has K mg "_law_copy" s_copy
  h_very : Has K mg "_law_very" s_very
  h_gcd : Has K mg "_law_gcd" s_gcd
  h_row : Has K mg "_law_row" s_row
  h_drawn_row : Has K mg "_law_drawn_row" s_drawn_row
  h_primes : Has K mg "_law_primes" s_primes
  h_is_net : Has K mg "_law_is_net" s_is_net
  h_some_row : Has K mg "_law_some_row" s_some_row
  h_l_multiple : Has K mg "_law_multiple" s_l_multiple
  h_one_right : Has K mg "_law_one_right" s_one_right
  h_pair_right : Has K mg "_law_pair_right" s_pair_right
  h_refused : Has K mg "_law_refused" s_refused
  h_law : Has K mg "law" s_law
  er_RowError : Er K mg "RowError" A.RowError
  er_InvalidRow : Er K mg "InvalidRow" A.InvalidRow
  no_InvalidRow_given : PySem.W.findIn K (.ref A.InvalidRow) "given" = some none
  in_InvalidRow : ∃ fI fd, PySem.W.findIn K (.ref A.InvalidRow) "__init__" = some (some (.ref fI)) ∧ PySem.W.typeIn K (.ref fI) = some (.type "function") ∧ Fun K "__init__" "InvalidRow.__init__" (inClass s_InvalidRow 0) fI fd
  rr : ∃ mc, ClX.CRead K A.RowError mc ∧ PySem.W.findCls K (.ref A.RowError) mc "__init__" = some (.val (.builtin "ValueError.__init__"))
  t_InvalidRow_RowError : PySem.W.exmOne K (.ref A.InvalidRow) (.ref A.RowError) = some true
  t_InvalidRow_InvalidRow : PySem.W.exmOne K (.ref A.InvalidRow) (.ref A.InvalidRow) = some true
section
variable {P : Program} {w : World} {K : PySem.W.Frag} {mg : Str → Option Value} {base : Heap} {A : Ad}
theorem sci_InvalidRow : FnScope ["self", "given"] ["self", "given"] (defScope (inClass s_InvalidRow 0)) := ⟨rfl, rfl, rfl, by decide +kernel, rfl, by decide +kernel, by decide +kernel⟩
theorem e_InvalidRow (T : Txt K mg A) : Em P w K mg base 1 "InvalidRow" A.InvalidRow ["given"] := by
  obtain ⟨fI, fd, iC, tI, F⟩ := T.in_InvalidRow
  obtain ⟨mc, cr, at_⟩ := T.rr
  refine ⟨T.er_InvalidRow, fun f hf => ?_, fI, fd, ["self", "given"], iC, tI, ?_, F.binds fun _ _ _ _ _ _ us hl => match us, hl with | [_, _], _ => rfl⟩
  · have e : f = "given" := by simpa using hf
    rw [e]
    exact T.no_InvalidRow_given
  · obtain ⟨oc, od, kV, doc, pm, an, cdv, ct, osl, rfl, lk, hcd⟩ := F.ex
    refine fn_of lk hcd sci_InvalidRow (fun vs H Q E h => ?_) fun A' outer s H vs Q E hr h => ?_
    · obtain ⟨a, as, rfl, hl, _⟩ := h
      rw [List.length_cons, hl]
      rfl
    · obtain ⟨a, as, rfl, hl, ha, q⟩ := h
      match as, hl with
      | [v], _ =>
        refine ⟨_, pss_cons (ps_expr (pe_rowinit (pl := _) T.er_RowError.gC cr at_ (pa_cons (pv 0) (pa_cons pe_str pa_nil)))) (pss_one (ps_ost (pv 0) (pv 1))), ?_⟩
        refine ⟨_, rfl, a, A.InvalidRow, _, rfl, Nat.le_of_ble_eq_true rfl, T.er_InvalidRow.oex, ha, v, rfl, .ref a, rfl, a, A.InvalidRow, rfl, T.er_InvalidRow.oex, T.no_InvalidRow_given, .inl ⟨ha, fun dx n1 n2 => q dx n1 n2⟩⟩
end

section
variable {P : Program} {w : World} {K : PySem.W.Frag} {mg : Str → Option Value} {base : Heap} {A : Ad}
theorem d_cell (T : Txt K mg A) : Df P w K mg base 1 "_law_cell" s_cell ["script", "k"] (spCell K) := by
  refine mk_df T.h_cell sc_cell (fun _ _ _ _ _ _ us hl => match us, hl with | [_, _], _ => rfl) (fun vs H Q E h => ?_) fun f cdv A' outer s H vs Q E hr h => ?_
  · obtain ⟨a, ns, k, rfl, _⟩ := h
    rfl
  · obtain ⟨a, ns, k, rfl, hS, h0, h1, q⟩ := h
    have hu := hu_of hr
    refine ⟨_, (pss_one (ps_ret (pe_ifExp (pt_cmpR o_lt (pv 1) (pe_callB (c_lenK K) (by rfl) T.b_len PySem.boot_len (pa_cons (pv 0) pa_nil)) (nomark _)) (pe_ix (ix_seqK K) (pv 0) (pv 1) (fun _ _ => rfl)) (pe_op (o_addK K) (pe_op (o_mulK K) pe_int (pv 1)) (pe_op o_mod (pe_callTy c_int (by rfl) T.b_int (by decide +kernel) (pa_cons (pe_callB (c_sumK K) (by rfl) T.b_sum (by decide +kernel) (pa_cons (pe_slice (s_anyK K) (pv 0) po_none (po_some pe_int)) pa_nil)) pa_nil)) pe_int))))), ?_⟩
    walk_at "rds"
    refine len_l hS ?_
    walk_at "rds"
    refine w_ifD (fun h => ?_) fun h => ?_
    · walk_at "rds"
      rw [List.length_map] at h
      obtain ⟨z, _, _, e⟩ := ati_of (f := V.int) h0 h
      exact ix_l hS e (q _ _ (Same.refl _))
    · walk_at "rds"
      refine sl_l hS fun p H1 np s1 e1 => ?_
      have e : cutV (ns.map V.int) none (some 1) = (ns.take 1).map V.int := by
        unfold cutV
        rw [HT.sIx_none, show HT.sIx (ns.map V.int).length (ns.map V.int).length (some 1) = min 1 (ns.map V.int).length from HT.sIx_nat _ _ 1]
        cases ns with
        | nil => rfl
        | cons x r =>
          rw [show min 1 ((x :: r).map V.int).length = 1 by simp]
          rfl
      rw [e] at e1
      walk_at "rds"
      refine sum_l (SqL.of e1) ?_
      walk_at "rds"
      exact q _ _ s1
theorem d_box (T : Txt K mg A) : Df P w K mg base 1 "_law_box" s_box ["great"] spBox := by
  refine mk_df T.h_box sc_box (fun _ _ _ _ _ _ us hl => match us, hl with | [_], _ => rfl) (fun vs H Q E h => ?_) fun f cdv A' outer s H vs Q E hr h => ?_
  · obtain ⟨i, rfl, _⟩ := h
    rfl
  · obtain ⟨i, rfl, q⟩ := h
    refine ⟨_, (pss_one (ps_ret (pe_lst (pa_cons (pe_callB c_abs (by rfl) T.b_abs (by decide +kernel) (pa_cons (pv 0) pa_nil)) (pa_cons (pe_cmpR o_ge (pe_callB c_abs (by rfl) T.b_abs (by decide +kernel) (pa_cons (pv 0) pa_nil)) (pe_op o_pow pe_int pe_int) (nomark _)) (pa_cons (pe_op o_mod (pe_callTy c_int (by rfl) T.b_int (by decide +kernel) (pa_cons (pe_callB c_abs (by rfl) T.b_abs (by decide +kernel) (pa_cons (pv 0) pa_nil)) pa_nil)) pe_int) (pa_cons pe_int pa_nil))))))), ?_⟩
    walk_at "rds"
    refine al_l (by simp) fun p H1 np s1 e1 => ?_
    refine q p _ s1 np ⟨_, _, _, _, e1, ?_, ?_, by decide, by decide⟩
    · exact Int.emod_nonneg _ (by decide)
    · exact Int.emod_lt_of_pos _ (by decide)
theorem d_take (T : Txt K mg A) : Df P w K mg base 1 "_law_take" s_take ["box", "many"] spTake := by
  refine mk_df T.h_take sc_take (fun _ _ _ _ _ _ us hl => match us, hl with | [_, _], _ => rfl) (fun vs H Q E h => ?_) fun f cdv A' outer s H vs Q E hr h => ?_
  · obtain ⟨a, m, B, rfl, _⟩ := h
    rfl
  · obtain ⟨a, m, B, rfl, ⟨g, r, c, k, hb, r0, r1, c0, c1⟩, hB, m0, m1, q⟩ := h
    unfold most at hB
    refine ⟨_, (pss_cons (ps_if (PW.pt (pw_and (pt_val (pe_ix (ix_seqK K) (pv 0) pe_int (fun _ _ => rfl))) (pw_and1 (pt_cmpR o_gt (pe_ix (ix_seqK K) (pv 0) pe_int (fun _ _ => rfl)) pe_int (nomark _)))))
  (pss_cons (ps_set (i := 2) sc_take.nd rfl (Or.inl rfl) (pe_op o_mod (pe_callTy c_int (by rfl) T.b_int (by decide +kernel) (pa_cons (pe_ix (ix_seqK K) (pv 0) pe_int (fun _ _ => rfl)) pa_nil)) (pv 1)))
  (pss_cons (ps_asg (pe_op o_fdiv (pe_ix (ix_seqK K) (pv 0) pe_int (fun _ _ => rfl)) (pv 1)) (pg_sub (pv 0) pe_int set_list))
  (pss_one (ps_ret (pv 2))))) pss_nil)
  (pss_cons (ps_asg (pe_op (o_addK K) (pe_ix (ix_seqK K) (pv 0) pe_int (fun _ _ => rfl)) pe_int) (pg_sub (pv 0) pe_int set_list))
  (pss_cons (ps_set (i := 3) sc_take.nd rfl (Or.inl rfl) (pe_op o_mod (pe_callTy c_int (by rfl) T.b_int (by decide +kernel) (pa_cons (pe_op o_pow (pe_op (o_addK K) (pe_op (o_addK K) (pe_ix (ix_seqK K) (pv 0) pe_int (fun _ _ => rfl)) (pe_op (o_mulK K) pe_int (pe_ix (ix_seqK K) (pv 0) pe_int (fun _ _ => rfl)))) pe_int) pe_int) pa_nil)) pe_int))
  (pss_one (ps_ret (pe_op o_mod (pe_callTy c_int (by rfl) T.b_int (by decide +kernel) (pa_cons (pe_op o_fdiv (pe_op o_mod (pe_callTy c_int (by rfl) T.b_int (by decide +kernel) (pa_cons (pe_op o_pow (pe_op (o_addK K) (pe_op (o_mulK K) (pv 3) pe_int) (pe_op (o_mulK K) pe_int (pe_ix (ix_seqK K) (pv 0) pe_int (fun _ _ => rfl)))) pe_int) pa_nil)) pe_int) pe_int) pa_nil)) (pv 1))))))), ?_⟩
    walk_at "rds"
    refine ix_l (SqL.of hb) (ati (m := 1) rfl) ?_
    walk_at "rds"
    refine w_if2 (fun hk => ?_) fun hk => ?_
    · walk_at "rds"
      refine ix_l (SqL.of hb) (ati (m := 0) rfl) ?_
      walk_at "rds"
      refine w_ifD (fun hg => ?_) fun hg => ?_
      · walk_at "rds"
        refine ix_l (SqL.of hb) (ati (m := 0) rfl) ?_
        walk_at "rds"
        refine ix_l (SqL.of hb) (ati (m := 0) rfl) ?_
        walk_at "rds"
        refine set_l hb (ixn (m := 0) (show 0 < 4 by decide)) ?_
        walk_at "rds"
        refine q _ _ But.upd ⟨_, _, _, _, upd_same, r0, r1, c0, by omega⟩ (Int.emod_nonneg _ (by omega)) (Int.emod_lt_of_pos _ (by omega))
      · walk_at "rds"
        refine ix_l (SqL.of hb) (ati (m := 3) rfl) ?_
        walk_at "rds"
        refine set_l hb (ixn (m := 3) (show 3 < 4 by decide)) ?_
        walk_at "rds"
        refine ix_l (SqL.of upd_same) (ati (m := 2) rfl) ?_
        walk_at "rds"
        refine ix_l (SqL.of upd_same) (ati (m := 3) rfl) ?_
        walk_at "rds"
        refine ix_l (SqL.of upd_same) (ati (m := 3) rfl) ?_
        walk_at "rds"
        exact q _ _ But.upd ⟨_, _, _, _, upd_same, r0, r1, by omega, by omega⟩ (Int.emod_nonneg _ (by omega)) (Int.emod_lt_of_pos _ (by omega))
    · walk_at "rds"
      refine ix_l (SqL.of hb) (ati (m := 3) rfl) ?_
      walk_at "rds"
      refine set_l hb (ixn (m := 3) (show 3 < 4 by decide)) ?_
      walk_at "rds"
      refine ix_l (SqL.of upd_same) (ati (m := 2) rfl) ?_
      walk_at "rds"
      refine ix_l (SqL.of upd_same) (ati (m := 3) rfl) ?_
      walk_at "rds"
      refine ix_l (SqL.of upd_same) (ati (m := 3) rfl) ?_
      walk_at "rds"
      exact q _ _ But.upd ⟨_, _, _, _, upd_same, r0, r1, by omega, by omega⟩ (Int.emod_nonneg _ (by omega)) (Int.emod_lt_of_pos _ (by omega))
theorem d_pick (T : Txt K mg A) : Df P w K mg base 2 "_law_pick" s_pick ["box", "items"] (spPick K) := by
  refine mk_df T.h_pick sc_pick (fun _ _ _ _ _ _ us hl => match us, hl with | [_, _], _ => rfl) (fun vs H Q E h => ?_) fun f cdv A' outer s H vs Q E hr h => ?_
  · obtain ⟨a, b, xs, B, rfl, _⟩ := h
    rfl
  · obtain ⟨a, b, xs, B, rfl, hb, hB, nb, hx, h0, hz, q⟩ := h
    have hl : 1 ≤ xs.length := by
      cases xs with
      | nil => exact absurd rfl h0
      | cons x r => simp
    refine ⟨_, (pss_one (ps_ret (pe_ix (ix_seqK K) (pv 1) (pcall (d_take T) hr takesN (pa_cons (pv 0) (pa_cons (pe_callB (c_lenK K) (by rfl) T.b_len PySem.boot_len (pa_cons (pv 1) pa_nil)) pa_nil))) (fun _ _ => rfl)))), ?_⟩
    walk_at "rds"
    rcases hx with hx | hx
    · refine len_l hx ?_
      walk_at "rds"
      refine ⟨a, _, B, rfl, hb, hB, by omega, by omega, fun d H' k hb' d0 d1 => ?_⟩
      obtain ⟨z, hz, _, e⟩ := ati_mem (zs := xs) (i := d) (by omega) (by omega)
      exact ix_l (hx.but k nb) e (q z H' hz k hb')
    · refine len_t hx ?_
      walk_at "rds"
      refine ⟨a, _, B, rfl, hb, hB, by omega, by omega, fun d H' k hb' d0 d1 => ?_⟩
      obtain ⟨z, hz, _, e⟩ := ati_mem (zs := xs) (i := d) (by omega) (by omega)
      exact ix_t (hx.but k nb) e (q z H' hz k hb')
end

def spSame (n : Nat) : Sp := fun vs H Q _ => ∃ (x y : V) (d : D), vs = [x, y] ∧ Rep H d x ∧ Rep H d y ∧ d.deep < n ∧ d.fit ∧ ∀ H', Same H H' → Q (.bl true) H'
section
variable {P : Program} {w : World} {K : PySem.W.Frag} {mg : Str → Option Value} {base : Heap} {A : Ad}
theorem df_zero {x : Str} {st : Stmt} {ps : List Str} {sp : Sp} (h : Has K mg x st) (z : ∀ vs H Q E, ¬ sp vs H Q E)
    (hb : ∀ (kV doc pm : Value) (an : Option Addr) (cdv ct : Value) (us : List Value), us.length = ps.length →
      bindArgs (PySem.W.fnOf x x (defArgs st) (defBody st) (defScope st) .none kV doc pm an cdv ct) ⟨us, []⟩ = pure (ps.zip us)) : Df P w K mg base 0 x st ps sp := by
  obtain ⟨f, fd, F, hm⟩ := h
  exact ⟨f, fd, F, hm, ⟨fun vs H Q E h => absurd h (z _ _ _ _), fun _ _ _ _ _ _ _ _ _ _ _ _ _ h => absurd h (z _ _ _ _)⟩, F.binds hb⟩
theorem ds_same (T : Txt K mg A) : ∀ n, Df P w K mg base n "_law_same" s_same ["given", "due"] (spSame n) := by
  intro n
  induction n with
  | zero =>
    refine df_zero T.h_same (fun vs H Q E h => ?_) (fun _ _ _ _ _ _ us hl => match us, hl with | [_, _], _ => rfl)
    obtain ⟨x, y, d, _, _, _, h, _⟩ := h
    omega
  | succ n ih =>
    refine mk_df T.h_same sc_same (fun _ _ _ _ _ _ us hl => match us, hl with | [_, _], _ => rfl) (fun vs H Q E h => ?_) fun f cdv A' outer s H vs Q E hr h => ?_
    · obtain ⟨x, y, d, rfl, _⟩ := h
      rfl
    · obtain ⟨x, y, d, rfl, r1, r2, hn, hf, q⟩ := h
      have hu : (A'.deeper (envOfC "_law_same" (defScope s_same) s.heap.objs.size f cdv)).units + 64 < cLine := hr.units
      have hu1 := hu_of hr
      refine ⟨_, (pss_cons (ps_if (PW.pt (pw_or (pt_cmpR o_is (pv 1) pe_non (nomark _)) (pw_or1 (pt_val (pe_callB (c_isiK K) (by rfl) T.b_isinstance (by decide +kernel) (pa_cons (pv 1) (pa_cons (pe_ty "bool" T.b_bool (by decide +kernel)) pa_nil)))))))
  (pss_one (ps_ret (pe_ifExp (pt_cmpR o_is (pv 1) pe_non (nomark _)) (pe_cmpR o_is (pv 0) pe_non (nomark _)) (pe_and (pe_callB (c_isiK K) (by rfl) T.b_isinstance (by decide +kernel) (pa_cons (pv 0) (pa_cons (pe_ty "bool" T.b_bool (by decide +kernel)) pa_nil))) (pe_one (pe_cmpR (o_eqK K hu) (pe_cmpR o_is (pv 0) pe_bl (nomark _)) (pe_cmpR o_is (pv 1) pe_bl (nomark _)) (nomark _))))))) pss_nil)
  (pss_cons (ps_if (pt_val (pe_callB (c_isiK K) (by rfl) T.b_isinstance (by decide +kernel) (pa_cons (pv 1) (pa_cons (pe_ty "int" T.b_int (by decide +kernel)) pa_nil))))
  (pss_one (ps_ret (pe_and (pe_callB (c_isiK K) (by rfl) T.b_isinstance (by decide +kernel) (pa_cons (pv 0) (pa_cons (pe_ty "int" T.b_int (by decide +kernel)) pa_nil))) (pe_and (pe_not (pe_callB (c_isiK K) (by rfl) T.b_isinstance (by decide +kernel) (pa_cons (pv 0) (pa_cons (pe_ty "bool" T.b_bool (by decide +kernel)) pa_nil)))) (pe_one (pe_cmpR (o_eqK K hu) (pe_op o_sub (pe_callTy c_int (by rfl) T.b_int (by decide +kernel) (pa_cons (pv 0) pa_nil)) (pv 1)) pe_int (nomark _))))))) pss_nil)
  (pss_cons (ps_if (pt_val (pe_callB (c_isiK K) (by rfl) T.b_isinstance (by decide +kernel) (pa_cons (pv 1) (pa_cons (pe_ty "str" T.b_str (by decide +kernel)) pa_nil))))
  (pss_one (ps_ret (pe_and (pe_callB (c_isiK K) (by rfl) T.b_isinstance (by decide +kernel) (pa_cons (pv 0) (pa_cons (pe_ty "str" T.b_str (by decide +kernel)) pa_nil))) (pe_one (pe_cmpR (o_eqK K hu) (pv 0) (pv 1) (nomark _)))))) pss_nil)
  (pss_cons (ps_if (pt_val (pe_callB (c_isiK K) (by rfl) T.b_isinstance (by decide +kernel) (pa_cons (pv 1) (pa_cons (pe_ty "dict" T.b_dict (by decide +kernel)) pa_nil))))
  (pss_cons (ps_if (PW.pt (pw_or (pt_not (pt_val (pe_callB (c_isiK K) (by rfl) T.b_isinstance (by decide +kernel) (pa_cons (pv 0) (pa_cons (pe_ty "dict" T.b_dict (by decide +kernel)) pa_nil))))) (pw_or1 (pt_cmpR (o_neK K hu) (pe_callB (c_lenK K) (by rfl) T.b_len PySem.boot_len (pa_cons (pv 0) pa_nil)) (pe_callB (c_lenK K) (by rfl) T.b_len PySem.boot_len (pa_cons (pv 1) pa_nil)) (nomark _)))))
  (pss_one (ps_ret pe_bl)) pss_nil)
  (pss_one (ps_ret (pe_cmpR (o_eqK K hu) (pe_lock (pe_lc (own := [("key", 3)]) (by rfl) sc_same.nd (pi_keys (pv 1)) (blkOk_by (own := [("key", 3)]) (N := ["given", "due", "k", "key"]) (sc := defScope s_same) (by decide +kernel)) (fun _ _ _ _ _ => (pg_name (i := 3) sc_same.nd rfl (Or.inl rfl))) (fun _ _ _ _ _ => (pts_one (PW.pt (pw_or (pt_cmp (pc_dnotin hu1 (pv 3) (pv 0)) (by rfl)) (pw_or1 (pt_not (pt_val (pcall ih hr takesN (pa_cons (pe_dget hu1 (pv 0) (pv 3) (fun _ _ => rfl)) (pa_cons (pe_dget hu1 (pv 1) (pv 3) (fun _ _ => rfl)) pa_nil)) (hk := Nat.le_refl _))))))))) (fun _ _ _ _ _ => (pv 3)))) (pe_lst pa_nil) (nomark _))))) pss_nil)
  (pss_cons (ps_if (PW.pt (pw_or (pt_not (pt_val (pe_callB (c_isiTK K) (by rfl) T.b_isinstance (by decide +kernel) (pa_cons (pv 1) (pa_cons (pe_tup (pa_cons (pe_ty "list" T.b_list (by decide +kernel)) (pa_cons (pe_ty "tuple" T.b_tuple (by decide +kernel)) pa_nil))) pa_nil))))) (pw_or1 (pt_not (pt_val (pe_callB (c_isiTK K) (by rfl) T.b_isinstance (by decide +kernel) (pa_cons (pv 0) (pa_cons (pe_tup (pa_cons (pe_ty "list" T.b_list (by decide +kernel)) (pa_cons (pe_ty "tuple" T.b_tuple (by decide +kernel)) pa_nil))) pa_nil))))))))
  (pss_one (ps_ret pe_bl)) pss_nil)
  (pss_cons (ps_if (PW.pt (pw_or (pt_cmpR (o_neK K hu) (pe_callB (c_isiK K) (by rfl) T.b_isinstance (by decide +kernel) (pa_cons (pv 0) (pa_cons (pe_ty "list" T.b_list (by decide +kernel)) pa_nil))) (pe_callB (c_isiK K) (by rfl) T.b_isinstance (by decide +kernel) (pa_cons (pv 1) (pa_cons (pe_ty "list" T.b_list (by decide +kernel)) pa_nil))) (nomark _)) (pw_or1 (pt_cmpR (o_neK K hu) (pe_callB (c_lenK K) (by rfl) T.b_len PySem.boot_len (pa_cons (pv 0) pa_nil)) (pe_callB (c_lenK K) (by rfl) T.b_len PySem.boot_len (pa_cons (pv 1) pa_nil)) (nomark _)))))
  (pss_one (ps_ret pe_bl)) pss_nil)
  (pss_one (ps_ret (pe_cmpR (o_eqK K hu) (pe_lc (own := [("k", 2)]) (by rfl) sc_same.nd (pi_range1 rfl T.b_range (pa_cons (pe_callB (c_lenK K) (by rfl) T.b_len PySem.boot_len (pa_cons (pv 1) pa_nil)) pa_nil)) (blkOk_by (own := [("k", 2)]) (N := ["given", "due", "k", "key"]) (sc := defScope s_same) (by decide +kernel)) (fun _ _ _ _ _ => (pg_name (i := 2) sc_same.nd rfl (Or.inl rfl))) (fun _ _ _ _ _ => (pts_one (pt_not (pt_val (pcall ih hr takesN (pa_cons (pe_ix (ix_seqK K) (pv 0) (pv 2) (fun _ _ => rfl)) (pa_cons (pe_ix (ix_seqK K) (pv 1) (pv 2) (fun _ _ => rfl)) pa_nil)) (hk := Nat.le_refl _)))))) (fun _ _ _ _ _ => (pv 2))) (pe_lst pa_nil) (nomark _)))))))))), ?_⟩
      cases d with
      | non =>
        cases r1.un_non
        cases r2.un_non
        walk_at "rds"
        exact q _ (Same.refl _)
      | bl b =>
        cases r1.un_bl
        cases r2.un_bl
        walk_at "rds"
        cases b <;> (walk_at "rds"; exact q _ (Same.refl _))
      | int i =>
        cases r1.un_int
        cases r2.un_int
        walk_at "rds"
        rw [Int.sub_self, decide_eq_true rfl]
        exact q _ (Same.refl _)
      | str s =>
        cases r1.un_str
        cases r2.un_str
        walk_at "rds"
        rw [decide_eq_true rfl]
        exact q _ (Same.refl _)
      | lst ds =>
        obtain ⟨a, xs, rfl, ha, ra⟩ := r1.un_lst
        obtain ⟨b, ys, rfl, hb, rb⟩ := r2.un_lst
        walk_at "rds"
        refine isi_lst_bool hb ?_
        walk_at "rds"
        refine isi_lst_int hb ?_
        walk_at "rds"
        refine isi_lst_str hb ?_
        walk_at "rds"
        refine isi_lst_dict hb ?_
        walk_at "rds"
        refine al_t (by simp) fun p H1 np s1 e1 => ?_
        walk_at "rds"
        refine isT_lst (s1 _ _ hb) e1 ?_
        walk_at "rds"
        refine al_t (by simp) fun p2 H2 np2 s2 e2 => ?_
        have s2 := s1.trans s2
        walk_at "rds"
        refine isT_lst (s2 _ _ ha) e2 ?_
        walk_at "rds"
        refine isi_lst_list (s2 _ _ ha) ?_
        walk_at "rds"
        refine isi_lst_list (s2 _ _ hb) ?_
        walk_at "rds"
        refine len_l (SqL.of (s2 _ _ ha)) ?_
        walk_at "rds"
        refine len_l (SqL.of (s2 _ _ hb)) ?_
        walk_at "rds"
        refine w_ifDN (fun z => absurd (by rw [ra.len, rb.len]) z) fun _ => ?_
        walk_at "rds"
        refine len_l (SqL.of (s2 _ _ hb)) ?_
        have hlen : ys.length ≤ 1000 := by
          rw [rb.len]
          unfold D.fit at hf
          exact hf.1
        walk_at "rds"
        refine lc_rng (fun C i H' => Same H H' ∧ H' C = some (.lst [])) (fun C H3 nC s3 e3 => ⟨s2.trans s3, e3⟩) (fun C i H' hi ⟨e1, e2⟩ => ?_) (fun C H' ⟨e1, e2⟩ => ?_)
        · have hi' : i < ds.length := by
            rw [← rb.len]
            simpa using hi
          obtain ⟨x, hx, rx⟩ := ra.get (List.getElem?_eq_getElem hi')
          obtain ⟨y, hy, ry⟩ := rb.get (List.getElem?_eq_getElem hi')
          walk_at "rds"
          refine ⟨rfl, ?_⟩
          walk_at "rds"
          refine ix_l (SqL.of (e1 _ _ ha)) (ati0 hx) ?_
          walk_at "rds"
          refine ix_l (SqL.of (e1 _ _ hb)) (ati0 hy) ?_
          walk_at "rds"
          refine ⟨x, y, ds[i], rfl, rx.mono e1, ry.mono e1, D.deep_at_lst hn hi', D.fit_at_lst hf hi', fun H3 e3 => ?_⟩
          walk_at "rds"
          exact ⟨e1.trans e3, e3 _ _ e2⟩
        · walk_at "rds"
          refine al_l (Nat.zero_le _) fun p3 H3 np3 s3 e3 => ?_
          refine eq_nil (s3 _ _ e2) e3 ?_
          exact q _ (e1.trans s3)
      | tup ds =>
        obtain ⟨a, xs, rfl, ha, ra⟩ := r1.un_tup
        obtain ⟨b, ys, rfl, hb, rb⟩ := r2.un_tup
        walk_at "rds"
        refine isi_tup_bool hb ?_
        walk_at "rds"
        refine isi_tup_int hb ?_
        walk_at "rds"
        refine isi_tup_str hb ?_
        walk_at "rds"
        refine isi_tup_dict hb ?_
        walk_at "rds"
        refine al_t (by simp) fun p H1 np s1 e1 => ?_
        walk_at "rds"
        refine isT_tup (s1 _ _ hb) e1 ?_
        walk_at "rds"
        refine al_t (by simp) fun p2 H2 np2 s2 e2 => ?_
        have s2 := s1.trans s2
        walk_at "rds"
        refine isT_tup (s2 _ _ ha) e2 ?_
        walk_at "rds"
        refine isi_tup_list (s2 _ _ ha) ?_
        walk_at "rds"
        refine isi_tup_list (s2 _ _ hb) ?_
        walk_at "rds"
        refine len_t (SqT.of (s2 _ _ ha)) ?_
        walk_at "rds"
        refine len_t (SqT.of (s2 _ _ hb)) ?_
        walk_at "rds"
        refine w_ifDN (fun z => absurd (by rw [ra.len, rb.len]) z) fun _ => ?_
        walk_at "rds"
        refine len_t (SqT.of (s2 _ _ hb)) ?_
        have hlen : ys.length ≤ 1000 := by
          rw [rb.len]
          unfold D.fit at hf
          exact hf.1
        walk_at "rds"
        refine lc_rng (fun C i H' => Same H H' ∧ H' C = some (.lst [])) (fun C H3 nC s3 e3 => ⟨s2.trans s3, e3⟩) (fun C i H' hi ⟨e1, e2⟩ => ?_) (fun C H' ⟨e1, e2⟩ => ?_)
        · have hi' : i < ds.length := by
            rw [← rb.len]
            simpa using hi
          obtain ⟨x, hx, rx⟩ := ra.get (List.getElem?_eq_getElem hi')
          obtain ⟨y, hy, ry⟩ := rb.get (List.getElem?_eq_getElem hi')
          walk_at "rds"
          refine ⟨rfl, ?_⟩
          walk_at "rds"
          refine ix_t (SqT.of (e1 _ _ ha)) (ati0 hx) ?_
          walk_at "rds"
          refine ix_t (SqT.of (e1 _ _ hb)) (ati0 hy) ?_
          walk_at "rds"
          refine ⟨x, y, ds[i], rfl, rx.mono e1, ry.mono e1, D.deep_at_tup hn hi', D.fit_at_tup hf hi', fun H3 e3 => ?_⟩
          walk_at "rds"
          exact ⟨e1.trans e3, e3 _ _ e2⟩
        · walk_at "rds"
          refine al_l (Nat.zero_le _) fun p3 H3 np3 s3 e3 => ?_
          refine eq_nil (s3 _ _ e2) e3 ?_
          exact q _ (e1.trans s3)
      | dct ds =>
        obtain ⟨a, xs, rfl, ha, ra⟩ := r1.un_dct
        obtain ⟨b, ys, rfl, hb, rb⟩ := r2.un_dct
        walk_at "rds"
        refine isi_dct_bool hb ?_
        walk_at "rds"
        refine isi_dct_int hb ?_
        walk_at "rds"
        refine isi_dct_str hb ?_
        walk_at "rds"
        refine isi_dct_dict hb ?_
        walk_at "rds"
        refine isi_dct_dict ha ?_
        walk_at "rds"
        refine len_d ha ?_
        walk_at "rds"
        refine len_d hb ?_
        walk_at "rds"
        refine w_ifDN (fun z => absurd (by rw [ra.len, rb.len]) z) fun _ => ?_
        have hf' := hf
        rw [D.fit_dct] at hf'
        have na : (xs.map (·.1)).Nodup := by
          rw [ra.keys]
          exact hf'.2.1
        have nb : (ys.map (·.1)).Nodup := by
          rw [rb.keys]
          exact hf'.2.1
        have hsz : D.sizeK ds < (D.dct ds).size := by
          rw [D.size_dct]
          omega
        walk_at "rds"
        refine lockE hb fun od H1 e1 b1 => ?_
        have rda : Rd H1 a (.dK xs) := by
          by_cases q : a = b
          · subst q
            rw [ha] at hb
            cases hb
            exact .inr ⟨od, e1⟩
          · exact .inl (b1 _ _ q ha)
        have rdb : Rd H1 b (.dK ys) := .inr ⟨od, e1⟩
        have ra1 : RepK H1 ds xs := ra.but r2 hsz b1
        have rb1 : RepK H1 ds ys := rb.but r2 hsz b1
        walk_at "rds"
        refine ⟨_, _, rfl, .inl ⟨_, e1, ?_⟩⟩
        refine lc_key (fun C i H' => Same H1 H' ∧ H' C = some (.lst [])) (fun C H3 nC s3 e3 => ⟨s3, e3⟩) (fun C i H' _ ⟨s, _⟩ => s _ _ e1) (fun C i k v H' hi ⟨s, e2⟩ => ?_) (fun C H' ⟨s, e2⟩ => ?_)
        · obtain ⟨hl, hi2⟩ := List.getElem?_eq_some_iff.mp hi
          have hi' : i < ds.length := by
            rw [← rb.len]
            exact hl
          obtain ⟨x, hx, rx⟩ := ra1.get (i := i) (k := (ds[i]).1) (d := (ds[i]).2) (List.getElem?_eq_getElem hi')
          obtain ⟨y, hy, ry⟩ := rb1.get (i := i) (k := (ds[i]).1) (d := (ds[i]).2) (List.getElem?_eq_getElem hi')
          rw [hi] at hy
          cases hy
          have rda' : Rd H' a (.dK xs) := rda.elim (fun h => .inl (s _ _ h)) fun ⟨o, h⟩ => .inr ⟨o, s _ _ h⟩
          have rdb' : Rd H' b (.dK ys) := .inr ⟨od, s _ _ e1⟩
          walk_at "rds"
          refine ⟨rfl, ?_⟩
          walk_at "rds"
          refine dnin_k rda' (val_at na hx) ?_
          walk_at "rds"
          refine drd_k rda' (val_at na hx) ?_
          walk_at "rds"
          refine drd_k rdb' (val_at nb hi) ?_
          walk_at "rds"
          refine ⟨x, _, (ds[i]).2, rfl, rx.mono s, ry.mono s, D.deep_at_dct hn hi', D.fit_at_dct hf hi', fun H3 e3 => ?_⟩
          walk_at "rds"
          exact ⟨s.trans e3, e3 _ _ e2⟩
        · refine ⟨s _ _ e1, ?_⟩
          have nC : ¬ C = b := fun z => by
            subst z
            rw [s _ _ e1] at e2
            cases e2
          have sb : Same H (upd H' b (.dK ys)) := same_back hb b1 s
          have e2' : upd H' b (.dK ys) C = some (.lst []) := by
            rw [upd_ne nC]
            exact e2
          walk_at "rds"
          refine al_l (Nat.zero_le _) fun p3 H3 np3 s3 e3 => ?_
          refine eq_nil (s3 _ _ e2') e3 ?_
          exact q _ (sb.trans s3)
theorem d_same (T : Txt K mg A) : Df P w K mg base 13 "_law_same" s_same ["given", "due"] (spSame 13) := ds_same T _
end

/-! ### plain: mu, divisors, inversion -/
def muGo : Nat → Int → Int → Int → Int
  | 0, _, _, found => found
  | f + 1, l, left, found => if l ≤ left then (if left % l = 0 then (if (left / l) % l = 0 then 0 else muGo f (l + 1) (left / l) (0 - found)) else muGo f (l + 1) left found) else found
def muN (n : Int) : Int := muGo 60 2 n 1
/-- the numbers 1 .. 60 -/
def upto : List Nat := List.range' 1 60
def divs (n : Nat) : List Nat := upto.filter fun d => n % d == 0
def sumOn (l : List Nat) (f : Nat → Int) : Int := (l.map f).sum
theorem sumOn_nil (f : Nat → Int) : sumOn [] f = 0 := rfl
theorem sumOn_cons (a : Nat) (l : List Nat) (f : Nat → Int) : sumOn (a :: l) f = f a + sumOn l f := rfl
theorem sumOn_zero : ∀ l : List Nat, sumOn l (fun _ => 0) = 0
  | [] => rfl
  | a :: l => by rw [sumOn_cons, sumOn_zero l]; rfl
theorem sumOn_add (f g : Nat → Int) : ∀ l : List Nat, sumOn l (fun x => f x + g x) = sumOn l f + sumOn l g
  | [] => rfl
  | a :: l => by rw [sumOn_cons, sumOn_cons, sumOn_cons, sumOn_add f g l]; omega
theorem sumOn_mul (c : Int) (f : Nat → Int) : ∀ l : List Nat, sumOn l (fun x => f x * c) = sumOn l f * c
  | [] => by rw [sumOn_nil, sumOn_nil, Int.zero_mul]
  | a :: l => by rw [sumOn_cons, sumOn_cons, sumOn_mul c f l, Int.add_mul]
theorem sumOn_congr {f g : Nat → Int} : ∀ {l : List Nat}, (∀ x ∈ l, f x = g x) → sumOn l f = sumOn l g
  | [], _ => rfl
  | a :: l, h => by
    rw [sumOn_cons, sumOn_cons, h a (by simp), sumOn_congr (l := l) fun x hx => h x (by simp [hx])]
theorem sumOn_swap (f : Nat → Nat → Int) (m : List Nat) : ∀ l : List Nat, sumOn l (fun x => sumOn m (f x)) = sumOn m (fun y => sumOn l fun x => f x y)
  | [] => (sumOn_zero m).symm
  | a :: l => by
    rw [sumOn_cons, sumOn_swap f m l, ← sumOn_add]
    rfl
theorem sumOn_filter (p : Nat → Bool) (f : Nat → Int) : ∀ l : List Nat, sumOn (l.filter p) f = sumOn l fun x => if p x = true then f x else 0
  | [] => rfl
  | a :: l => by
    rw [List.filter_cons, sumOn_cons, ← sumOn_filter p f l]
    by_cases h : p a = true
    · rw [if_pos h, if_pos h, sumOn_cons]
    · rw [if_neg h, if_neg h, Int.zero_add]
/-- what mu gives at d for e -/
def mm (d e : Nat) : Int := if d % e == 0 then muN ((d / e : Nat) : Int) else 0
/-- the sum by mu at n of r -/
def pp (r : Nat → Int) (n : Nat) : Int := sumOn upto fun e => mm n e * r e
def mmOk (n : Nat) (ds : List Nat) : Bool := upto.all fun e => sumOn (ds.filter fun d => d % e == 0) (fun d => muN ((d / e : Nat) : Int)) == if e = n then 1 else 0
theorem mmOk_all : (upto.all fun n => mmOk n (divs n)) = true := by decide +kernel
theorem mm_sum (n : Nat) (hn : n ∈ upto) (e : Nat) (he : e ∈ upto) : sumOn upto (fun d => if (n % d == 0) = true then mm d e else 0) = if e = n then 1 else 0 := by
  have a := List.all_eq_true.mp mmOk_all n hn
  unfold mmOk at a
  have b := eq_of_beq (List.all_eq_true.mp a e he)
  rw [sumOn_filter] at b
  rw [← b, ← sumOn_filter]
  rfl
theorem sumOn_at (n : Nat) (r : Nat → Int) : ∀ l : List Nat, l.Nodup → n ∈ l → sumOn l (fun e => (if e = n then 1 else 0) * r e) = r n
  | [], _, h => by cases h
  | a :: l, hd, h => by
    rw [List.nodup_cons] at hd
    rw [sumOn_cons]
    by_cases e : a = n
    · subst e
      rw [if_pos rfl, Int.one_mul, sumOn_congr (g := fun _ => 0) fun x hx => by rw [if_neg (fun z : x = a => hd.1 (by rw [← z]; exact hx)), Int.zero_mul], sumOn_zero]
      omega
    · rw [if_neg e, Int.zero_mul, sumOn_at n r l hd.2 (by simpa [Ne.symm e] using h), Int.zero_add]
theorem upto_nodup : upto.Nodup := by decide +kernel
theorem mem_upto {n : Nat} : n ∈ upto ↔ 1 ≤ n ∧ n ≤ 60 := by
  unfold upto
  rw [List.mem_range'_1]
  omega
/-- the divisors' sums by mu give the row back -/
theorem invert (r : Nat → Int) {n : Nat} (h : n ∈ upto) : sumOn (divs n) (pp r) = r n := by
  unfold divs pp
  rw [sumOn_filter]
  have e : ∀ x, (if (n % x == 0) = true then sumOn upto (fun e => mm x e * r e) else 0) = sumOn upto fun e => (if (n % x == 0) = true then mm x e else 0) * r e := fun x => by
    by_cases c : (n % x == 0) = true
    · rw [if_pos c]
      exact sumOn_congr fun y _ => by rw [if_pos c]
    · rw [if_neg c]
      refine (sumOn_zero upto).symm.trans (sumOn_congr fun y _ => ?_)
      rw [if_neg c, Int.zero_mul]
  rw [sumOn_congr fun x _ => e x, sumOn_swap, ← sumOn_at n r upto upto_nodup h]
  refine sumOn_congr fun y hy => ?_
  rw [sumOn_mul, mm_sum n h y hy]
theorem divs_last : ∀ n ∈ upto, divs n = ((List.range' 1 (n - 1)).filter fun d => n % d == 0) ++ [n] := by decide +kernel
theorem sumOn_app (f : Nat → Int) (m : List Nat) : ∀ l : List Nat, sumOn (l ++ m) f = sumOn l f + sumOn m f
  | [] => by rw [sumOn_nil, Int.zero_add]; rfl
  | a :: l => by rw [List.cons_append, sumOn_cons, sumOn_cons, sumOn_app f m l]; omega
/-- the recursion of the sums by mu -/
theorem pp_rec (r : Nat → Int) {n : Nat} (h : n ∈ upto) : pp r n = r n - sumOn ((List.range' 1 (n - 1)).filter fun d => n % d == 0) (pp r) := by
  have a := invert r h
  rw [divs_last n h, sumOn_app, sumOn_cons, sumOn_nil] at a
  omega
/-- .. as a sum over the divisors -/
theorem pp_divs (r : Nat → Int) (n : Nat) : pp r n = sumOn (divs n) fun d => muN ((n / d : Nat) : Int) * r d := by
  unfold pp divs
  rw [sumOn_filter]
  refine sumOn_congr fun x _ => ?_
  unfold mm
  by_cases c : (n % x == 0) = true
  · rw [if_pos c, if_pos c]
  · rw [if_neg c, if_neg c, Int.zero_mul]
theorem pp_add (r q : Nat → Int) (n : Nat) : pp (fun x => r x + q x) n = pp r n + pp q n := by
  unfold pp
  rw [← sumOn_add]
  exact sumOn_congr fun x _ => Int.mul_add _ _ _
/-- c more at n -/
theorem pp_bent (r : Nat → Int) {n : Nat} (c : Int) (m : Nat) (h : n ∈ upto) : pp (fun x => r x + if x = n then c else 0) m = pp r m + mm m n * c := by
  rw [pp_add]
  congr 1
  unfold pp
  rw [← sumOn_at n (fun x => mm m x * c) upto upto_nodup h]
  refine sumOn_congr fun x _ => ?_
  by_cases e : x = n
  · show mm m x * (if x = n then c else 0) = _
    rw [if_pos e, if_pos e, Int.one_mul]
  · show mm m x * (if x = n then c else 0) = _
    rw [if_neg e, if_neg e, Int.zero_mul, Int.mul_zero]
theorem mu_small : ∀ n ∈ upto, -1 ≤ muN ((n : Nat) : Int) ∧ muN ((n : Nat) : Int) ≤ 1 := by decide +kernel
theorem divs_small : ∀ n ∈ upto, (divs n).length ≤ 60 := by decide +kernel

def dsIsInt : DSp := fun as Q _ => ∃ d x, as = [.dat d x] ∧ Q (.dat (.bl d.isInt) none) 0
section
variable {F : Fr} {d : D} {x y z : Option V} {lo hi : Int} {Q : SV → Int → Prop} {E : Addr → List Str → List SV → Prop}
theorem u_isint (q : Q (.dat (.bl d.isInt) none) 0) : dsIsInt [.dat d x] Q E := ⟨d, x, rfl, q⟩
end
local macro_rules | `(tactic| walk_at "dc") => `(tactic| with_reducible refine u_isint ?_)
section
variable {P : Program} {w : World} {K : PySem.W.Frag} {mg : Str → Option Value} {base : Heap} {A : Ad}
theorem d_is_integer (T : Txt K mg A) : Df P w K mg base 1 "is_integer" s_is_integer ["value"] (spOf dsIsInt) := by
  refine mk_dd T.h_is_integer sc_is_integer (fun _ _ _ _ _ _ us hl => match us, hl with | [_], _ => rfl) (fun as Q E h => ?_) fun f cdv A' outer s H E0 F as Q E hr h hbx hW => ?_
  · obtain ⟨d, x, rfl, _⟩ := h
    rfl
  · obtain ⟨d, x, rfl, q⟩ := h
    have hu : (A'.deeper (envOfC "is_integer" (defScope s_is_integer) s.heap.objs.size f cdv)).units + 64 < cLine := hr.units
    refine ⟨_, (pss_one (ps_ret (pe_and (pe_callB (c_isiK K) (by rfl) T.b_isinstance (by decide +kernel) (pa_cons (pv 0) (pa_cons (pe_ty "int" T.b_int (by decide +kernel)) pa_nil))) (pe_one (pe_not (pe_callB (c_isiK K) (by rfl) T.b_isinstance (by decide +kernel) (pa_cons (pv 0) (pa_cons (pe_ty "bool" T.b_bool (by decide +kernel)) pa_nil)))))))), ?_⟩
    walk_at "dds"
    cases d <;> walk_at "dds" <;> exact retp hbx .d q
end

def dsIsSeq : DSp := fun as Q _ => ∃ d x, as = [.dat d x] ∧ Q (.dat (.bl d.isSeq) none) 0
section
variable {F : Fr} {d : D} {x y z : Option V} {lo hi : Int} {Q : SV → Int → Prop} {E : Addr → List Str → List SV → Prop}
theorem u_isseq (q : Q (.dat (.bl d.isSeq) none) 0) : dsIsSeq [.dat d x] Q E := ⟨d, x, rfl, q⟩
end
local macro_rules | `(tactic| walk_at "dc") => `(tactic| with_reducible refine u_isseq ?_)
section
variable {P : Program} {w : World} {K : PySem.W.Frag} {mg : Str → Option Value} {base : Heap} {A : Ad}
theorem d_is_sequence (T : Txt K mg A) : Df P w K mg base 1 "is_sequence" s_is_sequence ["value"] (spOf dsIsSeq) := by
  refine mk_dd T.h_is_sequence sc_is_sequence (fun _ _ _ _ _ _ us hl => match us, hl with | [_], _ => rfl) (fun as Q E h => ?_) fun f cdv A' outer s H E0 F as Q E hr h hbx hW => ?_
  · obtain ⟨d, x, rfl, _⟩ := h
    rfl
  · obtain ⟨d, x, rfl, q⟩ := h
    have hu : (A'.deeper (envOfC "is_sequence" (defScope s_is_sequence) s.heap.objs.size f cdv)).units + 64 < cLine := hr.units
    refine ⟨_, (pss_one (ps_ret (pe_callB (c_isiTK K) (by rfl) T.b_isinstance (by decide +kernel) (pa_cons (pv 0) (pa_cons (pe_tup (pa_cons (pe_ty "list" T.b_list (by decide +kernel)) (pa_cons (pe_ty "tuple" T.b_tuple (by decide +kernel)) pa_nil))) pa_nil))))), ?_⟩
    walk_at "dds"
    have e : (d.isTy "list" || d.isTy "tuple") = d.isSeq := by cases d <;> rfl
    rw [e]
    exact retp hbx .d q
end

/-! ### the laws' own gcd -/
def dsGcd : DSp := fun as Q _ => ∃ (a b : Int) (x y : Option V), as = [.dat (.int a) x, .dat (.int b) y] ∧ b.natAbs < 2 ^ 1500 ∧ Q (.dat (.int (Nat.gcd a.natAbs b.natAbs : Nat)) none) 0
theorem gcd_half {a b e : Nat} (h : b < a) (h0 : 0 < b) (he : a * b < 2 ^ (e + 1)) : b * (a % b) < 2 ^ e := by
  have h1 : a % b < b := Nat.mod_lt _ h0
  have h2 : 2 * (a % b) < a + 1 := by
    have := Nat.div_add_mod a b
    have h3 : 1 ≤ a / b := (Nat.one_le_div_iff h0).mpr (Nat.le_of_lt h)
    have h4 : b * 1 ≤ b * (a / b) := Nat.mul_le_mul_left b h3
    omega
  have h5 : 2 * (b * (a % b)) ≤ a * b := by
    rw [Nat.mul_left_comm, Nat.mul_comm a b]
    exact Nat.mul_le_mul_left b (by omega)
  rw [Nat.pow_succ] at he
  omega
section
variable {P : Program} {w : World} {K : PySem.W.Frag} {mg : Str → Option Value} {base : Heap} {A : Ad}
theorem d_gcd (T : Txt K mg A) : Df P w K mg base 1 "_law_gcd" s_gcd ["one", "other"] (spOf dsGcd) := by
  refine mk_dd T.h_gcd sc_gcd (fun _ _ _ _ _ _ us hl => match us, hl with | [_, _], _ => rfl) (fun as Q E h => ?_) fun f cdv A' outer s H E0 F as Q E hr h hbx hW => ?_
  · obtain ⟨a, b, x, y, rfl, _⟩ := h
    rfl
  · obtain ⟨a, b, x, y, rfl, hb, q⟩ := h
    have hu : (A'.deeper (envOfC "_law_gcd" (defScope s_gcd) s.heap.objs.size f cdv)).units + 64 < cLine := hr.units
    refine ⟨_, (pss_cons (ps_par (i := 0) (j := 1) (by rfl) sc_gcd.nd rfl rfl (by decide) rfl rfl (pa_cons (pe_callB c_abs (by rfl) T.b_abs (by decide +kernel) (pa_cons (pv 0) pa_nil)) (pa_cons (pe_callB c_abs (by rfl) T.b_abs (by decide +kernel) (pa_cons (pv 1) pa_nil)) pa_nil)) (by rfl))
  (pss_cons (ps_for PassesOwn.leaving rfl (pi_range1 rfl T.b_range (pa_cons pe_int pa_nil)) (pg_name (i := 2) sc_gcd.nd rfl (Or.inl rfl))
  (pss_cons (ps_if (pt_cmpR (o_eqK K hu) (pv 1) pe_int (nomark _))
  (pss_one ps_break) pss_nil)
  (pss_one (ps_par (i := 0) (j := 1) (by rfl) sc_gcd.nd rfl rfl (by decide) rfl rfl (pa_cons (pv 1) (pa_cons (pe_op o_mod (pe_callTy c_int (by rfl) T.b_int (by decide +kernel) (pa_cons (pv 0) pa_nil)) (pv 1)) pa_nil)) (by rfl)))))
  (pss_one (ps_ret (pv 0))))), ?_⟩
    walk_at "dds"
    have ea : ∀ i : Int, (if i < 0 then -i else i) = ((i.natAbs : Nat) : Int) := fun i => by
      split <;> omega
    rw [ea, ea]
    generalize a.natAbs = m at q ⊢
    generalize b.natAbs = n at q hb ⊢
    refine for_r (fun i ρ => ∃ u v : Nat, ρ = [.dat (.int u) none, .dat (.int v) none, .un] ∧ Nat.gcd u v = Nat.gcd m n ∧ (v = 0 ∨ (i = 0 ∧ v < 2 ^ 1500) ∨ (1 ≤ i ∧ i ≤ 3001 ∧ v < u ∧ u * v < 2 ^ (3001 - i)))) (up_e2 m n (by walk_at "le") ⟨rfl, .inr (.inl ⟨rfl, hb⟩)⟩) (fun i ρ2 hi hI => ?_) fun ρ2 hI => ?_
    · obtain ⟨u, v, rfl, hg, hv⟩ := hI
      walk_at "dds"
      refine w_ifD (fun h0 => ?_) fun h0 => ?_
      · walk_at "dds"
        have e0 : v = 0 := by omega
        subst e0
        rw [Nat.gcd_zero_right] at hg
        rw [hg]
        exact retp hbx .d q
      · walk_at "dds"
        have v0 : 0 < v := by omega
        refine up_e2 v (u % v) (by rw [Int.natCast_emod]; walk_at "le") ⟨?_, ?_⟩
        · rw [Nat.gcd_comm, ← Nat.gcd_rec, Nat.gcd_comm, hg]
        · rcases hv with hv | ⟨rfl, hv⟩ | ⟨h1, h2, h3, h4⟩
          · omega
          · refine .inr (.inr ⟨by omega, by omega, Nat.mod_lt _ v0, ?_⟩)
            have hm : u % v < v := Nat.mod_lt _ v0
            have e : (2 : Nat) ^ (3001 - (0 + 1)) = 2 ^ 1500 * 2 ^ 1500 := by rw [← Nat.pow_add]
            rw [e]
            exact Nat.mul_lt_mul'' hv (by omega)
          · by_cases hi2 : i = 3001
            · subst hi2
              have : u * v < 1 := h4
              have : 1 ≤ u * v := Nat.mul_pos (by omega) v0
              omega
            · refine .inr (.inr ⟨by omega, by omega, Nat.mod_lt _ v0, ?_⟩)
              refine gcd_half h3 v0 ?_
              rw [show 3001 - (i + 1) + 1 = 3001 - i by omega]
              exact h4
    · obtain ⟨u, v, rfl, hg, hv⟩ := hI
      walk_at "dds"
      have e0 : v = 0 := by
        rcases hv with hv | ⟨h1, _⟩ | ⟨h1, h2, h3, h4⟩
        · exact hv
        · omega
        · omega
      subst e0
      rw [Nat.gcd_zero_right] at hg
      rw [hg]
      exact retp hbx .d q
end

/-! ### rows by rings, any terms -/
def dsRowF : DSp := fun as Q _ => ∃ (ns : List Int) (x : Option V), as = [.dat (.lst (ns.map .int)) x] ∧ ns.length ≤ 60 ∧ (∀ z ∈ ns, -10000 ≤ z ∧ z ≤ 10000) ∧ ∀ ms : List Int, ms.length = ns.length → (∀ z ∈ ms, z.natAbs ≤ 100000000) → Q (.fr (.lst (ms.map .int))) 0
theorem sum_small {b : Nat} : ∀ {l : List Int}, (∀ z ∈ l, z.natAbs ≤ b) → l.sum.natAbs ≤ l.length * b
  | [], _ => by simp
  | z :: l, h => by
    have h1 := h z List.mem_cons_self
    have h2 := sum_small (b := b) (l := l) fun z hz => h z (List.mem_cons_of_mem _ hz)
    rw [List.sum_cons, List.length_cons, Nat.add_mul]
    omega
section
variable {P : Program} {w : World} {K : PySem.W.Frag} {mg : Str → Option Value} {base : Heap} {A : Ad}
theorem d_row (T : Txt K mg A) : Df P w K mg base 1 "_law_row" s_row ["rings"] (spOf dsRowF) := by
  refine mk_dd T.h_row sc_row (fun _ _ _ _ _ _ us hl => match us, hl with | [_], _ => rfl) (fun as Q E h => ?_) fun f cdv A' outer s H E0 F as Q E hr h hbx hW => ?_
  · obtain ⟨ns, x, rfl, _⟩ := h
    rfl
  · obtain ⟨ns, x, rfl, hl, hb, q⟩ := h
    have hu : (A'.deeper (envOfC "_law_row" (defScope s_row) s.heap.objs.size f cdv)).units + 64 < cLine := hr.units
    refine ⟨_, (pss_one (ps_ret (pe_lc (own := [("n", 1)]) (by rfl) sc_row.nd (pi_range2 rfl T.b_range (pa_cons pe_int (pa_cons (pe_op (o_addK K) (pe_callB (c_lenK K) (by rfl) T.b_len PySem.boot_len (pa_cons (pv 0) pa_nil)) pe_int) pa_nil))) (blkOk_by (own := [("n", 1)]) (N := ["rings", "n", "d"]) (sc := defScope s_row) (by decide +kernel)) (fun _ _ _ _ _ => (pg_name (i := 1) sc_row.nd rfl (Or.inr rfl))) (fun _ _ _ _ _ => pts_nil) (fun _ _ _ _ _ => (pe_callB (c_sumK K) (by rfl) T.b_sum (by decide +kernel) (pa_cons (pe_lc (own := [("d", 2)]) (by rfl) sc_row.nd (pi_range2 rfl T.b_range (pa_cons pe_int (pa_cons (pe_op (o_addK K) (pv 1) pe_int) pa_nil))) (blkOk_by (own := [("d", 2)]) (N := ["rings", "n", "d"]) (sc := ⟨.function, [(".0", .local), ("n", .cell), ("sum", .globalImplicit), ("range", .globalImplicit), ("rings", .cell)], false, false, []⟩) (by decide +kernel)) (fun _ _ _ _ _ => (pg_name (i := 2) sc_row.nd rfl (Or.inl rfl))) (fun _ _ _ _ _ => (pts_one (pt_cmpR (o_eqK K hu) (pe_op o_mod (pe_callTy c_int (by rfl) T.b_int (by decide +kernel) (pa_cons (pv 1) pa_nil)) (pv 2)) pe_int (nomark _)))) (fun _ _ _ _ _ => (pe_op (o_mulK K) (pv 2) (pe_ix (ix_seqK K) (pv 0) (pe_op o_sub (pv 2) pe_int) (fun _ _ => rfl))))) pa_nil)))))), ?_⟩
    walk_at "dds"
    have item : ∀ i : Nat, i < ns.length → (ns.getD i 0).natAbs ≤ 10000 := fun i hi => by
      have e : ns.getD i 0 = ns[i] := by simp [hi]
      rw [e]
      have := hb _ (List.getElem_mem hi)
      omega
    let dd : Nat → List Int := fun n => ((List.range n).filter fun (i : Nat) => decide (((n : Nat) : Int) % (1 + (i : Int)) = 0)).map fun (i : Nat) => (1 + (i : Int)) * ns.getD i 0
    refine lcM_r (lc_map (fun i => .int (dd (i + 1)).sum) (by simp; omega) (fun i hi => ?_) ?_)
    · have hi' := List.mem_range.mp hi
      walk_at "dds"
      refine ⟨rfl, ?_⟩
      walk_at "dds"
      have en : (1 + (i : Int) + 1 - 1).toNat = i + 1 := by omega
      rw [en]
      refine lcM_r (lc_fil (fun j => decide ((((i + 1 : Nat) : Nat) : Int) % (1 + (j : Int)) = 0)) (fun j => .int ((1 + (j : Int)) * ns.getD j 0)) (by simp; omega) (fun j hj => ?_) ?_)
      · have hj' := List.mem_range.mp hj
        walk_at "dds"
        refine ⟨by rw [show (1 + (i : Int)) = ((i + 1 : Nat) : Int) by omega], ?_⟩
        refine w_ifD (fun hm => ?_) fun hm => ?_
        · walk_at "dds"
          have hs := item j (by omega)
          rw [show ((1 + (j : Int)) - 1).toNat = j by omega]
          walk_at "dds"
          exact ⟨rfl, Le.refl⟩
        · exact Le.refl
      · have em : (((List.range (i + 1)).filter fun (j : Nat) => decide ((((i + 1 : Nat) : Nat) : Int) % (1 + (j : Int)) = 0)).map fun (j : Nat) => D.int ((1 + (j : Int)) * ns.getD j 0)) = (dd (i + 1)).map D.int := by
          simp only [dd, List.map_map]
          rfl
        rw [em]
        walk_at "dds"
        refine sum_d has_d ?_
        walk_at "dds"
        exact ⟨rfl, Le.refl⟩
    · have em : ((List.range ns.length).map fun i => D.int (dd (i + 1)).sum) = ((List.range ns.length).map fun i => (dd (i + 1)).sum).map D.int := by simp
      rw [em]
      walk_at "dds"
      refine retp hbx .f (q _ (by simp) fun z hz => ?_)
      obtain ⟨i, hi, rfl⟩ := List.mem_map.mp hz
      have hi := List.mem_range.mp hi
      have h1 : ∀ z ∈ dd (i + 1), z.natAbs ≤ 600000 := fun z hz => by
        obtain ⟨j, hj, rfl⟩ := List.mem_map.mp hz
        have hj := List.mem_range.mp (List.mem_filter.mp hj).1
        have hs := item j (by omega)
        rw [Int.natAbs_mul]
        have : (1 + (j : Int)).natAbs ≤ 60 := by omega
        have := Nat.mul_le_mul this hs
        omega
      have h2 := sum_small h1
      have h3 : (dd (i + 1)).length ≤ 60 := by
        simp only [dd, List.length_map]
        have := List.length_filter_le (fun (i' : Nat) => decide ((((i + 1 : Nat) : Nat) : Int) % (1 + (i' : Int)) = 0)) (List.range (i + 1))
        simp at this ⊢
        omega
      have h4 := Nat.mul_le_mul_right 600000 h3
      omega
end

def spCopy (n : Nat) : Sp := fun vs H Q _ => ∃ (x : V) (d : D), vs = [x] ∧ Rep H d x ∧ d.deep < n ∧ d.fit ∧ ∀ y H', Same H H' → Rep (New H H') d y → Q y H'
section
variable {P : Program} {w : World} {K : PySem.W.Frag} {mg : Str → Option Value} {base : Heap} {A : Ad}
/-- what holds ahead of turn i of a copy: the list so far at C is new, and so are its items -/
def CopyAt (H H1 : Hp) (ds : List D) (C : Addr) (i : Nat) (H' : Hp) : Prop := Same H H' ∧ But C H1 H' ∧ H C = none ∧ ∃ ys, H' C = some (.lst ys) ∧ RepL (New H1 H') (ds.take i) ys
theorem ds_copy (T : Txt K mg A) : ∀ n, Df P w K mg base n "_law_copy" s_copy ["value"] (spCopy n) := by
  intro n
  induction n with
  | zero =>
    refine df_zero T.h_copy (fun vs H Q E h => ?_) (fun _ _ _ _ _ _ us hl => match us, hl with | [_], _ => rfl)
    obtain ⟨x, d, _, _, h, _⟩ := h
    omega
  | succ n ih =>
    refine mk_df T.h_copy sc_copy (fun _ _ _ _ _ _ us hl => match us, hl with | [_], _ => rfl) (fun vs H Q E h => ?_) fun f cdv A' outer s H vs Q E hr h => ?_
    · obtain ⟨x, d, rfl, _⟩ := h
      rfl
    · obtain ⟨x, d, rfl, r1, hn, hf, q⟩ := h
      have hu : (A'.deeper (envOfC "_law_copy" (defScope s_copy) s.heap.objs.size f cdv)).units + 64 < cLine := hr.units
      have hu1 := hu_of hr
      refine ⟨_, (pss_cons (ps_if (pt_val (pe_callB (c_isiK K) (by rfl) T.b_isinstance (by decide +kernel) (pa_cons (pv 0) (pa_cons (pe_ty "list" T.b_list (by decide +kernel)) pa_nil))))
  (pss_one (ps_ret (pe_lc (own := [("item", 1)]) (by rfl) sc_copy.nd (pi_seqK K (pv 0)) (blkOk_by (own := [("item", 1)]) (N := ["value", "item", "key"]) (sc := defScope s_copy) (by decide +kernel)) (fun _ _ _ _ _ => (pg_name (i := 1) sc_copy.nd rfl (Or.inl rfl))) (fun _ _ _ _ _ => pts_nil) (fun _ _ _ _ _ => (pcall ih hr takesN (pa_cons (pv 1) pa_nil) (hk := Nat.le_refl _)))))) pss_nil)
  (pss_cons (ps_if (pt_val (pe_callB (c_isiK K) (by rfl) T.b_isinstance (by decide +kernel) (pa_cons (pv 0) (pa_cons (pe_ty "tuple" T.b_tuple (by decide +kernel)) pa_nil))))
  (pss_one (ps_ret (pe_callTy (c_tupleK K) (by rfl) T.b_tuple (by decide +kernel) (pa_cons (pe_lc (own := [("item", 1)]) (by rfl) sc_copy.nd (pi_seqK K (pv 0)) (blkOk_by (own := [("item", 1)]) (N := ["value", "item", "key"]) (sc := defScope s_copy) (by decide +kernel)) (fun _ _ _ _ _ => (pg_name (i := 1) sc_copy.nd rfl (Or.inl rfl))) (fun _ _ _ _ _ => pts_nil) (fun _ _ _ _ _ => (pcall ih hr takesN (pa_cons (pv 1) pa_nil) (hk := Nat.le_refl _)))) pa_nil)))) pss_nil)
  (pss_one (ps_ret (pe_ifExp (pt_val (pe_callB (c_isiK K) (by rfl) T.b_isinstance (by decide +kernel) (pa_cons (pv 0) (pa_cons (pe_ty "dict" T.b_dict (by decide +kernel)) pa_nil)))) (pe_callTy (c_dictPK K) (by rfl) T.b_dict (by decide +kernel) (pa_cons (pe_lock (pe_lc (own := [("key", 2)]) (by rfl) sc_copy.nd (pi_keys (pv 0)) (blkOk_by (own := [("key", 2)]) (N := ["value", "item", "key"]) (sc := defScope s_copy) (by decide +kernel)) (fun _ _ _ _ _ => (pg_name (i := 2) sc_copy.nd rfl (Or.inl rfl))) (fun _ _ _ _ _ => pts_nil) (fun _ _ _ _ _ => (pe_tup (pa_cons (pv 2) (pa_cons (pcall ih hr takesN (pa_cons (pe_dget hu1 (pv 0) (pv 2) (fun _ _ => rfl)) pa_nil) (hk := Nat.le_refl _)) pa_nil)))))) pa_nil)) (pv 0)))))), ?_⟩
      cases d with
      | non =>
        cases r1.un_non
        walk_at "rds"
        exact q _ _ (Same.refl _) .non
      | bl b =>
        cases r1.un_bl
        walk_at "rds"
        exact q _ _ (Same.refl _) .bl
      | int i =>
        cases r1.un_int
        walk_at "rds"
        exact q _ _ (Same.refl _) .int
      | str s =>
        cases r1.un_str
        walk_at "rds"
        exact q _ _ (Same.refl _) .str
      | lst ds =>
        obtain ⟨a, xs, rfl, ha, ra⟩ := r1.un_lst
        have hlen : xs.length ≤ 1000 := by
          rw [ra.len]
          unfold D.fit at hf
          exact hf.1
        walk_at "rds"
        refine isi_lst_list ha ?_
        walk_at "rds"
        refine r_isl (SqL.of ha) ?_
        refine lc_lst (xs := xs) (fun C i H' => ∃ H1, Same H H1 ∧ H1 C = some (.lst []) ∧ CopyAt H H1 ds C i H') (fun C H1 nC s3 e3 => ⟨H1, s3, e3, s3, But.refl, nC, [], e3, .nil⟩) (fun C i H' _ ⟨H1, _, _, s, _⟩ => SqL.of (s _ _ ha)) (fun C i x H' hi ⟨H1, s1, c1, s, b, nC, ys, e2, ry⟩ => ?_) (fun C H' ⟨H1, s1, c1, s, b, nC, ys, e2, ry⟩ => ?_)
        · obtain ⟨hl, hi2⟩ := List.getElem?_eq_some_iff.mp hi
          have hi' : i < ds.length := by
            rw [← ra.len]
            exact hl
          obtain ⟨x', hx, rx⟩ := ra.get (List.getElem?_eq_getElem hi')
          rw [hi] at hx
          cases hx
          walk_at "rds"
          refine ⟨rfl, ?_⟩
          walk_at "rds"
          refine ⟨x, ds[i], rfl, rx.mono s, D.deep_at_lst hn hi', D.fit_at_lst hf hi', fun y H3 s3 r3 => ?_⟩
          walk_at "rds"
          have hys : ys.length < 100000 := by
            have := ry.len
            rw [List.length_take] at this
            omega
          refine push (s3 _ _ e2) hys fun H4 b4 e4 => ?_
          refine ⟨H1, s1, c1, fun c o e => b4 _ _ (ne_of_none e nC) (s3 _ _ (s _ _ e)), (b.trans (But.of s3)).trans b4, nC, _, e4, RepL.take_succ (ry.mono (New.to (fun a o e => ⟨o, e⟩) fun c o n e => b4 _ _ (fun z => by
            subst z
            rw [c1] at n
            cases n) (s3 _ _ e))) (List.getElem?_eq_getElem hi') (r3.mono (New.to (fun c o e => ?_) fun c o n e => b4 _ _ (fun z => by
            subst z
            rw [e2] at n
            cases n) e))⟩
          by_cases z : c = C
          · exact ⟨_, by rw [z]; exact e2⟩
          · exact ⟨_, b _ _ z e⟩
        · walk_at "rds"
          rw [ra.len, List.take_length] at ry
          exact q _ _ s (.lst (New.mk nC e2) (ry.mono (New.to (fun c o e => ⟨_, s1 _ _ e⟩) fun c o n e => e)))
      | tup ds =>
        obtain ⟨a, xs, rfl, ha, ra⟩ := r1.un_tup
        have hlen : xs.length ≤ 1000 := by
          rw [ra.len]
          unfold D.fit at hf
          exact hf.1
        walk_at "rds"
        refine isi_tup_list ha ?_
        walk_at "rds"
        refine isi_tup_tuple ha ?_
        walk_at "rds"
        refine r_ist (SqT.of ha) ?_
        refine lc_tpl (xs := xs) (fun C i H' => ∃ H1, Same H H1 ∧ H1 C = some (.lst []) ∧ CopyAt H H1 ds C i H') (fun C H1 nC s3 e3 => ⟨H1, s3, e3, s3, But.refl, nC, [], e3, .nil⟩) (fun C i H' _ ⟨H1, _, _, s, _⟩ => SqT.of (s _ _ ha)) (fun C i x H' hi ⟨H1, s1, c1, s, b, nC, ys, e2, ry⟩ => ?_) (fun C H' ⟨H1, s1, c1, s, b, nC, ys, e2, ry⟩ => ?_)
        · obtain ⟨hl, hi2⟩ := List.getElem?_eq_some_iff.mp hi
          have hi' : i < ds.length := by
            rw [← ra.len]
            exact hl
          obtain ⟨x', hx, rx⟩ := ra.get (List.getElem?_eq_getElem hi')
          rw [hi] at hx
          cases hx
          walk_at "rds"
          refine ⟨rfl, ?_⟩
          walk_at "rds"
          refine ⟨x, ds[i], rfl, rx.mono s, D.deep_at_tup hn hi', D.fit_at_tup hf hi', fun y H3 s3 r3 => ?_⟩
          walk_at "rds"
          have hys : ys.length < 100000 := by
            have := ry.len
            rw [List.length_take] at this
            omega
          refine push (s3 _ _ e2) hys fun H4 b4 e4 => ?_
          refine ⟨H1, s1, c1, fun c o e => b4 _ _ (ne_of_none e nC) (s3 _ _ (s _ _ e)), (b.trans (But.of s3)).trans b4, nC, _, e4, RepL.take_succ (ry.mono (New.to (fun a o e => ⟨o, e⟩) fun c o n e => b4 _ _ (fun z => by
            subst z
            rw [c1] at n
            cases n) (s3 _ _ e))) (List.getElem?_eq_getElem hi') (r3.mono (New.to (fun c o e => ?_) fun c o n e => b4 _ _ (fun z => by
            subst z
            rw [e2] at n
            cases n) e))⟩
          by_cases z : c = C
          · exact ⟨_, by rw [z]; exact e2⟩
          · exact ⟨_, b _ _ z e⟩
        · walk_at "rds"
          rw [ra.len, List.take_length] at ry
          refine tuple_l (SqL.of e2) fun p H4 np s4 e4 => ?_
          refine q _ _ (s.trans s4) (.tup (New.mk ?_ e4) (ry.mono (New.to (fun c o e => ⟨_, s1 _ _ e⟩) fun c o n e => s4 _ _ e)))
          cases z : H p with
          | none => rfl
          | some o =>
            rw [s _ _ z] at np
            cases np
      | dct ds =>
        obtain ⟨a, xs, rfl, ha, ra⟩ := r1.un_dct
        walk_at "rds"
        refine isi_dct_list ha ?_
        walk_at "rds"
        refine isi_dct_tuple ha ?_
        walk_at "rds"
        refine isi_dct_dict ha ?_
        have hf' := hf
        rw [D.fit_dct] at hf'
        have na : (xs.map (·.1)).Nodup := by
          rw [ra.keys]
          exact hf'.2.1
        have hsz : D.sizeK ds < (D.dct ds).size := by
          rw [D.size_dct]
          omega
        have hlen : xs.length ≤ 1000 := by
          rw [ra.len]
          exact hf'.1
        walk_at "rds"
        refine lockE ha fun od H0 e0 b0 => ?_
        have ra0 : RepK H0 ds xs := ra.but r1 hsz b0
        walk_at "rds"
        refine ⟨_, _, rfl, .inl ⟨_, e0, ?_⟩⟩
        refine lc_key (fun C i H' => ∃ H1, Same H0 H1 ∧ H1 C = some (.lst []) ∧ Same H0 H' ∧ But C H1 H' ∧ H0 C = none ∧ ∃ (ps : List Addr) (kvs : List (Key × V)), H' C = some (.lst (ps.map V.ref)) ∧ Paired (fun p kv => New H1 H' p = some (.tup [kV kv.1, kv.2])) ps kvs ∧ RepK (New H1 H') (ds.take i) kvs)
          (fun C H1 nC s3 e3 => ⟨H1, s3, e3, s3, But.refl, nC, [], [], e3, .nil, .nil⟩) (fun C i H' _ ⟨H1, _, _, s, _⟩ => s _ _ e0) (fun C i k v H' hi ⟨H1, s1, c1, s, b, nC, ps, kvs, e2, pp, ry⟩ => ?_) (fun C H' ⟨H1, s1, c1, s, b, nC, ps, kvs, e2, pp, ry⟩ => ?_)
        · obtain ⟨hl, hi2⟩ := List.getElem?_eq_some_iff.mp hi
          have hi' : i < ds.length := by
            rw [← ra.len]
            exact hl
          obtain ⟨x, hx, rx⟩ := ra0.get (i := i) (k := (ds[i]).1) (d := (ds[i]).2) (List.getElem?_eq_getElem hi')
          rw [hi] at hx
          cases hx
          walk_at "rds"
          refine ⟨rfl, ?_⟩
          walk_at "rds"
          refine drd_k (.inr ⟨od, s _ _ e0⟩) (val_at na hi) ?_
          walk_at "rds"
          refine ⟨_, (ds[i]).2, rfl, rx.mono s, D.deep_at_dct hn hi', D.fit_at_dct hf hi', fun y H3 s3 r3 => ?_⟩
          walk_at "rds"
          refine al_t (by simp) fun p H4 np4 s4 e4 => ?_
          have hys : (ps.map V.ref).length < 100000 := by
            have h1 := ry.len
            have h2 := paired_len pp
            rw [List.length_take] at h1
            rw [List.length_map]
            omega
          refine push (s4 _ _ (s3 _ _ e2)) hys fun H5 b5 e5 => ?_
          have new5 : Same (New H1 H') (New H1 H5) := New.to (fun a o e => ⟨o, e⟩) fun c o n e => b5 _ _ (fun z => by
            subst z
            rw [c1] at n
            cases n) (s4 _ _ (s3 _ _ e))
          have old1 : ∀ c o, H1 c = some o → ∃ u, H' c = some u := fun c o e => by
            by_cases z : c = C
            · exact ⟨_, by rw [z]; exact e2⟩
            · exact ⟨_, b _ _ z e⟩
          have np1 : H1 p = none := by
            cases z : H1 p with
            | none => rfl
            | some o =>
              obtain ⟨u, hu'⟩ := old1 _ _ z
              rw [s3 _ _ hu'] at np4
              cases np4
          have pC : p ≠ C := fun z => by
            rw [z, s3 _ _ e2] at np4
            cases np4
          refine ⟨H1, s1, c1, fun c o e => b5 _ _ (ne_of_none e nC) (s4 _ _ (s3 _ _ (s _ _ e))), ((b.trans (But.of s3)).trans (But.of s4)).trans b5, nC, ps ++ [p], kvs ++ [((ds[i]).1, y)], by rw [e5, List.map_append]; rfl, paired_snoc (F := fun (p : Addr) (kv : Key × V) => New H1 H5 p = some (.tup [kV kv.1, kv.2])) (New.mk np1 (b5 _ _ pC e4)) (paired_imp (fun p kv e => new5 _ _ e) pp), ?_⟩
          refine RepK.take_succ (ry.mono new5) (List.getElem?_eq_getElem hi') (r3.mono (New.to old1 fun c o n e => b5 _ _ (fun z => by
            subst z
            rw [e2] at n
            cases n) (s4 _ _ e)))
        · refine ⟨s _ _ e0, ?_⟩
          have h0C : H C = none := by
            cases z : H C with
            | none => rfl
            | some o =>
              have ne : C ≠ a := fun z => by
                subst z
                rw [e0] at nC
                cases nC
              rw [b0 _ _ ne z] at nC
              cases nC
          have nCa : C ≠ a := fun z => by
            subst z
            rw [e0] at nC
            cases nC
          have sb : Same H (upd H' a (.dK xs)) := same_back ha b0 s
          rw [ra.len, List.take_length] at ry
          have h01 : ∀ c o, H c = some o → ∃ u, H1 c = some u := fun c o e => by
            by_cases z : c = a
            · subst z
              exact ⟨_, s1 _ _ e0⟩
            · exact ⟨_, s1 _ _ (b0 _ _ z e)⟩
          have nwa : ∀ c, H1 c = none → c ≠ a := fun c n z => by
            subst z
            rw [s1 _ _ e0] at n
            cases n
          walk_at "rds"
          refine dict_p (kvs := kvs) (SqL.of (by rw [upd_ne nCa]; exact e2)) (paired_imp (fun p kv e => SqT.of ?_) pp) (by rw [ry.keys]; exact hf'.2.1) fun p H4 np s4 e4 => ?_
          · obtain ⟨m1, m2⟩ := New.un e
            rw [upd_ne (nwa _ m1)]
            exact m2
          · refine q _ _ (sb.trans s4) (.dct (New.mk ?_ e4) (ry.mono (New.to h01 fun c o n e => s4 _ _ ?_)))
            · cases z : H p with
              | none => rfl
              | some o =>
                rw [sb _ _ z] at np
                cases np
            · rw [upd_ne (nwa _ n)]
              exact e
theorem d_copy (T : Txt K mg A) : Df P w K mg base 13 "_law_copy" s_copy ["value"] (spCopy 13) := ds_copy T _
end

def powGo : Nat → Int → Int → Int → Int × Int
  | 0, _, left, power => (left, power)
  | f + 1, l, left, power => if left % l = 0 then powGo f l (left / l) (power + 1) else (left, power)
def facGo : Nat → Int → Int → List (Int × Int) → List (Int × Int)
  | 0, _, left, fs => fs ++ if left > 1 then [(left, 1)] else []
  | f + 1, l, left, fs => if l * l ≤ left then facGo f (l + 1) (powGo 60 l left 0).1 (if (powGo 60 l left 0).2 > 0 then fs ++ [(l, (powGo 60 l left 0).2)] else fs) else fs ++ if left > 1 then [(left, 1)] else []
theorem fac_small : ∀ n ∈ upto, (facGo 60 2 (n : Int) []).length ≤ 60 := by decide +kernel
theorem powGo_s (f : Nat) (l left power : Int) : powGo (f + 1) l left power = if left % l = 0 then powGo f l (left / l) (power + 1) else (left, power) := rfl
theorem facGo_s (f : Nat) (l left : Int) (fs : List (Int × Int)) : facGo (f + 1) l left fs = if l * l ≤ left then facGo f (l + 1) (powGo 60 l left 0).1 (if (powGo 60 l left 0).2 > 0 then fs ++ [(l, (powGo 60 l left 0).2)] else fs) else fs ++ if left > 1 then [(left, 1)] else [] := by
  rw [facGo]
theorem facGo_n {f : Nat} {l left : Int} {fs : List (Int × Int)} (h : ¬ l * l ≤ left) : facGo f l left fs = fs ++ if left > 1 then [(left, 1)] else [] := by
  cases f with
  | zero => rfl
  | succ f => rw [facGo_s, if_neg h]

def dsAre : DSp := fun as Q _ => ∃ d x lo y hi z, as = [.dat d x, .dat (.int lo) y, .dat (.int hi) z] ∧ d.fit ∧ Q (.dat (.bl (d.are lo hi)) none) 0
section
variable {F : Fr} {d : D} {x y z : Option V} {lo hi : Int} {Q : SV → Int → Prop} {E : Addr → List Str → List SV → Prop}
theorem u_are (hf : d.fit) (q : Q (.dat (.bl (d.are lo hi)) none) 0) : dsAre [.dat d x, .dat (.int lo) y, .dat (.int hi) z] Q E := ⟨d, x, lo, y, hi, z, rfl, hf, q⟩
end
local macro_rules | `(tactic| walk_at "dc") => `(tactic| ((with_reducible refine' u_are ?hf ?_); (case hf => assumption)))
section
variable {P : Program} {w : World} {K : PySem.W.Frag} {mg : Str → Option Value} {base : Heap} {A : Ad}
theorem d_are_integers (T : Txt K mg A) : Df P w K mg base 2 "are_integers" s_are_integers ["value", "least", "greatest"] (spOf dsAre) := by
  refine mk_dd T.h_are_integers sc_are_integers (fun _ _ _ _ _ _ us hl => match us, hl with | [_, _, _], _ => rfl) (fun as Q E h => ?_) fun f cdv A' outer s H E0 F as Q E hr h hbx hW => ?_
  · obtain ⟨d, x, lo, y, hi, z, rfl, _⟩ := h
    rfl
  · obtain ⟨d, x, lo, y, hi, z, rfl, hf, q⟩ := h
    have hu : (A'.deeper (envOfC "are_integers" (defScope s_are_integers) s.heap.objs.size f cdv)).units + 64 < cLine := hr.units
    refine ⟨_, (pss_one (ps_ret (pe_and (pcall (d_is_sequence T) hr takesN (pa_cons (pv 0) pa_nil)) (pe_and (pe_chain o_le o_le (pv 1) (pe_callB (c_lenK K) (by rfl) T.b_len PySem.boot_len (pa_cons (pv 0) pa_nil)) (pv 2)) (pe_one (pe_callB (c_allK K) (by rfl) T.b_all (by decide +kernel) (pa_cons (pe_lc (own := [("item", 3)]) (by rfl) sc_are_integers.nd (pi_seqK K (pv 0)) (blkOk_by (own := [("item", 3)]) (N := ["value", "least", "greatest", "item"]) (sc := defScope s_are_integers) (by decide +kernel)) (fun _ _ _ _ _ => (pg_name (i := 3) sc_are_integers.nd rfl (Or.inl rfl))) (fun _ _ _ _ _ => pts_nil) (fun _ _ _ _ _ => (pcall (d_is_integer T) hr takesN (pa_cons (pv 3) pa_nil)))) pa_nil))))))), ?_⟩
    walk_at "dds"
    refine w_if2 (fun h => ?_) fun h => ?_
    · obtain ⟨ds, hd⟩ : ∃ ds, IsSq d ds := by
        cases d <;> first | exact ⟨_, .inl rfl⟩ | exact ⟨_, .inr rfl⟩ | cases h
      have hl : ds.length ≤ 1000 ∧ D.fitL ds := by
        rcases hd with rfl | rfl
        · rw [D.fit_lst] at hf
          exact hf
        · rw [D.fit_tup] at hf
          exact hf
      have e : d.are lo hi = (decide (lo ≤ (ds.length : Int)) && decide ((ds.length : Int) ≤ hi) && ds.all D.isInt) := by
        rcases hd with rfl | rfl <;> rfl
      rw [e] at q
      walk_at "dds"
      refine w_ifD (fun h1 => ?_) fun h1 => ?_
      · walk_at "dds"
        refine w_ifD (fun h2 => ?_) fun h2 => ?_
        · walk_at "dds"
          refine lcM_d (lc_map (fun d => .bl d.isInt) (by omega) (fun y hy => ?_) ?_)
          · walk_at "dds"
            refine ⟨rfl, ?_⟩
            walk_at "dds"
            exact ⟨rfl, Le.refl⟩
          · walk_at "dds"
            have em : (ds.map fun d => D.bl d.isInt) = (ds.map D.isInt).map D.bl := by simp
            rw [em]
            walk_at "dds"
            refine all_d has_d ?_
            rw [List.all_map, decide_eq_true h1, decide_eq_true h2] at *
            exact retp hbx .d q
        · rw [decide_eq_true h1, decide_eq_false h2] at q
          exact retp hbx .d q
      · rw [decide_eq_false h1] at q
        walk_at "dds"
        exact retp hbx .d q
    · have e : d.are lo hi = false := by cases d <;> first | rfl | cases h
      rw [e] at q
      exact retp hbx .d q
end

def divGo : Nat → Int → Int → List Int → List Int → List Int
  | 0, _, _, low, high => low ++ high.reverse
  | f + 1, n, k, low, high => if k * k ≤ n then (if n % k = 0 then (if k * k < n then divGo f n (k + 1) (low ++ [k]) (high ++ [n / k]) else divGo f n (k + 1) (low ++ [k]) high) else divGo f n (k + 1) low high) else low ++ high.reverse
theorem divGo_ok : ∀ n ∈ upto, divGo 60 (n : Int) 1 [] [] = (divs n).map fun (d : Nat) => (d : Int) := by decide +kernel
def dsDivs : DSp := fun as Q _ => ∃ (n : Nat) (x : Option V), as = [.dat (.int n) x] ∧ n ∈ upto ∧ Q (.fr (.lst ((divs n).map fun (d : Nat) => D.int d))) 0
section
variable {P : Program} {w : World} {K : PySem.W.Frag} {mg : Str → Option Value} {base : Heap} {A : Ad}
theorem d_divisors_of (T : Txt K mg A) : Df P w K mg base 1 "divisors_of" s_divisors_of ["number"] (spOf dsDivs) := by
  refine mk_dd T.h_divisors_of sc_divisors_of (fun _ _ _ _ _ _ us hl => match us, hl with | [_], _ => rfl) (fun as Q E h => ?_) fun f cdv A' outer s H E0 F as Q E hr h hbx hW => ?_
  · obtain ⟨n, x, rfl, _⟩ := h
    rfl
  · obtain ⟨n, x, rfl, hn, q⟩ := h
    have hn' := mem_upto.mp hn
    have hu : (A'.deeper (envOfC "divisors_of" (defScope s_divisors_of) s.heap.objs.size f cdv)).units + 64 < cLine := hr.units
    refine ⟨_, (pss_cons (ps_par3 (i := 1) (j := 2) (l := 3) (by rfl) sc_divisors_of.nd rfl rfl rfl (by decide) (by decide) (by decide) rfl rfl rfl (pa_cons (pe_lst pa_nil) (pa_cons (pe_lst pa_nil) (pa_cons pe_int pa_nil))) (by rfl))
  (pss_cons (ps_while PassesOwn.leaving (pt_cmpR o_le (pe_op (o_mulK K) (pv 3) (pv 3)) (pv 0) (nomark _))
  (pss_cons (ps_if (pt_cmpR (o_eqK K hu) (pe_op o_mod (pv 0) (pv 3)) pe_int (nomark _))
  (pss_cons (ps_expr (pe_bmK K PySem.F.plainAttrs_list PySem.F.slot_list_append PySem.F.type_list_append mt_append (pv 1) (pa_cons (pv 3) pa_nil)))
  (pss_one (ps_if (pt_cmpR o_lt (pe_op (o_mulK K) (pv 3) (pv 3)) (pv 0) (nomark _))
  (pss_one (ps_expr (pe_bmK K PySem.F.plainAttrs_list PySem.F.slot_list_append PySem.F.type_list_append mt_append (pv 2) (pa_cons (pe_op o_fdiv (pv 0) (pv 3)) pa_nil)))) pss_nil))) pss_nil)
  (pss_one (ps_aug (i := 3) sc_divisors_of.nd rfl (Or.inl rfl) pe_int ip_add))))
  (pss_one (ps_ret (pe_op (o_addK K) (pv 1) (pe_revLK K (pv 2))))))), ?_⟩
    walk_at "dds"
    refine ds_while (fun m ρ => ∃ (k : Int) (low high : List Int), ρ = [.dat (.int n) x, .own (.lst (low.map .int)), .own (.lst (high.map .int)), .dat (.int k) none] ∧
        1 ≤ k ∧ (low.length : Int) < k ∧ (high.length : Int) < k ∧ k ≤ 61 ∧ (n : Int) < k + m ∧ divGo m n k low high = divGo 60 n 1 [] []) 60 (up Le.refl ⟨1, [], [], rfl, by omega, by simp, by simp, by omega, by omega, rfl⟩) ?_
    rintro m _ ⟨k, low, high, rfl, h1, h2, h3, h4, h5, hd⟩
    have kk : k * k ≤ 3721 := by
      have : k * k ≤ 61 * 61 := Int.mul_le_mul h4 h4 (by omega) (by omega)
      omega
    walk_at "dds"
    refine w_ifD (fun hc => ?_) fun hc => ?_
    · have hk := sq_le h1 hc
      walk_at "dds"
      cases m with
      | zero =>
        have := sq_le h1 hc
        omega
      | succ m =>
        unfold divGo at hd
        rw [if_pos hc] at hd
        refine w_ifD (fun hm => ?_) fun hm => ?_
        · rw [if_pos hm] at hd
          walk_at "dds"
          refine w_ifD (fun hs => ?_) fun hs => ?_
          · rw [if_pos hs] at hd
            walk_at "dds"
            exact ⟨m, by omega, up Le.refl ⟨k + 1, low ++ [k], high ++ [n / k], by simp, by omega, by simp; omega, by simp; omega, by omega, by omega, hd⟩⟩
          · rw [if_neg hs] at hd
            walk_at "dds"
            exact ⟨m, by omega, up Le.refl ⟨k + 1, low ++ [k], high, by simp, by omega, by simp; omega, by omega, by omega, by omega, hd⟩⟩
        · rw [if_neg hm] at hd
          walk_at "dds"
          exact ⟨m, by omega, up Le.refl ⟨k + 1, low, high, rfl, by omega, by omega, by omega, by omega, by omega, hd⟩⟩
    · have e : divGo m n k low high = low ++ high.reverse := by
        cases m with
        | zero => rfl
        | succ m =>
          unfold divGo
          rw [if_neg hc]
      rw [e, divGo_ok n hn] at hd
      walk_at "dds"
      have e2 : low.map D.int ++ (high.map D.int).reverse = (divs n).map fun (d : Nat) => D.int d := by
        rw [← List.map_reverse, ← List.map_append, hd, List.map_map]
        rfl
      rw [e2]
      exact retp hbx .f q
end

/-- the n-th of a row, from 1 -/
def at1 (ns : List Int) (n : Nat) : Int := (ns[n - 1]?).getD 0
theorem at1_get {ns : List Int} {k : Nat} : ns.getD k 0 = at1 ns (k + 1) := by
  unfold at1
  rw [List.getD_eq_getElem?_getD, Nat.add_sub_cancel]
abbrev D.rowOf (ns : List Int) (d : D) : Prop := IsSq d (ns.map D.int)
theorem D.ints_of : ∀ {ds : List D}, ds.all D.isInt = true → ∃ ns : List Int, ds = ns.map D.int
  | [], _ => ⟨[], rfl⟩
  | d :: r, h => by
    rw [List.all_cons, Bool.and_eq_true] at h
    obtain ⟨ns, rfl⟩ := D.ints_of h.2
    cases d with
    | int i => exact ⟨i :: ns, rfl⟩
    | _ => cases h.1
theorem ints_all (ns : List Int) : (ns.map D.int).all D.isInt = true := by
  rw [List.all_map, List.all_eq_true]
  intro _ _
  rfl
theorem D.are_sq {d : D} {ds : List D} (h : IsSq d ds) {lo hi : Int} : d.are lo hi = (decide (lo ≤ (ds.length : Int)) && decide ((ds.length : Int) ≤ hi) && ds.all D.isInt) := by
  rcases h with rfl | rfl <;> rfl
theorem D.are_row {d : D} {ns : List Int} (h : d.rowOf ns) {lo hi : Int} (h1 : lo ≤ ns.length) (h2 : (ns.length : Int) ≤ hi) : d.are lo hi = true := by
  rw [D.are_sq h, ints_all, List.length_map, decide_eq_true h1, decide_eq_true h2]
  rfl
theorem D.of_are {d : D} {lo hi : Int} (h : d.are lo hi = true) : ∃ ns : List Int, d.rowOf ns ∧ lo ≤ ns.length ∧ (ns.length : Int) ≤ hi := by
  obtain ⟨ds, hd⟩ : ∃ ds, IsSq d ds := by cases d <;> first | exact ⟨_, .inl rfl⟩ | exact ⟨_, .inr rfl⟩ | cases h
  rw [D.are_sq hd, Bool.and_eq_true, Bool.and_eq_true] at h
  obtain ⟨ns, rfl⟩ := D.ints_of h.2
  have h1 := of_decide_eq_true h.1.1
  have h2 := of_decide_eq_true h.1.2
  rw [List.length_map] at h1 h2
  exact ⟨ns, hd, h1, h2⟩
theorem D.fit_row {d : D} {ns : List Int} (h : d.rowOf ns) (hl : ns.length ≤ 1000) : d.fit := by
  rcases h with rfl | rfl
  · exact fit_ints hl
  · exact fit_intsT hl
def dsIsRow : DSp := fun as Q _ => ∃ d x, as = [.dat d x] ∧ d.fit ∧ Q (.dat (.bl (d.are 1 60)) none) 0
def dsCheck (C : Addr) : DSp := fun as Q E => ∃ d x, as = [.dat d x] ∧ d.fit ∧ ((d.are 1 60 = false ∧ E C ["given"] [.dat d x]) ∨ (d.are 1 60 = true ∧ Q (.dat .non none) 0))
section
variable {F : Fr} {d : D} {x y z : Option V} {ns : List Int} {C : Addr} {Q : SV → Int → Prop} {E : Addr → List Str → List SV → Prop}
theorem u_isrow (hf : d.fit) (q : Q (.dat (.bl (d.are 1 60)) none) 0) : dsIsRow [.dat d x] Q E := ⟨d, x, rfl, hf, q⟩
theorem u_check (h : d.rowOf ns) (h1 : 1 ≤ ns.length) (h2 : ns.length ≤ 60) (q : Q (.dat .non none) 0) : dsCheck C [.dat d x] Q E :=
  ⟨d, x, rfl, D.fit_row h (by omega), .inr ⟨D.are_row h (by omega) (by omega), q⟩⟩
end
local macro_rules | `(tactic| walk_at "dc") => `(tactic| (with_reducible refine' u_isrow ?hf ?_); (case hf => assumption))
local macro_rules | `(tactic| walk_at "dc") => `(tactic| (with_reducible refine' u_check ?h ?h1 ?h2 ?_); (case h => assumption); (case h1 => omega); (case h2 => omega))
section
variable {P : Program} {w : World} {K : PySem.W.Frag} {mg : Str → Option Value} {base : Heap} {A : Ad}
theorem d_is_row (T : Txt K mg A) : Df P w K mg base 3 "is_row" s_is_row ["value"] (spOf dsIsRow) := by
  refine mk_dd T.h_is_row sc_is_row (fun _ _ _ _ _ _ us hl => match us, hl with | [_], _ => rfl) (fun as Q E h => ?_) fun f cdv A' outer s H E0 F as Q E hr h hbx hW => ?_
  · obtain ⟨d, x, rfl, _⟩ := h
    rfl
  · obtain ⟨d, x, rfl, hf, q⟩ := h
    refine ⟨_, (pss_one (ps_ret (pcall (d_are_integers T) hr takesN (pa_cons (pv 0) (pa_cons pe_int (pa_cons (C8.pe_gc rfl T.c_MOST_TERMS) pa_nil)))))), ?_⟩
    walk_at "dds"
    exact retp hbx .d q
theorem d_check_row (T : Txt K mg A) : Df P w K mg base 4 "check_row" s_check_row ["row"] (spOf (dsCheck A.InvalidRow)) := by
  refine mk_dd T.h_check_row sc_check_row (fun _ _ _ _ _ _ us hl => match us, hl with | [_], _ => rfl) (fun as Q E h => ?_) fun f cdv A' outer s H E0 F as Q E hr h hbx hW => ?_
  · obtain ⟨d, x, rfl, _⟩ := h
    rfl
  · obtain ⟨d, x, rfl, hf, h⟩ := h
    refine ⟨_, (pss_one (ps_if (pt_not (pt_val (pcall (d_is_row T) hr takesX (pa_cons (pv 0) pa_nil))))
  (pss_one (ps_err (e_InvalidRow T) hr takesX (pa_cons (pv 0) pa_nil))) pss_nil)), ?_⟩
    walk_at "dds"
    rcases h with ⟨e, z⟩ | ⟨e, q⟩
    · rw [e]
      walk_at "dds"
      refine ds_err hW ?_
      walk_at "dds"
      exact ⟨rfl, Nat.le_of_ble_eq_true rfl, trivial, z⟩
    · rw [e]
      walk_at "dds"
      exact retp hbx .d q
end

/-! ### plain: bars by prime powers, and sums by mu -/
def facs (n : Nat) : List (Int × Int) := facGo 60 2 (n : Int) []
/-- l bars r at n -/
def barAt (r : Nat → Int) (n : Nat) (f : Int × Int) : Bool := decide (¬ (r n - r (n / f.1.toNat)) % (f.1 ^ f.2.toNat) = 0)
def badB (r : Nat → Int) (n : Nat) : Bool := (facs n).any (barAt r n)
def badS (r : Nat → Int) (n : Nat) : Bool := decide (¬ pp r n % (n : Int) = 0)
/-- linear forms: places with their coefficients -/
def evalL (r : Nat → Int) (L : List (Nat × Int)) : Int := (L.map fun p => p.2 * r p.1).sum
def coefL (L : List (Nat × Int)) (i : Nat) : Int := (L.map fun p => if p.1 = i then p.2 else 0).sum
theorem evalL_coef (r : Nat → Int) {idx : List Nat} (hn : idx.Nodup) : ∀ {L : List (Nat × Int)}, (∀ p ∈ L, p.1 ∈ idx) → evalL r L = sumOn idx fun i => coefL L i * r i
  | [], _ => by
    have : (fun i => coefL [] i * r i) = fun _ => (0 : Int) := funext fun i => by
      show (0 : Int) * r i = 0
      omega
    rw [this, sumOn_zero]
    rfl
  | p :: L, h => by
    have a := evalL_coef r hn (L := L) fun q hq => h q (List.mem_cons_of_mem _ hq)
    have e : (fun i => coefL (p :: L) i * r i) = fun i => (if i = p.1 then 1 else 0) * (p.2 * r i) + coefL L i * r i := funext fun i => by
      show ((if p.1 = i then p.2 else 0) + coefL L i) * r i = _
      rw [Int.add_mul]
      congr 1
      by_cases q : p.1 = i
      · rw [if_pos q, if_pos q.symm, Int.one_mul]
      · rw [if_neg q, if_neg (fun z => q z.symm), Int.zero_mul, Int.zero_mul]
    rw [e, sumOn_add, ← a, sumOn_at p.1 (fun i => p.2 * r i) idx hn (h p List.mem_cons_self)]
    rfl
theorem evalL_eq (r : Nat → Int) {idx : List Nat} (hn : idx.Nodup) {L M : List (Nat × Int)} (hL : ∀ p ∈ L, p.1 ∈ idx) (hM : ∀ p ∈ M, p.1 ∈ idx) (h : ∀ i ∈ idx, coefL L i = coefL M i) : evalL r L = evalL r M := by
  rw [evalL_coef r hn hL, evalL_coef r hn hM]
  exact sumOn_congr fun i hi => by rw [h i hi]
def formS (n : Nat) : List (Nat × Int) := (divs n).map fun d => (d, muN ((n / d : Nat) : Int))
def formB (n l q : Nat) : List (Nat × Int) := (divs (n / q)).flatMap fun j => [(j * q, muN ((n / q / j : Nat) : Int)), (j * q / l, - muN ((n / q / j : Nat) : Int))]
/-- everything about one factor of n -/
def facOne (n : Nat) (f : Int × Int) (l q : Nat) : Bool :=
  decide (f.1 = (l : Int)) && decide (2 ≤ l) && decide (1 ≤ f.2) && decide (f.2 ≤ 5) && decide (l ≤ 60) && decide (1 ≤ q) && decide (q ≤ 60) && decide (n % q = 0) && decide (n % l = 0) && decide (f.1 ^ f.2.toNat = (q : Int)) &&
    ((formS n).all fun p => (divs n).contains p.1) && ((formB n l q).all fun p => (divs n).contains p.1) && ((divs n).all fun d => decide (coefL (formS n) d = coefL (formB n l q) d)) &&
    ((divs (n / q)).all fun j => decide (j = n / q) || ((facs (j * q)).contains f && decide (j * q < n) && decide (1 ≤ j * q)))
def facOk (n : Nat) : Bool := (facs n).all fun f => facOne n f f.1.toNat (f.1.toNat ^ f.2.toNat)
theorem facOk_all : (upto.all facOk) = true := by decide +kernel

section
variable {P : Program} {w : World} {K : PySem.W.Frag} {mg : Str → Option Value} {base : Heap} {A : Ad}
theorem d_very (T : Txt K mg A) : Df P w K mg base 14 "_law_very" s_very ["given", "value"] spVery := by
  refine mk_df T.h_very sc_very (fun _ _ _ _ _ _ us hl => match us, hl with | [_, _], _ => rfl) (fun vs H Q E h => ?_) fun f cdv A' outer s H vs Q E hr h => ?_
  · obtain ⟨x, d, rfl, _⟩ := h
    rfl
  · obtain ⟨x, d, rfl, r, hd, hf, hr0, q⟩ := h
    have hu1 := hu_of hr
    refine ⟨_, (pss_cons (ps_if (pt_not (pt_val (pcall (d_same T) hr takesN (pa_cons (pv 0) (pa_cons (pv 1) pa_nil)))))
  (pss_one (ps_ret pe_bl)) pss_nil)
  (pss_cons (ps_if (pt_val (pe_callB (c_isiK K) (by rfl) T.b_isinstance (by decide +kernel) (pa_cons (pv 1) (pa_cons (pe_ty "list" T.b_list (by decide +kernel)) pa_nil))))
  (pss_one (ps_expr (pe_bmK K PySem.F.plainAttrs_list PySem.F.slot_list_append PySem.F.type_list_append mt_append (pv 1) (pa_cons pe_str pa_nil)))) pss_nil)
  (pss_cons (ps_if (pt_val (pe_callB (c_isiK K) (by rfl) T.b_isinstance (by decide +kernel) (pa_cons (pv 1) (pa_cons (pe_ty "dict" T.b_dict (by decide +kernel)) pa_nil))))
  (pss_one (ps_dput hu1 (pv 1) pe_str pe_int rfl)) pss_nil)
  (pss_one (ps_ret (pcall (d_same T) hr takesN (pa_cons (pv 0) (pa_cons (pv 1) pa_nil)))))))), ?_⟩
    walk_at "rds"
    refine ⟨x, x, d, rfl, r, r, by omega, hf, fun H1 s1 => ?_⟩
    have r1 := r.mono s1
    walk_at "rds"
    cases d with
    | lst ds =>
      obtain ⟨a, xs, rfl, ha, ra⟩ := r1.un_lst
      have hl := ra.len
      unfold D.room at hr0
      rw [D.fit_lst] at hf
      rw [D.deep_lst] at hd
      refine isi_lst_list ha ?_
      walk_at "rds"
      refine ⟨tyl ha, ?_⟩
      walk_at "rds"
      refine m_appB (K := K) ha (by omega) fun H2 b2 e2 => ?_
      walk_at "rds"
      refine isi_lst_dict e2 ?_
      walk_at "rds"
      have r2 : Rep H2 (.lst (ds ++ [.str "more"])) (.ref a) := .lst e2 (RepL.snoc .str (ra.but r1 (by rw [D.size_lst]; omega) b2))
      refine ⟨_, _, _, rfl, r2, r2, by rw [D.deep_lst, D.deepL_snoc, D.deep_str]; omega, by rw [D.fit_lst]; exact ⟨by simp; omega, D.fitL_snoc D.fit_str hf.2⟩, fun H3 s3 => ?_⟩
      exact q _ (Off.but ((But.of s1).trans (b2.trans (But.of s3))))
    | dct ds =>
      obtain ⟨a, xs, rfl, ha, ra⟩ := r1.un_dct
      have hl := ra.len
      unfold D.room at hr0
      rw [D.fit_dct] at hf
      rw [D.deep_dct] at hd
      refine isi_dct_list ha ?_
      walk_at "rds"
      refine isi_dct_dict ha ?_
      walk_at "rds"
      have hn : valV xs (.inr "more") = none := val_none (by rw [ra.keys]; exact hr0.2)
      refine dwr_s ha (by omega) fun H2 b2 e2 => ?_
      rw [putK_new _ hn] at e2
      walk_at "rds"
      have r2 : Rep H2 (.dct (ds ++ [(.inr "more", .int 1)])) (.ref a) := .dct e2 (RepK.snoc .int (ra.but r1 (by rw [D.size_dct]; omega) b2))
      refine ⟨_, _, _, rfl, r2, r2, by rw [D.deep_dct, D.deepK_snoc, D.deep_int]; omega, by
        rw [D.fit_dct]
        refine ⟨by simp; omega, ?_, D.fitK_snoc D.fit_int hf.2.2⟩
        rw [List.map_append, List.nodup_append]
        refine ⟨hf.2.1, by simp, fun a ha b hb => ?_⟩
        have e : b = .inr "more" := by simpa using hb
        rw [e]
        exact fun z => hr0.2 (z ▸ ha), fun H3 s3 => ?_⟩
      exact q _ (Off.but ((But.of s1).trans (b2.trans (But.of s3))))
    | tup ds =>
      obtain ⟨a, xs, rfl, ha, ra⟩ := r1.un_tup
      refine isi_tup_list ha ?_
      walk_at "rds"
      refine isi_tup_dict ha ?_
      walk_at "rds"
      refine ⟨_, _, _, rfl, r1, r1, by omega, hf, fun H3 s3 => q _ (Off.of (s1.trans s3))⟩
    | non =>
      cases r1.un_non
      walk_at "rds"
      exact ⟨_, _, _, rfl, r1, r1, by omega, hf, fun H3 s3 => q _ (Off.of (s1.trans s3))⟩
    | bl b =>
      cases r1.un_bl
      walk_at "rds"
      exact ⟨_, _, _, rfl, r1, r1, by omega, hf, fun H3 s3 => q _ (Off.of (s1.trans s3))⟩
    | int b =>
      cases r1.un_int
      walk_at "rds"
      exact ⟨_, _, _, rfl, r1, r1, by omega, hf, fun H3 s3 => q _ (Off.of (s1.trans s3))⟩
    | str b =>
      cases r1.un_str
      walk_at "rds"
      exact ⟨_, _, _, rfl, r1, r1, by omega, hf, fun H3 s3 => q _ (Off.of (s1.trans s3))⟩
end

/-! ### the laws' own equality, upon data -/
section
variable {F : Fr} {ρ : List SV} {Q : SV → List SV → Prop} {E : L2.St → XK} {d : D} {x y : Option V} {n : Nat}
theorem same_d (hd : d.deep < 10) (hf : d.fit) (hn : 10 ≤ n) (q : Q (.dat (.bl true) none) ρ) : CallD F (spSame n) E [.dat d x, .dat d y] ρ Q := fun X M N σ H vs ok pr Qh P => by
  obtain ⟨v, w, rfl, oa, ob⟩ := pair2 pr
  exact ⟨v, w, d, rfl, oa.1.mono ok.sub, ob.1.mono ok.sub, by omega, hf, fun H' s => P.sx ok s Rep.bl q⟩
theorem copy_d (hd : d.deep < 10) (hf : d.fit) (hn : 10 ≤ n) (q : Q (frOf d) ρ) : CallD F (spCopy n) E [.dat d x] ρ Q := fun X M N σ H vs ok pr Qh P => by
  obtain ⟨v, rfl, oa⟩ := pair1 pr
  exact ⟨v, d, rfl, oa.1.mono ok.sub, by omega, hf, fun y H' s r => new_val ok s r P q⟩
end

/-- a pair of ints, as a tuple -/
abbrev tw (f : Int × Int) : D := .tup [.int f.1, .int f.2]
def dsFac : DSp := fun as Q _ => ∃ (n : Nat) (x : Option V), as = [.dat (.int n) x] ∧ n ∈ upto ∧ Q (.fr (.lst ((facGo 60 2 (n : Int) []).map tw))) 0
section
variable {P : Program} {w : World} {K : PySem.W.Frag} {mg : Str → Option Value} {base : Heap} {A : Ad}
theorem d_factors_of (T : Txt K mg A) : Df P w K mg base 1 "factors_of" s_factors_of ["number"] (spOf dsFac) := by
  refine mk_dd T.h_factors_of sc_factors_of (fun _ _ _ _ _ _ us hl => match us, hl with | [_], _ => rfl) (fun as Q E h => ?_) fun f cdv A' outer s H E0 F as Q E hr h hbx hW => ?_
  · obtain ⟨n, x, rfl, _⟩ := h
    rfl
  · obtain ⟨n, x, rfl, hn, q⟩ := h
    have hn' := mem_upto.mp hn
    have hu : (A'.deeper (envOfC "factors_of" (defScope s_factors_of) s.heap.objs.size f cdv)).units + 64 < cLine := hr.units
    refine ⟨_, (pss_cons (ps_par3 (i := 1) (j := 2) (l := 3) (by rfl) sc_factors_of.nd rfl rfl rfl (by decide) (by decide) (by decide) rfl rfl rfl (pa_cons (pe_lst pa_nil) (pa_cons (pv 0) (pa_cons pe_int pa_nil))) (by rfl))
  (pss_cons (ps_while PassesOwn.leaving (pt_cmpR o_le (pe_op (o_mulK K) (pv 3) (pv 3)) (pv 2) (nomark _))
  (pss_cons (ps_set (i := 4) sc_factors_of.nd rfl (Or.inl rfl) pe_int)
  (pss_cons (ps_while PassesOwn.leaving (pt_cmpR (o_eqK K hu) (pe_op o_mod (pv 2) (pv 3)) pe_int (nomark _))
  (pss_one (ps_par (i := 2) (j := 4) (by rfl) sc_factors_of.nd rfl rfl (by decide) rfl rfl (pa_cons (pe_op o_fdiv (pv 2) (pv 3)) (pa_cons (pe_op (o_addK K) (pv 4) pe_int) pa_nil)) (by rfl))))
  (pss_cons (ps_if (pt_cmpR o_gt (pv 4) pe_int (nomark _))
  (pss_one (ps_expr (pe_bmK K PySem.F.plainAttrs_list PySem.F.slot_list_append PySem.F.type_list_append mt_append (pv 1) (pa_cons (pe_tup (pa_cons (pv 3) (pa_cons (pv 4) pa_nil))) pa_nil)))) pss_nil)
  (pss_one (ps_aug (i := 3) sc_factors_of.nd rfl (Or.inl rfl) pe_int ip_add))))))
  (pss_one (ps_ret (pe_op (o_addK K) (pv 1) (pe_ifExp (pt_cmpR o_gt (pv 2) pe_int (nomark _)) (pe_lst (pa_cons (pe_tup (pa_cons (pv 2) (pa_cons pe_int pa_nil))) pa_nil)) (pe_lst pa_nil))))))), ?_⟩
    walk_at "dds"
    refine ds_while (fun m ρ => ∃ (left l : Int) (fs : List (Int × Int)), ρ = [.dat (.int n) x, .own (.lst (fs.map tw)), .dat (.int left) none, .dat (.int l) none, .un] ∧
        2 ≤ l ∧ l ≤ 62 ∧ (fs.length : Int) ≤ l ∧ 1 ≤ left ∧ left ≤ 60 ∧ left < l + m ∧ facGo m l left fs = facGo 60 2 n []) 60 (up (ρ' := [.dat (.int n) x, .own (.lst (([] : List (Int × Int)).map tw)), .dat (.int n) none, .dat (.int 2) none, .un]) (by walk_at "le") ⟨n, 2, [], rfl, by omega, by omega, by simp, by omega, by omega, by omega, rfl⟩) ?_
    rintro m _ ⟨left, l, fs, rfl, l2, l62, hfl, lf1, lf60, hm, hv⟩
    have kk : l * l ≤ 3844 := by
      have : l * l ≤ 62 * 62 := Int.mul_le_mul l62 l62 (by omega) (by omega)
      omega
    walk_at "dds"
    refine w_ifD (fun hk => ?_) fun hk => ?_
    · have hkn := sq_le (by omega) hk
      obtain ⟨m', rfl⟩ : ∃ m', m = m' + 1 := ⟨m - 1, by omega⟩
      rw [facGo_s, if_pos hk] at hv
      walk_at "dds"
      refine ds_while (fun m2 ρ => ∃ (left2 power : Int), ρ = [.dat (.int n) x, .own (.lst (fs.map tw)), .dat (.int left2) none, .dat (.int l) none, .dat (.int power) none] ∧ 1 ≤ left2 ∧ left2 ≤ left ∧ left2 ≤ m2 ∧ 0 ≤ power ∧ power + left2 ≤ 61 ∧
          powGo m2 l left2 power = powGo 60 l left 0) 60 (up Le.refl ⟨left, 0, rfl, lf1, by omega, by omega, by omega, by omega, rfl⟩) ?_
      rintro m2 _ ⟨left2, power, rfl, a1, a2, a3, a4, a5, hv2⟩
      obtain ⟨m3, rfl⟩ : ∃ m3, m2 = m3 + 1 := ⟨m2 - 1, by omega⟩
      rw [powGo_s] at hv2
      walk_at "dds"
      refine w_ifD (fun hd => ?_) fun hd => ?_
      · rw [if_pos hd] at hv2
        have d1 : left2 / l < left2 := Int.ediv_lt_of_lt_mul (by omega) (by
          have := Int.mul_lt_mul_of_pos_left (show 1 < l by omega) (show 0 < left2 by omega)
          omega)
        have d2 : 1 ≤ left2 / l := by
          have h0 := Int.mul_ediv_add_emod left2 l
          have h3 : left2 / l ≠ 0 := fun z => by
            rw [z, Int.mul_zero] at h0
            omega
          have h4 : 0 ≤ left2 / l := Int.ediv_nonneg (by omega) (by omega)
          omega
        walk_at "dds"
        exact ⟨m3, by omega, up Le.refl ⟨left2 / l, power + 1, rfl, d2, by omega, by omega, by omega, by omega, hv2⟩⟩
      · rw [if_neg hd] at hv2
        have p1 : (powGo 60 l left 0).1 = left2 := by rw [← hv2]
        have p2 : (powGo 60 l left 0).2 = power := by rw [← hv2]
        rw [p1, p2] at hv
        walk_at "dds"
        refine w_ifD (fun hp => ?_) fun hp => ?_
        · rw [if_pos hp] at hv
          walk_at "dds"
          exact ⟨m', by omega, up (ρ' := [.dat (.int n) x, .own (.lst ((fs ++ [(l, power)]).map tw)), .dat (.int left2) none, .dat (.int (l + 1)) none, .un]) (by rw [List.map_append]; walk_at "le") ⟨left2, l + 1, fs ++ [(l, power)], rfl, by omega, by omega, by simp; omega, by omega, by omega, by omega, hv⟩⟩
        · rw [if_neg hp] at hv
          walk_at "dds"
          exact ⟨m', by omega, up (ρ' := [.dat (.int n) x, .own (.lst (fs.map tw)), .dat (.int left2) none, .dat (.int (l + 1)) none, .un]) (by walk_at "le") ⟨left2, l + 1, fs, rfl, by omega, by omega, by omega, by omega, by omega, by omega, hv⟩⟩
    · rw [facGo_n hk] at hv
      walk_at "dds"
      refine w_ifD (fun h1 => ?_) fun h1 => ?_
      · rw [if_pos h1] at hv
        walk_at "dds"
        have e : fs.map tw ++ [D.tup [.int left, .int 1]] = (facGo 60 2 n []).map tw := by
          rw [← hv, List.map_append]
          rfl
        rw [e]
        exact retp hbx .f q
      · rw [if_neg h1, List.append_nil] at hv
        walk_at "dds"
        rw [List.append_nil, hv]
        exact retp hbx .f q
end

/-! ### drawn rows, any terms -/
def dsDrawnRow : DSp := fun as Q _ => ∃ (a : Addr) (B m : Int) (x : Option V), as = [.box a B, .dat (.int m) x] ∧ 1 ≤ m ∧ m ≤ 60 ∧ B < 90000000 ∧ ∀ ms : List Int, 1 ≤ ms.length → ms.length ≤ m → (∀ z ∈ ms, z.natAbs ≤ 1000000000) → Q (.fr (.lst (ms.map .int))) (B + 100)
section
variable {P : Program} {w : World} {K : PySem.W.Frag} {mg : Str → Option Value} {base : Heap} {A : Ad}
theorem d_drawn_row (T : Txt K mg A) : Df P w K mg base 2 "_law_drawn_row" s_drawn_row ["box", "most"] (spOf dsDrawnRow) := by
  refine mk_dd T.h_drawn_row sc_drawn_row (fun _ _ _ _ _ _ us hl => match us, hl with | [_, _], _ => rfl) (fun as Q E h => ?_) fun f cdv A' outer s H E0 F as Q E hr h hbx hW => ?_
  · obtain ⟨a, B, m, x, rfl, _⟩ := h
    rfl
  · obtain ⟨a, B, m, x, rfl, m1, m60, hB, q⟩ := h
    have hu : (A'.deeper (envOfC "_law_drawn_row" (defScope s_drawn_row) s.heap.objs.size f cdv)).units + 64 < cLine := hr.units
    refine ⟨_, (pss_cons (ps_asg (pe_tup (pa_cons (pe_op (o_addK K) pe_int (pcall (d_take T) hr takesN (pa_cons (pv 0) (pa_cons (pv 1) pa_nil)))) (pa_cons (pcall (d_take T) hr takesN (pa_cons (pv 0) (pa_cons pe_int pa_nil))) pa_nil))) (pg_tupK K (n := 2) (pgs_cons (pg_name (i := 2) sc_drawn_row.nd rfl (Or.inl rfl)) (pgs_cons (pg_name (i := 3) sc_drawn_row.nd rfl (Or.inr rfl)) pgs_nil))))
  (pss_cons (ps_if (pt_cmpR o_lt (pv 3) pe_int (nomark _))
  (pss_cons (ps_set (i := 4) sc_drawn_row.nd rfl (Or.inl rfl) (pcall (d_row T) hr takesN (pa_cons (pe_lc (own := [("k", 6)]) (by rfl) sc_drawn_row.nd (pi_range1 rfl T.b_range (pa_cons (pv 2) pa_nil)) (blkOk_by (own := [("k", 6)]) (N := ["box", "most", "many", "way", "row", "at", "k"]) (sc := defScope s_drawn_row) (by decide +kernel)) (fun _ _ _ _ _ => (pg_name (i := 6) sc_drawn_row.nd rfl (Or.inl rfl))) (fun _ _ _ _ _ => pts_nil) (fun _ _ _ _ _ => (pe_op o_sub (pcall (d_take T) hr takesN (pa_cons (pv 0) (pa_cons pe_int pa_nil))) (pe_ifExp (pt_cmpR (o_eqK K hu) (pe_op o_mod (pv 3) pe_int) pe_int (nomark _)) pe_int pe_int)))) pa_nil)))
  (pss_cons (ps_if (pt_cmpR o_gt (pv 3) pe_int (nomark _))
  (pss_cons (ps_set (i := 5) sc_drawn_row.nd rfl (Or.inl rfl) (pcall (d_take T) hr takesN (pa_cons (pv 0) (pa_cons (pv 2) pa_nil))))
  (pss_one (ps_asg (pe_op (o_addK K) (pe_op (o_addK K) (pe_ix (ix_seqK K) (pv 4) (pv 5) (fun _ _ => rfl)) pe_int) (pcall (d_take T) hr takesN (pa_cons (pv 0) (pa_cons (pv 2) pa_nil)))) (pg_sub (pv 4) (pv 5) set_list)))) pss_nil)
  (pss_one (ps_ret (pv 4))))) pss_nil)
  (pss_one (ps_ret (pe_lc (own := [("k", 6)]) (by rfl) sc_drawn_row.nd (pi_range1 rfl T.b_range (pa_cons (pv 2) pa_nil)) (blkOk_by (own := [("k", 6)]) (N := ["box", "most", "many", "way", "row", "at", "k"]) (sc := defScope s_drawn_row) (by decide +kernel)) (fun _ _ _ _ _ => (pg_name (i := 6) sc_drawn_row.nd rfl (Or.inl rfl))) (fun _ _ _ _ _ => pts_nil) (fun _ _ _ _ _ => (pe_op o_sub (pcall (d_take T) hr takesN (pa_cons (pv 0) (pa_cons pe_int pa_nil))) pe_int))))))), ?_⟩
    walk_at "dds"
    intro t t0 t1
    walk_at "dds"
    intro way w0 w1
    walk_at "dds"
    obtain ⟨n, hn, n1, nm⟩ : ∃ n : Nat, 1 + t = (n : Int) ∧ 1 ≤ n ∧ (n : Int) ≤ m := ⟨(1 + t).toNat, by omega, by omega, by omega⟩
    refine w_ifD (fun h4 => ?_) fun h4 => ?_
    · walk_at "dds"
      rw [hn]
      walk_at "dds"
      refine lcM_r (lc_drawI (j := 0) 1 (fun z => -4 ≤ z ∧ z ≤ 8) rfl (by simp; omega) (fun y hy B' b1 b2 => ?_) fun ns hl hns => ?_)
      · walk_at "dds"
        refine ⟨rfl, ?_⟩
        rw [List.length_range] at b2
        walk_at "dds"
        intro u u0 u1
        walk_at "dds"
        refine w_ifD (fun he => ?_) fun he => ?_
        · walk_at "dds"
          exact ⟨⟨_, rfl, by omega, by omega⟩, by walk_at "le"⟩
        · walk_at "dds"
          exact ⟨⟨_, rfl, by omega, by omega⟩, by walk_at "le"⟩
      · rw [List.length_range] at hl ⊢
        walk_at "dds"
        refine ⟨ns, none, rfl, by omega, fun z hz => by have := hns z hz; omega, fun ms hml hms => ?_⟩
        walk_at "dds"
        refine w_ifD (fun hw => ?_) fun hw => ?_
        · walk_at "dds"
          intro at_ a0 a1
          walk_at "dds"
          intro v v0 v1
          walk_at "dds"
          have hk : ms.getD at_.toNat 0 = ms.getD at_.toNat 0 := rfl
          have hb := pickI (p := fun z => z.natAbs ≤ 100000000) hms (k := at_.toNat) (by omega)
          refine setl (m := at_.toNat) rfl ?_ ?_
          · rw [List.length_map]
            obtain ⟨k, rfl⟩ : ∃ k : Nat, at_ = k := ⟨at_.toNat, by omega⟩
            exact ixn (by omega)
          · rw [← List.map_set]
            walk_at "dds"
            refine retb hbx rfl (by omega) (.b rfl) (q _ (by simp; omega) (by simp; omega) fun z hz => ?_)
            rcases List.mem_or_eq_of_mem_set hz with hz | rfl
            · have := hms z hz
              omega
            · omega
        · walk_at "dds"
          exact retb hbx rfl (by omega) (.b rfl) (q ms (by omega) (by omega) fun z hz => by have := hms z hz; omega)
    · walk_at "dds"
      rw [hn]
      walk_at "dds"
      refine lcM_r (lc_drawI (j := 0) 1 (fun z => -6 ≤ z ∧ z ≤ 6) rfl (by simp; omega) (fun y hy B' b1 b2 => ?_) fun ns hl hns => ?_)
      · walk_at "dds"
        refine ⟨rfl, ?_⟩
        rw [List.length_range] at b2
        walk_at "dds"
        intro u u0 u1
        walk_at "dds"
        exact ⟨⟨_, rfl, by omega, by omega⟩, by walk_at "le"⟩
      · rw [List.length_range] at hl ⊢
        walk_at "dds"
        exact retb hbx rfl (by omega) .f (q ns (by omega) (by omega) fun z hz => by have := hns z hz; omega)
end

/-! ### the laws' own prime powers: (l, power, size) -/
abbrev pr17 : List Int := [2, 3, 5, 7, 11, 13, 17, 19, 23, 29, 31, 37, 41, 43, 47, 53, 59]
abbrev th (f : Int × Int × Int) : D := .tup [.int f.1, .int f.2.1, .int f.2.2]
def p3Go : Nat → Int → Int → Int → Int → Int × Int × Int
  | 0, _, p, left, size => (p, left, size)
  | k + 1, l, p, left, size => if left % l = 0 then p3Go k l (p + 1) (left / l) (size * l) else p3Go k l p left size
def p3 (n : Nat) (ls : List Int) : List (Int × Int × Int) := (ls.filter fun l => decide ((p3Go 6 l 0 n 1).1 > 0)).map fun l => (l, (p3Go 6 l 0 n 1).1, (p3Go 6 l 0 n 1).2.2)
theorem p3_ok : ∀ n ∈ upto, p3 n pr17 = (facs n).map fun f => (f.1, f.2, f.1 ^ f.2.toNat) := by decide +kernel
theorem p3_len : ∀ n ∈ upto, (facs n).length ≤ 10 := by decide +kernel
def dsPrimes3 : DSp := fun as Q _ => ∃ (n : Nat) (x : Option V), as = [.dat (.int n) x] ∧ n ∈ upto ∧ Q (.fr (.lst (((facs n).map fun f => (f.1, f.2, f.1 ^ f.2.toNat)).map th))) 0
section
variable {P : Program} {w : World} {K : PySem.W.Frag} {mg : Str → Option Value} {base : Heap} {A : Ad}
theorem d_primes (T : Txt K mg A) : Df P w K mg base 1 "_law_primes" s_primes ["n"] (spOf dsPrimes3) := by
  refine mk_dd T.h_primes sc_primes (fun _ _ _ _ _ _ us hl => match us, hl with | [_], _ => rfl) (fun as Q E h => ?_) fun f cdv A' outer s H E0 F as Q E hr h hbx hW => ?_
  · obtain ⟨n, x, rfl, _⟩ := h
    rfl
  · obtain ⟨n, x, rfl, hn, q⟩ := h
    have hn' := mem_upto.mp hn
    have hu : (A'.deeper (envOfC "_law_primes" (defScope s_primes) s.heap.objs.size f cdv)).units + 64 < cLine := hr.units
    refine ⟨_, (pss_cons (ps_set (i := 1) sc_primes.nd rfl (Or.inl rfl) (pe_lst pa_nil))
  (pss_cons (ps_for PassesOwn.leaving rfl (pi_tupK K (pe_tup (pa_cons pe_int (pa_cons pe_int (pa_cons pe_int (pa_cons pe_int (pa_cons pe_int (pa_cons pe_int (pa_cons pe_int (pa_cons pe_int (pa_cons pe_int (pa_cons pe_int (pa_cons pe_int (pa_cons pe_int (pa_cons pe_int (pa_cons pe_int (pa_cons pe_int (pa_cons pe_int (pa_cons pe_int pa_nil))))))))))))))))))) (pg_name (i := 2) sc_primes.nd rfl (Or.inl rfl))
  (pss_cons (ps_par3 (i := 3) (j := 4) (l := 5) (by rfl) sc_primes.nd rfl rfl rfl (by decide) (by decide) (by decide) rfl rfl rfl (pa_cons pe_int (pa_cons (pv 0) (pa_cons pe_int pa_nil))) (by rfl))
  (pss_cons (ps_for PassesOwn.leaving rfl (pi_range1 rfl T.b_range (pa_cons pe_int pa_nil)) (pg_name (i := 6) sc_primes.nd rfl (Or.inl rfl))
  (pss_one (ps_if (pt_cmpR (o_eqK K hu) (pe_op o_mod (pe_callTy c_int (by rfl) T.b_int (by decide +kernel) (pa_cons (pv 4) pa_nil)) (pv 2)) pe_int (nomark _))
  (pss_one (ps_par3 (i := 3) (j := 4) (l := 5) (by rfl) sc_primes.nd rfl rfl rfl (by decide) (by decide) (by decide) rfl rfl rfl (pa_cons (pe_op (o_addK K) (pv 3) pe_int) (pa_cons (pe_op o_fdiv (pv 4) (pv 2)) (pa_cons (pe_op (o_mulK K) (pv 5) (pv 2)) pa_nil))) (by rfl))) pss_nil)))
  (pss_one (ps_if (pt_cmpR o_gt (pv 3) pe_int (nomark _))
  (pss_one (ps_expr (pe_bmK K PySem.F.plainAttrs_list PySem.F.slot_list_append PySem.F.type_list_append mt_append (pv 1) (pa_cons (pe_tup (pa_cons (pv 2) (pa_cons (pv 3) (pa_cons (pv 5) pa_nil)))) pa_nil)))) pss_nil)))))
  (pss_one (ps_ret (pv 1))))), ?_⟩
    walk_at "dds"
    have e17 : ([.int 2, .int 3, .int 5, .int 7, .int 11, .int 13, .int 17, .int 19, .int 23, .int 29, .int 31, .int 37, .int 41, .int 43, .int 47, .int 53, .int 59] : List D) = pr17.map D.int := rfl
    rw [e17]
    refine forM_l (forR (fun ls ρ => ∃ fs : List (Int × Int × Int), ρ = [.dat (.int n) x, .own (.lst (fs.map th)), .un, .un, .un, .un, .un] ∧ fs ++ p3 n ls = p3 n pr17 ∧ fs.length + ls.length ≤ 17) (up_e1 [] (by walk_at "le") ⟨rfl, by decide⟩) (fun l r ρ2 hl hI => ?_) fun ρ2 hI => ?_)
    · obtain ⟨fs, rfl, hfs, hlen⟩ := hI
      have l2 : 2 ≤ l ∧ l ≤ 59 := by
        have : ∀ l ∈ pr17, 2 ≤ l ∧ l ≤ 59 := by decide
        exact this l hl
      have hlen : fs.length + (r.length + 1) ≤ 17 := hlen
      walk_at "dds"
      refine for_r (fun i ρ => ∃ p left size : Int, ρ = [.dat (.int n) x, .own (.lst (fs.map th)), .dat (.int l) none, .dat (.int p) none, .dat (.int left) none, .dat (.int size) none, .un] ∧ 0 ≤ p ∧ p ≤ i ∧ 0 ≤ left ∧ left ≤ 60 ∧ 0 ≤ size ∧ size ≤ 60 ^ i ∧ p3Go (6 - i) l p left size = p3Go 6 l 0 n 1) (up_e3 0 n 1 (by walk_at "le") ⟨by omega, by omega, by omega, by omega, by omega, by decide, rfl⟩) (fun i ρ3 hi hI => ?_) fun ρ3 hI => ?_
      · obtain ⟨p, left, size, rfl, a1, a2, a3, a4, a5, a6, hv⟩ := hI
        rw [show 6 - i = (6 - (i + 1)) + 1 by omega] at hv
        unfold p3Go at hv
        have s6 : size < 18446744073709551616 := by
          have : (60 : Int) ^ i ≤ 60 ^ 5 := by
            have h : i = 0 ∨ i = 1 ∨ i = 2 ∨ i = 3 ∨ i = 4 ∨ i = 5 := by omega
            rcases h with rfl | rfl | rfl | rfl | rfl | rfl <;> decide
          have : (60 : Int) ^ 5 = 777600000 := by decide
          omega
        walk_at "dds"
        refine w_ifD (fun hd => ?_) fun hd => ?_
        · rw [if_pos hd] at hv
          have d2 : 0 ≤ left / l := Int.ediv_nonneg (by omega) (by omega)
          have d3 : left / l ≤ left := Int.ediv_le_self _ (by omega)
          walk_at "dds"
          refine up_e3 (p + 1) (left / l) (size * l) (by walk_at "le") ⟨by omega, by omega, d2, by omega, Int.mul_nonneg a5 (by omega), ?_, hv⟩
          rw [Int.pow_succ]
          exact Int.le_trans (Int.mul_le_mul_of_nonneg_right a6 (by omega)) (Int.mul_le_mul_of_nonneg_left (by omega) (by omega))
        · rw [if_neg hd] at hv
          walk_at "dds"
          refine up_e3 p left size (by walk_at "le") ⟨by omega, by omega, a3, a4, a5, ?_, hv⟩
          rw [Int.pow_succ]
          have : (60 : Int) ^ i * 1 ≤ 60 ^ i * 60 := Int.mul_le_mul_of_nonneg_left (by omega) (by omega)
          omega
      · obtain ⟨p, left, size, rfl, a1, a2, a3, a4, a5, a6, hv⟩ := hI
        have hv : (p, left, size) = p3Go 6 l 0 n 1 := hv
        have hp3 : p3 n (l :: r) = if p > 0 then (l, p, size) :: p3 n r else p3 n r := by
          unfold p3
          rw [List.filter_cons, ← hv]
          by_cases h : p > 0
          · rw [if_pos h]
            simp [h, ← hv]
          · rw [if_neg h]
            simp [h]
        rw [hp3] at hfs
        walk_at "dds"
        refine w_ifD (fun hd => ?_) fun hd => ?_
        · rw [if_pos hd] at hfs
          walk_at "dds"
          refine up_e1 (fs ++ [(l, p, size)]) (by rw [List.map_append]; walk_at "le") ⟨by rw [List.append_assoc]; exact hfs, by simp; omega⟩
        · rw [if_neg hd] at hfs
          walk_at "dds"
          exact up_e1 fs (by walk_at "le") ⟨hfs, by omega⟩
    · obtain ⟨fs, rfl, hfs, hlen⟩ := hI
      have hfs : fs ++ [] = p3 n pr17 := hfs
      rw [List.append_nil, p3_ok n hn] at hfs
      walk_at "dds"
      rw [hfs]
      exact retp hbx (.b rfl) q
end

def muF (fs : List (Int × Int)) : Int := if (fs.all fun f => decide (f.2 = 1)) = true then (if ((fs.length : Nat) : Int) % 2 = 0 then 1 else -1) else 0
theorem muF_ok : ∀ n ∈ upto, muF (facGo 60 2 (n : Int) []) = muN (n : Int) := by decide +kernel
def dsMuOf : DSp := fun as Q _ => ∃ (n : Nat) (x : Option V), as = [.dat (.int n) x] ∧ n ∈ upto ∧ Q (.dat (.int (muN n)) none) 0
section
variable {P : Program} {w : World} {K : PySem.W.Frag} {mg : Str → Option Value} {base : Heap} {A : Ad}
theorem d_mu_of (T : Txt K mg A) : Df P w K mg base 2 "mu_of" s_mu_of ["number"] (spOf dsMuOf) := by
  refine mk_dd T.h_mu_of sc_mu_of (fun _ _ _ _ _ _ us hl => match us, hl with | [_], _ => rfl) (fun as Q E h => ?_) fun f cdv A' outer s H E0 F as Q E hr h hbx hW => ?_
  · obtain ⟨n, x, rfl, _⟩ := h
    rfl
  · obtain ⟨n, x, rfl, hn, q⟩ := h
    have hu : (A'.deeper (envOfC "mu_of" (defScope s_mu_of) s.heap.objs.size f cdv)).units + 64 < cLine := hr.units
    refine ⟨_, (pss_cons (ps_set (i := 1) sc_mu_of.nd rfl (Or.inl rfl) (pcall (d_factors_of T) hr takesN (pa_cons (pv 0) pa_nil)))
  (pss_cons (ps_if (pt_not (pt_val (pe_callB (c_allK K) (by rfl) T.b_all (by decide +kernel) (pa_cons (pe_lc (own := [("l", 2), ("power", 3)]) (by rfl) sc_mu_of.nd (pi_listK K (pv 1)) (blkOk_by (own := [("l", 2), ("power", 3)]) (N := ["number", "found", "l", "power"]) (sc := defScope s_mu_of) (by decide +kernel)) (fun _ _ _ _ _ => (pg_tupK K (n := 2) (pgs_cons (pg_name (i := 2) sc_mu_of.nd rfl (Or.inl rfl)) (pgs_cons (pg_name (i := 3) sc_mu_of.nd rfl (Or.inl rfl)) pgs_nil)))) (fun _ _ _ _ _ => pts_nil) (fun _ _ _ _ _ => (pe_cmpR (o_eqK K hu) (pv 3) pe_int (nomark _)))) pa_nil))))
  (pss_one (ps_ret pe_int)) pss_nil)
  (pss_one (ps_ret (pe_ifExp (pt_cmpR (o_eqK K hu) (pe_op o_mod (pe_callB (c_lenK K) (by rfl) T.b_len PySem.boot_len (pa_cons (pv 1) pa_nil)) pe_int) pe_int (nomark _)) pe_int (pe_un un_neg pe_int)))))), ?_⟩
    have hle := fac_small n hn
    have hv := muF_ok n hn
    walk_at "dds"
    refine ⟨n, x, rfl, hn, ?_⟩
    generalize facGo 60 2 (n : Int) [] = fs at hle hv ⊢
    unfold muF at hv
    walk_at "dds"
    refine lcM_l (lc_map (fun f => .bl (decide (f.2 = 1))) (by omega) (fun y hy => ?_) ?_)
    · walk_at "dds"
      refine ⟨rfl, ?_⟩
      walk_at "dds"
      exact ⟨rfl, Le.refl⟩
    · have em : (fs.map fun f => D.bl (decide (f.2 = 1))) = (fs.map fun f => decide (f.2 = 1)).map D.bl := by simp
      rw [em]
      walk_at "dds"
      refine all_d has_d ?_
      rw [List.all_map]
      have ea : (id ∘ fun (f : Int × Int) => decide (f.2 = 1)) = fun f => decide (f.2 = 1) := rfl
      rw [ea]
      walk_at "dds"
      refine w_ifN (fun h => ?_) fun h => ?_
      · rw [h, if_neg (by simp)] at hv
        walk_at "dds"
        rw [hv]
        exact retp hbx .d q
      · rw [h, if_pos rfl] at hv
        walk_at "dds"
        refine w_ifD (fun h2 => ?_) fun h2 => ?_
        · rw [if_pos h2] at hv
          walk_at "dds"
          rw [hv]
          exact retp hbx .d q
        · rw [if_neg h2] at hv
          walk_at "dds"
          rw [hv]
          exact retp hbx .d q
end

def prodL : List Nat → Nat
  | [] => 1
  | q :: r => q * prodL r
def copL : List Nat → Bool
  | [] => true
  | q :: r => decide (Nat.gcd q (prodL r) = 1) && copL r
theorem crt {s : Nat} : ∀ {L : List Nat}, copL L = true → (∀ q ∈ L, q ∣ s) → prodL L ∣ s
  | [], _, _ => Nat.one_dvd _
  | q :: r, h, hd => by
    unfold copL at h
    rw [Bool.and_eq_true, decide_eq_true_eq] at h
    exact Nat.Coprime.mul_dvd_of_dvd_of_dvd h.1 (hd q List.mem_cons_self) (crt h.2 fun q' hq => hd q' (List.mem_cons_of_mem _ hq))
def pows (n : Nat) : List Nat := (facs n).map fun f => f.1.toNat ^ f.2.toNat
theorem pows_ok : (upto.all fun n => copL (pows n) && decide (prodL (pows n) = n)) = true := by decide +kernel
theorem facs_at {n : Nat} (hn : n ∈ upto) {f : Int × Int} (hf : f ∈ facs n) : facOne n f f.1.toNat (f.1.toNat ^ f.2.toNat) = true := by
  have a := List.all_eq_true.mp facOk_all n hn
  exact List.all_eq_true.mp a f hf
structure FacOne (n : Nat) (f : Int × Int) (l q : Nat) : Prop where
  l_eq : f.1 = (l : Int)
  l2 : 2 ≤ l
  p1 : 1 ≤ f.2
  p5 : f.2 ≤ 5
  l60 : l ≤ 60
  q1 : 1 ≤ q
  q60 : q ≤ 60
  nq : n % q = 0
  nl : n % l = 0
  pw : f.1 ^ f.2.toNat = (q : Int)
  inS : ∀ p ∈ formS n, p.1 ∈ divs n
  inB : ∀ p ∈ formB n l q, p.1 ∈ divs n
  co : ∀ d ∈ divs n, coefL (formS n) d = coefL (formB n l q) d
  js : ∀ j ∈ divs (n / q), j = n / q ∨ (f ∈ facs (j * q) ∧ j * q < n ∧ 1 ≤ j * q)
theorem facOne_of {n : Nat} {f : Int × Int} {l q : Nat} (h : facOne n f l q = true) : FacOne n f l q := by
  unfold facOne at h
  simp only [Bool.and_eq_true, List.all_eq_true, decide_eq_true_eq, Bool.or_eq_true] at h
  obtain ⟨⟨⟨⟨⟨⟨⟨⟨⟨⟨⟨⟨⟨h1, h2⟩, h3⟩, h4⟩, h5⟩, h6⟩, h7⟩, h8⟩, h9⟩, h10⟩, h11⟩, h12⟩, h13⟩, h14⟩ := h
  exact ⟨h1, h2, h3, h4, h5, h6, h7, h8, h9, h10, fun p hp => List.contains_iff_mem.mp (h11 p hp), fun p hp => List.contains_iff_mem.mp (h12 p hp), h13, fun j hj => (h14 j hj).imp id fun z => ⟨List.contains_iff_mem.mp z.1.1, z.1.2, z.2⟩⟩
theorem divs_nodup (n : Nat) : (divs n).Nodup := upto_nodup.filter _
theorem pp_form (r : Nat → Int) (n : Nat) : pp r n = evalL r (formS n) := by
  rw [pp_divs]
  unfold sumOn evalL formS
  rw [List.map_map]
  rfl
theorem evalL_B (r : Nat → Int) (n l q : Nat) : evalL r (formB n l q) = ((divs (n / q)).map fun j => muN ((n / q / j : Nat) : Int) * (r (j * q) - r (j * q / l))).sum := by
  unfold formB
  generalize divs (n / q) = js
  induction js with
  | nil => rfl
  | cons j js ih =>
    rw [List.flatMap_cons, List.map_cons, List.sum_cons, ← ih]
    unfold evalL
    rw [List.map_append, List.sum_append]
    congr 1
    show muN _ * r (j * q) + (- muN _ * r (j * q / l) + 0) = _
    rw [Int.mul_sub, Int.neg_mul]
    omega
theorem dvd_rest {q : Int} {t : Nat → Int} {J : Nat} : ∀ {js : List Nat}, js.Nodup → (∀ j ∈ js, j ≠ J → q ∣ t j) → (J ∉ js → q ∣ (js.map t).sum) ∧ (J ∈ js → q ∣ (js.map t).sum - t J)
  | [], _, _ => ⟨fun _ => Int.dvd_zero _, fun h => absurd h List.not_mem_nil⟩
  | j :: js, hd, h => by
    rw [List.nodup_cons] at hd
    have ih := dvd_rest hd.2 fun i hi => h i (List.mem_cons_of_mem _ hi)
    rw [List.map_cons, List.sum_cons]
    refine ⟨fun n => ?_, fun n => ?_⟩
    · rw [List.mem_cons, not_or] at n
      exact Int.dvd_add (h j List.mem_cons_self (Ne.symm n.1)) (ih.1 n.2)
    · by_cases e : j = J
      · subst e
        have := ih.1 hd.1
        have e2 : t j + (js.map t).sum - t j = (js.map t).sum := by omega
        rw [e2]
        exact this
      · have m : J ∈ js := by
          rcases List.mem_cons.mp n with z | z
          · exact absurd z.symm e
          · exact z
        have e2 : t j + (js.map t).sum - t J = t j + ((js.map t).sum - t J) := by omega
        rw [e2]
        exact Int.dvd_add (h j List.mem_cons_self e) (ih.2 m)
theorem self_divs {m : Nat} (h : m ∈ upto) : m ∈ divs m := by
  unfold divs
  rw [List.mem_filter]
  exact ⟨h, by simp⟩
theorem bad_same (r : Nat → Int) {n : Nat} (hn : n ∈ upto) (h : ∀ m, 1 ≤ m → m < n → badB r m = false) : badS r n = badB r n := by
  have hn' := mem_upto.mp hn
  have key : ∀ f ∈ facs n, ∃ q : Nat, q = f.1.toNat ^ f.2.toNat ∧ f.1 ^ f.2.toNat = (q : Int) ∧ ((q : Int) ∣ pp r n ↔ (q : Int) ∣ r n - r (n / f.1.toNat)) ∧ q ∣ n := by
    intro f hf
    have F := facOne_of (facs_at hn hf)
    generalize hl : f.1.toNat = l at F
    generalize hq : l ^ f.2.toNat = q at F
    refine ⟨q, rfl, F.pw, ?_, Nat.dvd_of_mod_eq_zero F.nq⟩
    have q0 : 0 < q := F.q1
    have hnq : n / q * q = n := Nat.div_mul_cancel (Nat.dvd_of_mod_eq_zero F.nq)
    have hnq1 : 1 ≤ n / q := (Nat.one_le_div_iff q0).mpr (Nat.le_of_dvd (by omega) (Nat.dvd_of_mod_eq_zero F.nq))
    have hJ : n / q ∈ divs (n / q) := self_divs (mem_upto.mpr ⟨hnq1, by have := Nat.div_le_self n q; omega⟩)
    have e : pp r n = ((divs (n / q)).map fun j => muN ((n / q / j : Nat) : Int) * (r (j * q) - r (j * q / l))).sum := by
      rw [pp_form, evalL_eq r (divs_nodup n) F.inS F.inB F.co, evalL_B]
    have d := (dvd_rest (q := (q : Int)) (t := fun j => muN ((n / q / j : Nat) : Int) * (r (j * q) - r (j * q / l))) (J := n / q) (divs_nodup (n / q)) fun j hj nj => by
      rcases F.js j hj with z | ⟨z1, z2, z3⟩
      · exact absurd z nj
      · have b := h (j * q) z3 z2
        unfold badB at b
        have c := List.any_eq_false.mp b f z1
        unfold barAt at c
        rw [decide_eq_true_eq, Classical.not_not, hl, F.pw] at c
        exact Int.dvd_trans (Int.dvd_of_emod_eq_zero c) (Int.dvd_mul_left _ _)).2 hJ
    rw [← e] at d
    have e1 : muN ((n / q / (n / q) : Nat) : Int) = 1 := by
      rw [Nat.div_self (by omega)]
      rfl
    have d2 : (q : Int) ∣ pp r n - (r n - r (n / l)) := by
      rw [e1, hnq, Int.one_mul] at d
      exact d
    exact ⟨fun z => by
      have := Int.dvd_sub z d2
      rwa [show pp r n - (pp r n - (r n - r (n / l))) = r n - r (n / l) by omega] at this, fun z => by
      have := Int.dvd_add d2 z
      rwa [show pp r n - (r n - r (n / l)) + (r n - r (n / l)) = pp r n by omega] at this⟩
  have iff : (pp r n % (n : Int) = 0) ↔ ∀ f ∈ facs n, (r n - r (n / f.1.toNat)) % (f.1 ^ f.2.toNat) = 0 := by
    constructor
    · intro z f hf
      obtain ⟨q, _, e, k, qn⟩ := key f hf
      rw [e]
      exact Int.emod_eq_zero_of_dvd (k.mp (Int.dvd_trans (Int.natCast_dvd_natCast.mpr qn) (Int.dvd_of_emod_eq_zero z)))
    · intro z
      have P := List.all_eq_true.mp pows_ok n hn
      rw [Bool.and_eq_true, decide_eq_true_eq] at P
      have := crt (s := (pp r n).natAbs) P.1 fun q hq => by
        obtain ⟨f, hf, rfl⟩ := List.mem_map.mp hq
        obtain ⟨q, e0, e, k, _⟩ := key f hf
        have y := k.mpr (by
          rw [← e]
          exact Int.dvd_of_emod_eq_zero (z f hf))
        rw [← e0]
        exact Int.natCast_dvd_natCast.mp (Int.dvd_natAbs.mpr y)
      rw [P.2] at this
      exact Int.emod_eq_zero_of_dvd (Int.dvd_natAbs.mp (Int.natCast_dvd_natCast.mpr this))
  unfold badS badB
  by_cases z : pp r n % (n : Int) = 0
  · rw [decide_eq_false (by simpa using z)]
    symm
    rw [List.any_eq_false]
    intro f hf
    unfold barAt
    rw [decide_eq_true_eq, Classical.not_not]
    exact iff.mp z f hf
  · rw [decide_eq_true z]
    symm
    rw [List.any_eq_true]
    have : ¬ ∀ f ∈ facs n, (r n - r (n / f.1.toNat)) % (f.1 ^ f.2.toNat) = 0 := fun y => z (iff.mpr y)
    rw [Classical.not_forall] at this
    obtain ⟨f, this⟩ := this
    rw [Classical.not_imp] at this
    exact ⟨f, this.1, decide_eq_true this.2⟩

/-! ### the laws' own judge of nets: by prime powers -/
def netT (r : Nat → Int) (k : Nat) : Bool := (List.range' 1 k).all fun n => (facs n).all fun f => decide ((r n - r (n / f.1.toNat)) % (f.1 ^ f.2.toNat) = 0)
theorem fac_fine : ∀ n ∈ upto, ∀ f ∈ facs n, 2 ≤ f.1 ∧ f.1 ≤ n ∧ (n : Int) % f.1 = 0 ∧ 1 ≤ f.2 ∧ f.2 ≤ 6 ∧ 1 ≤ f.1 ^ f.2.toNat ∧ f.1 ^ f.2.toNat ≤ 60 ∧ ((n / f.1.toNat : Nat) : Int) = (n : Int) / f.1 ∧ 1 ≤ (n : Int) / f.1 := by decide +kernel
def dsNetT : DSp := fun as Q _ => ∃ (d : D) (x : Option V) (ns : List Int), as = [.dat d x] ∧ d.rowOf ns ∧ ns.length ≤ 60 ∧ Q (.dat (.bl (netT (at1 ns) ns.length)) none) 0
theorem all_cons_not {α : Type} {p : α → Bool} {a : α} {l : List α} (h : p a = false) : (a :: l).all p = false := by
  rw [List.all_cons, h]
  rfl
section
variable {P : Program} {w : World} {K : PySem.W.Frag} {mg : Str → Option Value} {base : Heap} {A : Ad}
theorem d_is_net (T : Txt K mg A) : Df P w K mg base 2 "_law_is_net" s_is_net ["row"] (spOf dsNetT) := by
  refine mk_dd T.h_is_net sc_is_net (fun _ _ _ _ _ _ us hl => match us, hl with | [_], _ => rfl) (fun as Q E h => ?_) fun f cdv A' outer s H E0 F as Q E hr h hbx hW => ?_
  · obtain ⟨d, x, ns, rfl, _⟩ := h
    rfl
  · obtain ⟨d, x, ns, rfl, hd, hl, q⟩ := h
    have hu : (A'.deeper (envOfC "_law_is_net" (defScope s_is_net) s.heap.objs.size f cdv)).units + 64 < cLine := hr.units
    refine ⟨_, (pss_cons (ps_for PassesOwn.leaving rfl (pi_range2 rfl T.b_range (pa_cons pe_int (pa_cons (pe_op (o_addK K) (pe_callB (c_lenK K) (by rfl) T.b_len PySem.boot_len (pa_cons (pv 0) pa_nil)) pe_int) pa_nil))) (pg_name (i := 1) sc_is_net.nd rfl (Or.inl rfl))
  (pss_one (ps_for PassesOwn.leaving rfl (pi_listK K (pcall (d_primes T) hr takesN (pa_cons (pv 1) pa_nil))) (pg_tupK K (n := 3) (pgs_cons (pg_name (i := 2) sc_is_net.nd rfl (Or.inl rfl)) (pgs_cons (pg_name (i := 3) sc_is_net.nd rfl (Or.inl rfl)) (pgs_cons (pg_name (i := 4) sc_is_net.nd rfl (Or.inl rfl)) pgs_nil))))
  (pss_one (ps_if (pt_cmpR (o_neK K hu) (pe_op o_mod (pe_callTy c_int (by rfl) T.b_int (by decide +kernel) (pa_cons (pe_op o_sub (pe_ix (ix_seqK K) (pv 0) (pe_op o_sub (pv 1) pe_int) (fun _ _ => rfl)) (pe_ix (ix_seqK K) (pv 0) (pe_op o_sub (pe_op o_fdiv (pv 1) (pv 2)) pe_int) (fun _ _ => rfl))) pa_nil)) (pv 4)) pe_int (nomark _))
  (pss_one (ps_ret pe_bl)) pss_nil)))))
  (pss_one (ps_ret pe_bl))), ?_⟩
    walk_at "dds"
    refine for_r (fun i ρ => ρ = [.dat d x, .un, .un, .un, .un] ∧ netT (at1 ns) ns.length = (List.range' (1 + i) (ns.length - i)).all fun n => (facs n).all fun f => decide ((at1 ns n - at1 ns (n / f.1.toNat)) % (f.1 ^ f.2.toNat) = 0)) (up (by walk_at "le") ⟨rfl, rfl⟩) (fun i ρ2 hi hI => ?_) fun ρ2 hI => ?_
    · obtain ⟨rfl, hv⟩ := hI
      have hn : i + 1 ∈ upto := mem_upto.mpr ⟨by omega, by omega⟩
      rw [show ns.length - i = (ns.length - (i + 1)) + 1 by omega, List.range'_succ, List.all_cons, show 1 + i = i + 1 by omega] at hv
      have hp := p3_len (i + 1) hn
      walk_at "dds"
      rw [show (1 + (i : Int)) = ((i + 1 : Nat) : Int) by omega]
      refine ⟨i + 1, none, rfl, hn, ?_⟩
      walk_at "dds"
      rw [List.map_map]
      refine forM_l (forR (fun fs ρ => ρ = [.dat d x, .dat (.int ((i + 1 : Nat) : Int)) none, .un, .un, .un] ∧ netT (at1 ns) ns.length = (fs.all (fun f => decide ((at1 ns (i + 1) - at1 ns ((i + 1) / f.1.toNat)) % (f.1 ^ f.2.toNat) = 0)) && (List.range' (i + 1 + 1) (ns.length - (i + 1))).all fun n => (facs n).all fun f => decide ((at1 ns n - at1 ns (n / f.1.toNat)) % (f.1 ^ f.2.toNat) = 0))) (up (by walk_at "le") ⟨rfl, hv⟩) (fun f r ρ3 hf hI => ?_) fun ρ3 hI => ?_)
      · obtain ⟨rfl, hv⟩ := hI
        obtain ⟨f1, f2, f3, f4, f5, f6, f7, f8, f9⟩ := fac_fine (i + 1) hn f hf
        have f10 : (((i + 1 : Nat) : Int)) / f.1 ≤ ((i + 1 : Nat) : Int) := Int.ediv_le_self _ (by omega)
        show Dg F _ (.dat (.tup [.int f.1, .int f.2, .int (f.1 ^ f.2.toNat)]) none) _ _
        walk_at "dds"
        have e1 : ns.getD ((((i + 1 : Nat) : Int)) - 1).toNat 0 = at1 ns (i + 1) := by
          rw [at1_get]
          congr 1
          omega
        have e2 : ns.getD ((((i + 1 : Nat) : Int)) / f.1 - 1).toNat 0 = at1 ns ((i + 1) / f.1.toNat) := by
          rw [at1_get]
          congr 1
          omega
        rw [e1, e2]
        refine w_ifDN (fun h => ?_) fun h => ?_
        · walk_at "dds"
          rw [List.all_cons, decide_eq_false h] at hv
          have hv : netT (at1 ns) ns.length = false := hv
          rw [hv] at q
          exact retp hbx .d q
        · walk_at "dds"
          rw [List.all_cons, decide_eq_true h] at hv
          exact up (by walk_at "le") ⟨rfl, hv⟩
      · obtain ⟨rfl, hv⟩ := hI
        walk_at "dds"
        refine up (ρ' := [.dat d x, .un, .un, .un, .un]) (by walk_at "le") ⟨rfl, ?_⟩
        rw [show 1 + (i + 1) = i + 1 + 1 by omega]
        exact hv
    · obtain ⟨rfl, hv⟩ := hI
      rw [Nat.sub_self] at hv
      have hv : netT (at1 ns) ns.length = true := hv
      rw [hv] at q
      walk_at "dds"
      exact retp hbx .d q
end

def dsSumAt : DSp := fun as Q _ => ∃ (d : D) (x : Option V) (ns : List Int) (n : Nat) (y : Option V), as = [.dat d x, .dat (.int n) y] ∧ d.rowOf ns ∧ n ∈ upto ∧ n ≤ ns.length ∧ Q (.dat (.int (pp (at1 ns) n)) none) 0
section
variable {P : Program} {w : World} {K : PySem.W.Frag} {mg : Str → Option Value} {base : Heap} {A : Ad}
theorem d_sum_at (T : Txt K mg A) : Df P w K mg base 3 "sum_at" s_sum_at ["row", "n"] (spOf dsSumAt) := by
  refine mk_dd T.h_sum_at sc_sum_at (fun _ _ _ _ _ _ us hl => match us, hl with | [_, _], _ => rfl) (fun as Q E h => ?_) fun f cdv A' outer s H E0 F as Q E hr h hbx hW => ?_
  · obtain ⟨d, x, ns, n, y, rfl, _⟩ := h
    rfl
  · obtain ⟨d, x, ns, n, y, rfl, hd, hn, hl, q⟩ := h
    have hn' := mem_upto.mp hn
    have hds := divs_small n hn
    refine ⟨_, (pss_one (ps_ret (pe_callB (c_sumK K) (by rfl) T.b_sum (by decide +kernel) (pa_cons (pe_lc (own := [("d", 2)]) (by rfl) sc_sum_at.nd (pi_listK K (pcall (d_divisors_of T) hr takesN (pa_cons (pv 1) pa_nil))) (blkOk_by (own := [("d", 2)]) (N := ["row", "n", "d"]) (sc := defScope s_sum_at) (by decide +kernel)) (fun _ _ _ _ _ => (pg_name (i := 2) sc_sum_at.nd rfl (Or.inl rfl))) (fun _ _ _ _ _ => pts_nil) (fun _ _ _ _ _ => (pe_op (o_mulK K) (pcall (d_mu_of T) hr takesN (pa_cons (pe_op o_fdiv (pv 1) (pv 2)) pa_nil)) (pe_ix (ix_seqK K) (pv 0) (pe_op o_sub (pv 2) pe_int) (fun _ _ => rfl))))) pa_nil)))), ?_⟩
    walk_at "dds"
    refine ⟨n, y, rfl, hn, ?_⟩
    walk_at "dds"
    refine lcM_l (lc_map (fun k => .int (muN ((n / k : Nat) : Int) * at1 ns k)) (by omega) (fun k hk => ?_) ?_)
    · obtain ⟨hu, hdv⟩ := List.mem_filter.mp hk
      have hd1 := mem_upto.mp hu
      have hmod : n % k = 0 := eq_of_beq hdv
      have hq : n / k ∈ upto := by
        rw [mem_upto]
        refine ⟨?_, ?_⟩
        · exact (Nat.one_le_div_iff (by omega)).mpr (Nat.le_of_dvd (by omega) (Nat.dvd_of_mod_eq_zero hmod))
        · exact Nat.le_trans (Nat.div_le_self _ _) hn'.2
      have hdn : k ≤ n := Nat.le_of_dvd (by omega) (Nat.dvd_of_mod_eq_zero hmod)
      walk_at "dds"
      refine ⟨rfl, ?_⟩
      walk_at "dds"
      refine ⟨n / k, none, rfl, hq, ?_⟩
      walk_at "dds"
      have ms := mu_small (n / k) hq
      walk_at "dds"
      rw [at1_get, show ((k : Int) - 1).toNat + 1 = k by omega]
      exact ⟨rfl, Le.refl⟩
    · have em : ((divs n).map fun k => D.int (muN ((n / k : Nat) : Int) * at1 ns k)) = ((divs n).map fun k => muN ((n / k : Nat) : Int) * at1 ns k).map D.int := by simp
      rw [em]
      walk_at "dds"
      refine sum_d has_d ?_
      have e : ((divs n).map fun k => muN ((n / k : Nat) : Int) * at1 ns k).sum = pp (at1 ns) n := (pp_divs _ _).symm
      rw [e]
      exact retp hbx .d q
end

/-! ### some row, any terms -/
def dsSomeRow : DSp := fun as Q _ => ∃ (a : Addr) (B m : Int) (x : Option V), as = [.box a B, .dat (.int m) x] ∧ 1 ≤ m ∧ m ≤ 60 ∧ B < 80000000 ∧ ∀ ms : List Int, 1 ≤ ms.length → ms.length ≤ 60 → (∀ z ∈ ms, z.natAbs < 2 ^ 200) → Q (.fr (.lst (ms.map .int))) (B + 200)
theorem great_ok : ∀ z ∈ ([(10 : Int) ^ 59, -(10 : Int) ^ 59 + 7, (10 : Int) ^ 30, 1, 0] : List Int), z.natAbs < 2 ^ 199 := by decide +kernel
theorem many_ok : ∀ z ∈ ([1, 2, 6, 12, 24, 60] : List Int), 1 ≤ z ∧ z ≤ 60 := by decide
theorem p199 : (2 : Nat) ^ 199 + 1000000000 < 2 ^ 200 := by decide +kernel
section
variable {P : Program} {w : World} {K : PySem.W.Frag} {mg : Str → Option Value} {base : Heap} {A : Ad}
theorem d_some_row (T : Txt K mg A) : Df P w K mg base 3 "_law_some_row" s_some_row ["box", "most"] (spOf dsSomeRow) := by
  refine mk_dd T.h_some_row sc_some_row (fun _ _ _ _ _ _ us hl => match us, hl with | [_, _], _ => rfl) (fun as Q E h => ?_) fun f cdv A' outer s H E0 F as Q E hr h hbx hW => ?_
  · obtain ⟨a, B, m, x, rfl, _⟩ := h
    rfl
  · obtain ⟨a, B, m, x, rfl, m1, m60, hB, q⟩ := h
    have hu : (A'.deeper (envOfC "_law_some_row" (defScope s_some_row) s.heap.objs.size f cdv)).units + 64 < cLine := hr.units
    have p2 := p199
    refine ⟨_, (pss_cons (ps_asg (pe_tup (pa_cons (pcall (d_take T) hr takesN (pa_cons (pv 0) (pa_cons pe_int pa_nil))) (pa_cons (pe_ix (ix_seqK K) (pe_lst (pa_cons pe_int (pa_cons pe_int (pa_cons pe_int (pa_cons pe_int (pa_cons pe_int (pa_cons pe_int pa_nil))))))) (pcall (d_take T) hr takesN (pa_cons (pv 0) (pa_cons pe_int pa_nil))) (fun _ _ => rfl)) pa_nil))) (pg_tupK K (n := 2) (pgs_cons (pg_name (i := 2) sc_some_row.nd rfl (Or.inr rfl)) (pgs_cons (pg_name (i := 3) sc_some_row.nd rfl (Or.inl rfl)) pgs_nil))))
  (pss_cons (ps_set (i := 3) sc_some_row.nd rfl (Or.inl rfl) (pe_callB (c_min2 rfl) (by rfl) T.b_min (by decide +kernel) (pa_cons (pv 3) (pa_cons (pv 1) pa_nil))))
  (pss_cons (ps_if (pt_cmpR (o_eqK K hu) (pv 2) pe_int (nomark _))
  (pss_one (ps_ret (pcall (d_drawn_row T) hr takesN (pa_cons (pv 0) (pa_cons (pv 3) pa_nil))))) pss_nil)
  (pss_cons (ps_if (pt_cmpR (o_eqK K hu) (pv 2) pe_int (nomark _))
  (pss_cons (ps_set (i := 4) sc_some_row.nd rfl (Or.inr rfl) (pe_ix (ix_seqK K) (pe_lst (pa_cons (pe_op o_pow pe_int pe_int) (pa_cons (pe_op (o_addK K) (pe_un un_neg (pe_op o_pow pe_int pe_int)) pe_int) (pa_cons (pe_op o_pow pe_int pe_int) (pa_cons pe_int (pa_cons pe_int pa_nil)))))) (pcall (d_take T) hr takesN (pa_cons (pv 0) (pa_cons pe_int pa_nil))) (fun _ _ => rfl)))
  (pss_one (ps_ret (pe_lc (own := [("k", 7)]) (by rfl) sc_some_row.nd (pi_range1 rfl T.b_range (pa_cons (pv 3) pa_nil)) (blkOk_by (own := [("k", 7)]) (N := ["box", "most", "way", "many", "great", "row", "at", "k"]) (sc := defScope s_some_row) (by decide +kernel)) (fun _ _ _ _ _ => (pg_name (i := 7) sc_some_row.nd rfl (Or.inl rfl))) (fun _ _ _ _ _ => pts_nil) (fun _ _ _ _ _ => (pe_op (o_addK K) (pv 4) (pe_op (o_mulK K) (pcall (d_take T) hr takesN (pa_cons (pv 0) (pa_cons pe_int pa_nil))) (pv 7)))))))) pss_nil)
  (pss_cons (ps_set (i := 5) sc_some_row.nd rfl (Or.inl rfl) (pcall (d_row T) hr takesN (pa_cons (pe_lc (own := [("k", 7)]) (by rfl) sc_some_row.nd (pi_range1 rfl T.b_range (pa_cons (pv 3) pa_nil)) (blkOk_by (own := [("k", 7)]) (N := ["box", "most", "way", "many", "great", "row", "at", "k"]) (sc := defScope s_some_row) (by decide +kernel)) (fun _ _ _ _ _ => (pg_name (i := 7) sc_some_row.nd rfl (Or.inl rfl))) (fun _ _ _ _ _ => pts_nil) (fun _ _ _ _ _ => (pe_op o_sub (pcall (d_take T) hr takesN (pa_cons (pv 0) (pa_cons pe_int pa_nil))) (pe_ifExp (pt_cmpR o_lt (pv 2) pe_int (nomark _)) pe_int pe_int)))) pa_nil)))
  (pss_cons (ps_if (pt_cmpR o_gt (pv 2) pe_int (nomark _))
  (pss_cons (ps_set (i := 6) sc_some_row.nd rfl (Or.inl rfl) (pcall (d_take T) hr takesN (pa_cons (pv 0) (pa_cons (pv 3) pa_nil))))
  (pss_one (ps_asg (pe_op (o_addK K) (pe_op (o_addK K) (pe_ix (ix_seqK K) (pv 5) (pv 6) (fun _ _ => rfl)) pe_int) (pcall (d_take T) hr takesN (pa_cons (pv 0) (pa_cons (pe_callB (c_max2 rfl) (by rfl) T.b_max (by decide +kernel) (pa_cons pe_int (pa_cons (pv 3) pa_nil))) pa_nil)))) (pg_sub (pv 5) (pv 6) set_list)))) pss_nil)
  (pss_one (ps_ret (pv 5))))))))), ?_⟩
    walk_at "dds"
    intro way w0 w1
    walk_at "dds"
    have e6 : ([.int 1, .int 2, .int 6, .int 12, .int 24, .int 60] : List D) = ([1, 2, 6, 12, 24, 60] : List Int).map .int := rfl
    rw [e6]
    walk_at "dds"
    intro t t0 t1
    walk_at "dds"
    have mb := pickI (p := fun z => 1 ≤ z ∧ z ≤ 60) many_ok (k := t.toNat) (by show t.toNat < 6; omega)
    have hlt : t < (([1, 2, 6, 12, 24, 60] : List Int).length : Nat) := by show t < 6; omega
    walk_at "dds"
    generalize ([1, 2, 6, 12, 24, 60] : List Int).getD t.toNat 0 = mm0 at mb ⊢
    obtain ⟨n, hn, n1, n60, nm⟩ : ∃ n : Nat, (if m < mm0 then m else mm0) = (n : Int) ∧ 1 ≤ n ∧ n ≤ 60 ∧ (n : Int) ≤ m := by
      split
      · exact ⟨m.toNat, by omega, by omega, by omega, by omega⟩
      · exact ⟨mm0.toNat, by omega, by omega, by omega, by omega⟩
    rw [hn]
    refine w_ifD (fun h0 => ?_) fun h0 => ?_
    · walk_at "dds"
      refine ⟨a, _, n, none, rfl, by omega, by omega, by omega, fun ms l1 l2 hms => ?_⟩
      walk_at "dds"
      exact retb hbx rfl (by omega) .f (q ms l1 (by omega) fun z hz => by have := hms z hz; omega)
    · walk_at "dds"
      refine w_ifD (fun h1 => ?_) fun h1 => ?_
      · walk_at "dds"
        have e5 : ([.int ((10 : Int) ^ (59 : Int).toNat), .int (-(10 : Int) ^ (59 : Int).toNat + 7), .int ((10 : Int) ^ (30 : Int).toNat), .int 1, .int 0] : List D) = ([(10 : Int) ^ 59, -(10 : Int) ^ 59 + 7, (10 : Int) ^ 30, 1, 0] : List Int).map .int := rfl
        rw [e5]
        walk_at "dds"
        intro u u0 u1
        have gb := pickI (p := fun z => z.natAbs < 2 ^ 199) great_ok (k := u.toNat) (by show u.toNat < 5; omega)
        have hlt2 : u < (([(10 : Int) ^ 59, -(10 : Int) ^ 59 + 7, (10 : Int) ^ 30, 1, 0] : List Int).length : Nat) := by show u < 5; omega
        walk_at "dds"
        generalize ([(10 : Int) ^ 59, -(10 : Int) ^ 59 + 7, (10 : Int) ^ 30, 1, 0] : List Int).getD u.toNat 0 = gg at gb ⊢
        refine lcM_r (lc_drawI (j := 0) 1 (fun z => z.natAbs < 2 ^ 200) rfl (by simp; omega) (fun y hy B' b1 b2 => ?_) fun ns hl hns => ?_)
        · have hy := List.mem_range.mp hy
          rw [List.length_range] at b2
          walk_at "dds"
          refine ⟨rfl, ?_⟩
          walk_at "dds"
          intro v v0 v1
          walk_at "dds"
          have hv : v * (0 + (y : Int)) ≤ 8 * 60 := Int.mul_le_mul (by omega) (by omega) (by omega) (by omega)
          have hv0 : 0 ≤ v * (0 + (y : Int)) := Int.mul_nonneg (by omega) (by omega)
          exact ⟨⟨_, rfl, by omega⟩, by walk_at "le"⟩
        · rw [List.length_range] at hl ⊢
          walk_at "dds"
          exact retb hbx rfl (by omega) .f (q ns (by omega) (by omega) hns)
      · walk_at "dds"
        refine lcM_r (lc_drawI (j := 0) 1 (fun z => -5 ≤ z ∧ z ≤ 10) rfl (by simp; omega) (fun y hy B' b1 b2 => ?_) fun ns hl hns => ?_)
        · rw [List.length_range] at b2
          walk_at "dds"
          refine ⟨rfl, ?_⟩
          walk_at "dds"
          intro v v0 v1
          walk_at "dds"
          refine w_ifD (fun he => ?_) fun he => ?_
          · walk_at "dds"
            exact ⟨⟨_, rfl, by omega, by omega⟩, by walk_at "le"⟩
          · walk_at "dds"
            exact ⟨⟨_, rfl, by omega, by omega⟩, by walk_at "le"⟩
        · rw [List.length_range] at hl ⊢
          walk_at "dds"
          refine ⟨ns, none, rfl, by omega, fun z hz => by have := hns z hz; omega, fun ms hml hms => ?_⟩
          walk_at "dds"
          refine w_ifD (fun hw => ?_) fun hw => ?_
          · walk_at "dds"
            intro at_ a0 a1
            walk_at "dds"
            rw [show (if (n : Int) > 1 then (n : Int) else 1) = n by split <;> omega]
            walk_at "dds"
            intro v v0 v1
            walk_at "dds"
            have hb := pickI (p := fun z => z.natAbs ≤ 100000000) hms (k := at_.toNat) (by omega)
            refine setl (m := at_.toNat) rfl ?_ ?_
            · rw [List.length_map]
              obtain ⟨k, rfl⟩ : ∃ k : Nat, at_ = k := ⟨at_.toNat, by omega⟩
              exact ixn (by omega)
            · rw [← List.map_set]
              walk_at "dds"
              refine retb hbx rfl (by omega) (.b rfl) (q _ (by simp; omega) (by simp; omega) fun z hz => ?_)
              rcases List.mem_or_eq_of_mem_set hz with hz | rfl
              · have := hms z hz
                omega
              · omega
          · walk_at "dds"
            exact retb hbx rfl (by omega) (.b rfl) (q ms (by omega) (by omega) fun z hz => by have := hms z hz; omega)
end

/-! ### plain: nets, and the least factor that makes one -/
/-- no sum by mu is against the row's rule up to k -/
def netS (r : Nat → Int) (k : Nat) : Prop := ∀ n, 1 ≤ n → n ≤ k → (n : Int) ∣ pp r n
/-- no prime power is -/
def netB (r : Nat → Int) (k : Nat) : Prop := ∀ n, 1 ≤ n → n ≤ k → ∀ f ∈ facs n, (f.1 ^ f.2.toNat) ∣ r n - r (n / f.1.toNat)
theorem badS_iff {r : Nat → Int} {n : Nat} : badS r n = false ↔ (n : Int) ∣ pp r n := by
  unfold badS
  rw [decide_eq_false_iff_not, Classical.not_not]
  exact ⟨Int.dvd_of_emod_eq_zero, Int.emod_eq_zero_of_dvd⟩
theorem badB_iff {r : Nat → Int} {n : Nat} : badB r n = false ↔ ∀ f ∈ facs n, (f.1 ^ f.2.toNat) ∣ r n - r (n / f.1.toNat) := by
  unfold badB
  rw [List.any_eq_false]
  refine ⟨fun h f hf => ?_, fun h f hf => ?_⟩
  · have := h f hf
    unfold barAt at this
    rw [decide_eq_true_eq, Classical.not_not] at this
    exact Int.dvd_of_emod_eq_zero this
  · unfold barAt
    rw [decide_eq_true_eq, Classical.not_not]
    exact Int.emod_eq_zero_of_dvd (h f hf)
theorem net_same (r : Nat → Int) : ∀ {k : Nat}, k ≤ 60 → (netS r k ↔ netB r k)
  | 0, _ => ⟨fun _ n h1 h2 => by omega, fun _ n h1 h2 => by omega⟩
  | k + 1, hk => by
    have ih := net_same r (k := k) (by omega)
    have step : netB r k → (badS r (k + 1) = badB r (k + 1)) := fun hb => bad_same r (mem_upto.mpr ⟨by omega, hk⟩) fun m m1 m2 => badB_iff.mpr (hb m m1 (by omega))
    constructor
    · intro h
      have hb : netB r k := ih.mp fun n n1 n2 => h n n1 (by omega)
      intro n n1 n2
      by_cases e : n = k + 1
      · subst e
        rw [← badB_iff, ← step hb, badS_iff]
        exact h (k + 1) n1 n2
      · exact hb n n1 (by omega)
    · intro h
      have hb : netB r k := fun n n1 n2 => h n n1 (by omega)
      have hs := ih.mpr hb
      intro n n1 n2
      by_cases e : n = k + 1
      · subst e
        rw [← badS_iff, step hb, badB_iff]
        exact h (k + 1) n1 n2
      · exact hs n n1 (by omega)
theorem pp_scale (c : Int) (r : Nat → Int) (n : Nat) : pp (fun x => c * r x) n = c * pp r n := by
  unfold pp
  rw [Int.mul_comm c, ← sumOn_mul]
  refine sumOn_congr fun x _ => ?_
  show mm n x * (c * r x) = mm n x * r x * c
  rw [Int.mul_comm c (r x), ← Int.mul_assoc]
/-- n/gcd(n, s) divides d just when n divides d s -/
theorem lack_dvd {n : Nat} (h0 : 0 < n) (s : Int) (d : Nat) : n / Nat.gcd n s.natAbs ∣ d ↔ (n : Int) ∣ (d : Int) * s := by
  have g0 : 0 < Nat.gcd n s.natAbs := Nat.gcd_pos_of_pos_left _ h0
  have hn : n / Nat.gcd n s.natAbs * Nat.gcd n s.natAbs = n := Nat.div_mul_cancel (Nat.gcd_dvd_left _ _)
  have hs : s.natAbs / Nat.gcd n s.natAbs * Nat.gcd n s.natAbs = s.natAbs := Nat.div_mul_cancel (Nat.gcd_dvd_right _ _)
  have co : Nat.Coprime (n / Nat.gcd n s.natAbs) (s.natAbs / Nat.gcd n s.natAbs) := Nat.coprime_div_gcd_div_gcd g0
  have e : ((n : Int) ∣ (d : Int) * s) ↔ n ∣ d * s.natAbs := by
    rw [← Int.natCast_dvd_natCast, ← Int.dvd_natAbs (b := (d : Int) * s), Int.natAbs_mul, Int.natAbs_natCast]
  rw [e]
  constructor
  · intro h
    have := Nat.mul_dvd_mul h (Nat.gcd_dvd_right n s.natAbs)
    rw [hn] at this
    exact this
  · intro h
    have h2 : n / Nat.gcd n s.natAbs * Nat.gcd n s.natAbs ∣ d * (s.natAbs / Nat.gcd n s.natAbs) * Nat.gcd n s.natAbs := by
      rw [hn, Nat.mul_assoc, hs]
      exact h
    exact co.dvd_of_dvd_mul_right (Nat.dvd_of_mul_dvd_mul_right g0 h2)
/-- the program's factor -/
def mulOf (r : Nat → Int) : Nat → Nat
  | 0 => 1
  | k + 1 => Nat.lcm (mulOf r k) ((k + 1) / Nat.gcd (k + 1) (pp r (k + 1)).natAbs)
theorem mulOf_dvd (r : Nat → Int) (d : Nat) : ∀ k, mulOf r k ∣ d ↔ netS (fun x => (d : Int) * r x) k
  | 0 => ⟨fun _ n h1 h2 => by omega, fun _ => Nat.one_dvd _⟩
  | k + 1 => by
    have ih := mulOf_dvd r d k
    unfold mulOf
    rw [Nat.lcm_dvd_iff, ih, lack_dvd (by omega)]
    constructor
    · rintro ⟨h1, h2⟩ n n1 n2
      by_cases e : n = k + 1
      · subst e
        rw [pp_scale]
        exact h2
      · exact h1 n n1 (by omega)
    · intro h
      refine ⟨fun n n1 n2 => h n n1 (by omega), ?_⟩
      have := h (k + 1) (by omega) (Nat.le_refl _)
      rw [pp_scale] at this
      exact this
/-- the primes up to 59 -/
def prs : List Nat := [2, 3, 5, 7, 11, 13, 17, 19, 23, 29, 31, 37, 41, 43, 47, 53, 59]
theorem prs_cop : (prs.all fun l => (List.range l).all fun c => decide (c = 0) || decide (Nat.gcd l c = 1)) = true := by decide +kernel
theorem prs_gcd {l y : Nat} (hl : l ∈ prs) (h : ¬ l ∣ y) : Nat.gcd l y = 1 := by
  have a := List.all_eq_true.mp prs_cop l hl
  have l0 : 0 < l := by
    unfold prs at hl
    simp at hl
    omega
  have b := List.all_eq_true.mp a (y % l) (List.mem_range.mpr (Nat.mod_lt _ l0))
  rw [Bool.or_eq_true, decide_eq_true_eq, decide_eq_true_eq] at b
  rcases b with b | b
  · exact absurd (Nat.dvd_of_mod_eq_zero b) h
  · rw [Nat.gcd_rec, Nat.gcd_comm]
    exact b
/-- how often l divides s, at most e times -/
def upTo (l : Nat) (s : Int) : Nat → Nat
  | 0 => 0
  | e + 1 => if upTo l s e = e ∧ ((l : Int) ^ (e + 1)) ∣ s then e + 1 else upTo l s e
theorem upTo_le (l : Nat) (s : Int) : ∀ e, upTo l s e ≤ e
  | 0 => Nat.le_refl _
  | e + 1 => by
    unfold upTo
    split
    · exact Nat.le_refl _
    · exact Nat.le_succ_of_le (upTo_le l s e)
theorem upTo_dvd (l : Nat) (s : Int) : ∀ e, ((l : Int) ^ upTo l s e) ∣ s
  | 0 => by
    show ((l : Int) ^ 0) ∣ s
    rw [Int.pow_zero]
    exact Int.one_dvd _
  | e + 1 => by
    unfold upTo
    split
    · rename_i h
      exact h.2
    · exact upTo_dvd l s e
theorem upTo_next (l : Nat) (s : Int) : ∀ e, upTo l s e < e → ¬ ((l : Int) ^ (upTo l s e + 1)) ∣ s
  | 0, h => by omega
  | e + 1, h => by
    unfold upTo at h ⊢
    split at h
    · omega
    · rename_i hc
      rw [if_neg hc]
      by_cases z : upTo l s e = e
      · rw [z]
        exact fun y => hc ⟨z, y⟩
      · exact upTo_next l s e (by have := upTo_le l s e; omega)
theorem lack_pow {l : Nat} (hl : l ∈ prs) (s : Int) (e d : Nat) : l ^ (e - upTo l s e) ∣ d ↔ ((l : Int) ^ e) ∣ (d : Int) * s := by
  have l0 : 0 < l := by
    unfold prs at hl
    simp at hl
    omega
  have le := upTo_le l s e
  obtain ⟨y, hy⟩ := upTo_dvd l s e
  have es : e = upTo l s e + (e - upTo l s e) := by omega
  have cop : upTo l s e < e → Nat.Coprime (l ^ (e - upTo l s e)) y.natAbs := fun lt => by
    refine Nat.Coprime.pow_left _ (prs_gcd hl fun hd => upTo_next l s e lt ?_)
    obtain ⟨c, hc⟩ := Int.natCast_dvd_natCast.mpr hd |> Int.dvd_natAbs.mp
    exact ⟨c, by
      rw [Int.pow_succ, Int.mul_assoc, ← hc]
      exact hy⟩
  generalize upTo l s e = t at *
  have key : ((l : Int) ^ e) ∣ (d : Int) * s ↔ l ^ (e - t) ∣ d * y.natAbs := by
    have e1 : ((l : Int) ^ e) = (l : Int) ^ t * ((l ^ (e - t) : Nat) : Int) := by
      rw [Int.natCast_pow, ← Int.pow_add, ← es]
    have e2 : (d : Int) * s = (l : Int) ^ t * ((d : Int) * y) := by
      rw [hy, ← Int.mul_assoc, ← Int.mul_assoc, Int.mul_comm (d : Int)]
    have p0 : ((l : Int) ^ t) ≠ 0 := Int.pow_ne_zero (by omega)
    rw [e1, e2, Int.mul_dvd_mul_iff_left p0, ← Int.natCast_dvd_natCast, ← Int.dvd_natAbs (b := (d : Int) * y), Int.natAbs_mul, Int.natAbs_natCast]
  rw [key]
  constructor
  · intro h
    exact Nat.dvd_trans h (Nat.dvd_mul_right _ _)
  · intro h
    by_cases lt : t < e
    · exact (cop lt).dvd_of_dvd_mul_right h
    · have : e - t = 0 := by omega
      rw [this, Nat.pow_zero]
      exact Nat.one_dvd _

/-- what the prime l wants at n -/
def wantAt (r : Nat → Int) (n : Nat) (f : Int × Int) : Nat := f.2.toNat - upTo f.1.toNat (r n - r (n / f.1.toNat)) f.2.toNat
/-- D is enough for all of the facs up to k -/
def Enough (r : Nat → Int) (k d : Nat) : Prop := ∀ n, 1 ≤ n → n ≤ k → ∀ f ∈ facs n, f.1.toNat ^ wantAt r n f ∣ d
theorem facs_prs : (upto.all fun n => (facs n).all fun f => prs.contains f.1.toNat && decide (0 ≤ f.1) && decide (0 ≤ f.2)) = true := by decide +kernel
theorem facs_pr {n : Nat} (hn : n ∈ upto) {f : Int × Int} (hf : f ∈ facs n) : f.1.toNat ∈ prs ∧ ((f.1.toNat : Nat) : Int) = f.1 := by
  have a := List.all_eq_true.mp (List.all_eq_true.mp facs_prs n hn) f hf
  rw [Bool.and_eq_true, Bool.and_eq_true, decide_eq_true_eq] at a
  exact ⟨List.contains_iff_mem.mp a.1.1, Int.toNat_of_nonneg a.1.2⟩
theorem enough_net (r : Nat → Int) {k : Nat} (hk : k ≤ 60) (d : Nat) : Enough r k d ↔ netB (fun x => (d : Int) * r x) k := by
  unfold Enough netB wantAt
  constructor
  · intro h n n1 n2 f hf
    obtain ⟨hp, he⟩ := facs_pr (mem_upto.mpr ⟨n1, by omega⟩) hf
    have := (lack_pow hp (r n - r (n / f.1.toNat)) f.2.toNat d).mp (h n n1 n2 f hf)
    rw [he, Int.mul_sub] at this
    exact this
  · intro h n n1 n2 f hf
    obtain ⟨hp, he⟩ := facs_pr (mem_upto.mpr ⟨n1, by omega⟩) hf
    refine (lack_pow hp (r n - r (n / f.1.toNat)) f.2.toNat d).mpr ?_
    rw [he, Int.mul_sub]
    exact h n n1 n2 f hf
theorem enough_mul (r : Nat → Int) {k : Nat} (hk : k ≤ 60) (d : Nat) : mulOf r k ∣ d ↔ Enough r k d := by
  rw [mulOf_dvd, net_same _ hk, enough_net r hk]

/-- the harness's table: primes in the order met, each with its greatest want -/
def powL : List (Nat × Nat) → Nat
  | [] => 1
  | (l, c) :: r => l ^ c * powL r
theorem prs_two : (prs.all fun l => prs.all fun m => decide (l = m) || decide (Nat.gcd l m = 1)) = true := by decide +kernel
theorem prs_ne {l m : Nat} (hl : l ∈ prs) (hm : m ∈ prs) (h : l ≠ m) : Nat.gcd l m = 1 := by
  have a := List.all_eq_true.mp (List.all_eq_true.mp prs_two l hl) m hm
  rw [Bool.or_eq_true, decide_eq_true_eq, decide_eq_true_eq] at a
  exact a.resolve_left h
theorem powL_cop {l c : Nat} (hl : l ∈ prs) : ∀ {L : List (Nat × Nat)}, (∀ p ∈ L, p.1 ∈ prs ∧ l ≠ p.1) → Nat.Coprime (l ^ c) (powL L)
  | [], _ => Nat.coprime_one_right _
  | (m, d) :: L, h => by
    have a := h (m, d) List.mem_cons_self
    exact Nat.Coprime.mul_right (Nat.Coprime.pow c d (prs_ne hl a.1 a.2)) (powL_cop hl fun p hp => h p (List.mem_cons_of_mem _ hp))
theorem powL_dvd {d : Nat} : ∀ {L : List (Nat × Nat)}, (L.map (·.1)).Nodup → (∀ p ∈ L, p.1 ∈ prs) → (powL L ∣ d ↔ ∀ p ∈ L, p.1 ^ p.2 ∣ d)
  | [], _, _ => ⟨fun _ p hp => absurd hp List.not_mem_nil, fun _ => Nat.one_dvd _⟩
  | (l, c) :: L, hn, hp => by
    rw [List.map_cons, List.nodup_cons] at hn
    have ih := powL_dvd (d := d) hn.2 fun p h => hp p (List.mem_cons_of_mem _ h)
    have co := powL_cop (c := c) (hp (l, c) List.mem_cons_self) (L := L) fun p h => ⟨hp p (List.mem_cons_of_mem _ h), fun e => hn.1 (List.mem_map.mpr ⟨p, h, e.symm⟩)⟩
    constructor
    · intro h p m
      rcases List.mem_cons.mp m with rfl | m
      · exact Nat.dvd_trans (Nat.dvd_mul_right _ _) h
      · exact ih.mp (Nat.dvd_trans (Nat.dvd_mul_left _ _) h) p m
    · intro h
      exact Nat.Coprime.mul_dvd_of_dvd_of_dvd co (h (l, c) List.mem_cons_self) (ih.mpr fun p m => h p (List.mem_cons_of_mem _ m))

def dsMult (C : Addr) : DSp := fun as Q E => ∃ d x, as = [.dat d x] ∧ d.fit ∧ ((d.are 1 60 = false ∧ E C ["given"] [.dat d x]) ∨ ∃ ns : List Int, d.rowOf ns ∧ 1 ≤ ns.length ∧ ns.length ≤ 60 ∧ Q (.dat (.int (mulOf (at1 ns) ns.length : Nat)) none) 0)
def zipL (f : Int → Int → Int) (a b : List Int) : List Int := (a.zip b).map fun p => f p.1 p.2
def dsZip (f : Int → Int → Int) : DSp := fun as Q _ => ∃ (a b : List Int) (x y : Option V), as = [.dat (.lst (a.map .int)) x, .dat (.lst (b.map .int)) y] ∧ 1 ≤ a.length ∧ a.length ≤ 60 ∧ 1 ≤ b.length ∧ b.length ≤ 60 ∧ (∀ z ∈ a, z.natAbs < 2 ^ 300) ∧ (∀ z ∈ b, z.natAbs < 2 ^ 300) ∧ Q (.fr (.lst ((zipL f a b).map .int))) 0
def dsCheck2 : DSp := fun as Q _ => ∃ (d e : D) (a b : List Int) (x y : Option V), as = [.dat d x, .dat e y] ∧ d.rowOf a ∧ e.rowOf b ∧ 1 ≤ a.length ∧ a.length ≤ 60 ∧ 1 ≤ b.length ∧ b.length ≤ 60 ∧ Q (.dat .non none) 0
theorem mulOf_pos (r : Nat → Int) : ∀ k, 0 < mulOf r k
  | 0 => Nat.one_pos
  | k + 1 => by
    unfold mulOf
    refine Nat.lcm_pos (mulOf_pos r k) ?_
    have := Nat.div_mul_cancel (Nat.gcd_dvd_left (k + 1) (pp r (k + 1)).natAbs)
    rcases Nat.eq_zero_or_pos ((k + 1) / Nat.gcd (k + 1) (pp r (k + 1)).natAbs) with h | h
    · rw [h] at this
      omega
    · exact h
section
variable {P : Program} {w : World} {K : PySem.W.Frag} {mg : Str → Option Value} {base : Heap} {A : Ad}
theorem d_multiple (T : Txt K mg A) : Df P w K mg base 5 "multiple" s_multiple ["row"] (spOf (dsMult A.InvalidRow)) := by
  refine mk_dd T.h_multiple sc_multiple (fun _ _ _ _ _ _ us hl => match us, hl with | [_], _ => rfl) (fun as Q E h => ?_) fun f cdv A' outer s H E0 F as Q E hr h hbx hW => ?_
  · obtain ⟨d, x, rfl, _⟩ := h
    rfl
  · obtain ⟨d, x, rfl, hf, h⟩ := h
    refine ⟨_, (pss_cons (ps_expr (pcall (d_check_row T) hr takesX (pa_cons (pv 0) pa_nil)))
  (pss_cons (ps_set (i := 1) sc_multiple.nd rfl (Or.inl rfl) pe_int)
  (pss_cons (ps_for PassesOwn.leaving rfl (pi_range2 rfl T.b_range (pa_cons pe_int (pa_cons (pe_op (o_addK K) (pe_callB (c_lenK K) (by rfl) T.b_len PySem.boot_len (pa_cons (pv 0) pa_nil)) pe_int) pa_nil))) (pg_name (i := 2) sc_multiple.nd rfl (Or.inl rfl))
  (pss_cons (ps_set (i := 3) sc_multiple.nd rfl (Or.inl rfl) (pe_op o_fdiv (pv 2) (pe_callBfun cr_gcd (by rfl) T.m_gcd (pa_cons (pv 2) (pa_cons (pcall (d_sum_at T) hr takesX (pa_cons (pv 0) (pa_cons (pv 2) pa_nil))) pa_nil)))))
  (pss_one (ps_set (i := 1) sc_multiple.nd rfl (Or.inl rfl) (pe_op o_fdiv (pe_op (o_mulK K) (pv 1) (pv 3)) (pe_callBfun cr_gcd (by rfl) T.m_gcd (pa_cons (pv 1) (pa_cons (pv 3) pa_nil))))))))
  (pss_one (ps_ret (pv 1)))))), ?_⟩
    walk_at "dds"
    rcases h with ⟨e, z⟩ | ⟨ns, hd, n1, n60, q⟩
    · exact ⟨d, x, rfl, hf, .inl ⟨e, z⟩⟩
    · walk_at "dds"
      refine for_r (fun i ρ => ρ = [.dat d x, .dat (.int (mulOf (at1 ns) i : Nat)) none, .un, .un]) (up_eq (by walk_at "le")) (fun i ρ2 hi hI => ?_) fun ρ2 hI => ?_
      · subst hI
        walk_at "dds"
        rw [show (1 + (i : Int)) = ((i + 1 : Nat) : Int) by omega]
        refine ⟨d, x, ns, i + 1, none, rfl, hd, mem_upto.mpr ⟨by omega, by omega⟩, by omega, ?_⟩
        have g0 : 0 < Nat.gcd (i + 1) (pp (at1 ns) (i + 1)).natAbs := Nat.gcd_pos_of_pos_left _ (by omega)
        have g1 : Nat.gcd (i + 1) (pp (at1 ns) (i + 1)).natAbs ≤ i + 1 := Nat.gcd_le_left _ (by omega)
        generalize hg : Nat.gcd (i + 1) (pp (at1 ns) (i + 1)).natAbs = gg at g0 g1
        walk_at "dds"
        rw [Int.natAbs_natCast, hg]
        walk_at "dds"
        rw [← Int.natCast_ediv]
        have l1 : (i + 1) / gg ≤ i + 1 := Nat.div_le_self _ _
        have l0 : 1 ≤ (i + 1) / gg := (Nat.one_le_div_iff g0).mpr g1
        have hm : mulOf (at1 ns) (i + 1) = Nat.lcm (mulOf (at1 ns) i) ((i + 1) / gg) := by rw [← hg]; rfl
        generalize (i + 1) / gg = lk at l0 l1 hm
        walk_at "dds"
        rw [Int.natAbs_natCast, Int.natAbs_natCast]
        have k0 : 0 < Nat.gcd (mulOf (at1 ns) i) lk := Nat.gcd_pos_of_pos_right _ (by omega)
        have k1 : Nat.gcd (mulOf (at1 ns) i) lk ≤ lk := Nat.gcd_le_right _ (by omega)
        walk_at "dds"
        refine up_eq ?_
        rw [hm, Nat.lcm, Int.natCast_ediv, Int.natCast_mul]
        walk_at "le"
      · subst hI
        walk_at "dds"
        exact retp hbx .d q
theorem d_check_two (T : Txt K mg A) : Df P w K mg base 5 "check_two" s_check_two ["one", "other"] (spOf dsCheck2) := by
  refine mk_dd T.h_check_two sc_check_two (fun _ _ _ _ _ _ us hl => match us, hl with | [_, _], _ => rfl) (fun as Q E h => ?_) fun f cdv A' outer s H E0 F as Q E hr h hbx hW => ?_
  · obtain ⟨d, e, a, b, x, y, rfl, _⟩ := h
    rfl
  · obtain ⟨d, e, a, b, x, y, rfl, hd, he, a1, a60, b1, b60, q⟩ := h
    refine ⟨_, (pss_cons (ps_expr (pcall (d_check_row T) hr takesX (pa_cons (pv 0) pa_nil)))
  (pss_one (ps_if (pt_not (pt_val (pcall (d_is_row T) hr takesX (pa_cons (pv 1) pa_nil))))
  (pss_one (ps_err (e_InvalidRow T) hr takesX (pa_cons (pv 1) pa_nil))) pss_nil))), ?_⟩
    have fe := D.fit_row he (by omega)
    have ee := D.are_row he (show (1 : Int) ≤ b.length by omega) (show (b.length : Int) ≤ 60 by omega)
    walk_at "dds"
    rw [ee]
    walk_at "dds"
    exact retp hbx .d q
theorem d_sum_of (T : Txt K mg A) : Df P w K mg base 6 "sum_of" s_sum_of ["one", "other"] (spOf (dsZip fun i j => i + j)) := by
  refine mk_dd T.h_sum_of sc_sum_of (fun _ _ _ _ _ _ us hl => match us, hl with | [_, _], _ => rfl) (fun as Q E h => ?_) fun f cdv A' outer s H E0 F as Q E hr h hbx hW => ?_
  · obtain ⟨a, b, x, y, rfl, _⟩ := h
    rfl
  · obtain ⟨a, b, x, y, rfl, a1, a60, b1, b60, ha, hb, q⟩ := h
    refine ⟨_, (pss_cons (ps_expr (pcall (d_check_two T) hr takesX (pa_cons (pv 0) (pa_cons (pv 1) pa_nil))))
  (pss_one (ps_ret (pe_lc (own := [("left", 2), ("right", 3)]) (by rfl) sc_sum_of.nd (pi_zip (by rfl) T.b_zip (pa_cons (pv 0) (pa_cons (pv 1) pa_nil))) (blkOk_by (own := [("left", 2), ("right", 3)]) (N := ["one", "other", "left", "right"]) (sc := defScope s_sum_of) (by decide +kernel)) (fun _ _ _ _ _ => (pg_tupK K (n := 2) (pgs_cons (pg_name (i := 2) sc_sum_of.nd rfl (Or.inl rfl)) (pgs_cons (pg_name (i := 3) sc_sum_of.nd rfl (Or.inl rfl)) pgs_nil)))) (fun _ _ _ _ _ => pts_nil) (fun _ _ _ _ _ => (pe_op (o_addK K) (pv 2) (pv 3))))))), ?_⟩
    walk_at "dds"
    refine ⟨_, _, a, b, x, y, rfl, .inl rfl, .inl rfl, a1, a60, b1, b60, ?_⟩
    walk_at "dds"
    refine lcM_z (lc_map (fun p => .int (p.1 + p.2)) (by simp; omega) (fun p hp => ?_) ?_)
    · walk_at "dds"
      refine ⟨rfl, ?_⟩
      walk_at "dds"
      exact ⟨rfl, Le.refl⟩
    · have em : ((a.zip b).map fun p => D.int (p.1 + p.2)) = (zipL (fun i j => i + j) a b).map D.int := by simp [zipL]
      rw [em]
      walk_at "dds"
      exact retp hbx .f q
theorem d_product_of (T : Txt K mg A) : Df P w K mg base 6 "product_of" s_product_of ["one", "other"] (spOf (dsZip fun i j => i * j)) := by
  refine mk_dd T.h_product_of sc_product_of (fun _ _ _ _ _ _ us hl => match us, hl with | [_, _], _ => rfl) (fun as Q E h => ?_) fun f cdv A' outer s H E0 F as Q E hr h hbx hW => ?_
  · obtain ⟨a, b, x, y, rfl, _⟩ := h
    rfl
  · obtain ⟨a, b, x, y, rfl, a1, a60, b1, b60, ha, hb, q⟩ := h
    refine ⟨_, (pss_cons (ps_expr (pcall (d_check_two T) hr takesX (pa_cons (pv 0) (pa_cons (pv 1) pa_nil))))
  (pss_one (ps_ret (pe_lc (own := [("left", 2), ("right", 3)]) (by rfl) sc_product_of.nd (pi_zip (by rfl) T.b_zip (pa_cons (pv 0) (pa_cons (pv 1) pa_nil))) (blkOk_by (own := [("left", 2), ("right", 3)]) (N := ["one", "other", "left", "right"]) (sc := defScope s_product_of) (by decide +kernel)) (fun _ _ _ _ _ => (pg_tupK K (n := 2) (pgs_cons (pg_name (i := 2) sc_product_of.nd rfl (Or.inl rfl)) (pgs_cons (pg_name (i := 3) sc_product_of.nd rfl (Or.inl rfl)) pgs_nil)))) (fun _ _ _ _ _ => pts_nil) (fun _ _ _ _ _ => (pe_op (o_mulK K) (pv 2) (pv 3))))))), ?_⟩
    walk_at "dds"
    refine ⟨_, _, a, b, x, y, rfl, .inl rfl, .inl rfl, a1, a60, b1, b60, ?_⟩
    walk_at "dds"
    refine lcM_z (lc_map (fun p => .int (p.1 * p.2)) (by simp; omega) (fun p hp => ?_) ?_)
    · walk_at "dds"
      refine ⟨rfl, ?_⟩
      obtain ⟨h1, h2⟩ := List.of_mem_zip hp
      walk_at "dds"
      refine ml_iw (wide_mul (ha _ h1) (hb _ h2) (by decide) (by decide) (by decide)) ?_
      walk_at "dds"
      exact ⟨rfl, Le.refl⟩
    · have em : ((a.zip b).map fun p => D.int (p.1 * p.2)) = (zipL (fun i j => i * j) a b).map D.int := by simp [zipL]
      rw [em]
      walk_at "dds"
      exact retp hbx .f q
end

/-! ### the table of what the primes lack -/
def getT (T : List (Nat × Nat)) (l : Nat) : Nat := ((T.find? fun p => decide (p.1 = l)).map (·.2)).getD 0
def setT (T : List (Nat × Nat)) (l c : Nat) : List (Nat × Nat) :=
  if (T.any fun p => decide (p.1 = l)) = true then T.map (fun p => if p.1 = l then (p.1, c) else p) else T ++ [(l, c)]
def addT (T : List (Nat × Nat)) (l c : Nat) : List (Nat × Nat) := setT T l (max (getT T l) c)
def gT (p : Nat × Nat) : Key × D := (Sum.inl (p.1 : Int), D.int (p.2 : Int))
structure GoodT (T : List (Nat × Nat)) : Prop where
  nd : (T.map (·.1)).Nodup
  pr : ∀ p ∈ T, p.1 ∈ prs
  sm : ∀ p ∈ T, p.2 ≤ 6
theorem key_eq (p : Nat × Nat) (l : Nat) : decide ((gT p).1 = (Sum.inl (l : Int) : Key)) = decide (p.1 = l) := by
  unfold gT
  by_cases h : p.1 = l
  · subst h
    simp
  · rw [decide_eq_false h]
    refine decide_eq_false fun z => h ?_
    have := Sum.inl.inj z
    omega
theorem getK_T (T : List (Nat × Nat)) (l : Nat) : (getK (T.map gT) (.inl (l : Int))).getD (.int 0) = .int (getT T l : Nat) := by
  induction T with
  | nil => rfl
  | cons p T ih =>
    unfold getK getT at *
    rw [List.map_cons, List.find?_cons, List.find?_cons, key_eq]
    by_cases h : p.1 = l
    · rw [decide_eq_true h]
      rfl
    · rw [decide_eq_false h]
      exact ih
theorem getK_T2 {T : List (Nat × Nat)} (hn : (T.map (·.1)).Nodup) {p : Nat × Nat} (hp : p ∈ T) : getK (T.map gT) (.inl (p.1 : Int)) = some (.int (p.2 : Nat)) := by
  induction T with
  | nil => cases hp
  | cons q T ih =>
    rw [List.map_cons, List.nodup_cons] at hn
    unfold getK at *
    rw [List.map_cons, List.find?_cons, key_eq]
    rcases List.mem_cons.mp hp with rfl | h
    · rw [decide_eq_true rfl]
      rfl
    · have : q.1 ≠ p.1 := fun e => hn.1 (e ▸ List.mem_map_of_mem h)
      rw [decide_eq_false this]
      exact ih hn.2 h
theorem setK_T (T : List (Nat × Nat)) (l c : Nat) : setK (T.map gT) (.inl (l : Int)) (.int (c : Int)) = (setT T l c).map gT := by
  unfold setK setT
  have e : ((T.map gT).any fun kv => decide (kv.1 = (Sum.inl (l : Int) : Key))) = T.any fun p => decide (p.1 = l) := by
    rw [List.any_map]
    congr 1
    funext p
    exact key_eq p l
  rw [e]
  split
  · rw [List.map_map, List.map_map]
    refine List.map_congr_left fun p _ => ?_
    show (if (gT p).1 = _ then _ else _) = gT (if p.1 = l then _ else _)
    by_cases h : p.1 = l
    · rw [if_pos h, if_pos (of_decide_eq_true ((key_eq p l).trans (decide_eq_true h)))]
      rfl
    · rw [if_neg h, if_neg (of_decide_eq_false ((key_eq p l).trans (decide_eq_false h)))]
  · rw [List.map_append]
    rfl
theorem getT_le {T : List (Nat × Nat)} (h : ∀ p ∈ T, p.2 ≤ 6) (l : Nat) : getT T l ≤ 6 := by
  unfold getT
  cases e : T.find? fun p => decide (p.1 = l) with
  | none => exact Nat.zero_le _
  | some p => exact h p (List.mem_of_find?_eq_some e)
theorem addT_good {T : List (Nat × Nat)} (h : GoodT T) {l c : Nat} (hl : l ∈ prs) (hc : c ≤ 6) : GoodT (addT T l c) := by
  unfold addT setT
  have hm : max (getT T l) c ≤ 6 := Nat.max_le.mpr ⟨getT_le h.sm l, hc⟩
  split
  · refine ⟨?_, fun p hp => ?_, fun p hp => ?_⟩
    · rw [List.map_map]
      have e : ((fun (x : Nat × Nat) => x.1) ∘ fun p => if p.1 = l then (p.1, max (getT T l) c) else p) = fun p : Nat × Nat => p.1 := by
        funext p
        show (if p.1 = l then _ else _ : Nat × Nat).1 = _
        split <;> rfl
      rw [e]
      exact h.nd
    · obtain ⟨q, hq, rfl⟩ := List.mem_map.mp hp
      split <;> exact h.pr q hq
    · obtain ⟨q, hq, rfl⟩ := List.mem_map.mp hp
      split
      · exact hm
      · exact h.sm q hq
  · rename_i hn
    refine ⟨?_, fun p hp => ?_, fun p hp => ?_⟩
    · rw [List.map_append, List.nodup_append]
      refine ⟨h.nd, by simp, fun a ha b hb => ?_⟩
      obtain rfl : b = l := by simpa using hb
      intro e
      subst e
      obtain ⟨q, hq, e⟩ := List.mem_map.mp ha
      exact hn (List.any_eq_true.mpr ⟨q, hq, decide_eq_true e⟩)
    · rcases List.mem_append.mp hp with hp | hp
      · exact h.pr p hp
      · obtain rfl : p = _ := by simpa using hp
        exact hl
    · rcases List.mem_append.mp hp with hp | hp
      · exact h.sm p hp
      · obtain rfl : p = _ := by simpa using hp
        exact hm
theorem pow_max (l a b d : Nat) : l ^ max a b ∣ d ↔ l ^ a ∣ d ∧ l ^ b ∣ d := by
  rcases Nat.le_total a b with h | h
  · rw [Nat.max_eq_right h]
    exact ⟨fun z => ⟨Nat.dvd_trans (Nat.pow_dvd_pow l h) z, z⟩, fun z => z.2⟩
  · rw [Nat.max_eq_left h]
    exact ⟨fun z => ⟨z, Nat.dvd_trans (Nat.pow_dvd_pow l h) z⟩, fun z => z.1⟩
theorem addT_dvd {T : List (Nat × Nat)} (hn : (T.map (·.1)).Nodup) (l c d : Nat) : (∀ p ∈ addT T l c, p.1 ^ p.2 ∣ d) ↔ (∀ p ∈ T, p.1 ^ p.2 ∣ d) ∧ l ^ c ∣ d := by
  have get : ∀ {T : List (Nat × Nat)}, (T.map (·.1)).Nodup → ∀ p ∈ T, p.1 = l → getT T l = p.2 := by
    intro T
    induction T with
    | nil => intro _ p hp; cases hp
    | cons q T ih =>
      intro hn p hp e
      rw [List.map_cons, List.nodup_cons] at hn
      unfold getT
      rw [List.find?_cons]
      rcases List.mem_cons.mp hp with rfl | h
      · rw [decide_eq_true e]
        rfl
      · have : q.1 ≠ l := fun z => hn.1 (by rw [z, ← e]; exact List.mem_map_of_mem h)
        rw [decide_eq_false this]
        exact ih hn.2 p h e
  have none : (T.any fun p => decide (p.1 = l)) = false → getT T l = 0 := by
    intro h
    unfold getT
    have e : (T.find? fun p => decide (p.1 = l)) = none := by
      rw [List.find?_eq_none]
      intro p hp z
      have := List.any_eq_false.mp h p hp
      exact this z
    rw [e]
    rfl
  unfold addT setT
  split
  · rename_i ha
    obtain ⟨q, hq, eq⟩ := List.any_eq_true.mp ha
    have eq := of_decide_eq_true eq
    have gq := get hn q hq eq
    constructor
    · intro h
      have hq2 := h (q.1, max (getT T l) c) (List.mem_map.mpr ⟨q, hq, by rw [if_pos eq]⟩)
      rw [show (q.1, max (getT T l) c).1 = l from eq] at hq2
      obtain ⟨h1, h2⟩ := (pow_max _ _ _ _).mp hq2
      refine ⟨fun p hp => ?_, h2⟩
      by_cases e : p.1 = l
      · rw [e, ← get hn p hp e]
        exact h1
      · have := h p (List.mem_map.mpr ⟨p, hp, by rw [if_neg e]⟩)
        exact this
    · rintro ⟨h1, h2⟩ p hp
      obtain ⟨p0, hp0, rfl⟩ := List.mem_map.mp hp
      by_cases e : p0.1 = l
      · rw [if_pos e]
        show p0.1 ^ max (getT T l) c ∣ d
        rw [pow_max]
        refine ⟨?_, by rw [e]; exact h2⟩
        rw [get hn p0 hp0 e]
        exact h1 p0 hp0
      · rw [if_neg e]
        exact h1 p0 hp0
  · rename_i ha
    rw [none (Bool.not_eq_true _ ▸ ha), Nat.zero_max]
    constructor
    · intro h
      exact ⟨fun p hp => h p (List.mem_append_left _ hp), h (l, c) (List.mem_append_right _ (by simp))⟩
    · rintro ⟨h1, h2⟩ p hp
      rcases List.mem_append.mp hp with hp | hp
      · exact h1 p hp
      · obtain rfl : p = _ := by simpa using hp
        exact h2
/-- what is asked for all n up to k -/
theorem enough_0 (r : Nat → Int) (d : Nat) : Enough r 0 d := fun n h1 h2 => by omega
theorem enough_s (r : Nat → Int) (k d : Nat) : Enough r (k + 1) d ↔ Enough r k d ∧ ∀ f ∈ facs (k + 1), f.1.toNat ^ wantAt r (k + 1) f ∣ d := by
  constructor
  · intro h
    exact ⟨fun n h1 h2 => h n h1 (by omega), h (k + 1) (by omega) (Nat.le_refl _)⟩
  · rintro ⟨h1, h2⟩ n n1 n2
    by_cases e : n = k + 1
    · subst e
      exact h2
    · exact h1 n n1 (by omega)
theorem table_mul {T : List (Nat × Nat)} (h : GoodT T) {r : Nat → Int} {k : Nat} (hk : k ≤ 60) (ht : ∀ d, (∀ p ∈ T, p.1 ^ p.2 ∣ d) ↔ Enough r k d) : powL T = mulOf r k := by
  refine Nat.dvd_antisymm ?_ ?_
  · rw [powL_dvd h.nd h.pr, ht, ← enough_mul r hk]
    exact Nat.dvd_refl _
  · rw [enough_mul r hk, ← ht, ← powL_dvd h.nd h.pr]
    exact Nat.dvd_refl _

/-! ### the law's own least multiple -/
def dsMultL : DSp := fun as Q _ => ∃ (d : D) (x : Option V) (ns : List Int), as = [.dat d x] ∧ d.rowOf ns ∧ ns.length ≤ 60 ∧ Q (.dat (.int (mulOf (at1 ns) ns.length : Nat)) none) 0
theorem prs_small : ∀ l ∈ prs, 2 ≤ l ∧ l ≤ 59 := by decide
theorem powL_cons (l c : Nat) (T : List (Nat × Nat)) : powL ((l, c) :: T) = l ^ c * powL T := rfl
section
variable {P : Program} {w : World} {K : PySem.W.Frag} {mg : Str → Option Value} {base : Heap} {A : Ad}
theorem d_l_multiple (T : Txt K mg A) : Df P w K mg base 2 "_law_multiple" s_l_multiple ["row"] (spOf dsMultL) := by
  refine mk_dd T.h_l_multiple sc_l_multiple (fun _ _ _ _ _ _ us hl => match us, hl with | [_], _ => rfl) (fun as Q E h => ?_) fun f cdv A' outer s H E0 F as Q E hr h hbx hW => ?_
  · obtain ⟨d, x, ns, rfl, _⟩ := h
    rfl
  · obtain ⟨d, x, ns, rfl, hd, hl, q⟩ := h
    have hu : (A'.deeper (envOfC "_law_multiple" (defScope s_l_multiple) s.heap.objs.size f cdv)).units + 64 < cLine := hr.units
    have hu1 : (A'.deeper (envOfC "_law_multiple" (defScope s_l_multiple) s.heap.objs.size f cdv)).units + 1 < cLine := by omega
    refine ⟨_, (pss_cons (ps_set (i := 1) sc_l_multiple.nd rfl (Or.inl rfl) pe_dnewK)
  (pss_cons (ps_for PassesOwn.leaving rfl (pi_range2 rfl T.b_range (pa_cons pe_int (pa_cons (pe_op (o_addK K) (pe_callB (c_lenK K) (by rfl) T.b_len PySem.boot_len (pa_cons (pv 0) pa_nil)) pe_int) pa_nil))) (pg_name (i := 2) sc_l_multiple.nd rfl (Or.inl rfl))
  (pss_one (ps_for PassesOwn.leaving rfl (pi_listK K (pcall (d_primes T) hr takesN (pa_cons (pv 2) pa_nil))) (pg_tupK K (n := 3) (pgs_cons (pg_name (i := 3) sc_l_multiple.nd rfl (Or.inl rfl)) (pgs_cons (pg_name (i := 4) sc_l_multiple.nd rfl (Or.inl rfl)) (pgs_cons (pg_name (i := 5) sc_l_multiple.nd rfl (Or.inl rfl)) pgs_nil))))
  (pss_cons (ps_par3 (i := 6) (j := 7) (l := 8) (by rfl) sc_l_multiple.nd rfl rfl rfl (by decide) (by decide) (by decide) rfl rfl rfl (pa_cons (pe_op o_sub (pe_ix (ix_seqK K) (pv 0) (pe_op o_sub (pv 2) pe_int) (fun _ _ => rfl)) (pe_ix (ix_seqK K) (pv 0) (pe_op o_sub (pe_op o_fdiv (pv 2) (pv 3)) pe_int) (fun _ _ => rfl))) (pa_cons pe_int (pa_cons (pv 3) pa_nil))) (by rfl))
  (pss_cons (ps_for PassesOwn.leaving rfl (pi_range1 rfl T.b_range (pa_cons (pv 4) pa_nil)) (pg_name (i := 9) sc_l_multiple.nd rfl (Or.inl rfl))
  (pss_cons (ps_if (PW.pt (pw_and (pt_cmpR (o_eqK K hu) (pv 7) (pv 9) (nomark _)) (pw_and1 (pt_cmpR (o_eqK K hu) (pe_op o_mod (pe_callTy c_int (by rfl) T.b_int (by decide +kernel) (pa_cons (pv 6) pa_nil)) (pv 8)) pe_int (nomark _)))))
  (pss_one (ps_set (i := 7) sc_l_multiple.nd rfl (Or.inl rfl) (pe_op (o_addK K) (pv 9) pe_int))) pss_nil)
  (pss_one (ps_set (i := 8) sc_l_multiple.nd rfl (Or.inl rfl) (pe_op (o_mulK K) (pv 8) (pv 3))))))
  (pss_one (ps_dput hu1 (pv 1) (pv 3) (pe_callB (c_max2 rfl) (by rfl) T.b_max (by decide +kernel) (pa_cons (pe_dget2 hu1 (pv 1) (pv 3) pe_int ⟨rfl, rfl, rfl, rfl⟩) (pa_cons (pe_op o_sub (pv 4) (pv 7)) pa_nil))) rfl)))))))
  (pss_cons (ps_set (i := 10) sc_l_multiple.nd rfl (Or.inl rfl) pe_int)
  (pss_cons (ps_lock (ps_for PassesOwn.leaving rfl (pi_keys (pv 1)) (pg_name (i := 3) sc_l_multiple.nd rfl (Or.inl rfl))
  (pss_one (ps_for PassesOwn.leaving rfl (pi_range1 rfl T.b_range (pa_cons (pe_dget hu1 (pv 1) (pv 3) (fun _ _ => rfl)) pa_nil)) (pg_name (i := 9) sc_l_multiple.nd rfl (Or.inl rfl))
  (pss_one (ps_set (i := 10) sc_l_multiple.nd rfl (Or.inl rfl) (pe_op (o_mulK K) (pv 10) (pv 3))))))))
  (pss_one (ps_ret (pv 10))))))), ?_⟩
    walk_at "dds"
    refine for_r (fun i ρ => ∃ Tb : List (Nat × Nat), ρ = [.dat d x, .own (.dct (Tb.map gT)), .un, .un, .un, .un, .un, .un, .un, .un, .un] ∧ GoodT Tb ∧ Tb.length ≤ 1000 * i ∧ ∀ m, (∀ p ∈ Tb, p.1 ^ p.2 ∣ m) ↔ Enough (at1 ns) i m) (up_e1 [] (by walk_at "le") ⟨⟨List.nodup_nil, fun _ h => absurd h List.not_mem_nil, fun _ h => absurd h List.not_mem_nil⟩, Nat.zero_le _, fun m => ⟨fun _ => enough_0 _ m, fun _ _ h => absurd h List.not_mem_nil⟩⟩) (fun i ρ2 hi hI => ?_) fun ρ2 hI => ?_
    · obtain ⟨Tb, rfl, good, hlen, hen⟩ := hI
      have hn : i + 1 ∈ upto := mem_upto.mpr ⟨by omega, by omega⟩
      have hp := p3_len (i + 1) hn
      walk_at "dds"
      rw [show (1 + (i : Int)) = ((i + 1 : Nat) : Int) by omega]
      refine ⟨i + 1, none, rfl, hn, ?_⟩
      walk_at "dds"
      rw [List.map_map]
      refine forM_l (forR (fun fs ρ => ∃ Tb : List (Nat × Nat), ρ = [.dat d x, .own (.dct (Tb.map gT)), .dat (.int ((i + 1 : Nat) : Int)) none, .un, .un, .un, .un, .un, .un, .un, .un] ∧ GoodT Tb ∧ Tb.length + fs.length ≤ 1000 * i + 10 ∧ ∀ m, ((∀ p ∈ Tb, p.1 ^ p.2 ∣ m) ∧ ∀ f ∈ fs, f.1.toNat ^ wantAt (at1 ns) (i + 1) f ∣ m) ↔ Enough (at1 ns) (i + 1) m) (up_e1 Tb (by walk_at "le") ⟨good, by omega, fun m => by rw [hen, enough_s]⟩) (fun f r ρ3 hf hI => ?_) fun ρ3 hI => ?_)
      · obtain ⟨Tb, rfl, good, hlen, hen⟩ := hI
        have hlen : Tb.length + (r.length + 1) ≤ 1000 * i + 10 := hlen
        obtain ⟨f1, f2, f3, f4, f5, f6, f7, f8, f9⟩ := fac_fine (i + 1) hn f hf
        have f10 : (((i + 1 : Nat) : Int)) / f.1 ≤ ((i + 1 : Nat) : Int) := Int.ediv_le_self _ (by omega)
        obtain ⟨hlp, hle⟩ := facs_pr hn hf
        obtain ⟨l, el⟩ : ∃ l : Nat, f.1 = (l : Int) := ⟨f.1.toNat, by omega⟩
        obtain ⟨e, ee⟩ : ∃ e : Nat, f.2 = (e : Int) := ⟨f.2.toNat, by omega⟩
        have want : wantAt (at1 ns) (i + 1) f = e - upTo l (at1 ns (i + 1) - at1 ns ((i + 1) / l)) e := by
          unfold wantAt
          rw [el, ee]
          rfl
        have hcons : ∀ m, (∀ f' ∈ f :: r, f'.1.toNat ^ wantAt (at1 ns) (i + 1) f' ∣ m) ↔ l ^ (e - upTo l (at1 ns (i + 1) - at1 ns ((i + 1) / l)) e) ∣ m ∧ ∀ f' ∈ r, f'.1.toNat ^ wantAt (at1 ns) (i + 1) f' ∣ m := fun m => by
          rw [List.forall_mem_cons, want, el]
          rfl
        simp only [hcons] at hen
        show Dg F _ (.dat (.tup [.int f.1, .int f.2, .int (f.1 ^ f.2.toNat)]) none) _ _
        rw [el, Int.toNat_natCast] at f8 hlp
        rw [el, ee, Int.toNat_natCast] at f7 f6
        rw [el] at f1 f2 f3 f9 f10
        rw [ee] at f4 f5
        rw [el, ee, Int.toNat_natCast]
        have e1 : ns.getD ((((i + 1 : Nat) : Int)) - 1).toNat 0 = at1 ns (i + 1) := by
          rw [at1_get]
          congr 1
          omega
        have e2 : ns.getD ((((i + 1 : Nat) : Int)) / (l : Int) - 1).toNat 0 = at1 ns ((i + 1) / l) := by
          rw [at1_get]
          congr 1
          omega
        walk_at "dds"
        rw [e1, e2]
        generalize hs : at1 ns (i + 1) - at1 ns ((i + 1) / l) = s0 at hen want
        walk_at "dds"
        refine for_r (fun j ρ => ρ = [.dat d x, .own (.dct (Tb.map gT)), .dat (.int ((i + 1 : Nat) : Int)) none, .dat (.int l) none, .dat (.int e) none, .un, .dat (.int s0) none, .dat (.int (upTo l s0 j : Nat)) none, .dat (.int ((l : Int) ^ (j + 1))) none, .un, .un]) (up_eq ?_) (fun j ρ3 hj hI => ?_) fun ρ3 hI => ?_
        · rw [show (l : Int) ^ (0 + 1) = l from Int.pow_one _]
          walk_at "le"
        · subst hI
          have hle' := upTo_le l s0 j
          have p1 : (1 : Int) ≤ (l : Int) ^ (j + 1) := by
            have : 1 ≤ l ^ (j + 1) := Nat.pow_pos (by omega)
            rw [← Int.natCast_pow]
            omega
          have p2 : (l : Int) ^ (j + 1) ≤ (l : Int) ^ e := by
            have : l ^ (j + 1) ≤ l ^ e := Nat.pow_le_pow_right (by omega) (by omega)
            rw [← Int.natCast_pow, ← Int.natCast_pow]
            omega
          have step : upTo l s0 (j + 1) = if upTo l s0 j = j ∧ ((l : Int) ^ (j + 1)) ∣ s0 then j + 1 else upTo l s0 j := rfl
          walk_at "dds"
          refine w_ifD (fun h1 => ?_) fun h1 => ?_
          · walk_at "dds"
            refine w_ifD (fun h2 => ?_) fun h2 => ?_
            · walk_at "dds"
              refine up_eq ?_
              rw [step, if_pos ⟨by omega, Int.dvd_of_emod_eq_zero h2⟩, show (0 : Int) + (j : Int) + 1 = ((j + 1 : Nat) : Int) by omega, Int.pow_succ (l : Int) (j + 1)]
              walk_at "le"
            · walk_at "dds"
              refine up_eq ?_
              rw [step, if_neg (fun z => h2 (Int.emod_eq_zero_of_dvd z.2)), Int.pow_succ (l : Int) (j + 1)]
              walk_at "le"
          · walk_at "dds"
            refine up_eq ?_
            rw [step, if_neg (fun z => h1 (by rw [z.1]; omega)), Int.pow_succ (l : Int) (j + 1)]
            walk_at "le"
        · subst hI
          have hle' := upTo_le l s0 e
          walk_at "dds"
          rw [getK_T]
          walk_at "dds"
          have em : (if (e : Int) - (upTo l s0 e : Int) > (getT Tb l : Int) then (e : Int) - (upTo l s0 e : Int) else (getT Tb l : Int)) = ((max (getT Tb l) (e - upTo l s0 e) : Nat) : Int) := by
            rw [Nat.max_def]
            split <;> split <;> omega
          rw [em]
          refine pute rfl key_i (by rw [List.length_map]; omega) ?_
          rw [setK_T]
          refine up_e1 (addT Tb l (e - upTo l s0 e)) (by walk_at "le") ⟨addT_good good hlp (by omega), ?_, fun m => ?_⟩
          · have : (addT Tb l (e - upTo l s0 e)).length ≤ Tb.length + 1 := by
              unfold addT setT
              split
              · rw [List.length_map]
                omega
              · simp
            omega
          · rw [addT_dvd good.nd, ← hen, and_assoc]
      · obtain ⟨Tb, rfl, good, hlen, hen⟩ := hI
        have hlen : Tb.length + 0 ≤ 1000 * i + 10 := hlen
        walk_at "dds"
        refine up_e1 Tb (by walk_at "le") ⟨good, by omega, fun m => ?_⟩
        rw [← hen]
        exact ⟨fun h => ⟨h, fun _ h => absurd h List.not_mem_nil⟩, fun h => h.1⟩
    · obtain ⟨Tb, rfl, good, hlen, hen⟩ := hI
      rw [← table_mul good hl hen] at q
      walk_at "dds"
      refine ds_lock (j := 1) rfl fun p ob es => ?_
      walk_at "dds"
      refine for_k (fun ks ρ => ∃ (r : List (Nat × Nat)) (fd : Nat), ρ = [.dat d x, .lk p ob es (Tb.map gT), .un, .un, .un, .un, .un, .un, .un, .un, .dat (.int fd) none] ∧ ks = r.map gT ∧ (∀ p ∈ r, p ∈ Tb) ∧ fd * powL r = powL Tb) (up_e2 Tb 1 (by walk_at "le") ⟨rfl, fun _ h => h, Nat.one_mul _⟩) (fun kv r ρ2 hkv hG => ?_) (fun ρ2 hG => ?_) (fun r ρ2 hG => ?_)
      · obtain ⟨r', fd, rfl, ek, hsub, hfd⟩ := hG
        cases r' with
        | nil => cases ek
        | cons pr r' =>
          obtain ⟨l, c⟩ := pr
          rw [List.map_cons] at ek
          injection ek with ek1 ek2
          subst ek1
          subst ek2
          have hm := hsub (l, c) List.mem_cons_self
          have hl2 := prs_small l (good.pr _ hm)
          have hc6 : c ≤ 6 := good.sm _ hm
          rw [powL_cons] at hfd
          show Dg F _ (.dat (.int (l : Int)) none) _ _
          walk_at "dds"
          refine gete (hsk_l rfl) key_i (getK_T2 good.nd hm) ?_
          walk_at "dds"
          refine for_r (fun j ρ => ρ = [.dat d x, .lk p ob es (Tb.map gT), .un, .dat (.int l) none, .un, .un, .un, .un, .un, .un, .dat (.int ((fd * l ^ j : Nat) : Int)) none]) (up_eq (by rw [Nat.pow_zero, Nat.mul_one]; walk_at "le")) (fun j ρ3 hj hI => ?_) fun ρ3 hI => ?_
          · subst hI
            walk_at "dds"
            refine up_eq ?_
            rw [Nat.pow_succ, ← Nat.mul_assoc, Int.natCast_mul (fd * l ^ j) l]
            walk_at "le"
          · subst hI
            walk_at "dds"
            exact up_e2 r' (fd * l ^ c) (by walk_at "le") ⟨rfl, fun p hp => hsub p (List.mem_cons_of_mem _ hp), by rw [Nat.mul_assoc]; exact hfd⟩
      · obtain ⟨r', fd, rfl, ek, hsub, hfd⟩ := hG
        have er : r' = [] := List.map_eq_nil_iff.mp ek.symm
        subst er
        have hfd : fd * 1 = powL Tb := hfd
        rw [Nat.mul_one] at hfd
        refine ⟨rfl, ?_⟩
        walk_at "dds"
        rw [hfd]
        exact retp hbx .d q
      · obtain ⟨r', fd, rfl, _⟩ := hG
        rfl
end

/-! ### what the law asks, in plain words of mulOf -/
theorem netT_iff {r : Nat → Int} {k : Nat} : netT r k = true ↔ netB r k := by
  unfold netT netB
  rw [List.all_eq_true]
  constructor
  · intro h n h1 h2 f hf
    have := h n (by rw [List.mem_range']; exact ⟨n - 1, by omega, by omega⟩)
    rw [List.all_eq_true] at this
    exact Int.dvd_of_emod_eq_zero (of_decide_eq_true (this f hf))
  · intro h n hn
    rw [List.mem_range'] at hn
    obtain ⟨i, hi, rfl⟩ := hn
    rw [List.all_eq_true]
    intro f hf
    exact decide_eq_true (Int.emod_eq_zero_of_dvd (h _ (by omega) (by omega) f hf))
theorem netT_mul {r : Nat → Int} {k d : Nat} (hk : k ≤ 60) : netT (fun n => (d : Int) * r n) k = true ↔ mulOf r k ∣ d := by
  rw [netT_iff, ← net_same _ hk, mulOf_dvd]
theorem netT_one {r : Nat → Int} {k : Nat} (hk : k ≤ 60) : netT r k = true ↔ mulOf r k = 1 := by
  have h := netT_mul (r := r) (d := 1) hk
  have e : (fun n => ((1 : Nat) : Int) * r n) = r := funext fun n => Int.one_mul _
  rw [e, Nat.dvd_one] at h
  exact h
theorem mulOf_congr {r s : Nat → Int} : ∀ {k : Nat}, (∀ n, 1 ≤ n → n ≤ k → r n = s n) → k ≤ 60 → mulOf r k = mulOf s k
  | 0, _, _ => rfl
  | k + 1, h, hk => by
    unfold mulOf
    have e : pp r (k + 1) = pp s (k + 1) := by
      rw [pp_divs, pp_divs]
      refine sumOn_congr fun d hd => ?_
      obtain ⟨hu, hdv⟩ := List.mem_filter.mp hd
      have hd1 := mem_upto.mp hu
      have hdn : d ≤ k + 1 := Nat.le_of_dvd (by omega) (Nat.dvd_of_mod_eq_zero (eq_of_beq hdv))
      rw [h d hd1.1 hdn]
    rw [mulOf_congr (fun n h1 h2 => h n h1 (by omega)) (by omega), e]
theorem netT_congr {r s : Nat → Int} {k : Nat} (h : ∀ n, 1 ≤ n → n ≤ k → r n = s n) (hk : k ≤ 60) : netT r k = netT s k := by
  have e := mulOf_congr h hk
  cases h1 : netT r k <;> cases h2 : netT s k <;> first | rfl | skip
  · have := (netT_one hk).mp h2
    rw [← e] at this
    rw [(netT_one hk).mpr this] at h1
    cases h1
  · have := (netT_one hk).mp h1
    rw [e] at this
    rw [(netT_one hk).mpr this] at h2
    cases h2
theorem mulOf_le (r : Nat → Int) : ∀ k, k ≤ 60 → mulOf r k ≤ 60 ^ k
  | 0, _ => Nat.le_refl _
  | k + 1, h => by
    unfold mulOf
    have h1 := mulOf_le r k (by omega)
    have h2 : (k + 1) / Nat.gcd (k + 1) (pp r (k + 1)).natAbs ≤ 60 := Nat.le_trans (Nat.div_le_self _ _) h
    have h3 : Nat.lcm (mulOf r k) ((k + 1) / Nat.gcd (k + 1) (pp r (k + 1)).natAbs) ≤ mulOf r k * ((k + 1) / Nat.gcd (k + 1) (pp r (k + 1)).natAbs) := by
      rw [Nat.lcm]
      exact Nat.div_le_self _ _
    rw [Nat.pow_succ]
    exact Nat.le_trans h3 (Nat.mul_le_mul h1 h2)
theorem mulOf_lt (r : Nat → Int) {k : Nat} (h : k ≤ 60) : mulOf r k < 2 ^ 400 := by
  have h1 := mulOf_le r k h
  have h2 : 60 ^ k ≤ 60 ^ 60 := Nat.pow_le_pow_right (by omega) h
  have h3 : (60 : Nat) ^ 60 < 2 ^ 400 := by decide +kernel
  omega
theorem at1_mulL (c : Int) (ns : List Int) (n : Nat) : at1 (ns.map fun x => c * x) n = c * at1 ns n := by
  unfold at1
  rw [List.getElem?_map]
  cases ns[n - 1]? with
  | none => simp
  | some z => rfl
theorem mulOf_times {r : Nat → Int} {k : Nat} (hk : k ≤ 60) (t : Int) : mulOf (fun n => t * r n) k = mulOf r k / Nat.gcd (mulOf r k) t.natAbs := by
  have key : ∀ d, mulOf (fun n => t * r n) k ∣ d ↔ mulOf r k / Nat.gcd (mulOf r k) t.natAbs ∣ d := fun d => by
    rw [lack_dvd (mulOf_pos r k), mulOf_dvd]
    have e : ((mulOf r k : Nat) : Int) ∣ (d : Int) * t ↔ mulOf r k ∣ d * t.natAbs := by
      rw [← Int.natCast_dvd_natCast, ← Int.dvd_natAbs (b := (d : Int) * t), Int.natAbs_mul, Int.natAbs_natCast]
    rw [e, mulOf_dvd]
    have sgn : t = (t.natAbs : Int) ∨ t = -(t.natAbs : Int) := by omega
    unfold netS
    refine forall_congr' fun n => forall_congr' fun h1 => forall_congr' fun h2 => ?_
    rw [pp_scale (d : Int), pp_scale t, pp_scale ((d * t.natAbs : Nat) : Int)]
    rcases sgn with h | h
    · rw [h]
      simp only [Int.natAbs_natCast, Int.natCast_mul, Int.mul_assoc]
    · have e2 : (d : Int) * (t * pp r n) = -(((d * t.natAbs : Nat) : Int) * pp r n) := by
        rw [Int.natCast_mul, Int.mul_assoc]
        generalize (t.natAbs : Int) = u at h ⊢
        rw [h, Int.neg_mul, Int.mul_neg]
      rw [e2, Int.dvd_neg]
  exact Nat.dvd_antisymm ((key _).mpr (Nat.dvd_refl _)) ((key _).mp (Nat.dvd_refl _))
theorem mulOf_pre {r : Nat → Int} : ∀ {j k : Nat}, j ≤ k → mulOf r j ∣ mulOf r k
  | j, 0, h => by
    have : j = 0 := by omega
    subst this
    exact Nat.dvd_refl _
  | j, k + 1, h => by
    by_cases e : j = k + 1
    · subst e
      exact Nat.dvd_refl _
    · refine Nat.dvd_trans (mulOf_pre (k := k) (by omega)) ?_
      exact Nat.dvd_lcm_left _ _
theorem mulOf_sum {r s : Nat → Int} {k : Nat} (hk : k ≤ 60) : mulOf (fun n => r n + s n) k ∣ Nat.lcm (mulOf r k) (mulOf s k) := by
  rw [mulOf_dvd]
  have h1 := (mulOf_dvd r (Nat.lcm (mulOf r k) (mulOf s k)) k).mp (Nat.dvd_lcm_left _ _)
  have h2 := (mulOf_dvd s (Nat.lcm (mulOf r k) (mulOf s k)) k).mp (Nat.dvd_lcm_right _ _)
  intro n n1 n2
  have e : (fun x => ((Nat.lcm (mulOf r k) (mulOf s k) : Nat) : Int) * (r x + s x)) = fun x => ((Nat.lcm (mulOf r k) (mulOf s k) : Nat) : Int) * r x + ((Nat.lcm (mulOf r k) (mulOf s k) : Nat) : Int) * s x := funext fun x => Int.mul_add _ _ _
  rw [e, pp_add]
  exact Int.dvd_add (h1 n n1 n2) (h2 n n1 n2)
theorem mulOf_prod {r s : Nat → Int} {k : Nat} (hk : k ≤ 60) : mulOf (fun n => r n * s n) k ∣ mulOf r k * mulOf s k := by
  rw [mulOf_dvd, net_same _ hk]
  have h1 := (net_same _ hk).mp ((mulOf_dvd r (mulOf r k) k).mp (Nat.dvd_refl _))
  have h2 := (net_same _ hk).mp ((mulOf_dvd s (mulOf s k) k).mp (Nat.dvd_refl _))
  intro n n1 n2 f hf
  have a := h1 n n1 n2 f hf
  have b := h2 n n1 n2 f hf
  generalize ((mulOf r k : Nat) : Int) = u at a
  have e : ((mulOf r k * mulOf s k : Nat) : Int) = (mulOf r k : Int) * (mulOf s k : Int) := Int.natCast_mul _ _
  rw [e]
  generalize ((mulOf s k : Nat) : Int) = v at b ⊢
  generalize hm : ((mulOf r k : Nat) : Int) = u' at *
  have a := h1 n n1 n2 f hf
  generalize n / f.1.toNat = n' at *
  have key : u' * v * (r n * s n) - u' * v * (r n' * s n') = (u' * r n - u' * r n') * (v * s n) + (v * s n - v * s n') * (u' * r n') := by
    rw [Int.sub_mul, Int.sub_mul]
    have e1 : u' * v * (r n * s n) = u' * r n * (v * s n) := by ac_rfl
    have e2 : u' * v * (r n' * s n') = v * s n' * (u' * r n') := by ac_rfl
    have e3 : u' * r n' * (v * s n) = v * s n * (u' * r n') := by ac_rfl
    rw [e1, e2, e3]
    omega
  rw [key]
  exact Int.dvd_add (Int.dvd_mul_of_dvd_left a) (Int.dvd_mul_of_dvd_left b)

/-! ### == of data without dicts -/
mutual
def D.py : D → PyData
  | .non => .none
  | .bl b => .bool b
  | .int i => .int i
  | .str s => .str s
  | .lst ds => .list (D.pyL ds)
  | .tup ds => .tuple (D.pyL ds)
  | .dct _ => .dict []
def D.pyL : List D → List PyData
  | [] => []
  | d :: ds => D.py d :: D.pyL ds
end
mutual
theorem Rep.dp {K : PySem.W.Frag} {H : Hp} : ∀ (d : D) {v : V}, d.py.canLay0 = true → Rep H d v → Dp K H v d.py
  | .non, v, _, h => by
    obtain rfl := Rep.un_non h
    rw [D.py]
    exact .non
  | .bl b, v, _, h => by
    obtain rfl := Rep.un_bl h
    rw [D.py]
    exact .bl b
  | .int i, v, _, h => by
    obtain rfl := Rep.un_int h
    rw [D.py]
    exact .int i
  | .str s, v, _, h => by
    obtain rfl := Rep.un_str h
    rw [D.py]
    exact .str s
  | .lst ds, v, c, h => by
    obtain ⟨a, xs, rfl, e, r⟩ := Rep.un_lst h
    rw [D.py] at c ⊢
    rw [PyData.canLay0] at c
    exact .lst (SqL.of e) (RepL.dp ds c r)
  | .tup ds, v, c, h => by
    obtain ⟨a, xs, rfl, e, r⟩ := Rep.un_tup h
    rw [D.py] at c ⊢
    rw [PyData.canLay0] at c
    exact .tup (SqT.of e) (RepL.dp ds c r)
  | .dct ks, v, c, h => by
    rw [D.py, PyData.canLay0] at c
    cases c
theorem RepL.dp {K : PySem.W.Frag} {H : Hp} : ∀ (ds : List D) {vs : List V}, PyData.canLayAll0 (D.pyL ds) = true → RepL H ds vs → DpAll K H vs (D.pyL ds)
  | [], vs, _, r => by
    have e : vs = [] := List.length_eq_zero_iff.mp r.len
    subst e
    rw [D.pyL]
    exact .nil
  | d :: ds, vs, c, r => by
    obtain ⟨v, w, rfl, h1, h2⟩ := RepL.un_cons r
    rw [D.pyL] at c ⊢
    rw [PyData.canLayAll0, Bool.and_eq_true] at c
    exact .cons (Rep.dp d c.1 h1) (RepL.dp ds c.2 h2)
end
theorem pyL_ints : ∀ ns : List Int, D.pyL (ns.map .int) = ns.map PyData.int
  | [] => by rw [List.map_nil, D.pyL, List.map_nil]
  | n :: ns => by rw [List.map_cons, D.pyL, D.py, pyL_ints ns, List.map_cons]
theorem eqvA_ints : ∀ ns ms : List Int, PyData.eqvAll (ns.map PyData.int) (ms.map PyData.int) = decide (ns = ms)
  | [], [] => by simp [PyData.eqvAll]
  | [], _ :: _ => by simp [PyData.eqvAll]
  | _ :: _, [] => by simp [PyData.eqvAll]
  | n :: ns, m :: ms => by
    rw [List.map_cons, List.map_cons, PyData.eqvAll, PyData.eqv, eqvA_ints ns ms]
    by_cases h1 : n = m <;> by_cases h2 : ns = ms <;> simp [h1, h2]
theorem layA_ints : ∀ ns : List Int, PyData.canLayAll0 (ns.map PyData.int) = true
  | [] => by rw [List.map_nil, PyData.canLayAll0]
  | n :: ns => by rw [List.map_cons, PyData.canLayAll0, PyData.canLay0, layA_ints ns]; rfl
theorem depthA_ints : ∀ ns : List Int, PyData.depthAll (ns.map PyData.int) = 0
  | [] => by rw [List.map_nil, PyData.depthAll]
  | n :: ns => by rw [List.map_cons, PyData.depthAll, PyData.depth, depthA_ints ns]; rfl
theorem shaped_ints (ns : List Int) : SeqAt.shaped (D.py (.lst (ns.map .int))) = true := by
  rw [D.py, pyL_ints]
  unfold SeqAt.shaped
  rw [PyData.canLay0, layA_ints, PyData.depth, depthA_ints]
  rfl
theorem eqv_ints (ns ms : List Int) : PyData.eqv (D.py (.lst (ns.map .int))) (D.py (.lst (ms.map .int))) = decide (ns = ms) := by
  rw [D.py, D.py, pyL_ints, pyL_ints, PyData.eqv, eqvA_ints]
section
variable {F : Fr} {ρ : List SV} {Q : SV → List SV → Prop} {E : L2.St → XK} {d e : D} {x y : Option V} {ns ms : List Int} {K : PySem.W.Frag}
theorem eq_dx (h1 : SeqAt.shaped d.py = true) (h2 : SeqAt.shaped e.py = true) (q : Q (.dat (.bl (PyData.eqv d.py e.py)) none) ρ) : R2d F (rEqU K) (.dat d x) (.dat e y) ρ Q := fun X M N σ H va vb ok oa ob Qh P =>
  eq_dd (Rep.dp d (SeqAt.canLay_of_shaped h1) (oa.1.mono ok.sub)) (Rep.dp e (SeqAt.canLay_of_shaped h2) (ob.1.mono ok.sub)) h1 h2 (P.sc ok Rep.bl q)
theorem ne_dx (h1 : SeqAt.shaped d.py = true) (h2 : SeqAt.shaped e.py = true) (q : Q (.dat (.bl (!PyData.eqv d.py e.py)) none) ρ) : R2d F (rNeU K) (.dat d x) (.dat e y) ρ Q := fun X M N σ H va vb ok oa ob Qh P =>
  ne_dd (Rep.dp d (SeqAt.canLay_of_shaped h1) (oa.1.mono ok.sub)) (Rep.dp e (SeqAt.canLay_of_shaped h2) (ob.1.mono ok.sub)) h1 h2 (P.sc ok Rep.bl q)
/-- lists of ints -/
theorem eq_il (q : Q (.dat (.bl (decide (ns = ms))) none) ρ) : R2d F (rEqU K) (.dat (.lst (ns.map .int)) x) (.dat (.lst (ms.map .int)) y) ρ Q :=
  eq_dx (shaped_ints ns) (shaped_ints ms) (by rw [eqv_ints]; exact q)
theorem ne_il (q : Q (.dat (.bl (!decide (ns = ms))) none) ρ) : R2d F (rNeU K) (.dat (.lst (ns.map .int)) x) (.dat (.lst (ms.map .int)) y) ρ Q :=
  ne_dx (shaped_ints ns) (shaped_ints ms) (by rw [eqv_ints]; exact q)
theorem same_i {i : Int} (q : Q (.dat (.bl true) none) ρ) : CallD F (spSame 13) E [.dat (.int i) x, .dat (.int i) y] ρ Q := same_d (by rw [D.deep_int]; omega) D.fit_int (by omega) q
theorem same_il (h : ns.length ≤ 1000) (q : Q (.dat (.bl true) none) ρ) : CallD F (spSame 13) E [.dat (.lst (ns.map .int)) x, .dat (.lst (ns.map .int)) y] ρ Q := same_d (by rw [deep_ints]; omega) (fit_ints h) (by omega) q
theorem same_i2 {i j : Int} (q : Q (.dat (.bl true) none) ρ) : CallD F (spSame 13) E [.dat (.lst [.int i, .int j]) x, .dat (.lst [.int i, .int j]) y] ρ Q := same_il (ns := [i, j]) (by show 2 ≤ 1000; omega) q
/-- by a written index -/
theorem ix_l0 {a : SV} {ds : List D} (ha : Hs ρ a (.lst (d :: ds))) (q : Q (.dat d none) ρ) : R2d F (rIx K) a (.dat (.int 0) y) ρ Q := ix_ld ha (atI_nat (j := 0) rfl) q
theorem ix_l1 {a : SV} {c : D} {ds : List D} (ha : Hs ρ a (.lst (c :: d :: ds))) (q : Q (.dat d none) ρ) : R2d F (rIx K) a (.dat (.int 1) y) ρ Q := ix_ld ha (atI_nat (j := 1) rfl) q
theorem ix_l2 {a : SV} {b c : D} {ds : List D} (ha : Hs ρ a (.lst (b :: c :: d :: ds))) (q : Q (.dat d none) ρ) : R2d F (rIx K) a (.dat (.int 2) y) ρ Q := ix_ld ha (atI_nat (j := 2) rfl) q
theorem ix_t0 {ds : List D} (q : Q (.dat d none) ρ) : R2d F (rIx K) (.dat (.tup (d :: ds)) x) (.dat (.int 0) y) ρ Q := ix_td (atI_nat (j := 0) rfl) q
theorem ix_t1 {c : D} {ds : List D} (q : Q (.dat d none) ρ) : R2d F (rIx K) (.dat (.tup (c :: d :: ds)) x) (.dat (.int 1) y) ρ Q := ix_td (atI_nat (j := 1) rfl) q
theorem ix_t2 {b c : D} {ds : List D} (q : Q (.dat d none) ρ) : R2d F (rIx K) (.dat (.tup (b :: c :: d :: ds)) x) (.dat (.int 2) y) ρ Q := ix_td (atI_nat (j := 2) rfl) q
end
local macro_rules | `(tactic| walk_at "dc") => `(tactic| (with_reducible refine' ix_l0 ?h ?_); (case h => first | exact has_d | exact has_o rfl))
local macro_rules | `(tactic| walk_at "dc") => `(tactic| (with_reducible refine ix_t0 ?_))
local macro_rules | `(tactic| walk_at "dc") => `(tactic| (with_reducible refine' ix_l1 ?h ?_); (case h => first | exact has_d | exact has_o rfl))
local macro_rules | `(tactic| walk_at "dc") => `(tactic| (with_reducible refine ix_t1 ?_))
local macro_rules | `(tactic| walk_at "dc") => `(tactic| (with_reducible refine' ix_l2 ?h ?_); (case h => first | exact has_d | exact has_o rfl))
local macro_rules | `(tactic| walk_at "dc") => `(tactic| (with_reducible refine ix_t2 ?_))
local macro_rules | `(tactic| walk_at "dc") => `(tactic| (with_reducible refine same_i ?_))
local macro_rules | `(tactic| walk_at "dc") => `(tactic| (with_reducible refine same_i2 ?_))
local macro_rules | `(tactic| walk_at "dc") => `(tactic| (with_reducible refine' same_il ?h ?_); (case h => omega))

/-! ### down to the heaps and up again -/
/-- nothing that is known is changed, but the box -/
theorem OkS.junk {F : Fr} {X : Hp} {ρ : List SV} {M : Hp} {N : Nat → Hp} {σ : L2.St} {H H' : Hp} {a : Addr} {B B' : Int} {j : Nat} (ok : OkS F X ρ M N σ H) (hj : ρ[j]? = some (.box a B)) (b : But a H H') (ib2 : IsBox H' a B') : ∃ N', OkS F X (ρ.set j (.box a B')) M N' σ H' := by
  obtain ⟨ej, ib⟩ := ok.slot j _ hj
  obtain ⟨g0, r0, c0, k0, e0, _⟩ := ib
  have hN := ok.apt j a _ e0
  obtain ⟨g, r, c, k, e1, z⟩ := ib2
  have xa : X a = none := by
    cases z : X a with
    | none => rfl
    | some o =>
      have := (ok.xapt a o z).2 j
      rw [e0] at this
      cases this
  have o2 := ok.put_un (i := j) (w := some (.ref a))
  have o3 := o2.chg (i := j) hN.1 xa (fun l hl => ok.dis j l a _ (fun z => hl z.symm) e0) hN.2 b e1 (fun s hs => by
    rcases set_get hs with ⟨_, rfl, _⟩ | ⟨z, _⟩
    · trivial
    · exact (z rfl).elim)
  have o4 := o3.view (i := j) (sv := .box a B') (fun hl => ⟨by
    rw [set_at]
    rw [set_len] at hl
    rw [ok.len]
    exact hl, by
    rw [reN_at]
    exact ⟨g, r, c, k, single_at, z⟩⟩)
  rw [List.set_set] at o4
  have es : List.set σ j (some (.ref a)) = σ := by
    have hl : j < σ.length := (List.getElem?_eq_some_iff.mp ej).1
    rw [List.getElem?_eq_some_iff] at ej
    obtain ⟨_, ej⟩ := ej
    rw [← ej]
    exact List.set_getElem_self hl
  rw [es] at o4
  exact ⟨_, o4⟩
theorem len_cons {α : Type} {σ : List α} {n : Nat} (h : σ.length = n + 1) : ∃ a r, σ = a :: r ∧ r.length = n := by
  cases σ with
  | nil => cases h
  | cons a r => exact ⟨a, r, rfl, Nat.succ.inj h⟩
/-- a promise that only raises, with one field: the value itself -/
theorem spOf_raise {dsp : DSp} {H : Hp} {v : V} {d : D} {C : Addr} {f : Str} {Q : VK} {E : XK} (hd : Rep H d v) (h : dsp [.dat d (some v)] (fun _ _ => False) (fun C' fs svs => C' = C ∧ fs = [f] ∧ svs = [.dat d (some v)])) (q : ∀ p H', H p = none → Same H H' → H' p = some (.xd [(f, v)]) → E (.ref C) (some p) H') : spOf dsp [v] H Q E := by
  refine ⟨H, none, [.dat d (some v)], _, _, Same.refl _, .inl ⟨rfl, .cons ⟨hd, fun u e => by cases e; rfl⟩ .nil⟩, h, fun _ _ _ _ z => z.elim, fun C' fs svs p vs' H' hE fb n hp prs => ?_, fun C' H' hE fb => ?_⟩
  · obtain ⟨rfl, rfl, rfl⟩ := hE
    obtain ⟨w, rfl, ow⟩ := pair1 prs
    have e : w = v := ow.2 v rfl
    subst e
    exact q p H' n (fun q o => fb q o (by intro z; cases z)) hp
  · obtain ⟨_, z, _⟩ := hE
    cases z
section
variable {F : Fr} {ρ : List SV} {Q : SV → List SV → Prop} {s : Str} {i : Int}
theorem d_disp_i (q : Q (.fr (.dct [(.inr s, .int i)])) ρ) : De F (tDisp [(tC (.str s), tC (.int i))]) ρ Q := fun X M N σ H ok Qh P =>
  disp1 fun p H' n s e => P.nd ok n s e (RepK.cons Rep.int RepK.nil) q
end
local macro_rules | `(tactic| walk_at "dc") => `(tactic| (with_reducible refine d_disp_i ?_))

/-! ### calls, ready for the walker -/
abbrev LI (ns : List Int) : D := .lst (ns.map .int)
section
variable {F : Fr} {ρ : List SV} {Q : SV → List SV → Prop} {E : L2.St → XK} {d : D} {x : Option V} {ns : List Int} {C : Addr} {Qd : SV → Int → Prop} {Ed : Addr → List Str → List SV → Prop}
theorem u_mult (h : d.rowOf ns) (h1 : 1 ≤ ns.length) (h2 : ns.length ≤ 60) (q : Qd (.dat (.int (mulOf (at1 ns) ns.length : Nat)) none) 0) : dsMult C [.dat d x] Qd Ed := ⟨d, x, rfl, D.fit_row h (by omega), .inr ⟨ns, h, h1, h2, q⟩⟩
theorem u_multl (h : d.rowOf ns) (h2 : ns.length ≤ 60) (q : Qd (.dat (.int (mulOf (at1 ns) ns.length : Nat)) none) 0) : dsMultL [.dat d x] Qd Ed := ⟨d, x, ns, rfl, h, h2, q⟩
theorem u_nett (h : d.rowOf ns) (h2 : ns.length ≤ 60) (q : Qd (.dat (.bl (netT (at1 ns) ns.length)) none) 0) : dsNetT [.dat d x] Qd Ed := ⟨d, x, ns, rfl, h, h2, q⟩
end
/-- both ways give v and leave ρ1 -/
theorem if_VS {F : Fr} {ρ : List SV} {Q : SV → List SV → Prop} {ta tb : TE} {b : Bool} (v : SV) (ρ1 : List SV) (h1 : De F ta ρ fun sv ρ' => sv = v ∧ ρ' = ρ1) (h2 : De F tb ρ fun sv ρ' => sv = v ∧ ρ' = ρ1) (q : Q v ρ1) : if b = true then De F ta ρ Q else De F tb ρ Q :=
  if_J (fun sv ρ' => sv = v ∧ ρ' = ρ1) h1 h2 fun sv ρ' ⟨e1, e2⟩ => by rw [e1, e2]; exact q
theorem at1_take (ns : List Int) {k n : Nat} (h : n ≤ k) (h1 : 1 ≤ n) : at1 (ns.take k) n = at1 ns n := by
  unfold at1
  rw [List.getElem?_take, if_pos (by omega)]

theorem w_tail {c A B : Prop} [Decidable c] (hB : B) (hA : c → B → A) : if decide c = true then A else B := w_ifD (fun h => hA h hB) fun _ => hB
theorem times_ok {due : Nat} (h : due < 2 ^ 400) : ∀ z ∈ ([0, 1, 2, 6, 30, -4, (due : Int), (due : Int) + 1, 49] : List Int), z.natAbs < 2 ^ 401 := by
  intro z hz
  simp only [List.mem_cons, List.not_mem_nil, or_false] at hz
  omega
def dsOne : DSp := fun as Q _ => ∃ (a : Addr) (B : Int) (ns : List Int) (x : Option V) (nm : Bool) (y : Option V), as = [.box a B, .dat (LI ns) x, .dat (.bl nm) y] ∧ B < 90000000 ∧ 1 ≤ ns.length ∧ ns.length ≤ 60 ∧ (∀ z ∈ ns, z.natAbs < 2 ^ 250) ∧ Q (.dat (.bl true) none) (B + 2)
section
variable {P : Program} {w : World} {K : PySem.W.Frag} {mg : Str → Option Value} {base : Heap} {A : Ad}
theorem d_one_right (T : Txt K mg A) : Df P w K mg base 14 "_law_one_right" s_one_right ["box", "row", "named"] (spOf dsOne) := by
  refine mk_dd T.h_one_right sc_one_right (fun _ _ _ _ _ _ us hl => match us, hl with | [_, _, _], _ => rfl) (fun as Q E h => ?_) fun f cdv A' outer s H E0 F as Q E hr h hbx hW => ?_
  · obtain ⟨a, B, ns, x, nm, y, rfl, _⟩ := h
    rfl
  · obtain ⟨a, B, ns, x, nm, y, rfl, hB, n1, n60, hb, q⟩ := h
    have hu : (A'.deeper (envOfC "_law_one_right" (defScope s_one_right) s.heap.objs.size f cdv)).units + 64 < cLine := hr.units
    refine ⟨_, (pss_cons (ps_asg (pe_tup (pa_cons (pcall (d_l_multiple T) hr takesX (pa_cons (pv 1) pa_nil)) (pa_cons (pe_callTy (c_listK K) (by rfl) T.b_list (by decide +kernel) (pa_cons (pv 1) pa_nil)) pa_nil))) (pg_tupK K (n := 2) (pgs_cons (pg_name (i := 3) sc_one_right.nd rfl (Or.inr rfl)) (pgs_cons (pg_name (i := 4) sc_one_right.nd rfl (Or.inl rfl)) pgs_nil))))
  (pss_cons (ps_set (i := 5) sc_one_right.nd rfl (Or.inl rfl) (pe_lst (pa_cons (pe_ifExp (pt_val (pv 2)) (pkw0 (d_multiple T) hr kw_multiple_0_row takesX (pk_cons (pv 1) pk_nil)) (pcall (d_multiple T) hr takesX (pa_cons (pv 1) pa_nil))) (pa_cons (pcall (d_multiple T) hr takesX (pa_cons (pe_callTy (c_tupleK K) (by rfl) T.b_tuple (by decide +kernel) (pa_cons (pv 1) pa_nil)) pa_nil)) pa_nil))))
  (pss_cons (ps_if (PW.pt (pw_or (pt_not (pt_val (pcall (d_same T) hr takesX (pa_cons (pv 5) (pa_cons (pe_lst (pa_cons (pv 3) (pa_cons (pv 3) pa_nil))) pa_nil))))) (pw_or (pt_not (pt_val (pcall (d_same T) hr takesX (pa_cons (pv 1) (pa_cons (pv 4) pa_nil))))) (pw_or1 (pt_cmpR (o_neK K hu) (pe_cmpR (o_eqK K hu) (pv 3) pe_int (nomark _)) (pcall (d_is_net T) hr takesX (pa_cons (pv 1) pa_nil)) (nomark _))))))
  (pss_one (ps_ret pe_bl)) pss_nil)
  (pss_cons (ps_if (PW.pt (pw_or (pt_not (pt_val (pcall (d_is_net T) hr takesX (pa_cons (pe_lc (own := [("term", 11)]) (by rfl) sc_one_right.nd (pi_listK K (pv 1)) (blkOk_by (own := [("term", 11)]) (N := ["box", "row", "named", "due", "kept", "told", "l", "times", "more", "size", "short", "term"]) (sc := defScope s_one_right) (by decide +kernel)) (fun _ _ _ _ _ => (pg_name (i := 11) sc_one_right.nd rfl (Or.inl rfl))) (fun _ _ _ _ _ => pts_nil) (fun _ _ _ _ _ => (pe_op (o_mulK K) (pv 3) (pv 11)))) pa_nil)))) (pw_or1 (pt_not (pt_val (pcall (d_is_net T) hr takesX (pa_cons (pe_lc (own := [("term", 11)]) (by rfl) sc_one_right.nd (pi_listK K (pv 1)) (blkOk_by (own := [("term", 11)]) (N := ["box", "row", "named", "due", "kept", "told", "l", "times", "more", "size", "short", "term"]) (sc := defScope s_one_right) (by decide +kernel)) (fun _ _ _ _ _ => (pg_name (i := 11) sc_one_right.nd rfl (Or.inl rfl))) (fun _ _ _ _ _ => pts_nil) (fun _ _ _ _ _ => (pe_op (o_mulK K) (pe_op (o_mulK K) (pv 3) pe_int) (pv 11)))) pa_nil)))))))
  (pss_one (ps_ret pe_bl)) pss_nil)
  (pss_cons (ps_for PassesOwn.leaving rfl (pi_tupK K (pe_tup (pa_cons pe_int (pa_cons pe_int (pa_cons pe_int (pa_cons pe_int (pa_cons pe_int (pa_cons pe_int (pa_cons pe_int (pa_cons pe_int (pa_cons pe_int (pa_cons pe_int (pa_cons pe_int (pa_cons pe_int (pa_cons pe_int (pa_cons pe_int (pa_cons pe_int (pa_cons pe_int (pa_cons pe_int pa_nil))))))))))))))))))) (pg_name (i := 6) sc_one_right.nd rfl (Or.inr rfl))
  (pss_one (ps_if (PW.pt (pw_and (pt_cmpR (o_eqK K hu) (pe_op o_mod (pe_callTy c_int (by rfl) T.b_int (by decide +kernel) (pa_cons (pv 3) pa_nil)) (pv 6)) pe_int (nomark _)) (pw_and1 (pt_val (pcall (d_is_net T) hr takesX (pa_cons (pe_lc (own := [("term", 11)]) (by rfl) sc_one_right.nd (pi_listK K (pv 1)) (blkOk_by (own := [("term", 11)]) (N := ["box", "row", "named", "due", "kept", "told", "l", "times", "more", "size", "short", "term"]) (sc := defScope s_one_right) (by decide +kernel)) (fun _ _ _ _ _ => (pg_name (i := 11) sc_one_right.nd rfl (Or.inl rfl))) (fun _ _ _ _ _ => pts_nil) (fun _ _ _ _ _ => (pe_op (o_mulK K) (pe_op o_fdiv (pv 3) (pv 6)) (pv 11)))) pa_nil))))))
  (pss_one (ps_ret pe_bl)) pss_nil)))
  (pss_cons (ps_set (i := 7) sc_one_right.nd rfl (Or.inr rfl) (pe_ix (ix_seqK K) (pe_lst (pa_cons pe_int (pa_cons pe_int (pa_cons pe_int (pa_cons pe_int (pa_cons pe_int (pa_cons (pe_un un_neg pe_int) (pa_cons (pv 3) (pa_cons (pe_op (o_addK K) (pv 3) pe_int) (pa_cons pe_int pa_nil)))))))))) (pcall (d_take T) hr takesX (pa_cons (pv 0) (pa_cons pe_int pa_nil))) (fun _ _ => rfl)))
  (pss_cons (ps_setLc (i := 8) (own := [("term", 11)]) (by rfl) sc_one_right.nd rfl rfl (sw_true rfl rfl rfl (by decide +kernel)) (pi_listK K (pv 1)) (blkOk_by (own := [("term", 11)]) (N := ["box", "row", "named", "due", "kept", "told", "l", "times", "more", "size", "short", "term"]) (sc := defScope s_one_right) (by decide +kernel)) (fun _ _ _ _ _ => (pg_name (i := 11) sc_one_right.nd rfl (Or.inl rfl))) (fun _ _ _ _ _ => pts_nil) (fun _ _ _ _ _ => (pe_op (o_mulK K) (pv 7) (pv 11))))
  (pss_cons (ps_if (pt_cmpR (o_eqK K hu) (pe_lc (own := [("term", 11)]) (by rfl) sc_one_right.nd (pi_listK K (pv 8)) (blkOk_by (own := [("term", 11)]) (N := ["box", "row", "named", "due", "kept", "told", "l", "times", "more", "size", "short", "term"]) (sc := defScope s_one_right) (by decide +kernel)) (fun _ _ _ _ _ => (pg_name (i := 11) sc_one_right.nd rfl (Or.inl rfl))) (fun _ _ _ _ _ => (pts_one (pt_cmpR o_ge (pe_callB c_abs (by rfl) T.b_abs (by decide +kernel) (pa_cons (pv 11) pa_nil)) (pe_op o_pow pe_int pe_int) (nomark _)))) (fun _ _ _ _ _ => (pv 11))) (pe_lst pa_nil) (nomark _))
  (pss_one (ps_if (pt_not (pt_val (pcall (d_same T) hr takesX (pa_cons (pe_ifExp (pt_val (pv 2)) (pkw0 (d_multiple T) hr kw_multiple_0_row takesX (pk_cons (pv 8) pk_nil)) (pcall (d_multiple T) hr takesX (pa_cons (pv 8) pa_nil))) (pa_cons (pe_op o_fdiv (pv 3) (pcall (d_gcd T) hr takesX (pa_cons (pv 3) (pa_cons (pv 7) pa_nil)))) pa_nil)))))
  (pss_one (ps_ret pe_bl)) pss_nil)) pss_nil)
  (pss_cons (ps_set (i := 9) sc_one_right.nd rfl (Or.inl rfl) (pe_op (o_addK K) pe_int (pcall (d_take T) hr takesX (pa_cons (pv 0) (pa_cons (pe_callB (c_lenK K) (by rfl) T.b_len PySem.boot_len (pa_cons (pv 1) pa_nil)) pa_nil)))))
  (pss_cons (ps_set (i := 10) sc_one_right.nd rfl (Or.inl rfl) (pe_ifExp (pt_val (pv 2)) (pcall (d_multiple T) hr takesX (pa_cons (pe_slice (s_anyK K) (pv 1) po_none (po_some (pv 9))) pa_nil)) (pkw0 (d_multiple T) hr kw_multiple_0_row takesX (pk_cons (pe_slice (s_anyK K) (pv 1) po_none (po_some (pv 9))) pk_nil))))
  (pss_one (ps_ret (pe_and (pcall (d_same T) hr takesX (pa_cons (pv 10) (pa_cons (pcall (d_l_multiple T) hr takesX (pa_cons (pe_slice (s_anyK K) (pv 1) po_none (po_some (pv 9))) pa_nil)) pa_nil))) (pe_one (pe_cmpR (o_eqK K hu) (pe_op o_mod (pe_callTy c_int (by rfl) T.b_int (by decide +kernel) (pa_cons (pv 3) pa_nil)) (pv 10)) pe_int (nomark _)))))))))))))))), ?_⟩
    have hrow : D.rowOf ns (LI ns) := .inl rfl
    have hrowT : D.rowOf ns (.tup (ns.map .int)) := .inr rfl
    have hdue := mulOf_lt (at1 ns) n60
    have hpos := mulOf_pos (at1 ns) ns.length
    generalize hm : mulOf (at1 ns) ns.length = due at hdue hpos
    walk_at "dds"
    refine u_multl hrow n60 ?_
    rw [hm]
    walk_at "dds"
    refine if_V (.dat (.int due) none) ?_ ?_ ?_
    · walk_at "dds"
      refine u_mult hrow n1 n60 ?_
      rw [hm]
      exact ⟨rfl, rfl⟩
    · walk_at "dds"
      refine u_mult hrow n1 n60 ?_
      rw [hm]
      exact ⟨rfl, rfl⟩
    walk_at "dds"
    refine u_mult hrowT n1 n60 ?_
    rw [hm]
    walk_at "dds"
    walk_at "dds"
    refine u_nett hrow n60 ?_
    walk_at "dds"
    have e1 : decide (((due : Nat) : Int) = 1) = netT (at1 ns) ns.length := by
      have h := netT_one (r := at1 ns) n60
      rw [hm] at h
      cases hn : netT (at1 ns) ns.length
      · exact decide_eq_false (fun z => by rw [h.mpr (by omega)] at hn; cases hn)
      · exact decide_eq_true (by have := h.mp hn; omega)
    rw [e1, decide_eq_true rfl]
    have net : ∀ c : Nat, due ∣ c → netT (at1 (ns.map fun z => (c : Int) * z)) (ns.map fun z => (c : Int) * z).length = true := fun c hc => by
      rw [List.length_map, netT_congr (fun n _ _ => at1_mulL (c : Int) ns n) n60]
      exact (netT_mul n60).mpr (by rw [hm]; exact hc)
    have rowM : ∀ c : Int, D.rowOf (ns.map fun z => c * z) (LI (ns.map fun z => c * z)) := fun c => .inl rfl
    walk_at "dds"
    refine lcM_l (lc_map (fun z => .int (((due : Nat) : Int) * z)) (by omega) (fun z hz => ?_) ?_)
    · walk_at "dds"
      refine ⟨rfl, ?_⟩
      walk_at "dds"
      refine ml_iw (wide_mul (a := 400) (b := 250) (by omega) (hb z hz) (by decide) (by decide) (by decide)) ?_
      walk_at "dds"
      exact ⟨rfl, Le.refl⟩
    have em : ∀ c : Int, (ns.map fun z => D.int (c * z)) = (ns.map fun z => c * z).map D.int := fun c => by rw [List.map_map]; rfl
    rw [em]
    walk_at "dds"
    refine u_nett (rowM _) (by rw [List.length_map]; exact n60) ?_
    rw [net due (Nat.dvd_refl _)]
    walk_at "dds"
    refine lcM_l (lc_map (fun z => .int ((due : Int) * 6 * z)) (by omega) (fun z hz => ?_) ?_)
    · walk_at "dds"
      refine ⟨rfl, ?_⟩
      walk_at "dds"
      refine ml_iw (wide_mul (a := 403) (b := 250) (by omega) (hb z hz) (by decide) (by decide) (by decide)) ?_
      walk_at "dds"
      exact ⟨rfl, Le.refl⟩
    rw [em, show (due : Int) * 6 = ((due * 6 : Nat) : Int) by omega]
    walk_at "dds"
    refine u_nett (rowM _) (by rw [List.length_map]; exact n60) ?_
    rw [net (due * 6) ⟨6, rfl⟩]
    walk_at "dds"
    have e17 : ([.int 2, .int 3, .int 5, .int 7, .int 11, .int 13, .int 17, .int 19, .int 23, .int 29, .int 31, .int 37, .int 41, .int 43, .int 47, .int 53, .int 59] : List D) = prs.map fun (l : Nat) => D.int (l : Int) := rfl
    rw [e17]
    refine forM_l (forR (fun ls ρ => ρ = [.box a B, .dat (LI ns) x, .dat (.bl nm) y, .dat (.int due) none, .dat (LI ns) none, .dat (.lst [.int due, .int due]) none, .un, .un, .un, .un, .un, .un]) (up_eq (by walk_at "le")) (fun l r ρ2 hl hI => ?_) fun ρ2 hI => ?_)
    · subst hI
      have hl2 := prs_small l hl
      walk_at "dds"
      refine w_ifD (fun h0 => ?_) fun h0 => ?_
      · walk_at "dds"
        have hc : (due : Int) / l = ((due / l : Nat) : Int) := by rw [Int.natCast_ediv]
        have hlt : due / l < due := Nat.div_lt_self hpos (by omega)
        have h1 : 1 ≤ due / l := by
          have := Int.emod_emod_of_dvd due (Int.dvd_refl l)
          have hd : l ∣ due := Int.natCast_dvd_natCast.mp (Int.dvd_of_emod_eq_zero h0)
          exact (Nat.one_le_div_iff (by omega)).mpr (Nat.le_of_dvd hpos hd)
        refine lcM_l (lc_map (fun z => .int (((due / l : Nat) : Int) * z)) (by omega) (fun z hz => ?_) ?_)
        · walk_at "dds"
          refine ⟨rfl, ?_⟩
          walk_at "dds"
          rw [hc]
          refine ml_iw (wide_mul (a := 400) (b := 250) (by omega) (hb z hz) (by decide) (by decide) (by decide)) ?_
          walk_at "dds"
          exact ⟨rfl, Le.refl⟩
        rw [em]
        walk_at "dds"
        refine u_nett (rowM _) (by rw [List.length_map]; exact n60) ?_
        have no : netT (at1 (ns.map fun z => ((due / l : Nat) : Int) * z)) (ns.map fun z => ((due / l : Nat) : Int) * z).length = false := by
          rw [List.length_map, netT_congr (fun n _ _ => at1_mulL ((due / l : Nat) : Int) ns n) n60]
          cases hn : netT (fun n => ((due / l : Nat) : Int) * at1 ns n) ns.length with
          | false => rfl
          | true =>
            have := Nat.le_of_dvd (by omega) ((netT_mul n60).mp hn)
            rw [hm] at this
            omega
        rw [no]
        walk_at "dds"
        exact up_eq (by walk_at "le")
      · walk_at "dds"
        exact up_eq (by walk_at "le")
    subst hI
    walk_at "dds"
    intro t t0 t1
    walk_at "dds"
    have e9 : ([.int 0, .int 1, .int 2, .int 6, .int 30, .int (-4), .int due, .int ((due : Int) + 1), .int 49] : List D) = ([0, 1, 2, 6, 30, -4, (due : Int), (due : Int) + 1, 49] : List Int).map .int := rfl
    rw [e9]
    have tb := pickI (p := fun z => z.natAbs < 2 ^ 401) (times_ok hdue) (k := t.toNat) (by show t.toNat < 9; omega)
    have hlt : t < (([0, 1, 2, 6, 30, -4, (due : Int), (due : Int) + 1, 49] : List Int).length : Nat) := by show t < 9; omega
    walk_at "dds"
    generalize ([0, 1, 2, 6, 30, -4, (due : Int), (due : Int) + 1, 49] : List Int).getD t.toNat 0 = tm at tb ⊢
    walk_at "dds"
    refine lcM_l (lc_map (fun z => .int (tm * z)) (by omega) (fun z hz => ?_) ?_)
    · walk_at "dds"
      refine ⟨rfl, ?_⟩
      walk_at "dds"
      refine ml_iw (wide_mul (a := 401) (b := 250) tb (hb z hz) (by decide) (by decide) (by decide)) ?_
      walk_at "dds"
      exact ⟨rfl, Le.refl⟩
    rw [em]
    walk_at "dds"
    refine lcM_l (lc_fil (fun z => decide ((10 : Int) ^ 60 ≤ if z < 0 then -z else z)) (fun z => .int z) (by rw [List.length_map]; omega) (fun z hz => ?_) ?_)
    · walk_at "dds"
      refine ⟨rfl, ?_⟩
      refine w_ifD (fun _ => ?_) fun _ => ?_
      · walk_at "dds"
        exact ⟨rfl, Le.refl⟩
      · exact Le.refl
    walk_at "dds"
    refine eq_il (ms := []) ?_
    walk_at "dds"
    have key : mulOf (at1 (ns.map fun z => tm * z)) (ns.map fun z => tm * z).length = due / Nat.gcd due tm.natAbs := by
      rw [List.length_map, mulOf_congr (fun n _ _ => at1_mulL tm ns n) n60, mulOf_times n60, hm]
    have ml : (ns.map fun z => tm * z).length = ns.length := by rw [List.length_map]
    refine w_tail ?_ fun _ tl => ?_
    · walk_at "dds"
      intro u u0 u1
      walk_at "dds"
      have ec : cutL (ns.map D.int) none (some (1 + u)) = (ns.take (u.toNat + 1)).map D.int := by
        rw [cutL_pre _ (by omega), show (1 + u).toNat = u.toNat + 1 by omega, List.map_take]
      have lt : (ns.take (u.toNat + 1)).length = u.toNat + 1 := by
        rw [List.length_take]
        omega
      have pre : mulOf (at1 (ns.take (u.toNat + 1))) (ns.take (u.toNat + 1)).length = mulOf (at1 ns) (u.toNat + 1) := by
        rw [lt]
        exact mulOf_congr (fun n h1 h2 => at1_take ns h2 h1) (by omega)
      refine if_V (.dat (.int (mulOf (at1 ns) (u.toNat + 1) : Nat)) none) ?_ ?_ ?_
      · walk_at "dds"
        rw [ec]
        refine u_mult (.inl rfl) (by omega) (by omega) ?_
        rw [pre]
        exact ⟨rfl, rfl⟩
      · walk_at "dds"
        rw [ec]
        refine u_mult (.inl rfl) (by omega) (by omega) ?_
        rw [pre]
        exact ⟨rfl, rfl⟩
      walk_at "dds"
      rw [ec]
      refine u_multl (.inl rfl) (by omega) ?_
      rw [pre]
      have dv : mulOf (at1 ns) (u.toNat + 1) ∣ due := by
        rw [← hm]
        exact mulOf_pre (by omega)
      have p0 := mulOf_pos (at1 ns) (u.toNat + 1)
      walk_at "dds"
      rw [decide_eq_true (Int.emod_eq_zero_of_dvd (Int.natCast_dvd_natCast.mpr dv))]
      walk_at "dds"
      exact retb hbx rfl (by omega) .d q
    · walk_at "dds"
      refine if_V (.dat (.int (due / Nat.gcd due tm.natAbs : Nat)) none) ?_ ?_ ?_
      · walk_at "dds"
        refine u_mult (rowM _) (by omega) (by omega) ?_
        rw [key]
        exact ⟨rfl, rfl⟩
      · walk_at "dds"
        refine u_mult (rowM _) (by omega) (by omega) ?_
        rw [key]
        exact ⟨rfl, rfl⟩
      walk_at "dds"
      refine ⟨due, tm, none, none, rfl, by omega, ?_⟩
      rw [Int.natAbs_natCast]
      have g0 : 0 < Nat.gcd due tm.natAbs := Nat.gcd_pos_of_pos_left _ hpos
      have g1 : Nat.gcd due tm.natAbs ≤ due := Nat.gcd_le_left _ hpos
      walk_at "dds"
      refine dv_ii (wide_div (b := 400) (by omega) (by omega) (by decide) (by decide)) ?_
      rw [← Int.natCast_ediv]
      exact fz_dat (da_nil (fzs_d (fzs_d (fzs_n (same_i (fz_dat (isB (w_ifNF tl))))))))

end

theorem zipL_len {f : Int → Int → Int} {a b : List Int} : (zipL f a b).length = min a.length b.length := by simp [zipL]
theorem at1_zip {f : Int → Int → Int} {a b : List Int} {n : Nat} (h : n ≤ min a.length b.length) (h1 : 1 ≤ n) : at1 (zipL f a b) n = f (at1 a n) (at1 b n) := by
  unfold at1 zipL
  have h2 : n - 1 < a.length := by omega
  have h3 : n - 1 < b.length := by omega
  have h4 : n - 1 < (a.zip b).length := by
    rw [List.length_zip]
    omega
  rw [List.getElem?_map, List.getElem?_eq_getElem h4, List.getElem?_eq_getElem h2, List.getElem?_eq_getElem h3, List.getElem_zip]
  rfl
theorem range_zip {f : Int → Int → Int} {a b : List Int} : ((List.range (min a.length b.length)).map fun k => f (a.getD k 0) (b.getD k 0)) = zipL f a b := by
  refine List.ext_getElem (by rw [zipL_len]; simp) fun i h1 h2 => ?_
  rw [zipL_len] at h2
  have h3 : i < a.length := by omega
  have h4 : i < b.length := by omega
  simp [zipL, h3, h4]
def dsPair : DSp := fun as Q _ => ∃ (a b : List Int) (x y : Option V) (nm : Bool) (z : Option V), as = [.dat (LI a) x, .dat (LI b) y, .dat (.bl nm) z] ∧ 1 ≤ a.length ∧ a.length ≤ 60 ∧ 1 ≤ b.length ∧ b.length ≤ 60 ∧ (∀ z ∈ a, z.natAbs < 2 ^ 250) ∧ (∀ z ∈ b, z.natAbs < 2 ^ 250) ∧ Q (.dat (.bl true) none) 0
section
variable {P : Program} {w : World} {K : PySem.W.Frag} {mg : Str → Option Value} {base : Heap} {A : Ad}
theorem d_pair_right (T : Txt K mg A) : Df P w K mg base 14 "_law_pair_right" s_pair_right ["one", "other", "named"] (spOf dsPair) := by
  refine mk_dd T.h_pair_right sc_pair_right (fun _ _ _ _ _ _ us hl => match us, hl with | [_, _, _], _ => rfl) (fun as Q E h => ?_) fun f cdv A' outer s H E0 F as Q E hr h hbx hW => ?_
  · obtain ⟨a, b, x, y, nm, z, rfl, _⟩ := h
    rfl
  · obtain ⟨a, b, x, y, nm, z, rfl, a1, a60, b1, b60, ha, hb, q⟩ := h
    have hu : (A'.deeper (envOfC "_law_pair_right" (defScope s_pair_right) s.heap.objs.size f cdv)).units + 64 < cLine := hr.units
    refine ⟨_, (pss_cons (ps_set (i := 3) sc_pair_right.nd rfl (Or.inl rfl) (pe_callB (c_min2 rfl) (by rfl) T.b_min (by decide +kernel) (pa_cons (pe_callB (c_lenK K) (by rfl) T.b_len PySem.boot_len (pa_cons (pv 0) pa_nil)) (pa_cons (pe_callB (c_lenK K) (by rfl) T.b_len PySem.boot_len (pa_cons (pv 1) pa_nil)) pa_nil))))
  (pss_cons (ps_set (i := 4) sc_pair_right.nd rfl (Or.inl rfl) (pe_lst (pa_cons (pcall (d_l_multiple T) hr takesX (pa_cons (pe_slice (s_anyK K) (pv 0) po_none (po_some (pv 3))) pa_nil)) (pa_cons (pcall (d_l_multiple T) hr takesX (pa_cons (pe_slice (s_anyK K) (pv 1) po_none (po_some (pv 3))) pa_nil)) pa_nil))))
  (pss_cons (ps_set (i := 5) sc_pair_right.nd rfl (Or.inl rfl) (pe_op o_fdiv (pe_op (o_mulK K) (pe_ix (ix_seqK K) (pv 4) pe_int (fun _ _ => rfl)) (pe_ix (ix_seqK K) (pv 4) pe_int (fun _ _ => rfl))) (pcall (d_gcd T) hr takesX (pa_cons (pe_ix (ix_seqK K) (pv 4) pe_int (fun _ _ => rfl)) (pa_cons (pe_ix (ix_seqK K) (pv 4) pe_int (fun _ _ => rfl)) pa_nil)))))
  (pss_cons (ps_par (i := 6) (j := 7) (by rfl) sc_pair_right.nd rfl rfl (by decide) rfl rfl (pa_cons (pcall (d_sum_of T) hr takesX (pa_cons (pv 0) (pa_cons (pv 1) pa_nil))) (pa_cons (pcall (d_product_of T) hr takesX (pa_cons (pv 0) (pa_cons (pv 1) pa_nil))) pa_nil)) (by rfl))
  (pss_cons (ps_set (i := 8) sc_pair_right.nd rfl (Or.inl rfl) (pe_lst (pa_cons (pe_ifExp (pt_val (pv 2)) (pkw0 (d_multiple T) hr kw_multiple_0_row takesX (pk_cons (pv 6) pk_nil)) (pcall (d_multiple T) hr takesX (pa_cons (pv 6) pa_nil))) (pa_cons (pe_ifExp (pt_val (pv 2)) (pcall (d_multiple T) hr takesX (pa_cons (pv 7) pa_nil)) (pkw0 (d_multiple T) hr kw_multiple_0_row takesX (pk_cons (pv 7) pk_nil))) pa_nil))))
  (pss_cons (ps_if (pt_not (pt_val (pcall (d_same T) hr takesX (pa_cons (pv 8) (pa_cons (pe_lst (pa_cons (pcall (d_l_multiple T) hr takesX (pa_cons (pe_lc (own := [("k", 9)]) (by rfl) sc_pair_right.nd (pi_range1 rfl T.b_range (pa_cons (pv 3) pa_nil)) (blkOk_by (own := [("k", 9)]) (N := ["one", "other", "named", "size", "needs", "both", "total", "whole", "told", "k"]) (sc := defScope s_pair_right) (by decide +kernel)) (fun _ _ _ _ _ => (pg_name (i := 9) sc_pair_right.nd rfl (Or.inl rfl))) (fun _ _ _ _ _ => pts_nil) (fun _ _ _ _ _ => (pe_op (o_addK K) (pe_ix (ix_seqK K) (pv 0) (pv 9) (fun _ _ => rfl)) (pe_ix (ix_seqK K) (pv 1) (pv 9) (fun _ _ => rfl))))) pa_nil)) (pa_cons (pcall (d_l_multiple T) hr takesX (pa_cons (pe_lc (own := [("k", 9)]) (by rfl) sc_pair_right.nd (pi_range1 rfl T.b_range (pa_cons (pv 3) pa_nil)) (blkOk_by (own := [("k", 9)]) (N := ["one", "other", "named", "size", "needs", "both", "total", "whole", "told", "k"]) (sc := defScope s_pair_right) (by decide +kernel)) (fun _ _ _ _ _ => (pg_name (i := 9) sc_pair_right.nd rfl (Or.inl rfl))) (fun _ _ _ _ _ => pts_nil) (fun _ _ _ _ _ => (pe_op (o_mulK K) (pe_ix (ix_seqK K) (pv 0) (pv 9) (fun _ _ => rfl)) (pe_ix (ix_seqK K) (pv 1) (pv 9) (fun _ _ => rfl))))) pa_nil)) pa_nil))) pa_nil)))))
  (pss_one (ps_ret pe_bl)) pss_nil)
  (pss_cons (ps_if (PW.pt (pw_or (pt_cmpR (o_neK K hu) (pe_op o_mod (pe_callTy c_int (by rfl) T.b_int (by decide +kernel) (pa_cons (pv 5) pa_nil)) (pe_ix (ix_seqK K) (pv 8) pe_int (fun _ _ => rfl))) pe_int (nomark _)) (pw_or1 (pt_cmpR (o_neK K hu) (pe_op o_mod (pe_callTy c_int (by rfl) T.b_int (by decide +kernel) (pa_cons (pe_op (o_mulK K) (pe_ix (ix_seqK K) (pv 4) pe_int (fun _ _ => rfl)) (pe_ix (ix_seqK K) (pv 4) pe_int (fun _ _ => rfl))) pa_nil)) (pe_ix (ix_seqK K) (pv 8) pe_int (fun _ _ => rfl))) pe_int (nomark _)))))
  (pss_one (ps_ret pe_bl)) pss_nil)
  (pss_one (ps_ret (pe_or (pe_cmpR (o_neK K hu) (pe_ix (ix_seqK K) (pv 4) pe_int (fun _ _ => rfl)) pe_int (nomark _)) (pe_one (pe_cmpR (o_eqK K hu) (pe_op o_mod (pe_callTy c_int (by rfl) T.b_int (by decide +kernel) (pa_cons (pe_ix (ix_seqK K) (pv 4) pe_int (fun _ _ => rfl)) pa_nil)) (pe_ix (ix_seqK K) (pv 8) pe_int (fun _ _ => rfl))) pe_int (nomark _))))))))))))), ?_⟩
    obtain ⟨m, em⟩ : ∃ m : Nat, m = min a.length b.length := ⟨_, rfl⟩
    have m1 : 1 ≤ m := by omega
    have ma : m ≤ a.length := by omega
    have mb : m ≤ b.length := by omega
    have lta : (a.take m).length = m := by rw [List.length_take]; omega
    have ltb : (b.take m).length = m := by rw [List.length_take]; omega
    have pra : mulOf (at1 (a.take m)) (a.take m).length = mulOf (at1 a) m := by
      rw [lta]
      exact mulOf_congr (fun n h1 h2 => at1_take a h2 h1) (by omega)
    have prb : mulOf (at1 (b.take m)) (b.take m).length = mulOf (at1 b) m := by
      rw [ltb]
      exact mulOf_congr (fun n h1 h2 => at1_take b h2 h1) (by omega)
    have u1 := mulOf_pos (at1 a) m
    have v1 := mulOf_pos (at1 b) m
    have u2 := mulOf_lt (at1 a) (k := m) (by omega)
    have v2 := mulOf_lt (at1 b) (k := m) (by omega)
    have esum : mulOf (at1 (zipL (fun i j => i + j) a b)) (zipL (fun i j => i + j) a b).length ∣ Nat.lcm (mulOf (at1 a) m) (mulOf (at1 b) m) := by
      rw [zipL_len, ← em, mulOf_congr (fun n h1 h2 => at1_zip (by omega) h1) (by omega)]
      exact mulOf_sum (by omega)
    have eprod : mulOf (at1 (zipL (fun i j => i * j) a b)) (zipL (fun i j => i * j) a b).length ∣ mulOf (at1 a) m * mulOf (at1 b) m := by
      rw [zipL_len, ← em, mulOf_congr (fun n h1 h2 => at1_zip (by omega) h1) (by omega)]
      exact mulOf_prod (by omega)
    have ls : (zipL (fun i j => i + j) a b).length = m := by rw [zipL_len, em]
    have lp : (zipL (fun i j => i * j) a b).length = m := by rw [zipL_len, em]
    have s1 := mulOf_pos (at1 (zipL (fun i j => i + j) a b)) (zipL (fun i j => i + j) a b).length
    have t1 := mulOf_pos (at1 (zipL (fun i j => i * j) a b)) (zipL (fun i j => i * j) a b).length
    have eca : cutL (a.map D.int) none (some (m : Int)) = (a.take m).map D.int := by
      rw [cutL_pre _ (by omega), Int.toNat_natCast, List.map_take]
    have ecb : cutL (b.map D.int) none (some (m : Int)) = (b.take m).map D.int := by
      rw [cutL_pre _ (by omega), Int.toNat_natCast, List.map_take]
    generalize hu : mulOf (at1 a) m = u at *
    generalize hv : mulOf (at1 b) m = v at *
    generalize hs : mulOf (at1 (zipL (fun i j => i + j) a b)) (zipL (fun i j => i + j) a b).length = su at *
    generalize ht : mulOf (at1 (zipL (fun i j => i * j) a b)) (zipL (fun i j => i * j) a b).length = tu at *
    walk_at "dds"
    rw [show (if (b.length : Int) < a.length then (b.length : Int) else a.length) = m by split <;> omega, eca]
    refine u_multl (.inl rfl) (by omega) ?_
    rw [pra]
    walk_at "dds"
    rw [ecb]
    refine u_multl (.inl rfl) (by omega) ?_
    rw [prb]
    walk_at "dds"
    refine ml_iw (wide_mul (a := 400) (b := 400) (by omega) (by omega) (by decide) (by decide) (by decide)) ?_
    walk_at "dds"
    refine ⟨u, v, none, none, rfl, by omega, ?_⟩
    rw [Int.natAbs_natCast, Int.natAbs_natCast]
    have g0 : 0 < Nat.gcd u v := Nat.gcd_pos_of_pos_left _ u1
    have g1 : Nat.gcd u v ≤ u := Nat.gcd_le_left _ u1
    walk_at "dds"
    have uv : u * v < 2 ^ 800 := by
      have : (2 : Nat) ^ 800 = 2 ^ 400 * 2 ^ 400 := by rw [← Nat.pow_add]
      rw [this]
      exact Nat.mul_lt_mul'' u2 v2
    rw [← Int.natCast_mul]
    refine dv_ii (wide_div (b := 800) (by omega) (by omega) (by decide) (by decide)) ?_
    rw [← Int.natCast_ediv, show u * v / Nat.gcd u v = Nat.lcm u v from rfl]
    have p300 : (2 : Nat) ^ 250 ≤ 2 ^ 300 := Nat.pow_le_pow_right (by omega) (by omega)
    walk_at "dds"
    refine ⟨a, b, x, y, rfl, a1, a60, b1, b60, fun z hz => by have := ha z hz; omega, fun z hz => by have := hb z hz; omega, ?_⟩
    walk_at "dds"
    refine ⟨a, b, x, y, rfl, a1, a60, b1, b60, fun z hz => by have := ha z hz; omega, fun z hz => by have := hb z hz; omega, ?_⟩
    walk_at "dds"
    refine if_VS (.dat (.int su) none) [.dat (LI a) x, .dat (LI b) y, .dat (.bl nm) z, .dat (.int m) none, .own (.lst [.int u, .int v]), .dat (.int (Nat.lcm u v)) none, .dat (.lst ((zipL (fun i j => i + j) a b).map .int)) none, .own (.lst ((zipL (fun i j => i * j) a b).map .int)), .un, .un] ?_ ?_ ?_
    · walk_at "dds"
      refine u_mult (.inl rfl) (by omega) (by omega) ?_
      rw [hs]
      exact ⟨rfl, rfl⟩
    · walk_at "dds"
      refine u_mult (.inl rfl) (by omega) (by omega) ?_
      rw [hs]
      exact ⟨rfl, rfl⟩
    walk_at "dds"
    refine if_VS (.dat (.int tu) none) [.dat (LI a) x, .dat (LI b) y, .dat (.bl nm) z, .dat (.int m) none, .own (.lst [.int u, .int v]), .dat (.int (Nat.lcm u v)) none, .dat (.lst ((zipL (fun i j => i + j) a b).map .int)) none, .dat (.lst ((zipL (fun i j => i * j) a b).map .int)) none, .un, .un] ?_ ?_ ?_
    · walk_at "dds"
      refine u_mult (.inl rfl) (by omega) (by omega) ?_
      rw [ht]
      exact ⟨rfl, rfl⟩
    · walk_at "dds"
      refine u_mult (.inl rfl) (by omega) (by omega) ?_
      rw [ht]
      exact ⟨rfl, rfl⟩
    walk_at "dds"
    refine lcM_r (lc_map (fun k => .int (a.getD k 0 + b.getD k 0)) (by rw [List.length_range]; omega) (fun k hk => ?_) ?_)
    · have hk := List.mem_range.mp hk
      walk_at "dds"
      refine ⟨rfl, ?_⟩
      walk_at "dds"
      rw [show (0 + (k : Int)).toNat = k by omega]
      exact ⟨rfl, Le.refl⟩
    have ez : ∀ f : Int → Int → Int, ((List.range m).map fun k => D.int (f (a.getD k 0) (b.getD k 0))) = (zipL f a b).map D.int := fun f => by rw [← range_zip, em, List.map_map]; rfl
    rw [ez fun i j => i + j]
    walk_at "dds"
    refine u_multl (.inl rfl) (by omega) ?_
    rw [hs]
    walk_at "dds"
    refine lcM_r (lc_map (fun k => .int (a.getD k 0 * b.getD k 0)) (by rw [List.length_range]; omega) (fun k hk => ?_) ?_)
    · have hk := List.mem_range.mp hk
      walk_at "dds"
      refine ⟨rfl, ?_⟩
      walk_at "dds"
      rw [show (0 + (k : Int)).toNat = k by omega]
      refine ml_iw (wide_mul (a := 250) (b := 250) (pickI ha (by omega)) (pickI hb (by omega)) (by decide) (by decide) (by decide)) ?_
      walk_at "dds"
      exact ⟨rfl, Le.refl⟩
    rw [ez fun i j => i * j]
    walk_at "dds"
    refine u_multl (.inl rfl) (by omega) ?_
    rw [ht]
    walk_at "dds"
    rw [decide_eq_true (Int.emod_eq_zero_of_dvd (Int.natCast_dvd_natCast.mpr esum))]
    walk_at "dds"
    refine ml_iw (wide_mul (a := 400) (b := 400) (by omega) (by omega) (by decide) (by decide) (by decide)) ?_
    walk_at "dds"
    rw [← Int.natCast_mul, decide_eq_true (Int.emod_eq_zero_of_dvd (Int.natCast_dvd_natCast.mpr eprod))]
    walk_at "dds"
    refine w_ifDN (fun hv1 => ?_) fun hv1 => ?_
    · walk_at "dds"
      exact retp hbx .d q
    · have e1 : v = 1 := by omega
      rw [e1, Nat.mul_one] at eprod
      walk_at "dds"
      rw [decide_eq_true (Int.emod_eq_zero_of_dvd (Int.natCast_dvd_natCast.mpr eprod))]
      walk_at "dds"
      exact retp hbx .d q
end

/-- a refusal: what is given is what was asked -/
def spRefd : Sp := fun vs H Q _ => ∃ (v : V) (d : D) (nm : Bool), vs = [v, .bl nm] ∧ Rep H d v ∧ d.fit ∧ d.are 1 60 = false ∧ ∀ p H', H p = none → Same H H' → H' p = some (.lst [.str "row", v]) → Q (.ref p) H'
section
variable {P : Program} {w : World} {K : PySem.W.Frag} {mg : Str → Option Value} {base : Heap} {A : Ad}
theorem d_refused (T : Txt K mg A) : Df P w K mg base 6 "_law_refused" s_refused ["value", "named"] spRefd := by
  refine mk_df T.h_refused sc_refused (fun _ _ _ _ _ _ us hl => match us, hl with | [_, _], _ => rfl) (fun vs H Q E h => ?_) fun f cdv A' outer s H vs Q E hr h => ?_
  · obtain ⟨v, d, nm, rfl, _⟩ := h
    rfl
  · obtain ⟨v, d, nm, rfl, rd, hf, ha, q⟩ := h
    have hu : (A'.deeper (envOfC "_law_refused" (defScope s_refused) s.heap.objs.size f cdv)).units + 64 < cLine := hr.units
    refine ⟨_, (pss_one (ps_tryc (tb := _) sc_refused.nd takesN (fun W pn xe tk po => (pss_cons (ps_expr (pe_ifExp (pt_val (pv 1)) (pkw0 (d_multiple T) hr kw_multiple_0_row tk (pk_cons (pv 0) pk_nil)) (pcall (d_multiple T) hr tk (pa_cons (pv 0) pa_nil))))
  (pss_one (ps_ret (pe_lst (pa_cons pe_str (pa_cons pe_non pa_nil)))))))
  (Cls.as (i := 2) (ts := _) ⟨rfl, by decide, .inl T.er_InvalidRow.gC⟩ rfl rfl (fun a oe cls d pn hz hd => (pss_one (ps_ret (pe_lst (pa_cons pe_str (pa_cons (pe_gotX (e_InvalidRow T) (by simp) hz hd (pv 2)) pa_nil)))))) (Cls.one (ts := _) ⟨rfl, by decide, .inl T.er_RowError.gC⟩ (fun a oe cls d pn hz hd => (pss_one (ps_ret (pe_lst (pa_cons pe_str (pa_cons pe_non pa_nil)))))) Cls.nil)))), ?_⟩
    walk_at "rds"
    have go : ∀ (Q : VK) (E : XK), (∀ p H', H p = none → Same H H' → H' p = some (.xd [("given", v)]) → E (.ref A.InvalidRow) (some p) H') → spOf (dsMult A.InvalidRow) [v] H Q E := fun Q E z =>
      spOf_raise (f := "given") rd ⟨d, some v, rfl, hf, .inl ⟨ha, rfl, rfl, rfl⟩⟩ z
    cases nm with
    | true =>
      walk_at "rds"
      refine kwc rfl rfl rfl ?_
      refine go _ _ fun p H' n s e => ?_
      refine cl_hit T.t_InvalidRow_InvalidRow fun x na => ?_
      walk_at "rds"
      refine xf_at e rfl ?_
      walk_at "rds"
      refine al_l (by simp) fun p2 H2 n2 s2 e2 => ?_
      walk_at "rds"
      exact q p2 H2 (s.old n2) (s.trans s2) e2
    | false =>
      walk_at "rds"
      refine go _ _ fun p H' n s e => ?_
      refine cl_hit T.t_InvalidRow_InvalidRow fun x na => ?_
      walk_at "rds"
      refine xf_at e rfl ?_
      walk_at "rds"
      refine al_l (by simp) fun p2 H2 n2 s2 e2 => ?_
      walk_at "rds"
      exact q p2 H2 (s.old n2) (s.trans s2) e2
end

theorem flat_rep {α : Type} (x : α) : ∀ n : Nat, (List.replicate n [x]).flatten = List.replicate n x
  | 0 => rfl
  | n + 1 => by
    rw [List.replicate_succ, List.flatten_cons, flat_rep x n]
    rfl
def odds : List D := [.non, .int 5, .str "row", .lst [], .tup [], .lst [.int 1, .bl true], .lst [.int 1, .non], .lst (List.replicate (Int.toNat 61) [D.int 0]).flatten, .dct [], .lst [.str "1"], .lst [.lst [.int 1]], .dct [(.inr "a", .int 1)]]
theorem odds_all : (odds.all fun d => d.okB && !d.are 1 60) = true := by decide +kernel
theorem odds_ok (d : D) (h : d ∈ odds) : d.Ok ∧ d.are 1 60 = false := by
  have := List.all_eq_true.mp odds_all d h
  rw [Bool.and_eq_true] at this
  exact ⟨D.ok_of this.1, by simpa using this.2⟩
section
variable {P : Program} {w : World} {K : PySem.W.Frag} {mg : Str → Option Value} {base : Heap} {A : Ad}
theorem d_law' (T : Txt K mg A) : Df P w K mg base 15 "law" s_law ["script"] (spOf (dsLaw K)) := by
  refine mk_dd T.h_law sc_law (fun _ _ _ _ _ _ us hl => match us, hl with | [_], _ => rfl) (fun as Q E h => ?_) fun f cdv A' outer s H E0 F as Q E hr h hbx hW => ?_
  · obtain ⟨rfl, _⟩ := h
    rfl
  · obtain ⟨rfl, q⟩ := h
    have hu : (A'.deeper (envOfC "law" (defScope s_law) s.heap.objs.size f cdv)).units + 64 < cLine := hr.units
    refine ⟨_, (pss_cons (ps_set (i := 1) sc_law.nd rfl (Or.inl rfl) (pe_lst (pa_cons pe_non (pa_cons pe_int (pa_cons pe_str (pa_cons (pe_lst pa_nil) (pa_cons (pe_tup pa_nil) (pa_cons (pe_lst (pa_cons pe_int (pa_cons pe_bl pa_nil))) (pa_cons (pe_lst (pa_cons pe_int (pa_cons pe_non pa_nil))) (pa_cons (pe_op (o_mulK K) (pe_lst (pa_cons pe_int pa_nil)) pe_int) (pa_cons pe_dnewK (pa_cons (pe_lst (pa_cons pe_str pa_nil)) (pa_cons (pe_lst (pa_cons (pe_lst (pa_cons pe_int pa_nil)) pa_nil)) (pa_cons (pe_disp (pps_cons pe_str pe_int pps_nil) (by rfl) (by rfl) (fun z => by cases z) (by decide)) pa_nil))))))))))))))
  (pss_cons (ps_for PassesOwn.leaving rfl (pi_range1 rfl T.b_range (pa_cons (pe_callB (c_max2 rfl) (by rfl) T.b_max (by decide +kernel) (pa_cons pe_int (pa_cons (pe_callB (c_min2 rfl) (by rfl) T.b_min (by decide +kernel) (pa_cons pe_int (pa_cons (pe_callB (c_lenK K) (by rfl) T.b_len PySem.boot_len (pa_cons (pv 0) pa_nil)) pa_nil))) pa_nil))) pa_nil)) (pg_name (i := 2) sc_law.nd rfl (Or.inl rfl))
  (pss_cons (ps_set (i := 3) sc_law.nd rfl (Or.inr rfl) (pcall (d_box T) hr takesX (pa_cons (pcall (d_cell T) hr takesX (pa_cons (pv 0) (pa_cons (pv 2) pa_nil))) pa_nil)))
  (pss_cons (ps_set (i := 4) sc_law.nd rfl (Or.inl rfl) (pe_cmpR (o_eqK K hu) (pcall (d_take T) hr takesX (pa_cons (pv 3) (pa_cons pe_int pa_nil))) pe_int (nomark _)))
  (pss_cons (ps_par (i := 5) (j := 6) (by rfl) sc_law.nd rfl rfl (by decide) rfl rfl (pa_cons (pcall (d_some_row T) hr takesX (pa_cons (pv 3) (pa_cons pe_int pa_nil))) (pa_cons (pcall (d_some_row T) hr takesX (pa_cons (pv 3) (pa_cons pe_int pa_nil))) pa_nil)) (by rfl))
  (pss_cons (ps_set (i := 7) sc_law.nd rfl (Or.inl rfl) (pe_op (o_mulK K) (pe_lst (pa_cons (pe_op o_sub (pcall (d_take T) hr takesX (pa_cons (pv 3) (pa_cons pe_int pa_nil))) pe_int) pa_nil)) (pe_callB (c_lenK K) (by rfl) T.b_len PySem.boot_len (pa_cons (pv 5) pa_nil))))
  (pss_cons (ps_asg pe_int (pg_sub (pv 7) (pcall (d_take T) hr takesX (pa_cons (pv 3) (pa_cons (pe_callB (c_lenK K) (by rfl) T.b_len PySem.boot_len (pa_cons (pv 5) pa_nil)) pa_nil))) set_list))
  (pss_cons (ps_set (i := 8) sc_law.nd rfl (Or.inl rfl) (pe_callTy (c_listK K) (by rfl) T.b_list (by decide +kernel) (pa_cons (pv 5) pa_nil)))
  (pss_cons (ps_for PassesOwn.leaving rfl (pi_range1 rfl T.b_range (pa_cons pe_int pa_nil)) (pg_name (i := 9) sc_law.nd rfl (Or.inl rfl))
  (pss_cons (ps_set (i := 10) sc_law.nd rfl (Or.inl rfl) (pcall (d_take T) hr takesX (pa_cons (pv 3) (pa_cons (pe_callB (c_lenK K) (by rfl) T.b_len PySem.boot_len (pa_cons (pv 8) pa_nil)) pa_nil))))
  (pss_one (ps_asg (pe_op (o_addK K) (pe_ix (ix_seqK K) (pv 8) (pv 10) (fun _ _ => rfl)) pe_int) (pg_sub (pv 8) (pv 10) set_list)))))
  (pss_cons (ps_for PassesOwn.leaving rfl (pi_tupK K (pe_tup (pa_cons (pv 5) (pa_cons (pv 6) (pa_cons (pv 7) (pa_cons (pv 8) (pa_cons (pv 5) pa_nil))))))) (pg_name (i := 11) sc_law.nd rfl (Or.inl rfl))
  (pss_cons (ps_if (pt_not (pt_val (pcall (d_one_right T) hr takesX (pa_cons (pv 3) (pa_cons (pv 11) (pa_cons (pv 4) pa_nil))))))
  (pss_one (ps_ret pe_bl)) pss_nil)
  (pss_one (ps_set (i := 4) sc_law.nd rfl (Or.inl rfl) (pe_not (pv 4))))))
  (pss_cons (ps_for PassesOwn.leaving rfl (pi_tupK K (pe_tup (pa_cons (pe_tup (pa_cons (pv 5) (pa_cons (pv 6) pa_nil))) (pa_cons (pe_tup (pa_cons (pv 7) (pa_cons (pv 5) pa_nil))) (pa_cons (pe_tup (pa_cons (pv 8) (pa_cons (pcall (d_row T) hr takesX (pa_cons (pe_lc (own := [("turn", 9)]) (by rfl) sc_law.nd (pi_range1 rfl T.b_range (pa_cons (pe_callB (c_lenK K) (by rfl) T.b_len PySem.boot_len (pa_cons (pv 8) pa_nil)) pa_nil)) (blkOk_by (own := [("turn", 9)]) (N := ["script", "odd", "k", "box", "named", "one", "other", "same", "bent", "turn", "at", "row", "pair", "value", "told"]) (sc := defScope s_law) (by decide +kernel)) (fun _ _ _ _ _ => (pg_name (i := 9) sc_law.nd rfl (Or.inl rfl))) (fun _ _ _ _ _ => pts_nil) (fun _ _ _ _ _ => (pe_op (o_addK K) pe_int (pcall (d_take T) hr takesN (pa_cons (pv 3) (pa_cons pe_int pa_nil)))))) pa_nil)) pa_nil))) pa_nil))))) (pg_name (i := 12) sc_law.nd rfl (Or.inl rfl))
  (pss_cons (ps_if (pt_not (pt_val (pcall (d_pair_right T) hr takesX (pa_cons (pe_ix (ix_seqK K) (pv 12) pe_int (fun _ _ => rfl)) (pa_cons (pe_ix (ix_seqK K) (pv 12) pe_int (fun _ _ => rfl)) (pa_cons (pv 4) pa_nil))))))
  (pss_one (ps_ret pe_bl)) pss_nil)
  (pss_one (ps_set (i := 4) sc_law.nd rfl (Or.inl rfl) (pe_not (pv 4))))))
  (pss_cons (ps_set (i := 13) sc_law.nd rfl (Or.inl rfl) (pcall (d_copy T) hr takesX (pa_cons (pcall (d_pick T) hr takesX (pa_cons (pv 3) (pa_cons (pv 1) pa_nil))) pa_nil)))
  (pss_cons (ps_set (i := 14) sc_law.nd rfl (Or.inl rfl) (pcall (d_refused T) hr takesX (pa_cons (pv 13) (pa_cons (pv 4) pa_nil))))
  (pss_one (ps_if (PW.pt (pw_or (pt_cmpR (o_neK K hu) (pe_ix (ix_seqK K) (pv 14) pe_int (fun _ _ => rfl)) pe_str (nomark _)) (pw_or1 (pt_not (pt_val (pcall (d_very T) hr takesX (pa_cons (pe_ix (ix_seqK K) (pv 14) pe_int (fun _ _ => rfl)) (pa_cons (pv 13) pa_nil))))))))
  (pss_one (ps_ret pe_bl)) pss_nil))))))))))))))
  (pss_one (ps_ret pe_bl)))), ?_⟩
    walk_at "dds"
    refine ml_li has_d (by decide) (by decide) (by decide) ?_
    walk_at "dds"
    refine len_scr fun sn => ?_
    walk_at "dds"
    obtain ⟨k, hk, k3⟩ : ∃ k : Nat, k ≤ 3 ∧ (if (if (sn : Int) < 3 then (sn : Int) else 3) > 2 then (if (sn : Int) < 3 then (sn : Int) else 3) else 2).toNat = k := ⟨_, by split <;> split <;> omega, rfl⟩
    rw [k3]
    refine for_r (fun i ρ => ρ = [.raw (ScriptS K), .own (.lst odds), .un, .un, .un, .un, .un, .un, .un, .un, .un, .un, .un, .un, .un]) (up_eq (by walk_at "le")) (fun i ρ2 hi hI => ?_) fun ρ2 hI => ?_
    · subst hI
      rw [Int.zero_add]
      walk_at "dds"
      refine cell_d (by omega) (by omega) fun cv => ?_
      walk_at "dds"
      refine box_d fun g kb r c r0 r1 c0 c1 => ?_
      refine dg_f (to_box (j := 3) (B := 0) rfl r0 r1 c0 c1 fun a => ?_)
      walk_at "dds"
      intro t0 t00 t01
      walk_at "dds"
      refine ⟨a, _, 60, none, rfl, by omega, by omega, by omega, fun os o1 o60 ho => ?_⟩
      walk_at "dds"
      refine ⟨a, _, 60, none, rfl, by omega, by omega, by omega, fun ts u1 u60 hu' => ?_⟩
      walk_at "dds"
      intro t2 t20 t21
      walk_at "dds"
      refine ml_li has_d (by omega) (by omega) (by simp; omega) ?_
      have es : (List.replicate ((os.length : Int)).toNat [D.int (t2 - 4)]).flatten = (List.replicate os.length (t2 - 4)).map D.int := by
        rw [Int.toNat_natCast, List.map_replicate]
        exact flat_rep _ _
      rw [es]
      walk_at "dds"
      intro t3 t30 t31
      walk_at "dds"
      refine setl (m := t3.toNat) rfl ?_ ?_
      · rw [List.length_map, List.length_replicate]
        obtain ⟨kk, rfl⟩ : ∃ kk : Nat, t3 = kk := ⟨t3.toNat, by omega⟩
        exact ixn (by omega)
      rw [← List.map_set]
      obtain ⟨ms, ems⟩ : ∃ ms, ms = (List.replicate os.length (t2 - 4)).set t3.toNat 7 := ⟨_, rfl⟩
      have ml : ms.length = os.length := by rw [ems]; simp
      have hm : ∀ z ∈ ms, z.natAbs < 2 ^ 250 := fun z hz => by
        rw [ems] at hz
        have p8 : 8 ≤ 2 ^ 250 := by decide +kernel
        rcases List.mem_or_eq_of_mem_set hz with hz | rfl
        · rw [(List.mem_replicate.mp hz).2]
          omega
        · omega
      rw [← ems]
      walk_at "dds"
      refine for_r (fun j ρ => ∃ bs : List Int, ρ = [.raw (ScriptS K), .own (.lst odds), .dat (.int i) none, .box a (403 + j), .dat (.bl (decide (t0 = 0))) none, .own (LI os), .own (LI ts), .own (LI ms), .own (LI bs), .un, .un, .un, .un, .un, .un] ∧ bs.length = os.length ∧ ∀ z ∈ bs, z.natAbs ≤ 2 ^ 200 + j) (up_e1 os (by walk_at "le") ⟨rfl, fun z hz => by have := ho z hz; omega⟩) (fun j ρ2 hj hI => ?_) fun ρ2 hI => ?_
      · obtain ⟨bs, rfl, bl, hb⟩ := hI
        walk_at "dds"
        intro t4 t40 t41
        walk_at "dds"
        have b4 := pickI hb (k := t4.toNat) (by omega)
        refine setl (m := t4.toNat) rfl ?_ ?_
        · rw [List.length_map]
          obtain ⟨kk, rfl⟩ : ∃ kk : Nat, t4 = kk := ⟨t4.toNat, by omega⟩
          exact ixn (by omega)
        rw [← List.map_set]
        refine up_e1 _ (by walk_at "le") ⟨by simp [bl], fun z hz => ?_⟩
        rcases List.mem_or_eq_of_mem_set hz with hz | rfl
        · have := hb z hz
          omega
        · omega
      obtain ⟨bs, rfl, bl, hb⟩ := hI
      have p250 : (2 : Nat) ^ 200 + 100000000 < 2 ^ 250 := by decide +kernel
      walk_at "dds"
      have e5 : ([LI os, LI ts, LI ms, LI bs, LI os] : List D) = [os, ts, ms, bs, os].map LI := rfl
      rw [e5]
      refine forM_l (forR (fun ls ρ => ∃ (B : Int) (nm : Bool), ρ = [.raw (ScriptS K), .own (.lst odds), .dat (.int i) none, .box a B, .dat (.bl nm) none, .dat (LI os) none, .dat (LI ts) none, .dat (LI ms) none, .dat (LI bs) none, .un, .un, .un, .un, .un, .un] ∧ B + 2 * ls.length ≤ 420) (up_e2 405 (decide (t0 = 0)) (by walk_at "le") (by show (405 : Int) + 2 * ((5 : Nat) : Int) ≤ 420; omega)) (fun l ls ρ2 hl hI => ?_) fun ρ2 hI => ?_)
      · obtain ⟨B, nm, rfl, hB⟩ := hI
        have hB : B + 2 * ((ls.length + 1 : Nat) : Int) ≤ 420 := hB
        have hll : 1 ≤ l.length ∧ l.length ≤ 60 ∧ ∀ z ∈ l, z.natAbs < 2 ^ 250 := by
          simp only [List.mem_cons, List.not_mem_nil, or_false] at hl
          rcases hl with rfl | rfl | rfl | rfl | rfl
          · exact ⟨o1, o60, fun z hz => by have := ho z hz; omega⟩
          · exact ⟨u1, u60, fun z hz => by have := hu' z hz; omega⟩
          · exact ⟨by omega, by omega, hm⟩
          · exact ⟨by omega, by omega, fun z hz => by have := hb z hz; omega⟩
          · exact ⟨o1, o60, fun z hz => by have := ho z hz; omega⟩
        walk_at "dds"
        refine ⟨a, B, l, none, nm, none, rfl, by omega, hll.1, hll.2.1, hll.2.2, ?_⟩
        walk_at "dds"
        refine up_e2 (B + 2) (!nm) (by walk_at "le") (by omega)
      obtain ⟨B, nm, rfl, hB⟩ := hI
      have hB : B + 2 * ((0 : Nat) : Int) ≤ 420 := hB
      walk_at "dds"
      refine lcM_r (lc_drawI (j := 3) 1 (fun z => 1 ≤ z ∧ z ≤ 5) rfl (by rw [List.length_range]; omega) (fun y hy B' b1 b2 => ?_) fun rs rl hrs => ?_)
      · rw [List.length_range] at b2
        walk_at "dds"
        refine ⟨rfl, ?_⟩
        walk_at "dds"
        intro v v0 v1
        walk_at "dds"
        exact ⟨⟨_, rfl, by omega, by omega⟩, by walk_at "le"⟩
      rw [List.length_range] at rl ⊢
      walk_at "dds"
      refine ⟨rs, none, rfl, by omega, fun z hz => by have := hrs z hz; omega, fun zs zl hzs => ?_⟩
      walk_at "dds"
      have e3 : ([.tup [LI os, LI ts], .tup [LI ms, LI os], .tup [LI bs, LI zs]] : List D) = [(os, ts), (ms, os), (bs, zs)].map fun p => .tup [LI p.1, LI p.2] := rfl
      rw [e3]
      refine forM_l (forR (fun ls ρ => ∃ (nm : Bool), ρ = [.raw (ScriptS K), .own (.lst odds), .dat (.int i) none, .box a (B + 1 * bs.length), .dat (.bl nm) none, .dat (LI os) none, .dat (LI ts) none, .dat (LI ms) none, .dat (LI bs) none, .un, .un, .un, .un, .un, .un] ∧ True) (up_e1 nm (by walk_at "le") trivial) (fun l ls ρ2 hl hI => ?_) fun ρ2 hI => ?_)
      · obtain ⟨nm, rfl, _⟩ := hI
        have hll : (1 ≤ l.1.length ∧ l.1.length ≤ 60 ∧ ∀ z ∈ l.1, z.natAbs < 2 ^ 250) ∧ 1 ≤ l.2.length ∧ l.2.length ≤ 60 ∧ ∀ z ∈ l.2, z.natAbs < 2 ^ 250 := by
          have ho' : ∀ z ∈ os, z.natAbs < 2 ^ 250 := fun z hz => by have := ho z hz; omega
          simp only [List.mem_cons, List.not_mem_nil, or_false] at hl
          rcases hl with rfl | rfl | rfl
          · exact ⟨⟨o1, o60, ho'⟩, u1, u60, fun z hz => by have := hu' z hz; omega⟩
          · exact ⟨⟨show 1 ≤ ms.length by omega, show ms.length ≤ 60 by omega, hm⟩, o1, o60, ho'⟩
          · exact ⟨⟨show 1 ≤ bs.length by omega, show bs.length ≤ 60 by omega, fun z hz => by have := hb z hz; omega⟩, show 1 ≤ zs.length by omega, show zs.length ≤ 60 by omega, fun z hz => by have := hzs z hz; omega⟩
        walk_at "dds"
        refine ⟨l.1, l.2, none, none, nm, none, rfl, hll.1.1, hll.1.2.1, hll.2.1, hll.2.2.1, hll.1.2.2, hll.2.2.2, ?_⟩
        walk_at "dds"
        exact up_e1 (!nm) (by walk_at "le") trivial
      obtain ⟨nm, rfl, _⟩ := hI
      refine fun X M N σ H ok Dh Ee => ?_
      have ok0 := ok
      obtain ⟨s0, τ0, rfl, hl0⟩ := len_cons ok0.len
      obtain ⟨s1, τ1, rfl, hl1⟩ := len_cons hl0
      obtain ⟨s2, τ2, rfl, hl2⟩ := len_cons hl1
      obtain ⟨s3, τ3, rfl, hl3⟩ := len_cons hl2
      obtain ⟨s4, τ4, rfl, hl4⟩ := len_cons hl3
      obtain ⟨s5, τ5, rfl, hl5⟩ := len_cons hl4
      obtain ⟨s6, τ6, rfl, hl6⟩ := len_cons hl5
      obtain ⟨s7, τ7, rfl, hl7⟩ := len_cons hl6
      obtain ⟨s8, τ8, rfl, hl8⟩ := len_cons hl7
      obtain ⟨s9, τ9, rfl, hl9⟩ := len_cons hl8
      obtain ⟨s10, τ10, rfl, hl10⟩ := len_cons hl9
      obtain ⟨s11, τ11, rfl, hl11⟩ := len_cons hl10
      obtain ⟨s12, τ12, rfl, hl12⟩ := len_cons hl11
      obtain ⟨s13, τ13, rfl, hl13⟩ := len_cons hl12
      obtain ⟨s14, τ14, rfl, hl14⟩ := len_cons hl13
      obtain rfl := List.length_eq_zero_iff.mp hl14
      obtain ⟨po, e1, n1, xs, ex, rx⟩ := ok.slot 1 _ rfl
      obtain ⟨e3, ib⟩ := ok.slot 3 _ rfl
      obtain ⟨vn, e4, rn, _⟩ := ok.slot 4 _ rfl
      cases (show some s1 = _ from e1)
      cases (show some s3 = _ from e3)
      cases (show some s4 = _ from e4)
      obtain rfl := Rep.un_bl rn
      have npo : po ≠ a := fun z => by
        subst z
        obtain ⟨_, _, _, _, e0, _⟩ := ib
        have := ok.dis 1 3 po _ (by decide) ex
        rw [e0] at this
        cases this
      have hbH : IsBox H a (B + 1 * bs.length) := by
        obtain ⟨g, r, c, k, e0, z⟩ := ib
        exact ⟨g, r, c, k, ok.reg 3 _ _ e0, z⟩
      have exH := ok.reg 1 _ _ ex
      walk_at "rds"
      have hxl : xs.length = 12 := rx.len
      refine ⟨a, po, xs, _, rfl, hbH, by unfold most; omega, npo, .inl (SqL.of exH), (fun z => by rw [z] at hxl; cases hxl), by omega, fun v H2 hv b2 hb2 => ?_⟩
      obtain ⟨d, hd, rd⟩ := rx.of_mem hv
      obtain ⟨dok, dare⟩ := odds_ok d hd
      have rd2 : Rep H2 d v := by
        obtain ⟨_, _, _, _, e0, _⟩ := ib
        refine rd.mono fun c o e => b2 c o (fun z => ?_) (ok.sub c o e)
        subst z
        rw [(ok.apt 3 c _ e0).1] at e
        cases e
      walk_at "rds"
      refine ⟨v, d, rfl, rd2, by have := dok.deep; omega, dok.fit, fun y H3 s3 r3 => ?_⟩
      have nd : ∀ c, y = .ref c → H2 c = none := fun c z => by
        subst z
        exact rep_new r3
      walk_at "rds"
      refine ⟨y, d, nm, rfl, r3.mono New.all, dok.fit, dare, fun p H4 n4 s4 e4 => ?_⟩
      walk_at "rds"
      refine ix_l (SqL.of e4) (ati (m := 0) rfl) ?_
      walk_at "rds"
      refine w_ifDN (fun z => absurd rfl z) fun _ => ?_
      walk_at "rds"
      refine ix_l (SqL.of e4) (ati (m := 1) rfl) ?_
      walk_at "rds"
      refine ⟨y, d, rfl, (r3.mono New.all).mono s4, by have := dok.deep; omega, dok.fit, dok.room, fun H5 o5 => ?_⟩
      have b5 : But a H2 H5 := off_but o5 (But.of (s3.trans s4)) nd
      have hb5 : IsBox H5 a (B + 1 * bs.length + 1) := off_box o5 ((hb2.mono s3).mono s4) hb2 nd
      obtain ⟨N', okE⟩ := ok.junk (j := 3) rfl (b2.trans b5) hb5
      have okE := (okE.put_un (i := 13) (w := some y)).put_un (i := 14) (w := some (.ref p))
      walk_at "rds"
      exact Ee.nx _ _ _ _ _ (Same.refl _) okE (up_eq (by walk_at "le"))
    · subst hI
      walk_at "dds"
      exact retp hbx .d q
end
section
variable {P : Program} {w : World} {K : PySem.W.Frag} {mg : Str → Option Value} {base : Heap} {A : Ad}
theorem d_law (T : Txt K mg A) : Df P w K mg base 15 "law" s_law ["script"] (spLaw K) := (d_law' T).weak fun _ _ _ _ h => law_weak h
end

/-! ### the end -/
theorem exm_of {K : PySem.W.Frag} {S Y : Addr} {b : Bool} (h1 : PySem.W.subIn K (.ref S) (.type "BaseException") = some true) (h2 : PySem.W.isClsIn K S = true) (h3 : PySem.W.typeIn K (.ref S) = some (.type "type")) (h4 : PySem.W.subIn K (.ref Y) (.ref S) = some b) :
    PySem.W.exmOne K (.ref Y) (.ref S) = some b := by
  have e1 : (PySem.W.subIn K (.ref S) (.type "BaseException") == some true) = true := by rw [h1] <;> rfl
  have e2 : ((PySem.W.clsIn K S).isSome && PySem.W.typeIn K (.ref S) == some (.type "type")) = true := by
    have h2' : (PySem.W.clsIn K S).isSome = true := h2
    rw [h2', h3] <;> rfl
  show (if (PySem.W.subIn K (.ref S) (.type "BaseException") == some true) = true then (if ((PySem.W.clsIn K S).isSome && PySem.W.typeIn K (.ref S) == some (.type "type")) = true then PySem.W.subIn K (.ref Y) (.ref S) else none) else none) = some b
  rw [if_pos e1, if_pos e2]
  exact h4
theorem fun_one {K : PySem.W.Frag} {x q : Str} {st : Stmt} {f : Addr} {fd fd' : FuncData} (F : Fun K x q st f fd) (F' : Fun K x q st f fd') : fd = fd' := by
  obtain ⟨_, _, _, _, _, _, _, _, _, _, l, _⟩ := F.ex
  obtain ⟨_, _, _, _, _, _, _, _, _, _, l', _⟩ := F'.ex
  rw [l] at l'
  injection l' with e
  injection e with _ _ e _
  injection e
theorem passL {w : World} {P : Program} {H : Hp} {s : Shared} {e : Value} {s' : Shared} (c : L2N.CX P w [] H s (fun _ _ _ => False) e s') : False := by
  obtain ⟨_, _, _, _, _, _, _, _, _, _, _, _, z⟩ := c
  exact z
theorem all_mk {P : Program} {w : World} {K : PySem.W.Frag} {h : Heap} {mg : Str → Option Value} {fa f0 f1 f2 f3 f4 f5 f6 f7 f8 f9 f10 f11 f12 f13 f14 f15 f16 f17 f18 f19 f20 f21 f22 f23 f24 f25 f26 f27 f28 f29 f30 CRowError CInvalidRow fIInvalidRow : Addr} (X : K.In h) (G : h.Ns mainGlobals mg) (hfa : mg "law" = some (.ref fa))
    {od0 an0 : Option Addr} {sl0 : Array (Option Value)} {oc0 kV0 dc0 pm0 cd0 ct0 : Value}
    {od1 an1 : Option Addr} {sl1 : Array (Option Value)} {oc1 kV1 dc1 pm1 cd1 ct1 : Value}
    {od2 an2 : Option Addr} {sl2 : Array (Option Value)} {oc2 kV2 dc2 pm2 cd2 ct2 : Value}
    {od3 an3 : Option Addr} {sl3 : Array (Option Value)} {oc3 kV3 dc3 pm3 cd3 ct3 : Value}
    {od4 an4 : Option Addr} {sl4 : Array (Option Value)} {oc4 kV4 dc4 pm4 cd4 ct4 : Value}
    {od5 an5 : Option Addr} {sl5 : Array (Option Value)} {oc5 kV5 dc5 pm5 cd5 ct5 : Value}
    {od6 an6 : Option Addr} {sl6 : Array (Option Value)} {oc6 kV6 dc6 pm6 cd6 ct6 : Value}
    {od7 an7 : Option Addr} {sl7 : Array (Option Value)} {oc7 kV7 dc7 pm7 cd7 ct7 : Value}
    {od8 an8 : Option Addr} {sl8 : Array (Option Value)} {oc8 kV8 dc8 pm8 cd8 ct8 : Value}
    {od9 an9 : Option Addr} {sl9 : Array (Option Value)} {oc9 kV9 dc9 pm9 cd9 ct9 : Value}
    {od10 an10 : Option Addr} {sl10 : Array (Option Value)} {oc10 kV10 dc10 pm10 cd10 ct10 : Value}
    {od11 an11 : Option Addr} {sl11 : Array (Option Value)} {oc11 kV11 dc11 pm11 cd11 ct11 : Value}
    {od12 an12 : Option Addr} {sl12 : Array (Option Value)} {oc12 kV12 dc12 pm12 cd12 ct12 : Value}
    {od13 an13 : Option Addr} {sl13 : Array (Option Value)} {oc13 kV13 dc13 pm13 cd13 ct13 : Value}
    {od14 an14 : Option Addr} {sl14 : Array (Option Value)} {oc14 kV14 dc14 pm14 cd14 ct14 : Value}
    {od15 an15 : Option Addr} {sl15 : Array (Option Value)} {oc15 kV15 dc15 pm15 cd15 ct15 : Value}
    {od16 an16 : Option Addr} {sl16 : Array (Option Value)} {oc16 kV16 dc16 pm16 cd16 ct16 : Value}
    {od17 an17 : Option Addr} {sl17 : Array (Option Value)} {oc17 kV17 dc17 pm17 cd17 ct17 : Value}
    {od18 an18 : Option Addr} {sl18 : Array (Option Value)} {oc18 kV18 dc18 pm18 cd18 ct18 : Value}
    {od19 an19 : Option Addr} {sl19 : Array (Option Value)} {oc19 kV19 dc19 pm19 cd19 ct19 : Value}
    {od20 an20 : Option Addr} {sl20 : Array (Option Value)} {oc20 kV20 dc20 pm20 cd20 ct20 : Value}
    {od21 an21 : Option Addr} {sl21 : Array (Option Value)} {oc21 kV21 dc21 pm21 cd21 ct21 : Value}
    {od22 an22 : Option Addr} {sl22 : Array (Option Value)} {oc22 kV22 dc22 pm22 cd22 ct22 : Value}
    {od23 an23 : Option Addr} {sl23 : Array (Option Value)} {oc23 kV23 dc23 pm23 cd23 ct23 : Value}
    {od24 an24 : Option Addr} {sl24 : Array (Option Value)} {oc24 kV24 dc24 pm24 cd24 ct24 : Value}
    {od25 an25 : Option Addr} {sl25 : Array (Option Value)} {oc25 kV25 dc25 pm25 cd25 ct25 : Value}
    {od26 an26 : Option Addr} {sl26 : Array (Option Value)} {oc26 kV26 dc26 pm26 cd26 ct26 : Value}
    {od27 an27 : Option Addr} {sl27 : Array (Option Value)} {oc27 kV27 dc27 pm27 cd27 ct27 : Value}
    {od28 an28 : Option Addr} {sl28 : Array (Option Value)} {oc28 kV28 dc28 pm28 cd28 ct28 : Value}
    {od29 an29 : Option Addr} {sl29 : Array (Option Value)} {oc29 kV29 dc29 pm29 cd29 ct29 : Value}
    {od30 an30 : Option Addr} {sl30 : Array (Option Value)} {oc30 kV30 dc30 pm30 cd30 ct30 : Value}
    {q0 : Tok}
    {nmRowError qqRowError : Str} {NRowError : Addr} {bsRowError bmRowError : List Value} {snRowError : List Str} {sbRowError : List Value} {abRowError : Bool} {coRowError : Option Bool} {ddRowError : Option Addr} {maRowError mbRowError mcRowError mdRowError meRowError : Option Value}
    {nmInvalidRow qqInvalidRow : Str} {NInvalidRow : Addr} {bsInvalidRow bmInvalidRow : List Value} {snInvalidRow : List Str} {sbInvalidRow : List Value} {abInvalidRow : Bool} {coInvalidRow : Option Bool} {ddInvalidRow : Option Addr} {maInvalidRow mbInvalidRow mcInvalidRow mdInvalidRow meInvalidRow : Option Value}
    {odIInvalidRow anIInvalidRow : Option Addr} {slIInvalidRow : Array (Option Value)} {ocIInvalidRow kVIInvalidRow dcIInvalidRow pmIInvalidRow cdIInvalidRow ctIInvalidRow : Value}
    (a0 : PySem.W.nsIn K mainGlobals "is_integer" = some (some (.ref f0)))
    (l0 : K.lookup f0 = some ⟨oc0, od0, .func (PySem.W.fnOf "is_integer" "is_integer" (defArgs s_is_integer) (defBody s_is_integer) (defScope s_is_integer) .none kV0 dc0 pm0 an0 cd0 ct0), sl0⟩)
    (c0 : PySem.W.codeIn K cd0 "is_integer" = true)
    (k0 : PySem.W.keepIn K (.ref f0) = true)
    (a1 : PySem.W.nsIn K mainGlobals "is_sequence" = some (some (.ref f1)))
    (l1 : K.lookup f1 = some ⟨oc1, od1, .func (PySem.W.fnOf "is_sequence" "is_sequence" (defArgs s_is_sequence) (defBody s_is_sequence) (defScope s_is_sequence) .none kV1 dc1 pm1 an1 cd1 ct1), sl1⟩)
    (c1 : PySem.W.codeIn K cd1 "is_sequence" = true)
    (k1 : PySem.W.keepIn K (.ref f1) = true)
    (a2 : PySem.W.nsIn K mainGlobals "are_integers" = some (some (.ref f2)))
    (l2 : K.lookup f2 = some ⟨oc2, od2, .func (PySem.W.fnOf "are_integers" "are_integers" (defArgs s_are_integers) (defBody s_are_integers) (defScope s_are_integers) .none kV2 dc2 pm2 an2 cd2 ct2), sl2⟩)
    (c2 : PySem.W.codeIn K cd2 "are_integers" = true)
    (k2 : PySem.W.keepIn K (.ref f2) = true)
    (a3 : PySem.W.nsIn K mainGlobals "divisors_of" = some (some (.ref f3)))
    (l3 : K.lookup f3 = some ⟨oc3, od3, .func (PySem.W.fnOf "divisors_of" "divisors_of" (defArgs s_divisors_of) (defBody s_divisors_of) (defScope s_divisors_of) .none kV3 dc3 pm3 an3 cd3 ct3), sl3⟩)
    (c3 : PySem.W.codeIn K cd3 "divisors_of" = true)
    (k3 : PySem.W.keepIn K (.ref f3) = true)
    (a4 : PySem.W.nsIn K mainGlobals "factors_of" = some (some (.ref f4)))
    (l4 : K.lookup f4 = some ⟨oc4, od4, .func (PySem.W.fnOf "factors_of" "factors_of" (defArgs s_factors_of) (defBody s_factors_of) (defScope s_factors_of) .none kV4 dc4 pm4 an4 cd4 ct4), sl4⟩)
    (c4 : PySem.W.codeIn K cd4 "factors_of" = true)
    (k4 : PySem.W.keepIn K (.ref f4) = true)
    (a5 : PySem.W.nsIn K mainGlobals "mu_of" = some (some (.ref f5)))
    (l5 : K.lookup f5 = some ⟨oc5, od5, .func (PySem.W.fnOf "mu_of" "mu_of" (defArgs s_mu_of) (defBody s_mu_of) (defScope s_mu_of) .none kV5 dc5 pm5 an5 cd5 ct5), sl5⟩)
    (c5 : PySem.W.codeIn K cd5 "mu_of" = true)
    (k5 : PySem.W.keepIn K (.ref f5) = true)
    (a6 : PySem.W.nsIn K mainGlobals "is_row" = some (some (.ref f6)))
    (l6 : K.lookup f6 = some ⟨oc6, od6, .func (PySem.W.fnOf "is_row" "is_row" (defArgs s_is_row) (defBody s_is_row) (defScope s_is_row) .none kV6 dc6 pm6 an6 cd6 ct6), sl6⟩)
    (c6 : PySem.W.codeIn K cd6 "is_row" = true)
    (k6 : PySem.W.keepIn K (.ref f6) = true)
    (a7 : PySem.W.nsIn K mainGlobals "check_row" = some (some (.ref f7)))
    (l7 : K.lookup f7 = some ⟨oc7, od7, .func (PySem.W.fnOf "check_row" "check_row" (defArgs s_check_row) (defBody s_check_row) (defScope s_check_row) .none kV7 dc7 pm7 an7 cd7 ct7), sl7⟩)
    (c7 : PySem.W.codeIn K cd7 "check_row" = true)
    (k7 : PySem.W.keepIn K (.ref f7) = true)
    (a8 : PySem.W.nsIn K mainGlobals "sum_at" = some (some (.ref f8)))
    (l8 : K.lookup f8 = some ⟨oc8, od8, .func (PySem.W.fnOf "sum_at" "sum_at" (defArgs s_sum_at) (defBody s_sum_at) (defScope s_sum_at) .none kV8 dc8 pm8 an8 cd8 ct8), sl8⟩)
    (c8 : PySem.W.codeIn K cd8 "sum_at" = true)
    (k8 : PySem.W.keepIn K (.ref f8) = true)
    (a9 : PySem.W.nsIn K mainGlobals "multiple" = some (some (.ref f9)))
    (l9 : K.lookup f9 = some ⟨oc9, od9, .func (PySem.W.fnOf "multiple" "multiple" (defArgs s_multiple) (defBody s_multiple) (defScope s_multiple) .none kV9 dc9 pm9 an9 cd9 ct9), sl9⟩)
    (c9 : PySem.W.codeIn K cd9 "multiple" = true)
    (k9 : PySem.W.keepIn K (.ref f9) = true)
    (a10 : PySem.W.nsIn K mainGlobals "check_two" = some (some (.ref f10)))
    (l10 : K.lookup f10 = some ⟨oc10, od10, .func (PySem.W.fnOf "check_two" "check_two" (defArgs s_check_two) (defBody s_check_two) (defScope s_check_two) .none kV10 dc10 pm10 an10 cd10 ct10), sl10⟩)
    (c10 : PySem.W.codeIn K cd10 "check_two" = true)
    (k10 : PySem.W.keepIn K (.ref f10) = true)
    (a11 : PySem.W.nsIn K mainGlobals "sum_of" = some (some (.ref f11)))
    (l11 : K.lookup f11 = some ⟨oc11, od11, .func (PySem.W.fnOf "sum_of" "sum_of" (defArgs s_sum_of) (defBody s_sum_of) (defScope s_sum_of) .none kV11 dc11 pm11 an11 cd11 ct11), sl11⟩)
    (c11 : PySem.W.codeIn K cd11 "sum_of" = true)
    (k11 : PySem.W.keepIn K (.ref f11) = true)
    (a12 : PySem.W.nsIn K mainGlobals "product_of" = some (some (.ref f12)))
    (l12 : K.lookup f12 = some ⟨oc12, od12, .func (PySem.W.fnOf "product_of" "product_of" (defArgs s_product_of) (defBody s_product_of) (defScope s_product_of) .none kV12 dc12 pm12 an12 cd12 ct12), sl12⟩)
    (c12 : PySem.W.codeIn K cd12 "product_of" = true)
    (k12 : PySem.W.keepIn K (.ref f12) = true)
    (a13 : PySem.W.nsIn K mainGlobals "_law_cell" = some (some (.ref f13)))
    (l13 : K.lookup f13 = some ⟨oc13, od13, .func (PySem.W.fnOf "_law_cell" "_law_cell" (defArgs s_cell) (defBody s_cell) (defScope s_cell) .none kV13 dc13 pm13 an13 cd13 ct13), sl13⟩)
    (c13 : PySem.W.codeIn K cd13 "_law_cell" = true)
    (k13 : PySem.W.keepIn K (.ref f13) = true)
    (a14 : PySem.W.nsIn K mainGlobals "_law_box" = some (some (.ref f14)))
    (l14 : K.lookup f14 = some ⟨oc14, od14, .func (PySem.W.fnOf "_law_box" "_law_box" (defArgs s_box) (defBody s_box) (defScope s_box) .none kV14 dc14 pm14 an14 cd14 ct14), sl14⟩)
    (c14 : PySem.W.codeIn K cd14 "_law_box" = true)
    (k14 : PySem.W.keepIn K (.ref f14) = true)
    (a15 : PySem.W.nsIn K mainGlobals "_law_take" = some (some (.ref f15)))
    (l15 : K.lookup f15 = some ⟨oc15, od15, .func (PySem.W.fnOf "_law_take" "_law_take" (defArgs s_take) (defBody s_take) (defScope s_take) .none kV15 dc15 pm15 an15 cd15 ct15), sl15⟩)
    (c15 : PySem.W.codeIn K cd15 "_law_take" = true)
    (k15 : PySem.W.keepIn K (.ref f15) = true)
    (a16 : PySem.W.nsIn K mainGlobals "_law_pick" = some (some (.ref f16)))
    (l16 : K.lookup f16 = some ⟨oc16, od16, .func (PySem.W.fnOf "_law_pick" "_law_pick" (defArgs s_pick) (defBody s_pick) (defScope s_pick) .none kV16 dc16 pm16 an16 cd16 ct16), sl16⟩)
    (c16 : PySem.W.codeIn K cd16 "_law_pick" = true)
    (k16 : PySem.W.keepIn K (.ref f16) = true)
    (a17 : PySem.W.nsIn K mainGlobals "_law_same" = some (some (.ref f17)))
    (l17 : K.lookup f17 = some ⟨oc17, od17, .func (PySem.W.fnOf "_law_same" "_law_same" (defArgs s_same) (defBody s_same) (defScope s_same) .none kV17 dc17 pm17 an17 cd17 ct17), sl17⟩)
    (c17 : PySem.W.codeIn K cd17 "_law_same" = true)
    (k17 : PySem.W.keepIn K (.ref f17) = true)
    (a18 : PySem.W.nsIn K mainGlobals "_law_copy" = some (some (.ref f18)))
    (l18 : K.lookup f18 = some ⟨oc18, od18, .func (PySem.W.fnOf "_law_copy" "_law_copy" (defArgs s_copy) (defBody s_copy) (defScope s_copy) .none kV18 dc18 pm18 an18 cd18 ct18), sl18⟩)
    (c18 : PySem.W.codeIn K cd18 "_law_copy" = true)
    (k18 : PySem.W.keepIn K (.ref f18) = true)
    (a19 : PySem.W.nsIn K mainGlobals "_law_very" = some (some (.ref f19)))
    (l19 : K.lookup f19 = some ⟨oc19, od19, .func (PySem.W.fnOf "_law_very" "_law_very" (defArgs s_very) (defBody s_very) (defScope s_very) .none kV19 dc19 pm19 an19 cd19 ct19), sl19⟩)
    (c19 : PySem.W.codeIn K cd19 "_law_very" = true)
    (k19 : PySem.W.keepIn K (.ref f19) = true)
    (a20 : PySem.W.nsIn K mainGlobals "_law_gcd" = some (some (.ref f20)))
    (l20 : K.lookup f20 = some ⟨oc20, od20, .func (PySem.W.fnOf "_law_gcd" "_law_gcd" (defArgs s_gcd) (defBody s_gcd) (defScope s_gcd) .none kV20 dc20 pm20 an20 cd20 ct20), sl20⟩)
    (c20 : PySem.W.codeIn K cd20 "_law_gcd" = true)
    (k20 : PySem.W.keepIn K (.ref f20) = true)
    (a21 : PySem.W.nsIn K mainGlobals "_law_row" = some (some (.ref f21)))
    (l21 : K.lookup f21 = some ⟨oc21, od21, .func (PySem.W.fnOf "_law_row" "_law_row" (defArgs s_row) (defBody s_row) (defScope s_row) .none kV21 dc21 pm21 an21 cd21 ct21), sl21⟩)
    (c21 : PySem.W.codeIn K cd21 "_law_row" = true)
    (k21 : PySem.W.keepIn K (.ref f21) = true)
    (a22 : PySem.W.nsIn K mainGlobals "_law_drawn_row" = some (some (.ref f22)))
    (l22 : K.lookup f22 = some ⟨oc22, od22, .func (PySem.W.fnOf "_law_drawn_row" "_law_drawn_row" (defArgs s_drawn_row) (defBody s_drawn_row) (defScope s_drawn_row) .none kV22 dc22 pm22 an22 cd22 ct22), sl22⟩)
    (c22 : PySem.W.codeIn K cd22 "_law_drawn_row" = true)
    (k22 : PySem.W.keepIn K (.ref f22) = true)
    (a23 : PySem.W.nsIn K mainGlobals "_law_primes" = some (some (.ref f23)))
    (l23 : K.lookup f23 = some ⟨oc23, od23, .func (PySem.W.fnOf "_law_primes" "_law_primes" (defArgs s_primes) (defBody s_primes) (defScope s_primes) .none kV23 dc23 pm23 an23 cd23 ct23), sl23⟩)
    (c23 : PySem.W.codeIn K cd23 "_law_primes" = true)
    (k23 : PySem.W.keepIn K (.ref f23) = true)
    (a24 : PySem.W.nsIn K mainGlobals "_law_is_net" = some (some (.ref f24)))
    (l24 : K.lookup f24 = some ⟨oc24, od24, .func (PySem.W.fnOf "_law_is_net" "_law_is_net" (defArgs s_is_net) (defBody s_is_net) (defScope s_is_net) .none kV24 dc24 pm24 an24 cd24 ct24), sl24⟩)
    (c24 : PySem.W.codeIn K cd24 "_law_is_net" = true)
    (k24 : PySem.W.keepIn K (.ref f24) = true)
    (a25 : PySem.W.nsIn K mainGlobals "_law_some_row" = some (some (.ref f25)))
    (l25 : K.lookup f25 = some ⟨oc25, od25, .func (PySem.W.fnOf "_law_some_row" "_law_some_row" (defArgs s_some_row) (defBody s_some_row) (defScope s_some_row) .none kV25 dc25 pm25 an25 cd25 ct25), sl25⟩)
    (c25 : PySem.W.codeIn K cd25 "_law_some_row" = true)
    (k25 : PySem.W.keepIn K (.ref f25) = true)
    (a26 : PySem.W.nsIn K mainGlobals "_law_multiple" = some (some (.ref f26)))
    (l26 : K.lookup f26 = some ⟨oc26, od26, .func (PySem.W.fnOf "_law_multiple" "_law_multiple" (defArgs s_l_multiple) (defBody s_l_multiple) (defScope s_l_multiple) .none kV26 dc26 pm26 an26 cd26 ct26), sl26⟩)
    (c26 : PySem.W.codeIn K cd26 "_law_multiple" = true)
    (k26 : PySem.W.keepIn K (.ref f26) = true)
    (a27 : PySem.W.nsIn K mainGlobals "_law_one_right" = some (some (.ref f27)))
    (l27 : K.lookup f27 = some ⟨oc27, od27, .func (PySem.W.fnOf "_law_one_right" "_law_one_right" (defArgs s_one_right) (defBody s_one_right) (defScope s_one_right) .none kV27 dc27 pm27 an27 cd27 ct27), sl27⟩)
    (c27 : PySem.W.codeIn K cd27 "_law_one_right" = true)
    (k27 : PySem.W.keepIn K (.ref f27) = true)
    (a28 : PySem.W.nsIn K mainGlobals "_law_pair_right" = some (some (.ref f28)))
    (l28 : K.lookup f28 = some ⟨oc28, od28, .func (PySem.W.fnOf "_law_pair_right" "_law_pair_right" (defArgs s_pair_right) (defBody s_pair_right) (defScope s_pair_right) .none kV28 dc28 pm28 an28 cd28 ct28), sl28⟩)
    (c28 : PySem.W.codeIn K cd28 "_law_pair_right" = true)
    (k28 : PySem.W.keepIn K (.ref f28) = true)
    (a29 : PySem.W.nsIn K mainGlobals "_law_refused" = some (some (.ref f29)))
    (l29 : K.lookup f29 = some ⟨oc29, od29, .func (PySem.W.fnOf "_law_refused" "_law_refused" (defArgs s_refused) (defBody s_refused) (defScope s_refused) .none kV29 dc29 pm29 an29 cd29 ct29), sl29⟩)
    (c29 : PySem.W.codeIn K cd29 "_law_refused" = true)
    (k29 : PySem.W.keepIn K (.ref f29) = true)
    (a30 : PySem.W.nsIn K mainGlobals "law" = some (some (.ref f30)))
    (l30 : K.lookup f30 = some ⟨oc30, od30, .func (PySem.W.fnOf "law" "law" (defArgs s_law) (defBody s_law) (defScope s_law) .none kV30 dc30 pm30 an30 cd30 ct30), sl30⟩)
    (c30 : PySem.W.codeIn K cd30 "law" = true)
    (k30 : PySem.W.keepIn K (.ref f30) = true)
    (z0 : PySem.W.nsIn K mainGlobals "abs" = some none)
    (z1 : PySem.W.nsIn K mainGlobals "all" = some none)
    (z2 : PySem.W.nsIn K mainGlobals "bool" = some none)
    (z3 : PySem.W.nsIn K mainGlobals "dict" = some none)
    (z4 : PySem.W.nsIn K mainGlobals "int" = some none)
    (z5 : PySem.W.nsIn K mainGlobals "isinstance" = some none)
    (z6 : PySem.W.nsIn K mainGlobals "len" = some none)
    (z7 : PySem.W.nsIn K mainGlobals "list" = some none)
    (z8 : PySem.W.nsIn K mainGlobals "max" = some none)
    (z9 : PySem.W.nsIn K mainGlobals "min" = some none)
    (z10 : PySem.W.nsIn K mainGlobals "range" = some none)
    (z11 : PySem.W.nsIn K mainGlobals "str" = some none)
    (z12 : PySem.W.nsIn K mainGlobals "sum" = some none)
    (z13 : PySem.W.nsIn K mainGlobals "tuple" = some none)
    (z14 : PySem.W.nsIn K mainGlobals "zip" = some none)
    (v0 : PySem.W.nsIn K mainGlobals "MOST_TERMS" = some (some (.int 60 q0)))
    (vG : PySem.W.nsIn K mainGlobals "gcd" = some (some (.builtin "math.gcd")))
    (gRowError : PySem.W.nsIn K mainGlobals "RowError" = some (some (.ref CRowError)))
    (xRowError : K.lookup CRowError = some (excClassObj nmRowError qqRowError CRowError NRowError bsRowError bmRowError true snRowError sbRowError abRowError coRowError ddRowError maRowError mbRowError mcRowError mdRowError meRowError "ValueError.__new__"))
    (yRowError : PySem.HandSPX.refsVE bmRowError = true)
    (saRowError : PySem.W.findIn K (.ref CRowError) "__setattr__" = some (some (.builtin "object.__setattr__")))
    (gaRowError : PySem.W.findIn K (.ref CRowError) "__getattribute__" = some (some (.builtin "BaseException.__getattribute__")))
    (ggRowError : PySem.W.findIn K (.ref CRowError) "__getattr__" = some none)
    (keRowError : PySem.W.keepIn K (.ref CRowError) = true)
    (exRowError : PySem.W.subIn K (.ref CRowError) (.type "BaseException") = some true)
    (tyRowError : PySem.W.typeIn K (.ref CRowError) = some (.type "type"))
    (hdRowError : PySem.W.hasDictIn K CRowError = true)
    (icRowError : PySem.W.isClsIn K CRowError = true)
    (gInvalidRow : PySem.W.nsIn K mainGlobals "InvalidRow" = some (some (.ref CInvalidRow)))
    (xInvalidRow : K.lookup CInvalidRow = some (excClassObj nmInvalidRow qqInvalidRow CInvalidRow NInvalidRow bsInvalidRow bmInvalidRow true snInvalidRow sbInvalidRow abInvalidRow coInvalidRow ddInvalidRow maInvalidRow mbInvalidRow mcInvalidRow mdInvalidRow meInvalidRow "ValueError.__new__"))
    (yInvalidRow : PySem.HandSPX.refsVE bmInvalidRow = true)
    (saInvalidRow : PySem.W.findIn K (.ref CInvalidRow) "__setattr__" = some (some (.builtin "object.__setattr__")))
    (gaInvalidRow : PySem.W.findIn K (.ref CInvalidRow) "__getattribute__" = some (some (.builtin "BaseException.__getattribute__")))
    (ggInvalidRow : PySem.W.findIn K (.ref CInvalidRow) "__getattr__" = some none)
    (keInvalidRow : PySem.W.keepIn K (.ref CInvalidRow) = true)
    (exInvalidRow : PySem.W.subIn K (.ref CInvalidRow) (.type "BaseException") = some true)
    (tyInvalidRow : PySem.W.typeIn K (.ref CInvalidRow) = some (.type "type"))
    (hdInvalidRow : PySem.W.hasDictIn K CInvalidRow = true)
    (icInvalidRow : PySem.W.isClsIn K CInvalidRow = true)
    (inInvalidRow : PySem.W.findIn K (.ref CInvalidRow) "__init__" = some (some (.ref fIInvalidRow)))
    (itInvalidRow : PySem.W.typeIn K (.ref fIInvalidRow) = some (.type "function"))
    (ilInvalidRow : K.lookup fIInvalidRow = some ⟨ocIInvalidRow, odIInvalidRow, .func (PySem.W.fnOf "__init__" "InvalidRow.__init__" (defArgs (inClass s_InvalidRow 0)) (defBody (inClass s_InvalidRow 0)) (defScope (inClass s_InvalidRow 0)) .none kVIInvalidRow dcIInvalidRow pmIInvalidRow anIInvalidRow cdIInvalidRow ctIInvalidRow), slIInvalidRow⟩)
    (idInvalidRow : PySem.W.codeIn K cdIInvalidRow "InvalidRow.__init__" = true)
    (ikInvalidRow : PySem.W.keepIn K (.ref fIInvalidRow) = true)
    (noInvalidRowgiven : PySem.W.findIn K (.ref CInvalidRow) "given" = some none)
    (rr1 : PySem.W.readsIn K CRowError (.type "type") = true)
    (rr2 : PySem.W.specialIn K (.ref CRowError) "__getattribute__" = some (some (.builtin "type.__getattribute__")))
    (rr3 : PySem.W.findCls K (.ref CRowError) (.type "type") "__init__" = some (.val (.builtin "ValueError.__init__")))
    (sInvalidRow_RowError : PySem.W.subIn K (.ref CInvalidRow) (.ref CRowError) = some true)
    (sInvalidRow_InvalidRow : PySem.W.subIn K (.ref CInvalidRow) (.ref CInvalidRow) = some true) :
    ∃ fd : FuncData, (∀ (s : Shared) (v : Value), BindsTo s fd ⟨[v], []⟩ [("script", v)]) ∧ ∀ base : Heap, K.In base → base.Ns mainGlobals mg → FnOk P w K mg base (L2N.CX P w) 15 fa fd ["script"] (spLaw K) := by
  have e := hfa.symm.trans (PySem.W.mg_of X G a30)
  cases e
  have T : Txt K mg ⟨CRowError, CInvalidRow⟩ :=
    { h_is_integer := ⟨_, _, fun_mk l0 c0 k0, PySem.W.mg_of X G a0⟩,
      h_is_sequence := ⟨_, _, fun_mk l1 c1 k1, PySem.W.mg_of X G a1⟩,
      h_are_integers := ⟨_, _, fun_mk l2 c2 k2, PySem.W.mg_of X G a2⟩,
      h_divisors_of := ⟨_, _, fun_mk l3 c3 k3, PySem.W.mg_of X G a3⟩,
      h_factors_of := ⟨_, _, fun_mk l4 c4 k4, PySem.W.mg_of X G a4⟩,
      h_mu_of := ⟨_, _, fun_mk l5 c5 k5, PySem.W.mg_of X G a5⟩,
      h_is_row := ⟨_, _, fun_mk l6 c6 k6, PySem.W.mg_of X G a6⟩,
      h_check_row := ⟨_, _, fun_mk l7 c7 k7, PySem.W.mg_of X G a7⟩,
      h_sum_at := ⟨_, _, fun_mk l8 c8 k8, PySem.W.mg_of X G a8⟩,
      h_multiple := ⟨_, _, fun_mk l9 c9 k9, PySem.W.mg_of X G a9⟩,
      h_check_two := ⟨_, _, fun_mk l10 c10 k10, PySem.W.mg_of X G a10⟩,
      h_sum_of := ⟨_, _, fun_mk l11 c11 k11, PySem.W.mg_of X G a11⟩,
      h_product_of := ⟨_, _, fun_mk l12 c12 k12, PySem.W.mg_of X G a12⟩,
      h_cell := ⟨_, _, fun_mk l13 c13 k13, PySem.W.mg_of X G a13⟩,
      h_box := ⟨_, _, fun_mk l14 c14 k14, PySem.W.mg_of X G a14⟩,
      h_take := ⟨_, _, fun_mk l15 c15 k15, PySem.W.mg_of X G a15⟩,
      h_pick := ⟨_, _, fun_mk l16 c16 k16, PySem.W.mg_of X G a16⟩,
      h_same := ⟨_, _, fun_mk l17 c17 k17, PySem.W.mg_of X G a17⟩,
      h_copy := ⟨_, _, fun_mk l18 c18 k18, PySem.W.mg_of X G a18⟩,
      h_very := ⟨_, _, fun_mk l19 c19 k19, PySem.W.mg_of X G a19⟩,
      h_gcd := ⟨_, _, fun_mk l20 c20 k20, PySem.W.mg_of X G a20⟩,
      h_row := ⟨_, _, fun_mk l21 c21 k21, PySem.W.mg_of X G a21⟩,
      h_drawn_row := ⟨_, _, fun_mk l22 c22 k22, PySem.W.mg_of X G a22⟩,
      h_primes := ⟨_, _, fun_mk l23 c23 k23, PySem.W.mg_of X G a23⟩,
      h_is_net := ⟨_, _, fun_mk l24 c24 k24, PySem.W.mg_of X G a24⟩,
      h_some_row := ⟨_, _, fun_mk l25 c25 k25, PySem.W.mg_of X G a25⟩,
      h_l_multiple := ⟨_, _, fun_mk l26 c26 k26, PySem.W.mg_of X G a26⟩,
      h_one_right := ⟨_, _, fun_mk l27 c27 k27, PySem.W.mg_of X G a27⟩,
      h_pair_right := ⟨_, _, fun_mk l28 c28 k28, PySem.W.mg_of X G a28⟩,
      h_refused := ⟨_, _, fun_mk l29 c29 k29, PySem.W.mg_of X G a29⟩,
      h_law := ⟨_, _, fun_mk l30 c30 k30, PySem.W.mg_of X G a30⟩,
      b_abs := PySem.W.mg_none_of X G z0,
      b_all := PySem.W.mg_none_of X G z1,
      b_bool := PySem.W.mg_none_of X G z2,
      b_dict := PySem.W.mg_none_of X G z3,
      b_int := PySem.W.mg_none_of X G z4,
      b_isinstance := PySem.W.mg_none_of X G z5,
      b_len := PySem.W.mg_none_of X G z6,
      b_list := PySem.W.mg_none_of X G z7,
      b_max := PySem.W.mg_none_of X G z8,
      b_min := PySem.W.mg_none_of X G z9,
      b_range := PySem.W.mg_none_of X G z10,
      b_str := PySem.W.mg_none_of X G z11,
      b_sum := PySem.W.mg_none_of X G z12,
      b_tuple := PySem.W.mg_none_of X G z13,
      b_zip := PySem.W.mg_none_of X G z14,
      c_MOST_TERMS := ⟨_, PySem.W.mg_of X G v0, ⟨_, rfl⟩⟩,
      m_gcd := PySem.W.mg_of X G vG,
      er_RowError := ⟨PySem.W.mg_of X G gRowError, ⟨⟨_, _, _, _, _, _, _, _, _, _, _, _, _, _, _, xRowError, yRowError⟩, saRowError, exRowError, tyRowError, keRowError⟩, ⟨gaRowError, ggRowError, exRowError, hdRowError⟩, icRowError⟩,
      er_InvalidRow := ⟨PySem.W.mg_of X G gInvalidRow, ⟨⟨_, _, _, _, _, _, _, _, _, _, _, _, _, _, _, xInvalidRow, yInvalidRow⟩, saInvalidRow, exInvalidRow, tyInvalidRow, keInvalidRow⟩, ⟨gaInvalidRow, ggInvalidRow, exInvalidRow, hdInvalidRow⟩, icInvalidRow⟩,
      no_InvalidRow_given := noInvalidRowgiven,
      in_InvalidRow := ⟨_, _, inInvalidRow, itInvalidRow, fun_mk ilInvalidRow idInvalidRow ikInvalidRow⟩,
      rr := ⟨.type "type", ⟨rr1, rr2⟩, rr3⟩,
      t_InvalidRow_RowError := exm_of exRowError icRowError tyRowError sInvalidRow_RowError,
      t_InvalidRow_InvalidRow := exm_of exInvalidRow icInvalidRow tyInvalidRow sInvalidRow_InvalidRow }
  have F := fun_mk (st := s_law) l30 c30 k30
  refine ⟨PySem.W.fnOf "law" "law" (defArgs s_law) (defBody s_law) (defScope s_law) .none kV30 dc30 pm30 an30 cd30 ct30, fun s v => .of_eq rfl, fun base _ _ => ?_⟩
  · obtain ⟨f, fd, F', hm, g, _⟩ := d_law (P := P) (w := w) (base := base) T
    have e := hfa.symm.trans hm
    cases e
    have e := fun_one F F'
    subst e
    exact g
end Cr
open PySem PySem.W PyProof.Rows L2
set_option maxHeartbeats 0 in
theorem PySem.Challenge.cw_comerounds_k15_multiples_of_rows_holds : PySem.Challenge.rw_comerounds_k15_multiples_of_rows.Holds := by
  w_on; o_law; k_head; (case hw => w_witness2)
  k_fill
  refine L2.walk_of (l := PySem.Challenge.rw_comerounds_k15_multiples_of_rows) (n := 63) (k := 15) (x := "script") (CX := fun w => L2N.CX PySem.Challenge.rw_comerounds_k15_multiples_of_rows.prog w) (sp := fun w => Cr.spLaw _) rfl (by decide) rfl ⟨rfl, by decide, by decide⟩ (fun w h Y => PySem.W.kIn_of Y) ?F (fun _ _ a ns hl _ hS => ⟨a, ns, rfl, hS, fun _ => rfl⟩) (fun _ _ _ _ _ h => Cr.passL h)
  case F =>
    intro w mg fa h KX G hmg
    refine' Cr.all_mk KX G hmg ?a0 ?l0 ?c0 ?k0 ?a1 ?l1 ?c1 ?k1 ?a2 ?l2 ?c2 ?k2 ?a3 ?l3 ?c3 ?k3 ?a4 ?l4 ?c4 ?k4 ?a5 ?l5 ?c5 ?k5 ?a6 ?l6 ?c6 ?k6 ?a7 ?l7 ?c7 ?k7 ?a8 ?l8 ?c8 ?k8 ?a9 ?l9 ?c9 ?k9 ?a10 ?l10 ?c10 ?k10 ?a11 ?l11 ?c11 ?k11 ?a12 ?l12 ?c12 ?k12 ?a13 ?l13 ?c13 ?k13 ?a14 ?l14 ?c14 ?k14 ?a15 ?l15 ?c15 ?k15 ?a16 ?l16 ?c16 ?k16 ?a17 ?l17 ?c17 ?k17 ?a18 ?l18 ?c18 ?k18 ?a19 ?l19 ?c19 ?k19 ?a20 ?l20 ?c20 ?k20 ?a21 ?l21 ?c21 ?k21 ?a22 ?l22 ?c22 ?k22 ?a23 ?l23 ?c23 ?k23 ?a24 ?l24 ?c24 ?k24 ?a25 ?l25 ?c25 ?k25 ?a26 ?l26 ?c26 ?k26 ?a27 ?l27 ?c27 ?k27 ?a28 ?l28 ?c28 ?k28 ?a29 ?l29 ?c29 ?k29 ?a30 ?l30 ?c30 ?k30 ?z0 ?z1 ?z2 ?z3 ?z4 ?z5 ?z6 ?z7 ?z8 ?z9 ?z10 ?z11 ?z12 ?z13 ?z14 ?v0 ?vG ?gRowError ?xRowError ?yRowError ?saRowError ?gaRowError ?ggRowError ?keRowError ?exRowError ?tyRowError ?hdRowError ?icRowError ?gInvalidRow ?xInvalidRow ?yInvalidRow ?saInvalidRow ?gaInvalidRow ?ggInvalidRow ?keInvalidRow ?exInvalidRow ?tyInvalidRow ?hdInvalidRow ?icInvalidRow ?inInvalidRow ?itInvalidRow ?ilInvalidRow ?idInvalidRow ?ikInvalidRow ?noInvalidRowgiven ?rr1 ?rr2 ?rr3 ?sInvalidRow_RowError ?sInvalidRow_InvalidRow
    (case a0 => k_is)
    (case l0 => k_is)
    (case c0 => k_is)
    (case k0 => k_is)
    (case a1 => k_is)
    (case l1 => k_is)
    (case c1 => k_is)
    (case k1 => k_is)
    (case a2 => k_is)
    (case l2 => k_is)
    (case c2 => k_is)
    (case k2 => k_is)
    (case a3 => k_is)
    (case l3 => k_is)
    (case c3 => k_is)
    (case k3 => k_is)
    (case a4 => k_is)
    (case l4 => k_is)
    (case c4 => k_is)
    (case k4 => k_is)
    (case a5 => k_is)
    (case l5 => k_is)
    (case c5 => k_is)
    (case k5 => k_is)
    (case a6 => k_is)
    (case l6 => k_is)
    (case c6 => k_is)
    (case k6 => k_is)
    (case a7 => k_is)
    (case l7 => k_is)
    (case c7 => k_is)
    (case k7 => k_is)
    (case a8 => k_is)
    (case l8 => k_is)
    (case c8 => k_is)
    (case k8 => k_is)
    (case a9 => k_is)
    (case l9 => k_is)
    (case c9 => k_is)
    (case k9 => k_is)
    (case a10 => k_is)
    (case l10 => k_is)
    (case c10 => k_is)
    (case k10 => k_is)
    (case a11 => k_is)
    (case l11 => k_is)
    (case c11 => k_is)
    (case k11 => k_is)
    (case a12 => k_is)
    (case l12 => k_is)
    (case c12 => k_is)
    (case k12 => k_is)
    (case a13 => k_is)
    (case l13 => k_is)
    (case c13 => k_is)
    (case k13 => k_is)
    (case a14 => k_is)
    (case l14 => k_is)
    (case c14 => k_is)
    (case k14 => k_is)
    (case a15 => k_is)
    (case l15 => k_is)
    (case c15 => k_is)
    (case k15 => k_is)
    (case a16 => k_is)
    (case l16 => k_is)
    (case c16 => k_is)
    (case k16 => k_is)
    (case a17 => k_is)
    (case l17 => k_is)
    (case c17 => k_is)
    (case k17 => k_is)
    (case a18 => k_is)
    (case l18 => k_is)
    (case c18 => k_is)
    (case k18 => k_is)
    (case a19 => k_is)
    (case l19 => k_is)
    (case c19 => k_is)
    (case k19 => k_is)
    (case a20 => k_is)
    (case l20 => k_is)
    (case c20 => k_is)
    (case k20 => k_is)
    (case a21 => k_is)
    (case l21 => k_is)
    (case c21 => k_is)
    (case k21 => k_is)
    (case a22 => k_is)
    (case l22 => k_is)
    (case c22 => k_is)
    (case k22 => k_is)
    (case a23 => k_is)
    (case l23 => k_is)
    (case c23 => k_is)
    (case k23 => k_is)
    (case a24 => k_is)
    (case l24 => k_is)
    (case c24 => k_is)
    (case k24 => k_is)
    (case a25 => k_is)
    (case l25 => k_is)
    (case c25 => k_is)
    (case k25 => k_is)
    (case a26 => k_is)
    (case l26 => k_is)
    (case c26 => k_is)
    (case k26 => k_is)
    (case a27 => k_is)
    (case l27 => k_is)
    (case c27 => k_is)
    (case k27 => k_is)
    (case a28 => k_is)
    (case l28 => k_is)
    (case c28 => k_is)
    (case k28 => k_is)
    (case a29 => k_is)
    (case l29 => k_is)
    (case c29 => k_is)
    (case k29 => k_is)
    (case a30 => k_is)
    (case l30 => k_is)
    (case c30 => k_is)
    (case k30 => k_is)
    (case z0 => k_is)
    (case z1 => k_is)
    (case z2 => k_is)
    (case z3 => k_is)
    (case z4 => k_is)
    (case z5 => k_is)
    (case z6 => k_is)
    (case z7 => k_is)
    (case z8 => k_is)
    (case z9 => k_is)
    (case z10 => k_is)
    (case z11 => k_is)
    (case z12 => k_is)
    (case z13 => k_is)
    (case z14 => k_is)
    (case v0 => k_is)
    (case vG => k_is)
    (case gRowError => k_is)
    (case xRowError => k_is)
    (case yRowError => first | rfl | k_is)
    (case saRowError => k_is)
    (case gaRowError => k_is)
    (case ggRowError => k_is)
    (case keRowError => k_is)
    (case exRowError => k_is)
    (case tyRowError => k_is)
    (case hdRowError => k_is)
    (case icRowError => k_is)
    (case gInvalidRow => k_is)
    (case xInvalidRow => k_is)
    (case yInvalidRow => first | rfl | k_is)
    (case saInvalidRow => k_is)
    (case gaInvalidRow => k_is)
    (case ggInvalidRow => k_is)
    (case keInvalidRow => k_is)
    (case exInvalidRow => k_is)
    (case tyInvalidRow => k_is)
    (case hdInvalidRow => k_is)
    (case icInvalidRow => k_is)
    (case inInvalidRow => k_is)
    (case itInvalidRow => k_is)
    (case ilInvalidRow => k_is)
    (case idInvalidRow => k_is)
    (case ikInvalidRow => k_is)
    (case noInvalidRowgiven => k_is)
    (case rr1 => k_is)
    (case rr2 => k_is)
    (case rr3 => k_is)
    (case sInvalidRow_RowError => first | rfl | k_is)
    (case sInvalidRow_InvalidRow => first | rfl | k_is)
namespace Cr

end Cr
#print axioms PySem.Challenge.cw_comerounds_k15_multiples_of_rows_holds
