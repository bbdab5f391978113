import PyProof.Rows.All
import Wide.All
import OpenK.AllK
import Wide.FinOn
import PySem.Challenge.RW_comerounds_k06_by_primes
import HandS.ForMost
import HandS.ForExc
import HandS.Flow
import HandS.Style
import HandS.TupAny
import HandS.TupMul
import HandS.TupLe
import HandS.Wide
import HandS.IsInst
import HandS.Defaults
import HandS.ExcInit
import HandS.ExcField
import HandS.ExcCtx
import HandS.HotCalls
import HandS.ExcInitHot
import HandS.SortInts
import HandS.Codes
import HandS.ClsMeth
import HandS.More
import HandS.Iter
set_option Elab.async false
set_option linter.all false
set_option autoImplicit false
set_option maxRecDepth 100000
set_option maxHeartbeats 4000000
/-! Base rules for the comerounds claims: calls, keyword calls, own errors under RowError, several except clauses with names. -/
namespace Cr
open PySem PySem.Spec PyProof.Rows L2
abbrev CE := L2N.CX

/-! ### calls: one kind of promise for all defs -/
theorem passN {X : Cx} : Passes (L2N.CX X.prog X.w) X E0 := fun _ _ _ _ _ _ _ c => by
  obtain ⟨_, _, _, _, _, _, _, _, _, _, _, _, z⟩ := c
  cases z
theorem takesN {X : Cx} : L2N.Takes X (fun _ _ _ _ => False) := fun _ _ c => by
  obtain ⟨_, _, _, _, _, _, _, _, _, _, _, _, _, _, _, _, z⟩ := c
  cases z
theorem passE {X : Cx} {W : WX} (tk : L2N.Takes X W) (σ : L2.St) : PassesAt (L2N.CX X.prog X.w) X σ (WE W σ) := L2N.passAt tk σ

/-! ### a def of the text, found by its name -/
def Has (K : PySem.W.Frag) (mg : Str → Option Value) (x : Str) (st : Stmt) : Prop := ∃ f fd, Fun K x x st f fd ∧ mg x = some (.ref f)
/-- .. with what it promises -/
def Df (P : Program) (w : World) (K : PySem.W.Frag) (mg : Str → Option Value) (base : Heap) (k : Nat) (x : Str) (st : Stmt) (ps : List Str) (sp : Sp) : Prop :=
  ∃ f fd, Fun K x x st f fd ∧ mg x = some (.ref f) ∧ FnOk P w K mg base (L2N.CX P w) k f fd ps sp ∧ Binds K fd ps []
section
variable {P : Program} {w : World} {K : PySem.W.Frag} {mg : Str → Option Value} {base : Heap}
theorem mk_df {x : Str} {st : Stmt} {N ps : List Str} {k : Nat} {sp : Sp} (h : Has K mg x st) (S : FnScope N ps (defScope st))
    (hb : ∀ (kV doc pm : Value) (an : Option Addr) (cdv ct : Value) (us : List Value), us.length = ps.length →
      bindArgs (PySem.W.fnOf x x (defArgs st) (defBody st) (defScope st) .none kV doc pm an cdv ct) ⟨us, []⟩ = pure (ps.zip us))
    (len : ∀ vs H Q E, sp vs H Q E → vs.length = ps.length)
    (body : ∀ (f : Addr) (cdv : Value) (A : Around) (outer : List Env) (s : Shared) (H : Hp) (vs : List V) (Q : VK) (E : XK),
      Room k (A.deeper (envOfC x (defScope st) s.heap.objs.size f cdv)) → sp vs H Q E →
      ∃ t, PSs (cxOf (L2N.CX P w) P w K mg base N x (defScope st) f cdv A outer s H E) (defBody st) t ∧
        t { nx := fun _ H' => Q .non H', rt := Q } (start N vs) H) : Df P w K mg base (k + 1) x st ps sp := by
  obtain ⟨f, fd, F, hm⟩ := h
  have B := F.binds hb
  refine ⟨f, fd, F, hm, ?_, B⟩
  obtain ⟨oc, od, kV, doc, pm, an, cdv, ct, osl, rfl, lk, hcd⟩ := F.ex
  exact fn_of lk hcd S len fun A outer s H vs Q E hr hsp => body f cdv A outer s H vs Q E hr hsp
theorem Df.mono {x : Str} {st : Stmt} {ps : List Str} {j k : Nat} {sp : Sp} (d : Df P w K mg base j x st ps sp) (h : j ≤ k) : Df P w K mg base k x st ps sp := by
  obtain ⟨f, fd, F, hm, G, B⟩ := d
  exact ⟨f, fd, F, hm, G.mono h, B⟩
theorem Df.weak {x : Str} {st : Stmt} {ps : List Str} {k : Nat} {sp sp' : Sp} (d : Df P w K mg base k x st ps sp) (h : ∀ vs H Q E, sp' vs H Q E → sp vs H Q E) : Df P w K mg base k x st ps sp' := by
  obtain ⟨f, fd, F, hm, G, B⟩ := d
  exact ⟨f, fd, F, hm, ⟨fun vs H Q E z => G.len vs H Q E (h _ _ _ _ z), fun A outer s H args us vs Q E hr e0 hb r z => G.run A outer s H args us vs Q E hr e0 hb r (h _ _ _ _ z)⟩, B⟩
end
section
variable {X : Cx} {k : Nat} {x : Str} {st : Stmt} {ps : List Str} {sp : Sp} {q pos : Pos} {e : Expr} {es : List Expr} {t tk : TA} {W : WX}
/-- f(e, ..), f may raise what W takes -/
theorem pcall {j : Nat} (d : Df X.prog X.w X.K X.mg X.base k x st ps sp) (hr : Room j X.A) (wt : L2N.Takes X W) (ha : PA X (e :: es) t) (hg : Gl X x := by rfl)
    (hdb : (x == ("__debug__" : Str)) = false := by decide) (he : starEach (e :: es) X.env = (false, eval e X.env) :: starEach es X.env := by rfl)
    (hpl : (backTo pos (starEach es X.env)).any (·.1) = false := by rfl) (hk : k ≤ j := by decide) :
    PE X (.Call (.Name x q) (e :: es) [] pos) (tCallS sp (WE W) t) := by
  obtain ⟨f, fd, F, hm, G, B⟩ := d
  exact pe_callS G (hr.mono hk) hg hm F.kp B (fun σ => passE wt σ) ha hdb he hpl
/-- the same where nothing is raised -/
theorem pcall0 {j : Nat} (d : Df X.prog X.w X.K X.mg X.base k x st ps sp) (hr : Room j X.A) (ha : PA X (e :: es) t) (hg : Gl X x := by rfl)
    (hdb : (x == ("__debug__" : Str)) = false := by decide) (he : starEach (e :: es) X.env = (false, eval e X.env) :: starEach es X.env := by rfl)
    (hpl : (backTo pos (starEach es X.env)).any (·.1) = false := by rfl) (hk : k ≤ j := by decide) :
    PE X (.Call (.Name x q) (e :: es) [] pos) (tCallS sp (fun _ => E0) t) := by
  obtain ⟨f, fd, F, hm, G, B⟩ := d
  exact pe_callS G (hr.mono hk) hg hm F.kp B (fun σ pins H s e s' I c => passN (X := X) pins σ H s e s' I c) ha hdb he hpl

/-! ### calls by keywords alone -/
/-- the call f(k = v, ..) with the keywords ks: π puts the written values in the parameters' order -/
structure Kw (x : Str) (st : Stmt) (ps ks : List Str) (n : Nat) (π : {α : Type} → List α → List α → List α) : Prop where
  bind : ∀ (kV doc pm : Value) (an : Option Addr) (cdv ct : Value) (us ws : List Value), us.length = n → ws.length = ks.length →
    bindArgs (PySem.W.fnOf x x (defArgs st) (defBody st) (defScope st) .none kV doc pm an cdv ct) ⟨us, ks.zip ws⟩ = pure (ps.zip (π us ws))
  rel : ∀ {vs zs : List V} {us ws : List Value}, vs.length = n → zs.length = ks.length → Vals vs us → Vals zs ws → Vals (π vs zs) (π us ws)
theorem run_kw {f : Addr} {fd : FuncData} {pins : List (Addr × Obj)} {σ : L2.St} {H : Hp} {s : Shared} {Q : VK} {us ws : List Value} {vs zs : List V} {ks : List Str} {n : Nat} {π : {α : Type} → List α → List α → List α}
    (F : Fun X.K x x st f fd) (G : FnOk X.prog X.w X.K X.mg X.base (L2N.CX X.prog X.w) k f fd ps sp) (hr : Room k X.A) (kw : Kw x st ps ks n π) (hx : PassesAt (L2N.CX X.prog X.w) X σ (WE W σ))
    (I : Inv X pins σ H s) (r : Vals vs us) (rz : Vals zs ws) (l1 : vs.length = n) (l2 : zs.length = ks.length) (h : sp (π vs zs) H Q (WE W σ)) :
    wpAny (model X.prog X.w) X.A (call (.ref f) us (ks.zip ws)) (EP X pins σ Q) X.xe s := by
  obtain ⟨oc, od, kV, doc, pm, an, cdv, ct, osl, rfl, lk, hcd⟩ := F.ex
  have b : BindsTo s (PySem.W.fnOf x x (defArgs st) (defBody st) (defScope st) .none kV doc pm an cdv ct) ⟨us, ks.zip ws⟩ (ps.zip (π us ws)) :=
    .of_eq (kw.bind kV doc pm an cdv ct us ws (r.length.symm.trans l1) (rz.length.symm.trans l2))
  refine wpAny_call (codeAny_mono (G.run X.A X.stack s H _ (π us ws) (π vs zs) Q (WE W σ) hr I.env0 b (kw.rel l1 l2 r rz) h) ?_)
  intro res s' hq
  match res, hq with
  | .error er, hq => exact hx pins H s er s' I hq
  | .ok (.ret u), hq => exact I.after hq
  | .ok .next, hq => exact hq.elim
  | .ok .brk, hq => exact hq.elim
  | .ok .cont, hq => exact hq.elim
def tKw (n m : Nat) (sp : Sp) (π : {α : Type} → List α → List α → List α) (E : L2.St → XK) (t tk : TA) : TE := fun σ H Q =>
  t σ H fun vs H1 => tk σ H1 fun zs H2 => vs.length = n ∧ zs.length = m ∧ sp (π vs zs) H2 Q (E σ)
theorem pkw {j : Nat} {kws : List Keyword} {ks : List Str} {n : Nat} {π : {α : Type} → List α → List α → List α} (d : Df X.prog X.w X.K X.mg X.base k x st ps sp) (hr : Room j X.A) (kw : Kw x st ps ks n π) (wt : L2N.Takes X W)
    (ha : PA X (e :: es) t) (hkw : PK X kws tk) (hg : Gl X x := by rfl) (hall : (backToKw pos (keywordEach kws X.env)).all (·.1.isSome) = true := by rfl)
    (hks : (backToKw pos (keywordEach kws X.env)).filterMap (·.1) = ks := by rfl) (hdb : (x == ("__debug__" : Str)) = false := by decide)
    (he : starEach (e :: es) X.env = (false, eval e X.env) :: starEach es X.env := by rfl)
    (hpl : ((backTo pos (starEach (e :: es) X.env)).any (·.1) || (backToKw pos (keywordEach kws X.env)).any (·.1.isNone)) = false := by rfl) (hk : k ≤ j := by decide) :
    PE X (.Call (.Name x q) (e :: es) kws pos) (tKw n ks.length sp π (WE W) t tk) := by
  obtain ⟨f, fd, F, hm, G, B⟩ := d
  refine ⟨fun pins s σ H Q I h => wpAny_Call_Name_kw (ld_glob I hg hm ?_ hdb)⟩
  refine PySem.W.callWith_KW (h₀ := X.base) I.ok.mod.kin F.kp hall (thn (ha.run pos pins s σ H _ I h) ?_) hpl he
  rintro us s1 ⟨vs, H1, I1, r, c⟩
  refine thn (hkw.run pos pins s1 σ H1 _ I1 c) ?_
  rintro ws s2 ⟨zs, H2, I2, rz, l1, l2, c2⟩
  refine ⟨I2.kIn, ?_⟩
  rw [hks]
  exact run_kw F G (hr.mono hk) kw (passE wt σ) I2 r rz l1 l2 c2
theorem pkw0 {j : Nat} {kws : List Keyword} {ks : List Str} {π : {α : Type} → List α → List α → List α} (d : Df X.prog X.w X.K X.mg X.base k x st ps sp) (hr : Room j X.A) (kw : Kw x st ps ks 0 π) (wt : L2N.Takes X W)
    (hkw : PK X kws tk) (hg : Gl X x := by rfl) (hall : (backToKw pos (keywordEach kws X.env)).all (·.1.isSome) = true := by rfl)
    (hks : (backToKw pos (keywordEach kws X.env)).filterMap (·.1) = ks := by rfl) (hdb : (x == ("__debug__" : Str)) = false := by decide)
    (hpl : ((backTo pos (starEach [] X.env)).any (·.1) || (backToKw pos (keywordEach kws X.env)).any (·.1.isNone)) = false := by rfl) (hk : k ≤ j := by decide) :
    PE X (.Call (.Name x q) [] kws pos) (tKw 0 ks.length sp π (WE W) tNil tk) := by
  obtain ⟨f, fd, F, hm, G, B⟩ := d
  refine ⟨fun pins s σ H Q I h => wpAny_Call_Name_kw (ld_glob I hg hm ?_ hdb)⟩
  refine PySem.W.callWith_KW0 (h₀ := X.base) I.ok.mod.kin F.kp hall (thn (hkw.run pos pins s σ H _ I h) ?_) hpl
  rintro ws s2 ⟨zs, H2, I2, rz, l1, l2, c2⟩
  refine ⟨I2.kIn, ?_⟩
  rw [hks]
  exact run_kw (us := []) (vs := []) F G (hr.mono hk) kw (passE wt σ) I2 .nil rz rfl l2 c2
end

/-! ### own errors: class RowError(ValueError): pass; class X(RowError) with its __init__ -/
section
variable {X : Cx} {e o : Expr} {es : List Expr} {ta : TA} {p1 p2 pos : Pos}
/-- RowError.__init__(self, text) -/
theorem pe_rowinit {pl : Sem Bool} {R : Addr} {mc : Value} (hm : X.mg "RowError" = some (.ref R)) (cr : ClX.CRead X.K R mc)
    (at_ : PySem.W.findCls X.K (.ref R) mc "__init__" = some (.val (.builtin "ValueError.__init__"))) (ha : PA X (e :: es) ta) (hg : Gl X "RowError" := by rfl)
    (hc : eval (.Call (.Attribute (.Name "RowError" p1) "__init__" p2) (e :: es) [] pos) X.env = (do
      let ov ← eval (.Name "RowError" p1) X.env
      standAt p2.atName
      let (f, first) ← holding [ov] (getMethod ov "__init__" pl)
      callWith pos f first (backTo pos (starEach (e :: es) X.env)) (backToKw pos (keywordEach [] X.env))) := by rfl)
    (he : starEach (e :: es) X.env = (false, eval e X.env) :: starEach es X.env := by rfl) (hpl : (backTo pos (starEach es X.env)).any (·.1) = false := by rfl) :
    PE X (.Call (.Attribute (.Name "RowError" p1) "__init__" p2) (e :: es) [] pos) (tVeI X.K ta) := by
  refine ⟨fun pins s σ H Q I h => PySem.W.methodCall_KW (ld_glob I hg hm ?_) hc⟩
  refine PySem.W.method_cls I.kIn cr.ga (PySem.W.cls_value I.kIn cr.rd at_ (by decide +kernel) ?_)
  show wpAny _ _ (callWith pos (Value.builtin "ValueError.__init__") [] (backTo pos (starEach (e :: es) X.env)) []) _ _ _
  refine PyProof.Rows.callWith_method1 (thn (ha.run pos pins _ σ H _ (I.tok _) h) ?_) he hpl
  rintro us s1 ⟨vs, H1, I1, r1, a, C, ws, rfl, hl, T, ea, c⟩
  match us, r1 with
  | u0 :: ur, .cons ra rw' =>
    cases ra
    refine oinit_ok T I1 ea ?_ fun s' J => ⟨.non, H1, J, rfl, c⟩
    rw [← Paired.length rw', sizeLine_eq]
    omega
end

section
variable {X : Cx} {e : Expr} {es : List Expr} {ta : TA} {p pos pos' : Pos}

/-- what a new error's __init__ promises: the attributes fs, stored in this order -/
def spInit (C : Addr) (fs : List Str) : Sp := fun vs H Q _ => ∃ (a : Addr) (as : List V), vs = .ref a :: as ∧ as.length = fs.length ∧ H a = some (exo a C none) ∧
  ∀ dx, H dx = none → dx ≠ a → Q .non (upd (upd H dx (exd dx (fs.zip as).reverse)) a (exo a C (some dx)))
theorem del_upd {H : Hp} {a d : Addr} {o o' o2 u : HO} (na : H a = none) (nd : d ≠ a) :
    upd (del (upd (upd (upd H a o) d o') a o2) a) d u = upd H d u := by
  funext b
  by_cases h1 : b = d
  · rw [h1, upd_same, upd_same]
  · rw [upd_ne h1, upd_ne h1]
    by_cases h2 : b = a
    · rw [h2, del_same, na]
    · rw [del_ne h2, upd_ne h2, upd_ne h1, upd_ne h2]
/-- raise C(e, ..): behind it a new dict with the error's attributes -/
def tErr (C : Addr) (fs : List Str) (ta : TA) : L2.St → Hp → XK → Prop := fun σ H Q => ta σ H fun vs H1 => vs.length = fs.length ∧ vs.length ≤ 1000 ∧ ∀ d, H1 d = none → Q (.ref C) (some d) (upd H1 d (.xd (fs.zip vs).reverse))
/-- C(e, ..) by its own __init__, where nothing is handled: the new exception has no context -/
theorem pmk_err {x : Str} {C fI : Addr} {k : Nat} {fd : FuncData} {ps fs : List Str} (T : OexC X.K C) (iC : PySem.W.findIn X.K (.ref C) "__init__" = some (some (.ref fI)))
    (tI : PySem.W.typeIn X.K (.ref fI) = some (.type "function")) (G : FnOk X.prog X.w X.K X.mg X.base (L2N.CX X.prog X.w) k fI fd ps (spInit C fs)) (hr : Room (k + 1) X.A) (hb : Binds X.K fd ps [])
    (hg : Gl X x) (hm : X.mg x = some (.ref C)) (ha : PA X (e :: es) ta) (hdb : (x == ("__debug__" : Str)) = false := by decide)
    (he : starEach (e :: es) X.env = (false, eval e X.env) :: starEach es X.env := by rfl) (hpl : (backTo pos (starEach es X.env)).any (·.1) = false := by rfl) :
    L2N.PMk X (.Call (.Name x p) (e :: es) [] pos) (tErr C fs ta) := by
  intro pins s σ H Q I h
  obtain ⟨nm, qn, N, bs, bm, sn, sub, ab, col, dd, k0, k1, k2, k3, k5, hC, hbm⟩ := T.cls
  refine wpAny_Call_Name_kw (ld_glob I hg hm ?_ hdb)
  refine PySem.W.callWith_K (h₀ := X.base) I.ok.mod.kin T.kC (thn (ha.run pos pins s σ H _ I h) ?_) he hpl
  rintro us ⟨hp, g, dr, tk, os⟩ ⟨vs, H1, I1, r1, hlen, hz, q1⟩
  refine ⟨I1.kIn, ?_⟩
  show wpAny _ _ (call (.ref C) us) _ _ _
  -- the new exception stands at m
  obtain ⟨m, em⟩ : ∃ m, m = hp.objs.size + 1 := ⟨_, rfl⟩
  have mz : hp.objs.size ≤ m := by omega
  have nm : H1 m = none := I1.hok.fresh mz
  have q2 : spInit C fs (.ref m :: vs) (upd H1 m (exo m C none))
      (fun v H2 => v = .non ∧ ∃ (d : Addr), H2 = upd (upd (upd H1 m (exo m C none)) d (exd d (fs.zip vs).reverse)) m (exo m C (some d)) ∧ H1 d = none ∧ d ≠ m) (fun _ _ _ => False) :=
    ⟨m, vs, rfl, hlen, upd_same, fun dx n1 n2 => ⟨rfl, dx, rfl, by rw [upd_ne n2] at n1; exact n1, n2⟩⟩
  have old : ∀ b o, hp.get? b = some o → ((hp.push (PySem.W.kdv_tup us)).push (PySem.HandSPX.excO C hp.objs.size)).get? b = some o := fun b o z =>
    Heap.get?_push_of_some _ (Heap.get?_push_of_some _ z)
  have here : ((hp.push (PySem.W.kdv_tup us)).push (PySem.HandSPX.excO C hp.objs.size)).get? m = some (PySem.HandSPX.excO C hp.objs.size) := by
    rw [em]
    heap_get
  have J : Inv X pins σ (upd H1 m (exo m C none)) ⟨(hp.push (PySem.W.kdv_tup us)).push (PySem.HandSPX.excO C hp.objs.size), g, dr, tk, os⟩ := I1.laid (t' := tk) old mz (exo_ok here)
  have rr : Vals (V.ref m :: vs) (Value.ref m :: us) := .cons rfl r1
  have hl : (Value.ref m :: us ++ []).length = ps.length := by
    rw [List.append_nil, ← Paired.length rr]
    exact G.len _ _ _ _ q2
  have bb := hb ⟨(hp.push (PySem.W.kdv_tup us)).push (PySem.HandSPX.excO C hp.objs.size), g, dr, tk, os⟩ (Value.ref m :: us) J.kIn hl
  rw [List.append_nil] at bb
  have hus : us.length ≤ sizeLine := by
    rw [← Paired.length r1, sizeLine_eq]
    omega
  refine wpAny_call (PySem.HandSPX.call_own F.excBase_ValueError (fun Y => PySem.HandSPX.refsVE_contains Y bm hbm) (I1.kIn _ _ hC) (PySem.W.looks_findIn I1.kIn iC)
    (fun self => PySem.W.bind_fn I1.kIn self tI) hus ?_)
  subst em
  refine codeAny_mono (G.run _ X.stack _ _ ⟨Value.ref (hp.objs.size + 1) :: us, []⟩ _ _ _ (fun _ _ _ => False) (hr.make C us []) (J.env0.make C us []) bb rr q2) ?_
  intro res s' hq
  match res, hq with
  | .error er, hq =>
    obtain ⟨_, _, _, _, _, _, _, _, _, _, _, _, z⟩ := hq
    exact z.elim
  | .ok .next, hq => exact hq.elim
  | .ok .brk, hq => exact hq.elim
  | .ok .cont, hq => exact hq.elim
  | .ok (.ret u), hq =>
    obtain ⟨v, H2, os2, bare2, un2, hok2, rv, rfl, d, rfl, hd1, nd⟩ := hq
    obtain ⟨h2, g2, d2, t2, os'⟩ := s'
    have ea : (upd (upd (upd H1 (hp.objs.size + 1) (exo (hp.objs.size + 1) C none)) d (exd d (fs.zip vs).reverse)) (hp.objs.size + 1) (exo (hp.objs.size + 1) C (some d))) (hp.objs.size + 1) = some (exo (hp.objs.size + 1) C (some d)) := upd_same
    have ed : (upd (upd (upd H1 (hp.objs.size + 1) (exo (hp.objs.size + 1) C none)) d (exd d (fs.zip vs).reverse)) (hp.objs.size + 1) (exo (hp.objs.size + 1) C (some d))) d = some (exd d (fs.zip vs).reverse) := by
      rw [upd_ne nd, upd_same]
    obtain ⟨t0, G0, J0, kG, ge, hoe, na⟩ := mk_end0 (d2 := d2) (t2 := t2) I1 mz old un2 hok2 os2 bare2 ea ed hd1
    rw [del_upd nm nd] at J0 na
    exact ⟨rv, ⟨_, _, _, ⟨G0, g2, d2, t2, os'⟩, _, .ref C, some d, rfl, J0, kG, ge, hoe, ⟨rfl, rfl, fun vs z => by cases z; rfl⟩, rfl, rfl, na, rfl, bare2, raises_own T.exC T.tyC, q1 d hd1⟩⟩

/-- what is known of an own error: its class object at C -/
structure Er (K : PySem.W.Frag) (mg : Str → Option Value) (x : Str) (C : Addr) : Prop where
  gC : mg x = some (.ref C)
  oex : OexC K C
  xf : XfC K C
  rows : PySem.W.isClsIn K C = true
/-- .. and its __init__ keeps its promise -/
def Em (P : Program) (w : World) (K : PySem.W.Frag) (mg : Str → Option Value) (base : Heap) (k : Nat) (x : Str) (C : Addr) (fs : List Str) : Prop :=
  Er K mg x C ∧ (∀ f ∈ fs, PySem.W.findIn K (.ref C) f = some none) ∧ ∃ fI fd ps, PySem.W.findIn K (.ref C) "__init__" = some (some (.ref fI)) ∧ PySem.W.typeIn K (.ref fI) = some (.type "function") ∧
    FnOk P w K mg base (L2N.CX P w) k fI fd ps (spInit C fs) ∧ Binds K fd ps []
theorem ps_err {j : Nat} {x : Str} {C : Addr} {k : Nat} {fs : List Str} {W : WX} (m : Em X.prog X.w X.K X.mg X.base k x C fs) (hr : Room j X.A) (tk : L2N.Takes X W) (ha : PA X (e :: es) ta)
    (hc : X.calm = true := by rfl) (hg : Gl X x := by rfl) (hdb : (x == ("__debug__" : Str)) = false := by decide)
    (h1 : starEach (e :: es) X.env = (false, eval e X.env) :: starEach es X.env := by rfl) (hpl : (backTo pos (starEach es X.env)).any (·.1) = false := by rfl) (hk : k + 1 ≤ j := by decide) :
    PS X (.Raise (some (.Call (.Name x p) (e :: es) [] pos)) none pos') (fun _ σ H => tErr C fs ta σ H fun cls d H' => W cls d σ H') := by
  obtain ⟨er, no, fI, fd, ps, iC, tI, G, B⟩ := m
  exact L2N.ps_raise hc tk (pmk_err er.oex iC tI G (hr.mono hk) B hg er.gC ha hdb h1 hpl)
/-- e.f of the error that an except suite holds -/
theorem pe_got {x f : Str} {C a : Addr} {oe : Obj} {d : Option Addr} {pn : List (Addr × Obj)} {fs : List Str} {te : TE} {k : Nat} (m : Em X.prog X.w X.K X.mg X.base k x C fs) (hf : f ∈ fs) (hz : L2N.Zn (.ref C) d oe)
    (hd : ∃ vs, oe.data = .fields vs) (he : PE (X.suite a ((a, oe) :: pn)) e te) (hb : attributeBase e f X.env (eval e X.env) = eval e X.env := by rfl) :
    PE (X.suite a ((a, oe) :: pn)) (.Attribute e f pos) (tXf a (.ref C) d C f te) := pe_xf m.1.xf (m.2.1 f hf) hz.zc hd he hb
end

/-! ### try with several except clauses, with names or without -/
def asEnds (o : Option Nat) (D : Ends) : Ends := match o with
  | none => D
  | some i => { nx := fun σ' H' => D.nx (σ'.set i none) H', rt := D.rt, bk := fun σ' H' => D.bk (σ'.set i none) H', ct := fun σ' H' => D.ct (σ'.set i none) H' }
def asSt (o : Option Nat) (a : Addr) (σ : L2.St) : L2.St := match o with
  | none => σ
  | some i => σ.set i (some (.ref a))
abbrev Clause := Value × Option Nat × (Addr → Value → Option Addr → TS)
def wCl (K : PySem.W.Frag) (Wout : WX) (D : Ends) : List Clause → WX
  | [] => Wout
  | (c, o, ts) :: r => fun cls d σ H => ∃ b, PySem.W.exmOne K cls c = some b ∧ (b = true → ∀ a, H a = none → ts a cls d (asEnds o D) (asSt o a σ) H) ∧ (b = false → wCl K Wout D r cls d σ H)
inductive Cls (X : Cx) : List ExceptHandler → List Clause → Prop
  | nil : Cls X [] []
  | one {x : Str} {c : Value} {ts : Addr → Value → Option Addr → TS} {b₀ : Stmt} {suite : List Stmt} {np pos' : Pos} {hds : List ExceptHandler} {l : List Clause} (hc : Names X x c)
      (hsu : ∀ (a : Addr) (oe : Obj) (cls : Value) (d : Option Addr) (pn : List (Addr × Obj)), L2N.Zn cls d oe → (∃ vs, oe.data = .fields vs) → PSs (X.suite a ((a, oe) :: pn)) (b₀ :: suite) (ts a cls d)) (r : Cls X hds l) :
      Cls X (.ExceptHandler (some (.Name x np)) none (b₀ :: suite) pos' :: hds) ((c, none, ts) :: l)
  | as {x n : Str} {i : Nat} {c : Value} {ts : Addr → Value → Option Addr → TS} {b₀ : Stmt} {suite : List Stmt} {np pos' : Pos} {hds : List ExceptHandler} {l : List Clause} (hc : Names X x c)
      (hi : X.N[i]? = some n) (hln : X.env.kindOf n = some .local)
      (hsu : ∀ (a : Addr) (oe : Obj) (cls : Value) (d : Option Addr) (pn : List (Addr × Obj)), L2N.Zn cls d oe → (∃ vs, oe.data = .fields vs) → PSs (X.suite a ((a, oe) :: pn)) (b₀ :: suite) (ts a cls d)) (r : Cls X hds l) :
      Cls X (.ExceptHandler (some (.Name x np)) (some n) (b₀ :: suite) pos' :: hds) ((c, some i, ts) :: l)
section
variable {X : Cx} {body : List Stmt} {h₀ : ExceptHandler} {hds : List ExceptHandler} {l : List Clause} {pos : Pos} {tb : WX → TS} {Wout : WX}
theorem ps_tryc (hN : X.N.Nodup) (tk : L2N.Takes X Wout)
    (hb : ∀ (W : WX) (pn : List (Addr × Obj)) (xe : Value → Shared → Prop), L2N.Takes (X.tr pn xe) W → PassesOwn (model X.prog X.w) X.A X.env xe → PSs (X.tr pn xe) body (tb W))
    (hh : Cls X (h₀ :: hds) l) (hs : X.stack = X.env :: X.outer := by rfl) (hf : X.env.frame = some X.env.locals := by rfl) :
    PS X (.Try body (h₀ :: hds) [] [] pos) (fun D σ H => tb (wCl X.K Wout D l) D σ H) := by
  refine ⟨fun pins s σ H D I h => ?_⟩
  have ok := I.ok
  have hfr : X.A.frames = some (X.env :: X.outer) := by rw [ok.frames, hs]
  refine wpAny_Try_except ?_
  have run := (hb (wCl X.K Wout D l) (X.pn ++ pins) (fun e s₁ => wpAny (model X.prog X.w) X.A (noteFrame e X.env) (fun _ s₂ => wpAny (model X.prog X.w) X.A (setFlight e none)
    (fun _ s₃ => wpAny (model X.prog X.w) X.A (handleBy e X.env (h₀ :: hds)) (SP X pins D) X.xe s₃) X.xe s₂) X.xe s₁) ?caught PassesOwn.looking).run [] s σ H D (I.toTry _) h
  · refine wpAny_mono run ?_ (fun _ _ z => z)
    intro f s1 hsp
    match f, hsp with
    | .next, ⟨σ', H', J', q⟩ => exact wpAny_execs_nil ⟨σ', H', J'.ofTry ok, q⟩
    | .brk, ⟨σ', H', J', q⟩ => exact ⟨σ', H', J'.ofTry ok, q⟩
    | .cont, ⟨σ', H', J', q⟩ => exact ⟨σ', H', J'.ofTry ok, q⟩
    | .ret u, ⟨v, σ', H', J', r, q⟩ => exact ⟨v, σ', H', J'.ofTry ok, r, q⟩
  case caught =>
    rintro u s' ⟨a, B, sI, pins', σ', H', cls, d, rfl, J', nb, up, sky, na, os, ag, w⟩
    have J : Inv X pins σ' H' sI := J'.ofTry ok
    have sky' : Sky B (X.env :: X.outer) a (L2N.Zn cls d) X.env.locals s'.heap := by rw [← hs]; exact sky
    show wpAny (model X.prog X.w) X.A (noteFrame (.ref a) X.env) _ _ _
    refine L2N.Sky.land L2N.Zn.steady hfr hf sky' fun h3 fl3 up3 => ?_
    have J3 : Inv X pins σ' H' { s' with heap := h3 } := J.landed nb fl3.1 (up.trans up3) os ag
    obtain ⟨oe3, vs3, he3, hz3, hd3⟩ := fl3.there
    have nfr : a ∉ frs (X.env :: X.outer) := by
      intro hm
      obtain ⟨_, o', e', hnf⟩ := fl3.2.2.1.mem hm
      rw [he3] at e'
      cases e'
      exact hnf _ hd3
    have nL : a ≠ X.env.locals := by
      intro z
      exact nfr (List.mem_filterMap.mpr ⟨X.env, List.mem_cons_self, by rw [hf, z]⟩)
    have nF : a ∉ X.fs := by
      intro hm
      obtain ⟨e, he, q⟩ := List.mem_filterMap.mp hm
      exact nfr (List.mem_filterMap.mpr ⟨e, List.mem_cons_of_mem _ he, q⟩)
    have S3 := J3.suite he3 hd3 na nL nF
    have LT : PySem.W.Looks (model X.prog X.w) h3 (typeOf (.ref a)) cls := fun A Q E s k q => wpAny_typeOf_ref (k _ _ he3) (by rw [hz3.1]; exact q)
    have test : ∀ {x : Str} {c : Value} {np : Pos} {Q : Value → Shared → Prop} {E : Value → Shared → Prop}, Names X x c → Q c { s' with heap := h3 } →
        wpAny (model X.prog X.w) (X.A.mark (some (.ref a))) (eval (.Name x np) X.env) Q E { s' with heap := h3 } := by
      intro x c np Q E hc q
      obtain ⟨hg, hdbg, hm | ⟨hm, hv, hnn⟩⟩ := hc
      · exact ld_glob (X := X.suite a ((a, oe3) :: (X.pn ++ pins))) S3 hg hm q hdbg
      · exact ld_blt (X := X.suite a ((a, oe3) :: (X.pn ++ pins))) S3 hg hm hv q hnn hdbg
    have go : ∀ {hds' : List ExceptHandler} {l' : List Clause}, Cls X hds' l' → wCl X.K Wout D l' cls d σ' H' →
        wpAny (model X.prog X.w) X.A (handleBy (.ref a) X.env hds') (SP X pins D) X.xe { s' with heap := h3 } := by
      intro hds' l' hk
      induction hk with
      | nil =>
        intro w
        refine wpAny_handleBy_nil ?_
        obtain ⟨k1, k2, k3, oe, vs, T, oT, ts', he, hz, hd, h1, hr⟩ := id fl3
        unfold PySem.passOn
        refine wpAny_bind (wpAny_field he hd h1 ?_)
        rw [if_neg (show ¬ ((Value.ref T == Value.none) = true) from by simp)]
        have fin : wpAny (model X.prog X.w) X.A (setFlight (.ref a) X.env.frame) (fun _ s4 => wpAny (model X.prog X.w) X.A (throw (.ref a) : Sem Flow) (SP X pins D) X.xe s4) X.xe { s' with heap := h3 } := by
          rw [hf]
          refine HandSPX.setFlight_upZ fl3 fun h4 hh4 up4 => wpAny_throw (tk _ _ ?_)
          exact ⟨a, B, sI, pins, σ', H', cls, d, rfl, J, nb, (up.trans up3).trans up4, .inr (.inr (by rw [hs]; exact hh4)), na, os, ag, w⟩
        first
          | exact wpAny_bind (wpAny_pure (wpAny_bind fin))
          | exact wpAny_bind fin
      | one hc hsu r ih =>
        rintro ⟨b, hb1, hyes, hno⟩
        refine wpAny_handleBy_cons (codeAny_handlers_test ?_) (by intro q; cases q)
        refine test hc ((PySem.W.exm_one (M := model X.prog X.w) J3.kIn LT hb1).here ?_)
        cases b with
        | false => exact ih (hno rfl)
        | true =>
          refine codeAny_handlers_suite (HandSPX.lands_againZ fl3 fun h4 fl4 up4 => ?_)
          have J4 : Inv X pins σ' H' { s' with heap := h4 } := J.landed nb fl4.1 ((up.trans up3).trans up4) os ag
          obtain ⟨oe4, vs4, he4, hz4, hd4⟩ := fl4.there
          have S4 := J4.suite he4 hd4 na nL nF
          refine wpAny_mono ((hsu a oe4 cls d (X.pn ++ pins) hz4 ⟨_, hd4⟩).run [] _ _ H' _ S4 (hyes rfl a na)) ?_ (fun _ _ z => z.elim)
          intro f s6 hsp
          match f, hsp with
          | .next, ⟨σ6, H6, S6, q6⟩ => exact ⟨_, _, S6.unsuite ok, q6⟩
          | .brk, ⟨σ6, H6, S6, q6⟩ => exact ⟨_, _, S6.unsuite ok, q6⟩
          | .cont, ⟨σ6, H6, S6, q6⟩ => exact ⟨_, _, S6.unsuite ok, q6⟩
          | .ret u, ⟨v6, σ6, H6, S6, r6, q6⟩ => exact ⟨_, _, _, S6.unsuite ok, r6, q6⟩
      | @as x n i c ts b₀ suite np pos' hds l hc hi hln hsu r ih =>
        rintro ⟨b, hb1, hyes, hno⟩
        refine wpAny_handleBy_cons (codeAny_handlers_test ?_) (by intro q; cases q)
        refine test hc ((PySem.W.exm_one (M := model X.prog X.w) J3.kIn LT hb1).here ?_)
        cases b with
        | false => exact ih (hno rfl)
        | true =>
          refine codeAny_handlers_suite_as (HandSPX.lands_againZ fl3 fun h4 fl4 up4 => ?_)
          have J4 : Inv X pins σ' H' { s' with heap := h4 } := J.landed nb fl4.1 ((up.trans up3).trans up4) os ag
          obtain ⟨oe4, vs4, he4, hz4, hd4⟩ := fl4.there
          have S4 := J4.suite he4 hd4 na nL nF
          have hloc : Loc X.env.scope n := .inl hln
          refine store_ok (X := X.suite a ((a, oe4) :: (X.pn ++ pins))) (v := .ref a) S4 hN hi hloc rfl (fun s5 S5 => ?_) (.inr hln)
          refine wpAny_mono ((hsu a oe4 cls d (X.pn ++ pins) hz4 ⟨_, hd4⟩).run [] s5 _ H' _ S5 (hyes rfl a na)) ?_ (fun _ _ z => z.elim)
          intro f s6 hsp
          have fin : ∀ {σ6 : L2.St} {H6 : Hp} {Q : Shared → Prop}, Inv (X.suite a ((a, oe4) :: (X.pn ++ pins))) [] σ6 H6 s6 → (∀ s7, Inv X pins (σ6.set i none) H6 s7 → Q s7) →
              wpAny (model X.prog X.w) X.A (do bindName X.env n .none; unbindBehindTheSuite X.env n pos') (fun _ s7 => Q s7) X.xe s6 := fun S6 hq => gone_ok (S6.unsuite ok) hN hi hln hq
          match f, hsp with
          | .next, ⟨σ6, H6, S6, q6⟩ => exact fin S6 fun s7 J7 => ⟨_, _, J7, q6⟩
          | .brk, ⟨σ6, H6, S6, q6⟩ => exact fin S6 fun s7 J7 => ⟨_, _, J7, q6⟩
          | .cont, ⟨σ6, H6, S6, q6⟩ => exact fin S6 fun s7 J7 => ⟨_, _, J7, q6⟩
          | .ret u, ⟨v6, σ6, H6, S6, r6, q6⟩ => exact fin S6 fun s7 J7 => ⟨_, _, _, J7, r6, q6⟩
    exact go hh w
end
end Cr

/-! Operators by values for any kinds of values, each with the ways into its reading. -/
namespace Cr
open PySem PySem.Spec PyProof.Rows L2
section
variable {X : Cx} {K : PySem.W.Frag} {σ : L2.St} {H : Hp} {Q : VK} {x y z v : V} {i j n : Int} {a b p : Addr} {xs ys : List V} {s t : Str} {k : Bool}

theorem same0 {o : HO} (h : H p = none) : Same H (upd H p o) := fun b x e => by
  rw [upd_ne (ne_of_none e h)]
  exact e
/-! ### sums, products -/
def rAddU (K : PySem.W.Frag) : R2 := fun x y H Q => (∃ i j, x = .int i ∧ y = .int j ∧ Q (.int (i + j)) H) ∨ (∃ i j, x = .str i ∧ y = .str j ∧ i.length + j.length ≤ sizeLine ∧ Q (.str (i ++ j)) H) ∨ rCat x y H Q ∨ rCatA K x y H Q
theorem o_add : OpR X (binaryOp .Add) (rAddU X.K) := by
  intro pins s σ H x y v u Q I rx ry q
  rcases q with q | q | q | q
  · exact op_add pins s σ H x y v u Q I rx ry q
  · exact op_add_str pins s σ H x y v u Q I rx ry q
  · exact op_cat pins s σ H x y v u Q I rx ry q
  · exact op_catA pins s σ H x y v u Q I rx ry q
theorem add_ii (q : Q (.int (i + j)) H) : rAddU K (.int i) (.int j) H Q := .inl ⟨_, _, rfl, rfl, q⟩
theorem add_ss (h : s.length + t.length ≤ sizeLine) (q : Q (.str (s ++ t)) H) : rAddU K (.str s) (.str t) H Q := .inr (.inl ⟨_, _, rfl, rfl, h, q⟩)
theorem add_ll (ha : H a = some (.lst xs)) (hb : H b = some (.lst ys)) (h : xs.length + ys.length ≤ sizeLine) (q : ∀ p H', H p = none → Same H H' → H' p = some (.lst (xs ++ ys)) → Q (.ref p) H') : rAddU K (.ref a) (.ref b) H Q :=
  .inr (.inr (.inl ⟨_, _, _, _, rfl, rfl, ha, hb, h, fun p n => q p _ n (same0 n) upd_same⟩))
theorem add_tt (ha : SqT K H a xs) (hb : SqT K H b ys) (h : xs.length + ys.length ≤ sizeLine) (q1 : xs = [] → Q (.ref b) H) (q2 : xs ≠ [] → ys = [] → Q (.ref a) H) (q : xs ≠ [] → ys ≠ [] → ∀ p H', H p = none → Same H H' → H' p = some (.tup (xs ++ ys)) → Q (.ref p) H') : rAddU K (.ref a) (.ref b) H Q :=
  .inr (.inr (.inr ⟨_, _, _, _, rfl, rfl, ha, hb, h, q1, q2, fun z1 z2 p n => q z1 z2 p _ n (same0 n) upd_same⟩))
def rMulU (K : PySem.W.Frag) : R2 := fun x y H Q => (rI CMul fun i j => .int (i * j)) x y H Q ∨ (rI CMulW fun i j => .int (i * j)) x y H Q ∨ rRep x y H Q ∨ rRepT K x y H Q
theorem o_mul : OpR X (binaryOp .Mult) (rMulU X.K) := by
  intro pins s σ H x y v u Q I rx ry q
  rcases q with q | q | q | q
  · exact op_mul pins s σ H x y v u Q I rx ry q
  · exact op_mulW pins s σ H x y v u Q I rx ry q
  · exact op_rep pins s σ H x y v u Q I rx ry q
  · exact op_repT pins s σ H x y v u Q I rx ry q
theorem mul_ii (c : CMul i j) (q : Q (.int (i * j)) H) : rMulU K (.int i) (.int j) H Q := .inl ⟨_, _, rfl, rfl, c, q⟩
theorem mul_iw (c : CMulW i j) (q : Q (.int (i * j)) H) : rMulU K (.int i) (.int j) H Q := .inr (.inl ⟨_, _, rfl, rfl, c, q⟩)
theorem mul_li (ha : H a = some (.lst xs)) (h1 : -(2 ^ 63) ≤ i) (h2 : i < 2 ^ 63) (h : xs.length * i.toNat ≤ sizeLine) (q : ∀ p H', H p = none → Same H H' → H' p = some (.lst (List.replicate i.toNat xs).flatten) → Q (.ref p) H') : rMulU K (.ref a) (.int i) H Q :=
  .inr (.inr (.inl ⟨_, _, _, rfl, rfl, ha, h1, h2, h, fun p n => q p _ n (same0 n) upd_same⟩))
theorem mul_ti (ha : SqT K H a xs) (h0 : xs ≠ []) (h1 : 2 ≤ i) (h2 : i ≤ 1000) (h : xs.length ≤ 1000) (q : ∀ p H', H p = none → Same H H' → H' p = some (.tup (List.replicate i.toNat xs).flatten) → Q (.ref p) H') : rMulU K (.ref a) (.int i) H Q :=
  .inr (.inr (.inr ⟨_, _, _, rfl, rfl, ha, h0, h1, h2, h, fun p n => q p _ n (same0 n) upd_same⟩))
abbrev rSubU : R2 := rI0 fun i j => .int (i - j)
theorem o_sub : OpR X (binaryOp .Sub) rSubU := op_sub
theorem sub_ii (q : Q (.int (i - j)) H) : rSubU (.int i) (.int j) H Q := ⟨_, _, rfl, rfl, q⟩
abbrev rDivU : R2 := rI CDivW fun i j => .int (i / j)
theorem o_fdiv : OpR X (binaryOp .FloorDiv) rDivU := op_fdivW
theorem div_ii (c : CDivW i j) (q : Q (.int (i / j)) H) : rDivU (.int i) (.int j) H Q := ⟨_, _, rfl, rfl, c, q⟩
abbrev rModU : R2 := rI (fun _ j => 0 < j) fun i j => .int (i % j)
theorem o_mod : OpR X (binaryOp .Mod) rModU := op_mod
theorem mod_ii (c : 0 < j) (q : Q (.int (i % j)) H) : rModU (.int i) (.int j) H Q := ⟨_, _, rfl, rfl, c, q⟩
abbrev rPowU : R2 := rI CPow fun i j => .int (i ^ j.toNat)
theorem o_pow : OpR X (binaryOp .Pow) rPowU := op_pow
theorem pow_ii (c : CPow i j) (q : Q (.int (i ^ j.toNat)) H) : rPowU (.int i) (.int j) H Q := ⟨_, _, rfl, rfl, c, q⟩
theorem neg_i (q : Q (.int (-i)) H) : (rU fun i => .int (-i)) (.int i) H Q := ⟨_, rfl, q⟩

/-! ### comparisons -/
abbrev rLtU : R2 := fun x y H Q => (∃ i j, x = .int i ∧ y = .int j ∧ Q (.bl (decide (i < j))) H) ∨ (∃ i j, x = .str i ∧ y = .str j ∧ Q (.bl (decide (i.cps.toList < j.cps.toList))) H)
theorem o_lt : OpR X (compareOp .Lt) rLtU := OpR.or op_lt op_lt_str
theorem lt_ii (q : Q (.bl (decide (i < j))) H) : rLtU (.int i) (.int j) H Q := .inl ⟨_, _, rfl, rfl, q⟩
theorem lt_ss (q : Q (.bl (decide (s.cps.toList < t.cps.toList))) H) : rLtU (.str s) (.str t) H Q := .inr ⟨_, _, rfl, rfl, q⟩
abbrev rLeU : R2 := rI0 fun i j => .bl (decide (i ≤ j))
theorem o_le : OpR X (compareOp .LtE) rLeU := op_le
theorem le_ii (q : Q (.bl (decide (i ≤ j))) H) : rLeU (.int i) (.int j) H Q := ⟨_, _, rfl, rfl, q⟩
abbrev rGtU : R2 := rI0 fun i j => .bl (decide (j < i))
theorem o_gt : OpR X (compareOp .Gt) rGtU := op_gt
theorem gt_ii (q : Q (.bl (decide (j < i))) H) : rGtU (.int i) (.int j) H Q := ⟨_, _, rfl, rfl, q⟩
abbrev rGeU : R2 := rI0 fun i j => .bl (decide (j ≤ i))
theorem o_ge : OpR X (compareOp .GtE) rGeU := op_ge
theorem ge_ii (q : Q (.bl (decide (j ≤ i))) H) : rGeU (.int i) (.int j) H Q := ⟨_, _, rfl, rfl, q⟩
def rEqU (K : PySem.W.Frag) : R2 := fun x y H Q => (scal x y = true ∧ Q (.bl (decide (x = y))) H) ∨ rEqD K x y H Q
theorem o_eq (hu : X.A.units + 64 < cLine) : OpR X (compareOp .Eq) (rEqU X.K) := OpR.or op_eq (op_eqD hu)
theorem eq_ii (q : Q (.bl (decide (i = j))) H) : rEqU K (.int i) (.int j) H Q := .inl ⟨rfl, by
  have e : decide (V.int i = V.int j) = decide (i = j) := by simp
  rw [e]
  exact q⟩
theorem eq_ss (q : Q (.bl (decide (s = t))) H) : rEqU K (.str s) (.str t) H Q := .inl ⟨rfl, by
  have e : decide (V.str s = V.str t) = decide (s = t) := by simp
  rw [e]
  exact q⟩
theorem eq_bb {k l : Bool} (q : Q (.bl (decide (k = l))) H) : rEqU K (.bl k) (.bl l) H Q := .inl ⟨rfl, by
  have e : decide (V.bl k = V.bl l) = decide (k = l) := by simp
  rw [e]
  exact q⟩
theorem eq_dd {d e : PyData} (h1 : Dp K H x d) (h2 : Dp K H y e) (h3 : SeqAt.shaped d = true) (h4 : SeqAt.shaped e = true) (q : Q (.bl (PyData.eqv d e)) H) : rEqU K x y H Q := .inr ⟨d, e, h1, h2, h3, h4, q⟩
def rNeU (K : PySem.W.Frag) : R2 := fun x y H Q => (scal x y = true ∧ Q (.bl (!decide (x = y))) H) ∨ rNeD K x y H Q
theorem o_ne (hu : X.A.units + 64 < cLine) : OpR X (compareOp .NotEq) (rNeU X.K) := OpR.or op_ne (op_neD hu)
theorem ne_ii (q : Q (.bl (!decide (i = j))) H) : rNeU K (.int i) (.int j) H Q := .inl ⟨rfl, by
  have e : decide (V.int i = V.int j) = decide (i = j) := by simp
  rw [e]
  exact q⟩
theorem ne_ss (q : Q (.bl (!decide (s = t))) H) : rNeU K (.str s) (.str t) H Q := .inl ⟨rfl, by
  have e : decide (V.str s = V.str t) = decide (s = t) := by simp
  rw [e]
  exact q⟩
theorem ne_bb {k l : Bool} (q : Q (.bl (!decide (k = l))) H) : rNeU K (.bl k) (.bl l) H Q := .inl ⟨rfl, by
  have e : decide (V.bl k = V.bl l) = decide (k = l) := by simp
  rw [e]
  exact q⟩
theorem ne_dd {d e : PyData} (h1 : Dp K H x d) (h2 : Dp K H y e) (h3 : SeqAt.shaped d = true) (h4 : SeqAt.shaped e = true) (q : Q (.bl (!PyData.eqv d e)) H) : rNeU K x y H Q := .inr ⟨d, e, h1, h2, h3, h4, q⟩
abbrev rIsU : R2 := fun x y H Q => (y = .non ∧ Q (.bl (decide (x = .non))) H) ∨ (∃ a b, x = .bl a ∧ y = .bl b ∧ Q (.bl (decide (a = b))) H)
theorem o_is : OpR X (compareOp .Is) rIsU := OpR.or op_isN op_is_bl
theorem is_n (q : Q (.bl (decide (x = .non))) H) : rIsU x .non H Q := .inl ⟨rfl, q⟩
theorem is_bb {k l : Bool} (q : Q (.bl (decide (k = l))) H) : rIsU (.bl k) (.bl l) H Q := .inr ⟨_, _, rfl, rfl, q⟩
abbrev rIsnU : R2 := fun x y H Q => (y = .non ∧ Q (.bl (!decide (x = .non))) H) ∨ (∃ a b, x = .bl a ∧ y = .bl b ∧ Q (.bl (!decide (a = b))) H)
theorem o_isnot : OpR X (compareOp .IsNot) rIsnU := OpR.or op_notN op_isnot_bl
theorem isn_n (q : Q (.bl (!decide (x = .non))) H) : rIsnU x .non H Q := .inl ⟨rfl, q⟩
def rInU (K : PySem.W.Frag) : R2 := fun x y H Q => rIn K false x y H Q ∨ (∃ (c : Nat) (z : Str), x = .str ⟨#[c]⟩ ∧ y = .str z ∧ Q (.bl (decide (c ∈ z.cps.toList))) H)
theorem o_in : OpR X (compareOp .In) (rInU X.K) := OpR.or op_in_seq op_in_sign
def rNinU (K : PySem.W.Frag) : R2 := fun x y H Q => rIn K true x y H Q ∨ (∃ (c : Nat) (z : Str), x = .str ⟨#[c]⟩ ∧ y = .str z ∧ Q (.bl (!decide (c ∈ z.cps.toList))) H)
theorem o_nin : OpR X (compareOp .NotIn) (rNinU X.K) := OpR.or op_notIn_seq op_notIn_sign

/-! ### subscripts, len, built-ins -/
theorem ix_l (h : SqL K H a xs) (e : atI xs i = some v) (q : Q v H) : rIx K (.ref a) (.int i) H Q := .inl ⟨_, _, _, _, rfl, rfl, h, e, q⟩
theorem ix_t (h : SqT K H a xs) (e : atI xs i = some v) (q : Q v H) : rIx K (.ref a) (.int i) H Q := .inr (.inl ⟨_, _, _, _, rfl, rfl, h, e, q⟩)
theorem ix_s {c : Nat} (h : s.length ≤ sizeLine) (e : atI s.cps.toList i = some c) (q : Q (.str ⟨#[c]⟩) H) : rIx K (.str s) (.int i) H Q := .inr (.inr ⟨_, _, _, rfl, rfl, h, e, q⟩)
def rSliU (K : PySem.W.Frag) : V → Option Int → Option Int → Hp → VK → Prop := fun x lo hi H Q => rSlL K x lo hi H Q ∨ rSlS x lo hi H Q ∨ rSlA K x lo hi H Q
theorem s_any : SlR X (rSliU X.K) := SlR.or sl_list (SlR.or sl_str sl_tupA)
theorem sl_l {lo hi : Option Int} (h : SqL K H a xs) (q : ∀ p H', H p = none → Same H H' → H' p = some (.lst (cutV xs lo hi)) → Q (.ref p) H') : rSliU K (.ref a) lo hi H Q := .inl ⟨_, _, rfl, h, fun p n => q p _ n (same0 n) upd_same⟩
theorem sl_s {lo hi : Option Int} (h : s.length ≤ sizeLine) (q : Q (.str (cutS s lo hi)) H) : rSliU K (.str s) lo hi H Q := .inr (.inl ⟨_, rfl, h, q⟩)
def rLenU (K : PySem.W.Frag) : List V → Hp → VK → Prop := fun xs H Q => (∃ x n, xs = [x] ∧ LenV K x H n ∧ Q (.int n) H) ∨ (∃ a kvs, xs = [V.ref a] ∧ H a = some (.dK kvs) ∧ Q (.int kvs.length) H)
theorem c_len : CallR X (.builtin "len") (rLenU X.K) := CallR.or call_len call_lenD
theorem len_l (h : SqL K H a xs) (q : Q (.int xs.length) H) : rLenU K [.ref a] H Q := .inl ⟨_, _, rfl, .inl ⟨_, h, rfl⟩, q⟩
theorem len_t (h : SqT K H a xs) (q : Q (.int xs.length) H) : rLenU K [.ref a] H Q := .inl ⟨_, _, rfl, .inr ⟨_, h, rfl⟩, q⟩
theorem len_s (h : s.length ≤ sizeLine) (q : Q (.int s.length) H) : rLenU K [.str s] H Q := .inl ⟨_, _, rfl, ⟨h, rfl⟩, q⟩
theorem len_d {kvs : List (Key × V)} (h : H a = some (.dK kvs)) (q : Q (.int kvs.length) H) : rLenU K [.ref a] H Q := .inr ⟨_, _, rfl, h, q⟩
abbrev rIntU : List V → Hp → VK → Prop := fun xs H Q => (∃ i, xs = [.int i] ∧ Q (.int i) H) ∨ ∃ k, xs = [.bl k] ∧ Q (.int (if k then 1 else 0)) H
theorem c_int : CallR X (.type "int") rIntU := call_int1
theorem int_i (q : Q (.int i) H) : rIntU [.int i] H Q := .inl ⟨_, rfl, q⟩
theorem int_b (q : Q (.int (if k then 1 else 0)) H) : rIntU [.bl k] H Q := .inr ⟨_, rfl, q⟩
abbrev rAbsU : List V → Hp → VK → Prop := fun xs H Q => ∃ i, xs = [.int i] ∧ Q (.int (if i < 0 then -i else i)) H
theorem c_abs : CallR X (.builtin "abs") rAbsU := call_abs
theorem abs_i (q : Q (.int (if i < 0 then -i else i)) H) : rAbsU [.int i] H Q := ⟨_, rfl, q⟩
theorem sum_l {ns : List Int} (h : SqL K H a (ns.map V.int)) (q : Q (.int ns.sum) H) : rSum K [.ref a] H Q := ⟨_, _, rfl, h, q⟩
theorem all_l {bs : List Bool} (h : SqL K H a (bs.map V.bl)) (q : Q (.bl (bs.all id)) H) : rAll K [.ref a] H Q := ⟨_, _, rfl, h, q⟩
theorem any_l {bs : List Bool} (h : SqL K H a (bs.map V.bl)) (q : Q (.bl (bs.any id)) H) : rAny K [.ref a] H Q := ⟨_, _, rfl, h, q⟩
abbrev rMax2U : List V → Hp → VK → Prop := fun xs H Q => ∃ i j, xs = [.int i, .int j] ∧ Q (.int (if j > i then j else i)) H
abbrev rMin2U : List V → Hp → VK → Prop := fun xs H Q => ∃ i j, xs = [.int i, .int j] ∧ Q (.int (if j < i then j else i)) H
theorem c_max2 (hc : X.calm = true) : CallR X (.builtin "max") rMax2U := call_max2 hc
theorem c_min2 (hc : X.calm = true) : CallR X (.builtin "min") rMin2U := call_min2 hc
theorem max_2 (q : Q (.int (if j > i then j else i)) H) : rMax2U [.int i, .int j] H Q := ⟨_, _, rfl, q⟩
theorem min_2 (q : Q (.int (if j < i then j else i)) H) : rMin2U [.int i, .int j] H Q := ⟨_, _, rfl, q⟩
theorem isi_ty {n m : String} {k : Bool} (h : TyX K H x (.type n)) (e : kitB n m = some k) (q : Q (.bl k) H) : rIsi K [x, .ty m] H Q := ⟨_, _, _, _, _, rfl, .ty m, h, kit_ty e, q⟩
theorem isi_two {n m m' : String} {k k' : Bool} (h : TyX K H x (.type n)) (hT : H a = some (.tup [.ty m, .ty m'])) (e : kitB n m = some k) (e' : kitB n m' = some k') (q : Q (.bl (k || k')) H) : rIsiT K [x, .ref a] H Q := by
  refine ⟨_, _, _, _, [.type m, .type m'], _, rfl, hT, .cons (.ty m) (.cons (.ty m') .nil), h, ?_, q⟩
  refine kitAny_cons (kit_ty e) (fun z => ?_) (fun z => by rw [z]; rfl)
  rw [z]
  refine kitAny_cons (kit_ty e') (fun z' => ?_) (fun z' => by rw [z']; rfl)
  rw [z']
  exact kitAny_nil
theorem ty_l (h : H a = some (.lst xs)) : TyX K H (.ref a) (.type "list") := .base (.lst h)
theorem ty_t (h : H a = some (.tup xs)) : TyX K H (.ref a) (.type "tuple") := .base (.tup h)
theorem ty_d {kvs : List (Key × V)} (h : H a = some (.dK kvs)) : TyX K H (.ref a) (.type "dict") := .base (.dK h)

/-! ### the shapes of a reading -/
variable {te ta tb tc : TE} {tt tu : TT} {tr : TA} {ts tv : TS} {D : Ends} {r : R2} {Qb : Bool → Hp → Prop} {Ql : List V → Hp → Prop}
theorem w_var {m : Nat} (h : σ[m]? = some (some v)) (q : Q v H) : tVar m σ H Q := ⟨v, h, q⟩
theorem w_c (q : Q v H) : tC v σ H Q := q
theorem w_op (q : ta σ H fun x H1 => tb σ H1 fun y H2 => r x y H2 Q) : tOp r ta tb σ H Q := q
theorem w_un {ru : V → Hp → VK → Prop} (q : ta σ H fun x H1 => ru x H1 Q) : tUn ru ta σ H Q := q
theorem w_nil (q : Ql [] H) : tNil σ H Ql := q
theorem w_cons (q : ta σ H fun x H1 => tr σ H1 fun xs H2 => Ql (x :: xs) H2) : tCons ta tr σ H Ql := q
theorem w_cb {rc : List V → Hp → VK → Prop} (q : tr σ H fun vs H1 => rc vs H1 Q) : tCB rc tr σ H Q := q
theorem w_call {sp : Sp} {E : L2.St → XK} (q : tr σ H fun vs H1 => sp vs H1 Q (E σ)) : tCallS sp E tr σ H Q := q
theorem w_test (q : ta σ H fun x H' => ∃ k, x = .bl k ∧ Qb k H') : tTest ta σ H Qb := q
theorem w_b (q : ta σ H fun x H' => ∃ k, x = .bl k ∧ Qb k H') : tB ta σ H Qb := q
theorem w_bl {k : Bool} {Qk : Bool → Prop} (q : Qk k) : ∃ l, V.bl k = .bl l ∧ Qk l := ⟨k, rfl, q⟩
theorem w_and (q : tt σ H fun c H1 => if c = true then tu σ H1 Qb else Qb false H1) : tAnd tt tu σ H Qb := q
theorem w_or (q : tt σ H fun c H1 => if c = true then Qb true H1 else tu σ H1 Qb) : tOr tt tu σ H Qb := q
theorem w_not (q : tt σ H fun c H1 => Qb (!c) H1) : tNot tt σ H Qb := q
theorem w_andV (q : ta σ H fun x H1 => ∃ c, x = .bl c ∧ if c = true then tb σ H1 Q else Q (.bl false) H1) : tAndV ta tb σ H Q := q
theorem w_orV (q : ta σ H fun x H1 => ∃ c, x = .bl c ∧ if c = true then Q (.bl true) H1 else tb σ H1 Q) : tOrV ta tb σ H Q := q
theorem w_notV (q : ta σ H fun x H1 => ∃ c, x = .bl c ∧ Q (.bl (!c)) H1) : tNotV ta σ H Q := q
theorem w_if (q : tt σ H fun c H1 => if c = true then ta σ H1 Q else tb σ H1 Q) : tIf tt ta tb σ H Q := q
theorem w_ifT {A B : Prop} (q : A) : if true = true then A else B := by rw [if_pos rfl]; exact q
theorem w_ifF {A B : Prop} (q : B) : if false = true then A else B := by rw [if_neg Bool.false_ne_true]; exact q
theorem w_ifN {A B : Prop} {k : Bool} (q1 : k = false → A) (q2 : k = true → B) : if (!k) = true then A else B := by
  cases k with
  | true => exact w_ifF (q2 rfl)
  | false => exact w_ifT (q1 rfl)
theorem w_if2 {A B : Prop} {k : Bool} (q1 : k = true → A) (q2 : k = false → B) : if k = true then A else B := by
  cases k with
  | true => exact w_ifT (q1 rfl)
  | false => exact w_ifF (q2 rfl)
theorem w_ifD {A B c : Prop} [Decidable c] (q1 : c → A) (q2 : ¬ c → B) : if (decide c) = true then A else B := by
  by_cases h : c
  · rw [decide_eq_true h]
    exact w_ifT (q1 h)
  · rw [decide_eq_false h]
    exact w_ifF (q2 h)
theorem w_ifDN {A B c : Prop} [Decidable c] (q1 : ¬ c → A) (q2 : c → B) : if (!decide c) = true then A else B := by
  by_cases h : c
  · rw [decide_eq_true h]
    exact w_ifF (q2 h)
  · rw [decide_eq_false h]
    exact w_ifT (q1 h)
theorem w_chain {r' : R2} (q : ta σ H fun x H1 => tb σ H1 fun y H2 => r x y H2 fun z H3 => ∃ k, z = .bl k ∧ (if k = true then tc σ H3 fun w' H4 => r' y w' H4 Q else Q (.bl false) H3)) : tChain r r' ta tb tc σ H Q := q
theorem w_seq (q : ts { D with nx := tv D } σ H) : tSeq ts tv D σ H := q
theorem w_asg {g : TG} (q : te σ H fun x H1 => g x σ H1 D.nx) : tAsg te g D σ H := q
theorem w_name {m : Nat} {Qs : L2.St → Hp → Prop} (q : Qs (σ.set m (some v)) H) : gName m v σ H Qs := q
theorem w_ret (q : te σ H D.rt) : tRet te D σ H := q
theorem w_ifS (q : tt σ H fun b H1 => if b = true then ts D σ H1 else tv D σ H1) : tIfS tt ts tv D σ H := q
theorem w_next (q : D.nx σ H) : tNext D σ H := q
theorem w_drop (q : te σ H fun _ H1 => D.nx σ H1) : tDrop te D σ H := q
/-- a new list, a new tuple -/
def NewL (xs : List V) (H : Hp) (Q : VK) : Prop := xs.length ≤ sizeLine ∧ ∀ p, H p = none → Q (.ref p) (upd H p (.lst xs))
def NewT (xs : List V) (H : Hp) (Q : VK) : Prop := xs.length ≤ sizeLine ∧ ∀ p, H p = none → Q (.ref p) (upd H p (.tup xs))
theorem w_lst (q : tr σ H fun xs H1 => NewL xs H1 Q) : tLst tr σ H Q := q
theorem w_tup (q : tr σ H fun xs H1 => NewT xs H1 Q) : tTup tr σ H Q := q
theorem w_new {o : HO} {xs : List V} {Qp : Addr → Prop} (h : xs.length ≤ 1000) (q : ∀ p, H p = none → Qp p) : xs.length ≤ sizeLine ∧ ∀ p, H p = none → Qp p := ⟨Nat.le_of_lt (small1000 h), q⟩
theorem w_par {m l : Nat} (q : tr σ H fun vs H1 => ∃ v w, vs = [v, w] ∧ D.nx ((σ.set m (some v)).set l (some w)) H1) : tPar m l tr D σ H := q
theorem w_aug {m : Nat} {ti : TIp} (h : σ[m]? = some (some x)) (q : te σ H fun y H1 => ti x y H1 fun z H2 => D.nx (σ.set m (some z)) H2) : tAug m te ti D σ H := ⟨x, h, q⟩
theorem w_bm {T : String} {rm : V → List V → Hp → VK → Prop} (q : ta σ H fun x H1 => tyV K T x H1 ∧ tr σ H1 fun xs H2 => rm x xs H2 Q) : tBM K T rm ta tr σ H Q := q
theorem w_sl {rs : V → Option Int → Option Int → Hp → VK → Prop} {tl th : TO} (q : ta σ H fun x H1 => tl σ H1 fun lo H2 => th σ H2 fun hi H3 => rs x lo hi H3 Q) : tSl rs ta tl th σ H Q := q
theorem w_po {Qo : Option Int → Hp → Prop} (q : ta σ H fun x H1 => ∃ i, x = .int i ∧ Qo (some i) H1) : tPart ta σ H Qo := q
theorem w_poI {Qk : Int → Prop} (q : Qk i) : ∃ j, V.int i = .int j ∧ Qk j := ⟨_, rfl, q⟩
theorem w_no {Qo : Option Int → Hp → Prop} (q : Qo none H) : tNoPart σ H Qo := q
end
end Cr

/-! Data of any depth and how a heap bears it. -/
namespace Cr
open PySem PySem.Spec PyProof.Rows L2

inductive D where
  | non | bl (b : Bool) | int (i : Int) | str (s : Str) | lst (xs : List D) | tup (xs : List D) | dct (kvs : List (Key × D))

mutual
/-- v stands for d -/
def Rep (H : Hp) : D → V → Prop
  | .non, v => v = .non
  | .bl b, v => v = .bl b
  | .int i, v => v = .int i
  | .str s, v => v = .str s
  | .lst ds, v => ∃ a xs, v = .ref a ∧ H a = some (.lst xs) ∧ RepL H ds xs
  | .tup ds, v => ∃ a xs, v = .ref a ∧ H a = some (.tup xs) ∧ RepL H ds xs
  | .dct kvs, v => ∃ a es, v = .ref a ∧ H a = some (.dK es) ∧ RepK H kvs es
def RepL (H : Hp) : List D → List V → Prop
  | [], xs => xs = []
  | d :: ds, xs => ∃ x r, xs = x :: r ∧ Rep H d x ∧ RepL H ds r
def RepK (H : Hp) : List (Key × D) → List (Key × V) → Prop
  | [], es => es = []
  | (k, d) :: r, es => ∃ x es', es = (k, x) :: es' ∧ Rep H d x ∧ RepK H r es'
end
mutual
def D.size : D → Nat
  | .lst xs => D.sizeL xs + 1
  | .tup xs => D.sizeL xs + 1
  | .dct kvs => D.sizeK kvs + 1
  | _ => 1
def D.sizeL : List D → Nat
  | [] => 0
  | d :: r => d.size + D.sizeL r
def D.sizeK : List (Key × D) → Nat
  | [] => 0
  | (_, d) :: r => d.size + D.sizeK r
end
theorem D.size_lst (xs : List D) : (D.lst xs).size = D.sizeL xs + 1 := by unfold D.size; rfl
theorem D.size_tup (xs : List D) : (D.tup xs).size = D.sizeL xs + 1 := by unfold D.size; rfl
theorem D.size_dct (xs : List (Key × D)) : (D.dct xs).size = D.sizeK xs + 1 := by unfold D.size; rfl
mutual
/-- how many lists, tuples, dicts stand within one another -/
def D.deep : D → Nat
  | .lst xs => D.deepL xs + 1
  | .tup xs => D.deepL xs + 1
  | .dct kvs => D.deepK kvs + 1
  | _ => 0
def D.deepL : List D → Nat
  | [] => 0
  | d :: r => max d.deep (D.deepL r)
def D.deepK : List (Key × D) → Nat
  | [] => 0
  | (_, d) :: r => max d.deep (D.deepK r)
end
mutual
/-- no list is too long, no key twice -/
def D.fit : D → Prop
  | .lst xs => xs.length ≤ 1000 ∧ D.fitL xs
  | .tup xs => xs.length ≤ 1000 ∧ D.fitL xs
  | .dct kvs => kvs.length ≤ 1000 ∧ (kvs.map (·.1)).Nodup ∧ D.fitK kvs
  | _ => True
def D.fitL : List D → Prop
  | [] => True
  | d :: r => d.fit ∧ D.fitL r
def D.fitK : List (Key × D) → Prop
  | [] => True
  | (_, d) :: r => d.fit ∧ D.fitK r
end

theorem RepL.len {H : Hp} : ∀ {ds : List D} {xs : List V}, RepL H ds xs → xs.length = ds.length
  | [], xs, h => by
    unfold RepL at h
    rw [h]
    rfl
  | d :: ds, xs, h => by
    unfold RepL at h
    obtain ⟨x, r, rfl, _, h2⟩ := h
    rw [List.length_cons, List.length_cons, RepL.len h2]
theorem RepK.len {H : Hp} : ∀ {ds : List (Key × D)} {xs : List (Key × V)}, RepK H ds xs → xs.length = ds.length
  | [], xs, h => by
    unfold RepK at h
    rw [h]
    rfl
  | (k, d) :: ds, xs, h => by
    unfold RepK at h
    obtain ⟨x, r, rfl, _, h2⟩ := h
    rw [List.length_cons, List.length_cons, RepK.len h2]
theorem RepK.keys {H : Hp} : ∀ {ds : List (Key × D)} {xs : List (Key × V)}, RepK H ds xs → xs.map (·.1) = ds.map (·.1)
  | [], xs, h => by
    unfold RepK at h
    rw [h]
    rfl
  | (k, d) :: ds, xs, h => by
    unfold RepK at h
    obtain ⟨x, r, rfl, _, h2⟩ := h
    rw [List.map_cons, List.map_cons, RepK.keys h2]
theorem RepL.get {H : Hp} : ∀ {ds : List D} {xs : List V} {i : Nat} {d : D}, RepL H ds xs → ds[i]? = some d → ∃ x, xs[i]? = some x ∧ Rep H d x
  | [], xs, i, d, h, e => by simp at e
  | d0 :: ds, xs, 0, d, h, e => by
    unfold RepL at h
    obtain ⟨x, r, rfl, h1, h2⟩ := h
    simp at e
    subst e
    exact ⟨x, rfl, h1⟩
  | d0 :: ds, xs, i + 1, d, h, e => by
    unfold RepL at h
    obtain ⟨x, r, rfl, h1, h2⟩ := h
    exact RepL.get (i := i) (d := d) h2 (by simpa using e)
theorem RepK.get {H : Hp} : ∀ {ds : List (Key × D)} {xs : List (Key × V)} {i : Nat} {k : Key} {d : D}, RepK H ds xs → ds[i]? = some (k, d) → ∃ x, xs[i]? = some (k, x) ∧ Rep H d x
  | [], xs, i, k, d, h, e => by simp at e
  | (k0, d0) :: ds, xs, 0, k, d, h, e => by
    unfold RepK at h
    obtain ⟨x, r, rfl, h1, h2⟩ := h
    simp at e
    obtain ⟨rfl, rfl⟩ := e
    exact ⟨x, rfl, h1⟩
  | (k0, d0) :: ds, xs, i + 1, k, d, h, e => by
    unfold RepK at h
    obtain ⟨x, r, rfl, h1, h2⟩ := h
    exact RepK.get (i := i) (k := k) (d := d) h2 (by simpa using e)
theorem RepL.cons {H : Hp} {d : D} {ds : List D} {x : V} {xs : List V} (h : Rep H d x) (r : RepL H ds xs) : RepL H (d :: ds) (x :: xs) := by
  unfold RepL
  exact ⟨x, xs, rfl, h, r⟩
theorem RepL.nil {H : Hp} : RepL H [] [] := by
  unfold RepL
  rfl
theorem RepK.cons {H : Hp} {k : Key} {d : D} {ds : List (Key × D)} {x : V} {xs : List (Key × V)} (h : Rep H d x) (r : RepK H ds xs) : RepK H ((k, d) :: ds) ((k, x) :: xs) := by
  unfold RepK
  exact ⟨x, xs, rfl, h, r⟩
theorem RepK.nil {H : Hp} : RepK H [] [] := by
  unfold RepK
  rfl
theorem RepL.snoc {H : Hp} {d : D} {x : V} (h : Rep H d x) : ∀ {ds : List D} {xs : List V}, RepL H ds xs → RepL H (ds ++ [d]) (xs ++ [x])
  | [], xs, r => by
    unfold RepL at r
    rw [r]
    exact .cons h .nil
  | d0 :: ds, xs, r => by
    unfold RepL at r
    obtain ⟨y, s, rfl, h1, h2⟩ := r
    exact .cons h1 (RepL.snoc h h2)
theorem RepL.ints {H : Hp} : ∀ ns : List Int, RepL H (ns.map D.int) (ns.map V.int)
  | [] => .nil
  | n :: r => .cons (by unfold Rep; rfl) (RepL.ints r)
theorem Rep.int {H : Hp} {i : Int} : Rep H (.int i) (.int i) := by
  unfold Rep
  rfl
theorem Rep.bl {H : Hp} {i : Bool} : Rep H (.bl i) (.bl i) := by
  unfold Rep
  rfl
theorem Rep.str {H : Hp} {i : Str} : Rep H (.str i) (.str i) := by
  unfold Rep
  rfl
theorem Rep.non {H : Hp} : Rep H .non .non := by
  unfold Rep
  rfl
theorem Rep.lst {H : Hp} {a : Addr} {ds : List D} {xs : List V} (h : H a = some (.lst xs)) (r : RepL H ds xs) : Rep H (.lst ds) (.ref a) := by
  unfold Rep
  exact ⟨a, xs, rfl, h, r⟩
theorem Rep.tup {H : Hp} {a : Addr} {ds : List D} {xs : List V} (h : H a = some (.tup xs)) (r : RepL H ds xs) : Rep H (.tup ds) (.ref a) := by
  unfold Rep
  exact ⟨a, xs, rfl, h, r⟩
theorem Rep.dct {H : Hp} {a : Addr} {ds : List (Key × D)} {xs : List (Key × V)} (h : H a = some (.dK xs)) (r : RepK H ds xs) : Rep H (.dct ds) (.ref a) := by
  unfold Rep
  exact ⟨a, xs, rfl, h, r⟩
theorem Rep.un_lst {H : Hp} {ds : List D} {v : V} (h : Rep H (.lst ds) v) : ∃ a xs, v = .ref a ∧ H a = some (.lst xs) ∧ RepL H ds xs := by
  unfold Rep at h
  exact h
theorem Rep.un_tup {H : Hp} {ds : List D} {v : V} (h : Rep H (.tup ds) v) : ∃ a xs, v = .ref a ∧ H a = some (.tup xs) ∧ RepL H ds xs := by
  unfold Rep at h
  exact h
theorem Rep.un_dct {H : Hp} {ds : List (Key × D)} {v : V} (h : Rep H (.dct ds) v) : ∃ a xs, v = .ref a ∧ H a = some (.dK xs) ∧ RepK H ds xs := by
  unfold Rep at h
  exact h
theorem Rep.un_int {H : Hp} {i : Int} {v : V} (h : Rep H (.int i) v) : v = .int i := by
  unfold Rep at h
  exact h
theorem Rep.un_bl {H : Hp} {i : Bool} {v : V} (h : Rep H (.bl i) v) : v = .bl i := by
  unfold Rep at h
  exact h
theorem Rep.un_str {H : Hp} {i : Str} {v : V} (h : Rep H (.str i) v) : v = .str i := by
  unfold Rep at h
  exact h
theorem Rep.un_non {H : Hp} {v : V} (h : Rep H .non v) : v = .non := by
  unfold Rep at h
  exact h

/-! ### another heap -/
mutual
theorem Rep.keep {H H' : Hp} : ∀ (d : D) {v : V}, (∀ d' b o, d'.size ≤ d.size → Rep H d' (.ref b) → H b = some o → H' b = some o) → Rep H d v → Rep H' d v
  | .non, v, _, h => by unfold Rep at h ⊢; exact h
  | .bl b, v, _, h => by unfold Rep at h ⊢; exact h
  | .int i, v, _, h => by unfold Rep at h ⊢; exact h
  | .str s, v, _, h => by unfold Rep at h ⊢; exact h
  | .lst ds, v, k, h => by
    obtain ⟨a, xs, rfl, ha, r⟩ := h.un_lst
    refine .lst (k _ a _ (Nat.le_refl _) h ha) (RepL.keep ds (fun d' b o z => k d' b o ?_) r)
    rw [D.size_lst]
    omega
  | .tup ds, v, k, h => by
    obtain ⟨a, xs, rfl, ha, r⟩ := h.un_tup
    refine .tup (k _ a _ (Nat.le_refl _) h ha) (RepL.keep ds (fun d' b o z => k d' b o ?_) r)
    rw [D.size_tup]
    omega
  | .dct ds, v, k, h => by
    obtain ⟨a, xs, rfl, ha, r⟩ := h.un_dct
    refine .dct (k _ a _ (Nat.le_refl _) h ha) (RepK.keep ds (fun d' b o z => k d' b o ?_) r)
    rw [D.size_dct]
    omega
theorem RepL.keep {H H' : Hp} : ∀ (ds : List D) {xs : List V}, (∀ d' b o, d'.size ≤ D.sizeL ds → Rep H d' (.ref b) → H b = some o → H' b = some o) → RepL H ds xs → RepL H' ds xs
  | [], xs, _, h => by unfold RepL at h ⊢; exact h
  | d :: ds, xs, k, h => by
    unfold RepL at h
    obtain ⟨x, r, rfl, h1, h2⟩ := h
    refine .cons (Rep.keep d (fun d' b o z => k d' b o ?_) h1) (RepL.keep ds (fun d' b o z => k d' b o ?_) h2)
    · unfold D.sizeL
      omega
    · unfold D.sizeL
      omega
theorem RepK.keep {H H' : Hp} : ∀ (ds : List (Key × D)) {xs : List (Key × V)}, (∀ d' b o, d'.size ≤ D.sizeK ds → Rep H d' (.ref b) → H b = some o → H' b = some o) → RepK H ds xs → RepK H' ds xs
  | [], xs, _, h => by unfold RepK at h ⊢; exact h
  | (kk, d) :: ds, xs, k, h => by
    unfold RepK at h
    obtain ⟨x, r, rfl, h1, h2⟩ := h
    refine .cons (Rep.keep d (fun d' b o z => k d' b o ?_) h1) (RepK.keep ds (fun d' b o z => k d' b o ?_) h2)
    · unfold D.sizeK
      omega
    · unfold D.sizeK
      omega
end
theorem Rep.mono {H H' : Hp} {d : D} {v : V} (s : Same H H') (h : Rep H d v) : Rep H' d v := h.keep d (fun _ b o _ _ e => s b o e)
theorem RepL.mono {H H' : Hp} {d : List D} {v : List V} (s : Same H H') (h : RepL H d v) : RepL H' d v := h.keep d (fun _ b o _ _ e => s b o e)
theorem RepK.mono {H H' : Hp} {d : List (Key × D)} {v : List (Key × V)} (s : Same H H') (h : RepK H d v) : RepK H' d v := h.keep d (fun _ b o _ _ e => s b o e)
theorem same_new {H : Hp} {p : Addr} {o : HO} (h : H p = none) : Same H (upd H p o) := fun b x e => by
  rw [upd_ne (ne_of_none e h)]
  exact e
/-- one value has one meaning -/
theorem Rep.inj_size {H : Hp} : ∀ (n : Nat) (d d' : D) (v : V), d.size ≤ n → Rep H d v → Rep H d' v → d.size = d'.size := by
  intro n
  induction n with
  | zero =>
    intro d d' v hn _ _
    cases d <;> unfold D.size at hn <;> omega
  | succ n ih =>
    intro d d' v hn h h'
    have lists : ∀ (ds ds' : List D) (xs : List V), D.sizeL ds ≤ n → RepL H ds xs → RepL H ds' xs → D.sizeL ds = D.sizeL ds' := by
      intro ds
      induction ds with
      | nil =>
        intro ds' xs _ r r'
        unfold RepL at r
        subst r
        cases ds' with
        | nil => rfl
        | cons d0 r0 =>
          unfold RepL at r'
          obtain ⟨_, _, z, _⟩ := r'
          cases z
      | cons d0 r0 ih2 =>
        intro ds' xs hs r r'
        unfold D.sizeL at hs
        unfold RepL at r
        obtain ⟨x, xr, rfl, h1, h2⟩ := r
        cases ds' with
        | nil =>
          unfold RepL at r'
          cases r'
        | cons d1 r1 =>
          unfold RepL at r'
          obtain ⟨x', xr', z, h1', h2'⟩ := r'
          cases z
          have a := ih d0 d1 x (by omega) h1 h1'
          have b := ih2 r1 xr (by omega) h2 h2'
          unfold D.sizeL
          omega
    have dicts : ∀ (ds ds' : List (Key × D)) (xs : List (Key × V)), D.sizeK ds ≤ n → RepK H ds xs → RepK H ds' xs → D.sizeK ds = D.sizeK ds' := by
      intro ds
      induction ds with
      | nil =>
        intro ds' xs _ r r'
        unfold RepK at r
        subst r
        cases ds' with
        | nil => rfl
        | cons d0 r0 =>
          obtain ⟨k0, d0⟩ := d0
          unfold RepK at r'
          obtain ⟨_, _, z, _⟩ := r'
          cases z
      | cons d0 r0 ih2 =>
        intro ds' xs hs r r'
        obtain ⟨k0, d0⟩ := d0
        unfold D.sizeK at hs
        unfold RepK at r
        obtain ⟨x, xr, rfl, h1, h2⟩ := r
        cases ds' with
        | nil =>
          unfold RepK at r'
          cases r'
        | cons d1 r1 =>
          obtain ⟨k1, d1⟩ := d1
          unfold RepK at r'
          obtain ⟨x', xr', z, h1', h2'⟩ := r'
          cases z
          have a := ih d0 d1 x (by omega) h1 h1'
          have b := ih2 r1 xr (by omega) h2 h2'
          unfold D.sizeK
          omega
    cases d <;> cases d' <;> unfold Rep at h h'
    all_goals first
      | (unfold D.size; rfl)
      | (subst h; cases h'; done)
      | (subst h; obtain ⟨_, _, z, _⟩ := h'; cases z; done)
      | (subst h'; obtain ⟨_, _, z, _⟩ := h; cases z; done)
      | (obtain ⟨a, xs, rfl, e1, r1⟩ := h; obtain ⟨a', xs', z, e2, r2⟩ := h'; cases z; rw [e1] at e2; cases e2; done)
      | (obtain ⟨a, xs, rfl, e1, r1⟩ := h; obtain ⟨a', xs', z, e2, r2⟩ := h'; cases z; rw [e1] at e2; cases e2; unfold D.size at hn ⊢; have := lists _ _ _ (by omega) r1 r2; omega)
      | (obtain ⟨a, xs, rfl, e1, r1⟩ := h; obtain ⟨a', xs', z, e2, r2⟩ := h'; cases z; rw [e1] at e2; cases e2; unfold D.size at hn ⊢; have := dicts _ _ _ (by omega) r1 r2; omega)
/-- a change at a leaves what is smaller than a's own meaning -/
theorem Rep.apart {H : Hp} {a : Addr} {d0 d : D} {o : HO} {v : V} (h0 : Rep H d0 (.ref a)) (hs : d.size < d0.size) (h : Rep H d v) : Rep (upd H a o) d v :=
  h.keep d fun d' b u z r e => by
    have nb : b ≠ a := fun q => by
      subst q
      have := Rep.inj_size d'.size d' d0 _ (Nat.le_refl _) r h0
      omega
    rw [upd_ne nb]
    exact e
theorem RepL.apart {H : Hp} {a : Addr} {d0 : D} {ds : List D} {o : HO} {xs : List V} (h0 : Rep H d0 (.ref a)) (hs : D.sizeL ds < d0.size) (h : RepL H ds xs) : RepL (upd H a o) ds xs :=
  h.keep ds fun d' b u z r e => by
    have nb : b ≠ a := fun q => by
      subst q
      have := Rep.inj_size d'.size d' d0 _ (Nat.le_refl _) r h0
      omega
    rw [upd_ne nb]
    exact e
theorem RepK.apart {H : Hp} {a : Addr} {d0 : D} {ds : List (Key × D)} {o : HO} {xs : List (Key × V)} (h0 : Rep H d0 (.ref a)) (hs : D.sizeK ds < d0.size) (h : RepK H ds xs) : RepK (upd H a o) ds xs :=
  h.keep ds fun d' b u z r e => by
    have nb : b ≠ a := fun q => by
      subst q
      have := Rep.inj_size d'.size d' d0 _ (Nat.le_refl _) r h0
      omega
    rw [upd_ne nb]
    exact e

theorem D.deepL_at : ∀ {ds : List D} {i : Nat} (h : i < ds.length), (ds[i]).deep ≤ D.deepL ds
  | [], _, h => absurd h (Nat.not_lt_zero _)
  | d :: ds, 0, _ => by
    show d.deep ≤ _
    unfold D.deepL
    exact Nat.le_max_left _ _
  | d :: ds, i + 1, h => by
    have h' : i < ds.length := by simpa using h
    show (ds[i]).deep ≤ _
    unfold D.deepL
    exact Nat.le_trans (D.deepL_at h') (Nat.le_max_right _ _)
theorem D.fitL_at : ∀ {ds : List D} {i : Nat} (h : i < ds.length), D.fitL ds → (ds[i]).fit
  | [], _, h, _ => absurd h (Nat.not_lt_zero _)
  | d :: ds, 0, _, f => by
    unfold D.fitL at f
    exact f.1
  | d :: ds, i + 1, h, f => by
    unfold D.fitL at f
    exact D.fitL_at (ds := ds) (by simpa using h) f.2
theorem D.deep_lst (ds : List D) : (D.lst ds).deep = D.deepL ds + 1 := by unfold D.deep; rfl
theorem D.deep_tup (ds : List D) : (D.tup ds).deep = D.deepL ds + 1 := by unfold D.deep; rfl
theorem D.deep_dct (ds : List (Key × D)) : (D.dct ds).deep = D.deepK ds + 1 := by unfold D.deep; rfl
theorem D.fit_lst (ds : List D) : (D.lst ds).fit = (ds.length ≤ 1000 ∧ D.fitL ds) := by unfold D.fit; rfl
theorem D.fit_tup (ds : List D) : (D.tup ds).fit = (ds.length ≤ 1000 ∧ D.fitL ds) := by unfold D.fit; rfl
theorem D.fit_dct (ds : List (Key × D)) : (D.dct ds).fit = (ds.length ≤ 1000 ∧ (ds.map (·.1)).Nodup ∧ D.fitK ds) := by unfold D.fit; rfl
theorem D.deep_at_lst {ds : List D} {i n : Nat} (h : (D.lst ds).deep < n + 1) (hi : i < ds.length) : (ds[i]).deep < n := by
  have := D.deepL_at hi
  rw [D.deep_lst] at h
  omega
theorem D.deep_at_tup {ds : List D} {i n : Nat} (h : (D.tup ds).deep < n + 1) (hi : i < ds.length) : (ds[i]).deep < n := by
  have := D.deepL_at hi
  rw [D.deep_tup] at h
  omega
theorem D.fit_at_lst {ds : List D} {i : Nat} (h : (D.lst ds).fit) (hi : i < ds.length) : (ds[i]).fit := by
  rw [D.fit_lst] at h
  exact D.fitL_at hi h.2
theorem D.fit_at_tup {ds : List D} {i : Nat} (h : (D.tup ds).fit) (hi : i < ds.length) : (ds[i]).fit := by
  rw [D.fit_tup] at h
  exact D.fitL_at hi h.2
theorem D.deepK_at : ∀ {ds : List (Key × D)} {i : Nat} (h : i < ds.length), (ds[i]).2.deep ≤ D.deepK ds
  | [], _, h => absurd h (Nat.not_lt_zero _)
  | (k, d) :: ds, 0, _ => by
    show d.deep ≤ _
    unfold D.deepK
    exact Nat.le_max_left _ _
  | (k, d) :: ds, i + 1, h => by
    have h' : i < ds.length := by simpa using h
    show (ds[i]).2.deep ≤ _
    unfold D.deepK
    exact Nat.le_trans (D.deepK_at h') (Nat.le_max_right _ _)
theorem D.fitK_at : ∀ {ds : List (Key × D)} {i : Nat} (h : i < ds.length), D.fitK ds → (ds[i]).2.fit
  | [], _, h, _ => absurd h (Nat.not_lt_zero _)
  | (k, d) :: ds, 0, _, f => by
    unfold D.fitK at f
    exact f.1
  | (k, d) :: ds, i + 1, h, f => by
    unfold D.fitK at f
    exact D.fitK_at (ds := ds) (by simpa using h) f.2
end Cr

/-! Further rules: what a for walks, sizes, lists changed in their place. -/
namespace Cr
open PySem PySem.Spec PyProof.Rows L2
section
variable {X : Cx} {K : PySem.W.Frag} {σ : L2.St} {H H' : Hp} {Q : VK} {x y z v : V} {i j n : Int} {a b p : Addr} {xs ys : List V} {s t : Str} {k : Bool}

/-! ### sizes -/
theorem cdivs (h0 : 0 < j) (h1 : j < 18446744073709551616) : CDivW i j := wide_div (b := 64) h0 (by omega) (by decide) (by decide)
theorem cmul1 (h0 : -18446744073709551616 < i) (h1 : i < 18446744073709551616) : CMul i j := .inl ⟨by omega, by omega⟩
theorem cmul2 (h0 : -18446744073709551616 < j) (h1 : j < 18446744073709551616) : CMul i j := .inr ⟨by omega, by omega⟩
theorem cpows (h0 : 0 ≤ j) (h1 : j ≤ 1000000) (h2 : -18446744073709551616 < i) (h3 : i < 18446744073709551616) : CPow i j := ⟨h0, h1, by omega⟩
theorem szl {n : Nat} (h : n ≤ 100000) : n ≤ sizeLine := Nat.le_trans h (by decide)
theorem szt {n : Nat} (h : n < 100000) : n < sizeLine := Nat.lt_of_lt_of_le h (by decide)

/-! ### a list or a tuple walked -/
def iSeq (K : PySem.W.Frag) (tl : TE) : TI := fun σ H R => tl σ H fun x H1 => (∃ a, x = .ref a ∧ (∃ xs, SqL K H1 a xs) ∧ R (Itl K a) H1) ∨ (∃ a, x = .ref a ∧ (∃ xs, SqT K H1 a xs) ∧ R (Itt K a) H1)
theorem pi_seq {tg l : Expr} {tl : TE} (hl : PE X l tl) : PI X tg l (iSeq X.K tl) := by
  refine ⟨fun pins s σ H R I h => thn (hl.run pins s σ H _ I h) ?_⟩
  rintro v s1 ⟨x, H1, I1, r1, (⟨a, rfl, ⟨xs, hq⟩, q⟩ | ⟨a, rfl, ⟨xs, hq⟩, q⟩)⟩
  · cases r1
    obtain ⟨its, rv, pl, hz⟩ := I1.list hq
    refine wpAny_pyIter_list pl.isList ⟨_, [s1.heap.objs.size], _, _, H1, rfl, I1.kept (t' := s1.toks) fun b o e => Heap.get?_push_of_some _ e, turn_list a _, ⟨_, Heap.get?_push_size _ rfl, rfl, rfl⟩, ?_, q⟩
    intro b hb
    have e : b = s1.heap.objs.size := by simpa using hb
    rw [e]
    exact I1.fpOk (Nat.le_refl _) (I1.hok.fresh (Nat.le_refl _))
  · cases r1
    obtain ⟨its, rv, pl, hz⟩ := I1.tuple hq
    refine wpAny_pyIter_tuple (show s1.heap.IsTuple a its.toArray from pl) ⟨_, [s1.heap.objs.size], _, _, H1, rfl, I1.kept (t' := s1.toks) fun b o e => Heap.get?_push_of_some _ e, turn_tuple a _, ⟨_, Heap.get?_push_size _ rfl, rfl, rfl⟩, ?_, q⟩
    intro b hb
    have e : b = s1.heap.objs.size := by simpa using hb
    rw [e]
    exact I1.fpOk (Nat.le_refl _) (I1.hok.fresh (Nat.le_refl _))
theorem i_seql {tl : TE} {R : It → Hp → Prop} (q : tl σ H fun x H1 => (∃ a, x = .ref a ∧ (∃ xs, SqL K H1 a xs) ∧ R (Itl K a) H1) ∨ (∃ a, x = .ref a ∧ (∃ xs, SqT K H1 a xs) ∧ R (Itt K a) H1)) : iSeq K tl σ H R := q

/-! ### new objects -/
theorem al_t (h : xs.length ≤ 100000) (q : ∀ p H', H p = none → Same H H' → H' p = some (.tup xs) → Q (.ref p) H') : NewT xs H Q := ⟨szl h, fun p np => q p _ np (same_new np) upd_same⟩
theorem al_l (h : xs.length ≤ 100000) (q : ∀ p H', H p = none → Same H H' → H' p = some (.lst xs) → Q (.ref p) H') : NewL xs H Q := ⟨szl h, fun p np => q p _ np (same_new np) upd_same⟩

/-! ### methods of lists -/
theorem tyl (h : H a = some (.lst xs)) : tyV K "list" (.ref a) H := .inl ⟨rfl, _, SqL.of h⟩
theorem m_app (h : H a = some (.lst xs)) (hz : xs.length < 100000) (q : Q .non (upd H a (.lst (xs ++ [y])))) : rAppend (.ref a) [y] H Q := ⟨_, _, _, rfl, rfl, h, szt hz, q⟩
theorem m_ext (h : H a = some (.lst xs)) (h2 : H b = some (.lst ys)) (hz : xs.length + ys.length ≤ 100000) (q : Q .non (upd H a (.lst (xs ++ ys)))) : rExtend (.ref a) [.ref b] H Q := ⟨_, _, _, _, rfl, rfl, h, h2, szl hz, q⟩
theorem m_rev (h : H a = some (.lst xs)) (q : Q .non (upd H a (.lst xs.reverse))) : rReverse (.ref a) [] H Q := ⟨_, _, rfl, rfl, h, q⟩
theorem m_popat (h : H a = some (.lst xs)) (h0 : 0 ≤ i) (h1 : i < xs.length) (hz : xs.length ≤ 100000) (e : xs[i.toNat]? = some y) (q : Q y (upd H a (.lst (xs.eraseIdx i.toNat)))) : rPopAt (.ref a) [.int i] H Q := by
  refine ⟨_, _, i, i.toNat, y, rfl, rfl, h, by omega, by omega, ?_, e, q⟩
  unfold seqIndex?
  have h2 : ¬ i < 0 := by omega
  simp [h2, h1]
theorem set_l {m : Nat} {Qs : Hp → Prop} (h : H a = some (.lst xs)) (e : ixN xs.length i = some m) (q : Qs (upd H a (.lst (xs.set m v)))) : rSetL (.ref a) (.int i) v H Qs := ⟨_, _, _, _, rfl, rfl, h, e, q⟩
theorem ixn {m l : Nat} (h : m < l) : ixN l (m : Int) = some m := by
  unfold ixN
  rw [if_pos (Int.natCast_nonneg m), if_pos (by omega)]
  simp
theorem ati {m : Nat} (h : xs[m]? = some v) : atI xs (m : Int) = some v := atI_nat h

theorem ati_of {α : Type} {zs : List α} {f : α → V} {i : Int} (h0 : 0 ≤ i) (h1 : i < zs.length) : ∃ z, z ∈ zs ∧ zs[i.toNat]? = some z ∧ atI (zs.map f) i = some (f z) := by
  obtain ⟨m, rfl⟩ : ∃ m : Nat, i = m := ⟨i.toNat, by omega⟩
  have h2 : m < zs.length := by omega
  refine ⟨zs[m], List.getElem_mem h2, by simp [h2], ati ?_⟩
  simp [h2]
theorem ati_mem {zs : List V} {i : Int} (h0 : 0 ≤ i) (h1 : i < zs.length) : ∃ z, z ∈ zs ∧ zs[i.toNat]? = some z ∧ atI zs i = some z := by
  obtain ⟨m, rfl⟩ : ∃ m : Nat, i = m := ⟨i.toNat, by omega⟩
  have h2 : m < zs.length := by omega
  refine ⟨zs[m], List.getElem_mem h2, by simp [h2], ati ?_⟩
  simp [h2]
theorem w_sub {to ti : TE} {st : TSet} {Qs : L2.St → Hp → Prop} (q : to σ H fun o H1 => ti σ H1 fun i H2 => st o i v H2 fun H3 => Qs σ H3) : gSub to ti st v σ H Qs := q

/-! ### a heap that is changed at a alone -/
def But (a : Addr) (H H' : Hp) : Prop := ∀ b o, b ≠ a → H b = some o → H' b = some o
theorem But.refl : But a H H := fun _ _ _ e => e
theorem But.trans {H1 H2 : Hp} (h : But a H H1) (h' : But a H1 H2) : But a H H2 := fun b o n e => h' b o n (h b o n e)
theorem But.of {H1 : Hp} (h : Same H H1) : But a H H1 := fun b o _ e => h b o e
theorem But.upd {o : HO} : But a H (upd H a o) := fun b x n e => by
  rw [upd_ne n]
  exact e
theorem But.new {o : HO} (h : H p = none) : But a H (L2.upd H p o) := But.of (same_new h)
theorem But.same {H1 : Hp} (h : But a H H1) (n : H a = none) : Same H H1 := fun b o e => h b o (ne_of_none e n) e
theorem But.wr {H1 : Hp} {o : HO} (h : But a H H1) (n : H p = none) : But a H (L2.upd H1 p o) := fun b x nb e => by
  rw [upd_ne (ne_of_none e n)]
  exact h b x nb e
theorem Same.wr {H1 : Hp} {o : HO} (h : Same H H1) (n : H p = none) : Same H (upd H1 p o) := fun b x e => by
  rw [upd_ne (ne_of_none e n)]
  exact h b x e
theorem But.sqL {H1 : Hp} (h : But a H H1) (hb : H b = some (.lst xs)) (n : b ≠ a) : H1 b = some (.lst xs) := h b _ n hb

theorem _root_.L2.SqL.but {H1 : Hp} (h : SqL K H b xs) (k : But a H H1) (n : b ≠ a) : SqL K H1 b xs := by
  rcases h with (h | ⟨o, h⟩) | h
  · exact .inl (.inl (k _ _ n h))
  · exact .inl (.inr ⟨o, k _ _ n h⟩)
  · exact .inr h
theorem _root_.L2.SqT.but {H1 : Hp} (h : SqT K H b xs) (k : But a H H1) (n : b ≠ a) : SqT K H1 b xs := by
  rcases h with (h | ⟨o, h⟩) | h
  · exact .inl (.inl (k _ _ n h))
  · exact .inl (.inr ⟨o, k _ _ n h⟩)
  · exact .inr h

/-! ### the box of the draws -/
/-- what a box holds: [great, whether it gives digits, its mixed rest, the number of draws] -/
def IsBox (H : Hp) (a : Addr) (B : Int) : Prop := ∃ (g r c : Int) (k : Bool), H a = some (.lst [.int g, .bl k, .int r, .int c]) ∧ 0 ≤ r ∧ r < 2147483629 ∧ 0 ≤ c ∧ c ≤ B
theorem IsBox.le {B C : Int} (h : IsBox H a B) (e : B ≤ C) : IsBox H a C := by
  obtain ⟨g, r, c, k, e1, e2, e3, e4, e5⟩ := h
  exact ⟨g, r, c, k, e1, e2, e3, e4, by omega⟩
theorem IsBox.ne {B : Int} {o : HO} (h : IsBox H a B) (hb : H b = none) : a ≠ b := by
  obtain ⟨g, r, c, k, e1, _⟩ := h
  exact ne_of_none e1 hb
theorem IsBox.mono {B : Int} (h : IsBox H a B) (s : Same H H') : IsBox H' a B := by
  obtain ⟨g, r, c, k, e1, e2, e3, e4, e5⟩ := h
  exact ⟨g, r, c, k, s _ _ e1, e2, e3, e4, e5⟩
theorem IsBox.upd {B : Int} {o : HO} (h : IsBox H a B) (n : a ≠ b) : IsBox (L2.upd H b o) a B := by
  obtain ⟨g, r, c, k, e1, e2, e3, e4, e5⟩ := h
  exact ⟨g, r, c, k, by rw [upd_ne n]; exact e1, e2, e3, e4, e5⟩
/-- most that a box may have given -/
abbrev most : Int := 100000000
end
/-- _law_cell(script, k) -/
def spCell (K : PySem.W.Frag) : Sp := fun vs H Q _ => ∃ (a : Addr) (ns : List Int) (k : Int), vs = [.ref a, .int k] ∧ SqL K H a (ns.map V.int) ∧ 0 ≤ k ∧ k ≤ 1000 ∧ ∀ i H', Same H H' → Q (.int i) H'
/-- _law_box(great) -/
def spBox : Sp := fun vs H Q _ => ∃ (i : Int), vs = [.int i] ∧ ∀ p H', Same H H' → H p = none → IsBox H' p 0 → Q (.ref p) H'
/-- _law_take(box, many) -/
def spTake : Sp := fun vs H Q _ => ∃ (a : Addr) (m B : Int), vs = [.ref a, .int m] ∧ IsBox H a B ∧ B < most ∧ 1 ≤ m ∧ m < 18446744073709551616 ∧ ∀ d H', But a H H' → IsBox H' a (B + 1) → 0 ≤ d → d < m → Q (.int d) H'
/-- _law_pick(box, items) -/
def spPick (K : PySem.W.Frag) : Sp := fun vs H Q _ => ∃ (a b : Addr) (xs : List V) (B : Int), vs = [.ref a, .ref b] ∧ IsBox H a B ∧ B < most ∧ b ≠ a ∧ (SqL K H b xs ∨ SqT K H b xs) ∧ xs ≠ [] ∧ xs.length ≤ 100000 ∧
  ∀ v H', v ∈ xs → But a H H' → IsBox H' a (B + 1) → Q v H'
end Cr

/-! isinstance by kinds of values; tests of None. -/
namespace Cr
open PySem PySem.Spec PyProof.Rows L2
section
variable {K : PySem.W.Frag} {H : Hp} {Q : VK} {a b p : Addr}
theorem isi_non_bool  (q : Q (.bl false) H) : rIsi K [.non, .ty "bool"] H Q := isi_ty (.base .non) (by decide +kernel) q
theorem isi_non_int  (q : Q (.bl false) H) : rIsi K [.non, .ty "int"] H Q := isi_ty (.base .non) (by decide +kernel) q
theorem isi_non_str  (q : Q (.bl false) H) : rIsi K [.non, .ty "str"] H Q := isi_ty (.base .non) (by decide +kernel) q
theorem isi_non_dict  (q : Q (.bl false) H) : rIsi K [.non, .ty "dict"] H Q := isi_ty (.base .non) (by decide +kernel) q
theorem isi_non_list  (q : Q (.bl false) H) : rIsi K [.non, .ty "list"] H Q := isi_ty (.base .non) (by decide +kernel) q
theorem isi_non_tuple  (q : Q (.bl false) H) : rIsi K [.non, .ty "tuple"] H Q := isi_ty (.base .non) (by decide +kernel) q
theorem isT_non  (hT : H p = some (.tup [.ty "list", .ty "tuple"])) (q : Q (.bl false) H) : rIsiT K [.non, .ref p] H Q := isi_two (.base .non) hT (by decide +kernel : kitB "NoneType" "list" = some false) (by decide +kernel : kitB "NoneType" "tuple" = some false) q
theorem isi_bl_bool {k : Bool} (q : Q (.bl true) H) : rIsi K [(.bl k), .ty "bool"] H Q := isi_ty (.base (.bl k)) (by decide +kernel) q
theorem isi_bl_int {k : Bool} (q : Q (.bl true) H) : rIsi K [(.bl k), .ty "int"] H Q := isi_ty (.base (.bl k)) (by decide +kernel) q
theorem isi_bl_str {k : Bool} (q : Q (.bl false) H) : rIsi K [(.bl k), .ty "str"] H Q := isi_ty (.base (.bl k)) (by decide +kernel) q
theorem isi_bl_dict {k : Bool} (q : Q (.bl false) H) : rIsi K [(.bl k), .ty "dict"] H Q := isi_ty (.base (.bl k)) (by decide +kernel) q
theorem isi_bl_list {k : Bool} (q : Q (.bl false) H) : rIsi K [(.bl k), .ty "list"] H Q := isi_ty (.base (.bl k)) (by decide +kernel) q
theorem isi_bl_tuple {k : Bool} (q : Q (.bl false) H) : rIsi K [(.bl k), .ty "tuple"] H Q := isi_ty (.base (.bl k)) (by decide +kernel) q
theorem isT_bl {k : Bool} (hT : H p = some (.tup [.ty "list", .ty "tuple"])) (q : Q (.bl false) H) : rIsiT K [(.bl k), .ref p] H Q := isi_two (.base (.bl k)) hT (by decide +kernel : kitB "bool" "list" = some false) (by decide +kernel : kitB "bool" "tuple" = some false) q
theorem isi_int_bool {i : Int} (q : Q (.bl false) H) : rIsi K [(.int i), .ty "bool"] H Q := isi_ty (.base (.int i)) (by decide +kernel) q
theorem isi_int_int {i : Int} (q : Q (.bl true) H) : rIsi K [(.int i), .ty "int"] H Q := isi_ty (.base (.int i)) (by decide +kernel) q
theorem isi_int_str {i : Int} (q : Q (.bl false) H) : rIsi K [(.int i), .ty "str"] H Q := isi_ty (.base (.int i)) (by decide +kernel) q
theorem isi_int_dict {i : Int} (q : Q (.bl false) H) : rIsi K [(.int i), .ty "dict"] H Q := isi_ty (.base (.int i)) (by decide +kernel) q
theorem isi_int_list {i : Int} (q : Q (.bl false) H) : rIsi K [(.int i), .ty "list"] H Q := isi_ty (.base (.int i)) (by decide +kernel) q
theorem isi_int_tuple {i : Int} (q : Q (.bl false) H) : rIsi K [(.int i), .ty "tuple"] H Q := isi_ty (.base (.int i)) (by decide +kernel) q
theorem isT_int {i : Int} (hT : H p = some (.tup [.ty "list", .ty "tuple"])) (q : Q (.bl false) H) : rIsiT K [(.int i), .ref p] H Q := isi_two (.base (.int i)) hT (by decide +kernel : kitB "int" "list" = some false) (by decide +kernel : kitB "int" "tuple" = some false) q
theorem isi_str_bool {s : Str} (q : Q (.bl false) H) : rIsi K [(.str s), .ty "bool"] H Q := isi_ty (.base (.str s)) (by decide +kernel) q
theorem isi_str_int {s : Str} (q : Q (.bl false) H) : rIsi K [(.str s), .ty "int"] H Q := isi_ty (.base (.str s)) (by decide +kernel) q
theorem isi_str_str {s : Str} (q : Q (.bl true) H) : rIsi K [(.str s), .ty "str"] H Q := isi_ty (.base (.str s)) (by decide +kernel) q
theorem isi_str_dict {s : Str} (q : Q (.bl false) H) : rIsi K [(.str s), .ty "dict"] H Q := isi_ty (.base (.str s)) (by decide +kernel) q
theorem isi_str_list {s : Str} (q : Q (.bl false) H) : rIsi K [(.str s), .ty "list"] H Q := isi_ty (.base (.str s)) (by decide +kernel) q
theorem isi_str_tuple {s : Str} (q : Q (.bl false) H) : rIsi K [(.str s), .ty "tuple"] H Q := isi_ty (.base (.str s)) (by decide +kernel) q
theorem isT_str {s : Str} (hT : H p = some (.tup [.ty "list", .ty "tuple"])) (q : Q (.bl false) H) : rIsiT K [(.str s), .ref p] H Q := isi_two (.base (.str s)) hT (by decide +kernel : kitB "str" "list" = some false) (by decide +kernel : kitB "str" "tuple" = some false) q
theorem isi_lst_bool {xs : List V} (h : H a = some (.lst xs)) (q : Q (.bl false) H) : rIsi K [(.ref a), .ty "bool"] H Q := isi_ty (ty_l h) (by decide +kernel) q
theorem isi_lst_int {xs : List V} (h : H a = some (.lst xs)) (q : Q (.bl false) H) : rIsi K [(.ref a), .ty "int"] H Q := isi_ty (ty_l h) (by decide +kernel) q
theorem isi_lst_str {xs : List V} (h : H a = some (.lst xs)) (q : Q (.bl false) H) : rIsi K [(.ref a), .ty "str"] H Q := isi_ty (ty_l h) (by decide +kernel) q
theorem isi_lst_dict {xs : List V} (h : H a = some (.lst xs)) (q : Q (.bl false) H) : rIsi K [(.ref a), .ty "dict"] H Q := isi_ty (ty_l h) (by decide +kernel) q
theorem isi_lst_list {xs : List V} (h : H a = some (.lst xs)) (q : Q (.bl true) H) : rIsi K [(.ref a), .ty "list"] H Q := isi_ty (ty_l h) (by decide +kernel) q
theorem isi_lst_tuple {xs : List V} (h : H a = some (.lst xs)) (q : Q (.bl false) H) : rIsi K [(.ref a), .ty "tuple"] H Q := isi_ty (ty_l h) (by decide +kernel) q
theorem isT_lst {xs : List V} (h : H a = some (.lst xs)) (hT : H p = some (.tup [.ty "list", .ty "tuple"])) (q : Q (.bl true) H) : rIsiT K [(.ref a), .ref p] H Q := isi_two (ty_l h) hT (by decide +kernel : kitB "list" "list" = some true) (by decide +kernel : kitB "list" "tuple" = some false) q
theorem isi_tup_bool {xs : List V} (h : H a = some (.tup xs)) (q : Q (.bl false) H) : rIsi K [(.ref a), .ty "bool"] H Q := isi_ty (ty_t h) (by decide +kernel) q
theorem isi_tup_int {xs : List V} (h : H a = some (.tup xs)) (q : Q (.bl false) H) : rIsi K [(.ref a), .ty "int"] H Q := isi_ty (ty_t h) (by decide +kernel) q
theorem isi_tup_str {xs : List V} (h : H a = some (.tup xs)) (q : Q (.bl false) H) : rIsi K [(.ref a), .ty "str"] H Q := isi_ty (ty_t h) (by decide +kernel) q
theorem isi_tup_dict {xs : List V} (h : H a = some (.tup xs)) (q : Q (.bl false) H) : rIsi K [(.ref a), .ty "dict"] H Q := isi_ty (ty_t h) (by decide +kernel) q
theorem isi_tup_list {xs : List V} (h : H a = some (.tup xs)) (q : Q (.bl false) H) : rIsi K [(.ref a), .ty "list"] H Q := isi_ty (ty_t h) (by decide +kernel) q
theorem isi_tup_tuple {xs : List V} (h : H a = some (.tup xs)) (q : Q (.bl true) H) : rIsi K [(.ref a), .ty "tuple"] H Q := isi_ty (ty_t h) (by decide +kernel) q
theorem isT_tup {xs : List V} (h : H a = some (.tup xs)) (hT : H p = some (.tup [.ty "list", .ty "tuple"])) (q : Q (.bl true) H) : rIsiT K [(.ref a), .ref p] H Q := isi_two (ty_t h) hT (by decide +kernel : kitB "tuple" "list" = some false) (by decide +kernel : kitB "tuple" "tuple" = some true) q
theorem isi_dct_bool {kvs : List (Key × V)} (h : H a = some (.dK kvs)) (q : Q (.bl false) H) : rIsi K [(.ref a), .ty "bool"] H Q := isi_ty (ty_d h) (by decide +kernel) q
theorem isi_dct_int {kvs : List (Key × V)} (h : H a = some (.dK kvs)) (q : Q (.bl false) H) : rIsi K [(.ref a), .ty "int"] H Q := isi_ty (ty_d h) (by decide +kernel) q
theorem isi_dct_str {kvs : List (Key × V)} (h : H a = some (.dK kvs)) (q : Q (.bl false) H) : rIsi K [(.ref a), .ty "str"] H Q := isi_ty (ty_d h) (by decide +kernel) q
theorem isi_dct_dict {kvs : List (Key × V)} (h : H a = some (.dK kvs)) (q : Q (.bl true) H) : rIsi K [(.ref a), .ty "dict"] H Q := isi_ty (ty_d h) (by decide +kernel) q
theorem isi_dct_list {kvs : List (Key × V)} (h : H a = some (.dK kvs)) (q : Q (.bl false) H) : rIsi K [(.ref a), .ty "list"] H Q := isi_ty (ty_d h) (by decide +kernel) q
theorem isi_dct_tuple {kvs : List (Key × V)} (h : H a = some (.dK kvs)) (q : Q (.bl false) H) : rIsi K [(.ref a), .ty "tuple"] H Q := isi_ty (ty_d h) (by decide +kernel) q
theorem isT_dct {kvs : List (Key × V)} (h : H a = some (.dK kvs)) (hT : H p = some (.tup [.ty "list", .ty "tuple"])) (q : Q (.bl false) H) : rIsiT K [(.ref a), .ref p] H Q := isi_two (ty_d h) hT (by decide +kernel : kitB "dict" "list" = some false) (by decide +kernel : kitB "dict" "tuple" = some false) q
theorem is_bl_n {k : Bool} (q : Q (.bl false) H) : rIsU (.bl k) .non H Q := is_n q
theorem isn_bl_n {k : Bool} (q : Q (.bl true) H) : rIsnU (.bl k) .non H Q := isn_n q
theorem is_int_n {i : Int} (q : Q (.bl false) H) : rIsU (.int i) .non H Q := is_n q
theorem isn_int_n {i : Int} (q : Q (.bl true) H) : rIsnU (.int i) .non H Q := isn_n q
theorem is_str_n {s : Str} (q : Q (.bl false) H) : rIsU (.str s) .non H Q := is_n q
theorem isn_str_n {s : Str} (q : Q (.bl true) H) : rIsnU (.str s) .non H Q := isn_n q
theorem is_ref_n  (q : Q (.bl false) H) : rIsU (.ref a) .non H Q := is_n q
theorem isn_ref_n  (q : Q (.bl true) H) : rIsnU (.ref a) .non H Q := isn_n q
theorem is_non_n (q : Q (.bl true) H) : rIsU .non .non H Q := is_n q
theorem isn_non_n (q : Q (.bl false) H) : rIsnU .non .non H Q := isn_n q
variable {x y v : V} {σ : L2.St} {xs ys : List V} {i j : Int}
theorem ne_btt (q : Q (.bl false) H) : rNeU K (.bl true) (.bl true) H Q := ne_bb q
theorem ne_bff (q : Q (.bl false) H) : rNeU K (.bl false) (.bl false) H Q := ne_bb q
theorem eq_btt (q : Q (.bl true) H) : rEqU K (.bl true) (.bl true) H Q := eq_bb q
theorem eq_bff (q : Q (.bl true) H) : rEqU K (.bl false) (.bl false) H Q := eq_bb q
theorem eq_nil {p q : Addr} (hp : H p = some (.lst [])) (hq : H q = some (.lst [])) (c : Q (.bl true) H) : rEqU K (.ref p) (.ref q) H Q :=
  eq_dd (d := .list []) (e := .list []) (.lst (SqL.of hp) .nil) (.lst (SqL.of hq) .nil) rfl rfl c
/-! ### walks -/
theorem ati0 {m : Nat} (h : xs[m]? = some v) : atI xs (0 + (m : Int)) = some v := by
  rw [Int.zero_add]
  exact ati h
theorem pe_ty {X : Cx} (n : String) {pos : Pos} (hm : X.mg (Str.ofString n) = none) (hv : bootBuiltins (Str.ofString n) = some (.type n)) (hg : Gl X (Str.ofString n) := by rfl) (hn : Str.ofString n ≠ "__name__" := by decide)
    (hd : (Str.ofString n == ("__debug__" : Str)) = false := by decide) : PE X (.Name (Str.ofString n) pos) (tC (.ty n)) := pe_bltn hg hm hv (v := .ty n) (show RelV (.ty n) (.type n) from rfl) hn hd
theorem w_ifNT {A B : Prop} (q : A) : if (!false) = true then A else B := w_ifT q
theorem w_ifNF {A B : Prop} (q : B) : if (!true) = true then A else B := w_ifF q
end
end Cr

/-! Loops and comprehensions: readings under names of their own, invariants over abstract heaps. -/
namespace Cr
open PySem PySem.Spec PyProof.Rows L2
section
variable {X : Cx} {K : PySem.W.Frag} {σ : L2.St} {H H' : Hp} {Q : VK} {x y z v : V} {i j : Int} {a b p : Addr} {xs ys : List V}
variable {wi : TI} {g : TG} {tt : TT} {te : TE} {tb : TS} {vs : List Nat} {D : Ends} {J : It} {R : It → Hp → Prop}

/-- the new item goes to the list at C -/
def Push (C : Addr) (y : V) (H : Hp) (R : Hp → Prop) : Prop := ∃ acc, H C = some (.lst acc) ∧ acc.length < sizeLine ∧ R (upd H C (.lst (acc ++ [y])))
def LcRun (J : It) (g : TG) (tt : TT) (te : TE) (vs : List Nat) (σ : L2.St) (H : Hp) (Q : VK) : Prop := ∀ C, H C = none → ∃ W : Nat → Nat → Hp → Prop, (∃ m, W 0 m (upd H C (.lst []))) ∧ ∀ i m H, W i m H →
    (J.stop i H ∧ Q (.ref C) H) ∨ (J.go i H ∧ ∃ Nx : Hp → Prop, (∀ H', Nx H' → ∃ m', m' < m ∧ W (i + 1) m' H') ∧ ∀ x H', J.yld i H x H' → g x (wipe σ vs) H' fun σ2 H2 => wipe σ2 vs = wipe σ vs ∧ tt σ2 H2 fun b H3 =>
      if b = true then te σ2 H3 fun y H4 => Push C y H4 Nx else Nx H3)
theorem w_lc (q : wi σ H fun J H1 => LcRun J g tt te vs σ H1 Q) : tLc wi g tt te vs σ H Q := q
def ForRun (J : It) (g : TG) (tb : TS) (σ : L2.St) (H : Hp) (D : Ends) : Prop := ∃ W : Nat → Nat → L2.St → Hp → Prop, (∃ m, W 0 m σ H) ∧ ∀ i m σ H, W i m σ H →
    (J.stop i H ∧ D.nx σ H) ∨ (J.go i H ∧ ∃ N : L2.St → Hp → Prop, (∀ σ' H', N σ' H' → ∃ m', m' < m ∧ W (i + 1) m' σ' H') ∧ ∀ x H', J.yld i H x H' → g x σ H' fun σ2 H2 => tb { D with nx := N, ct := N, bk := D.nx } σ2 H2)
theorem w_for (q : wi σ H fun J H1 => ForRun J g tb σ H1 D) : tFor wi g tb D σ H := q
def Rng1 (vs : List V) (H : Hp) (R : It → Hp → Prop) : Prop := ∃ j : Int, vs = [.int j] ∧ -(2 ^ 62) ≤ j ∧ j < 2 ^ 62 ∧ R (Itr 0 j.toNat) H
def Rng2 (vs : List V) (H : Hp) (R : It → Hp → Prop) : Prop := ∃ i j : Int, vs = [.int i, .int j] ∧ (-(2 ^ 62) ≤ i ∧ i < 2 ^ 62 ∧ -(2 ^ 62) ≤ j ∧ j < 2 ^ 62) ∧ R (Itr i (j - i).toNat) H
def OverL (K : PySem.W.Frag) (x : V) (H : Hp) (R : It → Hp → Prop) : Prop := ∃ a, x = .ref a ∧ (∃ xs, SqL K H a xs) ∧ R (Itl K a) H
def OverT (K : PySem.W.Frag) (x : V) (H : Hp) (R : It → Hp → Prop) : Prop := ∃ a, x = .ref a ∧ (∃ xs, SqT K H a xs) ∧ R (Itt K a) H
theorem w_rng1 {ta : TA} (q : ta σ H fun vs H1 => Rng1 vs H1 R) : iRng1 ta σ H R := q
theorem w_rng2 {ta : TA} (q : ta σ H fun vs H1 => Rng2 vs H1 R) : iRng2 ta σ H R := q
theorem w_il {tl : TE} (q : tl σ H fun x H1 => OverL K x H1 R) : iList K tl σ H R := q
theorem w_it {tl : TE} (q : tl σ H fun x H1 => OverT K x H1 R) : iTup K tl σ H R := q
def OverS (K : PySem.W.Frag) (x : V) (H : Hp) (R : It → Hp → Prop) : Prop := OverL K x H R ∨ OverT K x H R
theorem w_is {tl : TE} (q : tl σ H fun x H1 => OverS K x H1 R) : iSeq K tl σ H R := q
theorem r_rng1 (h1 : -4611686018427387904 ≤ j) (h2 : j < 4611686018427387904) (q : R (Itr 0 j.toNat) H) : Rng1 [.int j] H R := ⟨_, rfl, by omega, by omega, q⟩
theorem r_rng2 (h1 : -4611686018427387904 ≤ j) (h2 : j < 4611686018427387904) (h3 : -4611686018427387904 ≤ i) (h4 : i < 4611686018427387904) (q : R (Itr i (j - i).toNat) H) : Rng2 [.int i, .int j] H R :=
  ⟨_, _, rfl, ⟨by omega, by omega, by omega, by omega⟩, q⟩
theorem r_il (h : SqL K H a xs) (q : R (Itl K a) H) : OverL K (.ref a) H R := ⟨_, rfl, ⟨_, h⟩, q⟩
theorem r_it (h : SqT K H a xs) (q : R (Itt K a) H) : OverT K (.ref a) H R := ⟨_, rfl, ⟨_, h⟩, q⟩
theorem r_isl (h : SqL K H a xs) (q : R (Itl K a) H) : OverS K (.ref a) H R := .inl ⟨_, rfl, ⟨_, h⟩, q⟩
theorem r_ist (h : SqT K H a xs) (q : R (Itt K a) H) : OverS K (.ref a) H R := .inr ⟨_, rfl, ⟨_, h⟩, q⟩

theorem push {C : Addr} {acc : List V} {R : Hp → Prop} (h : H C = some (.lst acc)) (hz : acc.length < 100000) (q : ∀ H', But C H H' → H' C = some (.lst (acc ++ [y])) → R H') : Push C y H R :=
  ⟨acc, h, szt hz, q _ But.upd upd_same⟩
/-- over a range: P C i H' what holds ahead of turn i, the new list at C -/
theorem lc_rng {lo : Int} {n : Nat} (P : Addr → Nat → Hp → Prop) (h0 : ∀ C H1, H C = none → Same H H1 → H1 C = some (.lst []) → P C 0 H1)
    (hs : ∀ C i H', i < n → P C i H' → g (.int (lo + i)) (wipe σ vs) H' fun σ2 H2 => wipe σ2 vs = wipe σ vs ∧ tt σ2 H2 fun b H3 => if b = true then te σ2 H3 fun y H4 => Push C y H4 (P C (i + 1)) else P C (i + 1) H3)
    (hd : ∀ C H', P C n H' → Q (.ref C) H') : LcRun (Itr lo n) g tt te vs σ H Q := fun C nC =>
  lc_range (P C) (h0 C _ nC (same_new nC) upd_same) (hs C) (hd C)
theorem lc_lst (P : Addr → Nat → Hp → Prop) (h0 : ∀ C H1, H C = none → Same H H1 → H1 C = some (.lst []) → P C 0 H1) (hl : ∀ C i H', i ≤ xs.length → P C i H' → SqL K H' a xs)
    (hs : ∀ C i x H', xs[i]? = some x → P C i H' → g x (wipe σ vs) H' fun σ2 H2 => wipe σ2 vs = wipe σ vs ∧ tt σ2 H2 fun b H3 => if b = true then te σ2 H3 fun y H4 => Push C y H4 (P C (i + 1)) else P C (i + 1) H3)
    (hd : ∀ C H', P C xs.length H' → Q (.ref C) H') : LcRun (Itl K a) g tt te vs σ H Q := fun C nC =>
  lc_list (P C) (h0 C _ nC (same_new nC) upd_same) (hl C) (hs C) (hd C)
theorem lc_tpl (P : Addr → Nat → Hp → Prop) (h0 : ∀ C H1, H C = none → Same H H1 → H1 C = some (.lst []) → P C 0 H1) (hl : ∀ C i H', i ≤ xs.length → P C i H' → SqT K H' a xs)
    (hs : ∀ C i x H', xs[i]? = some x → P C i H' → g x (wipe σ vs) H' fun σ2 H2 => wipe σ2 vs = wipe σ vs ∧ tt σ2 H2 fun b H3 => if b = true then te σ2 H3 fun y H4 => Push C y H4 (P C (i + 1)) else P C (i + 1) H3)
    (hd : ∀ C H', P C xs.length H' → Q (.ref C) H') : LcRun (Itt K a) g tt te vs σ H Q := fun C nC =>
  lc_tup (P C) (h0 C _ nC (same_new nC) upd_same) (hl C) (hs C) (hd C)
/-- over the keys of a dict that is locked -/
theorem lc_key {d : Addr} {o : Obj} {kvs : List (Key × V)} (P : Addr → Nat → Hp → Prop) (h0 : ∀ C H1, H C = none → Same H H1 → H1 C = some (.lst []) → P C 0 H1) (hl : ∀ C i H', i ≤ kvs.length → P C i H' → H' d = some (.frz o (.dK kvs)))
    (hs : ∀ C i k v H', kvs[i]? = some (k, v) → P C i H' → g (kV k) (wipe σ vs) H' fun σ2 H2 => wipe σ2 vs = wipe σ vs ∧ tt σ2 H2 fun b H3 => if b = true then te σ2 H3 fun y H4 => Push C y H4 (P C (i + 1)) else P C (i + 1) H3)
    (hd : ∀ C H', P C kvs.length H' → Q (.ref C) H') : LcRun (Itk d o kvs) g tt te vs σ H Q := by
  intro C nC
  refine ⟨fun i m H => m = kvs.length - i ∧ i ≤ kvs.length ∧ P C i H, ⟨kvs.length, by simp, Nat.zero_le _, h0 C _ nC (same_new nC) upd_same⟩, ?_⟩
  rintro i m H1 ⟨rfl, hi, pp⟩
  have l := hl C i H1 hi pp
  by_cases hlt : i < kvs.length
  · refine .inr ⟨⟨l, hlt⟩, P C (i + 1), fun H2 p2 => ⟨kvs.length - (i + 1), by omega, rfl, hlt, p2⟩, ?_⟩
    rintro x H2 ⟨rfl, k, v, e, rfl⟩
    exact hs C i k v _ e pp
  · have e : i = kvs.length := by omega
    subst e
    exact .inl ⟨⟨l, Nat.le_refl _⟩, hd C H1 pp⟩
theorem f_rng {lo : Int} {n : Nat} (P : Nat → L2.St → Hp → Prop) (h0 : P 0 σ H)
    (hs : ∀ i σ H, i < n → P i σ H → g (.int (lo + i)) σ H fun σ2 H2 => tb { D with nx := P (i + 1), ct := P (i + 1), bk := D.nx } σ2 H2) (hd : ∀ σ H, P n σ H → D.nx σ H) : ForRun (Itr lo n) g tb σ H D := for_range P h0 hs hd
theorem f_lst (P : Nat → L2.St → Hp → Prop) (h0 : P 0 σ H) (hl : ∀ i σ H, i ≤ xs.length → P i σ H → SqL K H a xs)
    (hs : ∀ i x σ H, xs[i]? = some x → P i σ H → g x σ H fun σ2 H2 => tb { D with nx := P (i + 1), ct := P (i + 1), bk := D.nx } σ2 H2) (hd : ∀ σ H, P xs.length σ H → D.nx σ H) : ForRun (Itl K a) g tb σ H D := for_list P h0 hl hs hd
theorem f_tpl (P : Nat → L2.St → Hp → Prop) (h0 : P 0 σ H) (hl : ∀ i σ H, i ≤ xs.length → P i σ H → SqT K H a xs)
    (hs : ∀ i x σ H, xs[i]? = some x → P i σ H → g x σ H fun σ2 H2 => tb { D with nx := P (i + 1), ct := P (i + 1), bk := D.nx } σ2 H2) (hd : ∀ σ H, P xs.length σ H → D.nx σ H) : ForRun (Itt K a) g tb σ H D := for_tup P h0 hl hs hd
/-- while: the test's reading and the body's, by an invariant with a bound on the turns left -/
def WhRun (c : TT) (tb : TS) (D : Ends) (σ : L2.St) (H : Hp) : Prop := tWhile c tb D σ H
theorem w_while {c : TT} (q : WhRun c tb D σ H) : tWhile c tb D σ H := q
theorem wh {c : TT} (P : Nat → L2.St → Hp → Prop) {n : Nat} (h0 : P n σ H)
    (hs : ∀ n σ H, P n σ H → c σ H fun b H1 => if b = true then ∃ N : L2.St → Hp → Prop, (∀ σ' H', N σ' H' → ∃ m', m' < n ∧ P m' σ' H') ∧ tb { D with nx := N, ct := N, bk := D.nx } σ H1 else D.nx σ H1) : WhRun c tb D σ H := ⟨P, ⟨n, h0⟩, hs⟩
/-- one more turn -/
theorem turn {n : Nat} {P : Nat → L2.St → Hp → Prop} {σ1 : L2.St} {H1 : Hp} (q : tb { D with nx := fun σ' H' => ∃ m', m' < n ∧ P m' σ' H', ct := fun σ' H' => ∃ m', m' < n ∧ P m' σ' H', bk := D.nx } σ1 H1) :
    ∃ N : L2.St → Hp → Prop, (∀ σ' H', N σ' H' → ∃ m', m' < n ∧ P m' σ' H') ∧ tb { D with nx := N, ct := N, bk := D.nx } σ1 H1 := ⟨_, fun _ _ h => h, q⟩
/-- the dict of a walk is locked meanwhile -/
def LockE (te : TE) (σ : L2.St) (H : Hp) (Q : VK) : Prop := tLockE te σ H Q
theorem w_lockE (q : LockE te σ H Q) : tLockE te σ H Q := q
theorem lockE {d : Addr} {kvs : List (Key × V)} (h : H d = some (.dK kvs)) (q : ∀ od H1, H1 d = some (.frz od (.dK kvs)) → But d H H1 → te σ H1 fun v H' => H' d = some (.frz od (.dK kvs)) ∧ Q v (upd H' d (.dK kvs))) : LockE te σ H Q :=
  ⟨d, _, h, trivial, fun od => q od _ upd_same But.upd⟩
theorem w_keys {td : TE} (q : td σ H fun x H1 => ∃ d o, x = .ref d ∧ ((∃ kvs, H1 d = some (.frz o (.dK kvs)) ∧ R (Itk d o kvs) H1) ∨ ∃ kvs, H1 d = some (.frz o (.dT kvs)) ∧ R (Itkt d o kvs) H1)) : iKeys td σ H R := q
end
end Cr

/-! The rules whose reading names the written part, with K said apart (for blocks within a def). -/
namespace Cr
open PySem PySem.Spec PyProof.Rows L2
section
variable {X : Cx} (K : PySem.W.Frag)
theorem o_addK (h : X.K = K := by rfl) : OpR X (binaryOp .Add) (rAddU K) := h ▸ o_add
theorem o_mulK (h : X.K = K := by rfl) : OpR X (binaryOp .Mult) (rMulU K) := h ▸ o_mul
theorem o_eqK (hu : X.A.units + 64 < cLine) (h : X.K = K := by rfl) : OpR X (compareOp .Eq) (rEqU K) := h ▸ o_eq hu
theorem o_neK (hu : X.A.units + 64 < cLine) (h : X.K = K := by rfl) : OpR X (compareOp .NotEq) (rNeU K) := h ▸ o_ne hu
theorem o_inK (h : X.K = K := by rfl) : OpR X (compareOp .In) (rInU K) := h ▸ o_in
theorem o_ninK (h : X.K = K := by rfl) : OpR X (compareOp .NotIn) (rNinU K) := h ▸ o_nin
theorem ix_seqK (h : X.K = K := by rfl) : IxR X (rIx K) := h ▸ ix_seq
theorem s_anyK (h : X.K = K := by rfl) : SlR X (rSliU K) := h ▸ s_any
theorem c_lenK (h : X.K = K := by rfl) : CallR X (.builtin "len") (rLenU K) := h ▸ c_len
theorem c_isiK (h : X.K = K := by rfl) : CallR X (.builtin "isinstance") (rIsi K) := h ▸ call_isi
theorem c_isiTK (h : X.K = K := by rfl) : CallR X (.builtin "isinstance") (rIsiT K) := h ▸ call_isiT
theorem c_sumK (hc : X.calm = true := by rfl) (h : X.K = K := by rfl) : CallR X (.builtin "sum") (rSum K) := h ▸ cr_sum hc
theorem c_allK (hc : X.calm = true := by rfl) (h : X.K = K := by rfl) : CallR X (.builtin "all") (rAll K) := h ▸ cr_all hc
theorem c_anyK (hc : X.calm = true := by rfl) (h : X.K = K := by rfl) : CallR X (.builtin "any") (rAny K) := h ▸ cr_any hc
theorem c_minK (hc : X.calm = true := by rfl) (h : X.K = K := by rfl) : CallR X (.builtin "min") (rMin K) := h ▸ cr_min hc
theorem c_maxK (hc : X.calm = true := by rfl) (h : X.K = K := by rfl) : CallR X (.builtin "max") (rMax K) := h ▸ cr_max hc
theorem c_sortedIK (h : X.K = K := by rfl) : CallR X (.builtin "sorted") (rSortedI K) := h ▸ cr_sortedI
abbrev rListOf (K : PySem.W.Frag) : List V → Hp → VK → Prop := fun xs H Q => ∃ p ys, xs = [.ref p] ∧ (SqL K H p ys ∨ SqT K H p ys) ∧ ∀ l, H l = none → Q (.ref l) (upd H l (.lst ys))
abbrev rTupOf (K : PySem.W.Frag) : List V → Hp → VK → Prop := fun xs H Q => ∃ p ys, xs = [.ref p] ∧ ((SqL K H p ys ∧ ∀ l, H l = none → Q (.ref l) (upd H l (.tup ys))) ∨ (SqT K H p ys ∧ Q (.ref p) H))
theorem c_listK (h : X.K = K := by rfl) : CallR X (.type "list") (rListOf K) := h ▸ call_list_of
theorem c_tupleK (h : X.K = K := by rfl) : CallR X (.type "tuple") (rTupOf K) := h ▸ call_tuple_of
theorem pi_listK {tg l : Expr} {tl : TE} (hl : PE X l tl) (h : X.K = K := by rfl) : PI X tg l (iList K tl) := h ▸ pi_list hl
theorem pi_tupK {tg l : Expr} {tl : TE} (hl : PE X l tl) (h : X.K = K := by rfl) : PI X tg l (iTup K tl) := h ▸ pi_tup hl
theorem pi_seqK {tg l : Expr} {tl : TE} (hl : PE X l tl) (h : X.K = K := by rfl) : PI X tg l (iSeq K tl) := h ▸ pi_seq hl
theorem pg_tupK {es : List Expr} {k : Nat} {t : TGs} {n : Nat} {pos : Pos} (h : PGs X es t) (hc : X.calm = true := by rfl) (hK : X.K = K := by rfl)
    (hn : (assignEach es X.env).length = n := by rfl) (hst : (assignEach es X.env).findIdx? (·.1) = none := by rfl) : PG X (.Tuple es k pos) (gTup K n t) := hK ▸ pg_tup hc h hn hst
theorem pe_bmK {o e : Expr} {es : List Expr} {T id : String} {name : Str} {r : V → List V → Hp → VK → Prop} {to : TE} {t : TA} {apos cpos : Pos} (pa : PlainAttrs T) (slot : Slot T name id) (hty : typeOf (.builtin id) = pure (.type "method_descriptor"))
    (hm : MtR X id r) (ho : PE X o to) (ha : PA X (e :: es) t) (hK : X.K = K := by rfl)
    (hbase : attributeBase o name X.env (eval o X.env) = eval o X.env := by rfl)
    (hfew : ((backTo cpos (starEach (e :: es) X.env)).all (fun x => !x.1) && (backToKw cpos (keywordEach [] X.env)).all (fun x => x.1.isSome)
      && decide ((e :: es).length + ([] : List Keyword).length + (if ([] : List Keyword).isEmpty then 0 else 1) < 30)) = true := by rfl)
    (hline : (apos.endLine == cpos.line) = true := by rfl) (hs : starEach (e :: es) X.env = (false, eval e X.env) :: starEach es X.env := by rfl) (hplain : (backTo cpos (starEach es X.env)).any (·.1) = false := by rfl) :
    PE X (.Call (.Attribute o name apos) (e :: es) [] cpos) (tBM K T r to t) := hK ▸ pe_bm pa slot hty hm ho ha hbase hfew hline hs hplain
end
section
variable {K : PySem.W.Frag} {H : Hp} {Q : VK} {a b p : Addr} {xs ys : List V}
theorem list_l (h : SqL K H a xs) (q : ∀ p H', H p = none → Same H H' → H' p = some (.lst xs) → Q (.ref p) H') : rListOf K [.ref a] H Q := ⟨_, _, rfl, .inl h, fun p n => q p _ n (same_new n) upd_same⟩
theorem list_t (h : SqT K H a xs) (q : ∀ p H', H p = none → Same H H' → H' p = some (.lst xs) → Q (.ref p) H') : rListOf K [.ref a] H Q := ⟨_, _, rfl, .inr h, fun p n => q p _ n (same_new n) upd_same⟩
theorem tuple_l (h : SqL K H a xs) (q : ∀ p H', H p = none → Same H H' → H' p = some (.tup xs) → Q (.ref p) H') : rTupOf K [.ref a] H Q := ⟨_, _, rfl, .inl ⟨h, fun p n => q p _ n (same_new n) upd_same⟩⟩
theorem tuple_t (h : SqT K H a xs) (q : Q (.ref a) H) : rTupOf K [.ref a] H Q := ⟨_, _, rfl, .inr ⟨h, q⟩⟩
end
end Cr

/-! Dicts: reads and writes, under names of their own. -/
namespace Cr
open PySem PySem.Spec PyProof.Rows L2
section
variable {X : Cx} {K : PySem.W.Frag} {σ : L2.St} {H H' : Hp} {Q : VK} {x y z v : V} {a b p : Addr} {kvs : List (Key × V)} {k : Key} {D0 : Ends}
def DNin (x y : V) (H : Hp) (Q : VK) : Prop := ∃ a o, x = .ref a ∧ DGet H a y o ∧ Q (.bl (!o.isSome)) H
def DIn (x y : V) (H : Hp) (Q : VK) : Prop := ∃ a o, x = .ref a ∧ DGet H a y o ∧ Q (.bl o.isSome) H
def DRd (x y : V) (H : Hp) (Q : VK) : Prop := ∃ a v, x = .ref a ∧ DGet H a y (some v) ∧ Q v H
def DWr (x y v : V) (H : Hp) (R : Hp → Prop) : Prop := ∃ a H4, x = .ref a ∧ DPut H a y v H4 ∧ R H4
theorem w_dnin {ty td : TE} (q : ty σ H fun y H1 => td σ H1 fun x H2 => DNin x y H2 Q) : tDNotIn ty td σ H Q := q
theorem w_din {ty td : TE} (q : ty σ H fun y H1 => td σ H1 fun x H2 => DIn x y H2 Q) : tDIn ty td σ H Q := q
theorem w_dget {ty td : TE} (q : td σ H fun x H1 => ty σ H1 fun y H2 => DRd x y H2 Q) : tDGet td ty σ H Q := q
theorem w_dput {ty td tv : TE} (q : tv σ H fun v H1 => td σ H1 fun x H2 => ty σ H2 fun y H3 => DWr x y v H3 fun H4 => D0.nx σ H4) : sDPut td ty tv D0 σ H := q
theorem dnin_k (h : Rd H a (.dK kvs)) (e : valV kvs k = some v) (q : Q (.bl false) H) : DNin (.ref a) (kV k) H Q := ⟨a, _, rfl, .inl ⟨kvs, k, h, rfl, e.symm⟩, q⟩
theorem dnin_n (h : Rd H a (.dK kvs)) (e : valV kvs k = none) (q : Q (.bl true) H) : DNin (.ref a) (kV k) H Q := ⟨a, _, rfl, .inl ⟨kvs, k, h, rfl, e.symm⟩, q⟩
theorem din_k (h : Rd H a (.dK kvs)) (e : valV kvs k = some v) (q : Q (.bl true) H) : DIn (.ref a) (kV k) H Q := ⟨a, _, rfl, .inl ⟨kvs, k, h, rfl, e.symm⟩, q⟩
theorem din_n (h : Rd H a (.dK kvs)) (e : valV kvs k = none) (q : Q (.bl false) H) : DIn (.ref a) (kV k) H Q := ⟨a, _, rfl, .inl ⟨kvs, k, h, rfl, e.symm⟩, q⟩
theorem drd_k (h : Rd H a (.dK kvs)) (e : valV kvs k = some v) (q : Q v H) : DRd (.ref a) (kV k) H Q := ⟨a, v, rfl, .inl ⟨kvs, k, h, rfl, e.symm⟩, q⟩
theorem drd_i {i : Int} (h : Rd H a (.dK kvs)) (e : valV kvs (.inl i) = some v) (q : Q v H) : DRd (.ref a) (.int i) H Q := drd_k h e q
theorem drd_s {s : Str} (h : Rd H a (.dK kvs)) (e : valV kvs (.inr s) = some v) (q : Q v H) : DRd (.ref a) (.str s) H Q := drd_k h e q
theorem dwr_k {R : Hp → Prop} (h : H a = some (.dK kvs)) (hz : kvs.length < 100000) (q : ∀ H', But a H H' → H' a = some (.dK (putK kvs k v)) → R H') : DWr (.ref a) (kV k) v H R :=
  ⟨a, _, rfl, .k h (szt hz), q _ But.upd upd_same⟩
theorem dwr_i {R : Hp → Prop} {i : Int} (h : H a = some (.dK kvs)) (hz : kvs.length < 100000) (q : ∀ H', But a H H' → H' a = some (.dK (putK kvs (.inl i) v)) → R H') : DWr (.ref a) (.int i) v H R := dwr_k h hz q
theorem dwr_s {R : Hp → Prop} {s : Str} (h : H a = some (.dK kvs)) (hz : kvs.length < 100000) (q : ∀ H', But a H H' → H' a = some (.dK (putK kvs (.inr s) v)) → R H') : DWr (.ref a) (.str s) v H R := dwr_k h hz q
theorem val_at {i : Nat} (hn : (kvs.map (·.1)).Nodup) (e : kvs[i]? = some (k, v)) : valV kvs k = some v := val_nodup hn (k, v) (List.mem_of_getElem? e)
end
theorem RepK.but {H H' : Hp} {a : Addr} {d0 : D} {ds : List (Key × D)} {xs : List (Key × V)} (h0 : Rep H d0 (.ref a)) (hs : D.sizeK ds < d0.size) (b : But a H H') (h : RepK H ds xs) : RepK H' ds xs :=
  h.keep ds fun d' c u z r e => b c u (fun q => by
    subst q
    have := Rep.inj_size d'.size d' d0 _ (Nat.le_refl _) r h0
    omega) e
theorem RepL.but {H H' : Hp} {a : Addr} {d0 : D} {ds : List D} {xs : List V} (h0 : Rep H d0 (.ref a)) (hs : D.sizeL ds < d0.size) (b : But a H H') (h : RepL H ds xs) : RepL H' ds xs :=
  h.keep ds fun d' c u z r e => b c u (fun q => by
    subst q
    have := Rep.inj_size d'.size d' d0 _ (Nat.le_refl _) r h0
    omega) e
theorem Rep.but {H H' : Hp} {a : Addr} {d0 d : D} {v : V} (h0 : Rep H d0 (.ref a)) (hs : d.size < d0.size) (b : But a H H') (h : Rep H d v) : Rep H' d v :=
  h.keep d fun d' c u z r e => b c u (fun q => by
    subst q
    have := Rep.inj_size d'.size d' d0 _ (Nat.le_refl _) r h0
    omega) e
/-- a dict that was locked and is whole again -/
theorem same_back {H H1 H2 : Hp} {a : Addr} {o : HO} (h : H a = some o) (b : But a H H1) (s : Same H1 H2) : Same H (upd H2 a o) := fun c x e => by
  by_cases q : c = a
  · subst q
    rw [upd_same, ← h, e]
  · rw [upd_ne q]
    exact s _ _ (b _ _ q e)
theorem D.deep_at_dct {ds : List (Key × D)} {i n : Nat} (h : (D.dct ds).deep < n + 1) (hi : i < ds.length) : (ds[i]).2.deep < n := by
  have := D.deepK_at hi
  rw [D.deep_dct] at h
  omega
theorem D.fit_at_dct {ds : List (Key × D)} {i : Nat} (h : (D.dct ds).fit) (hi : i < ds.length) : (ds[i]).2.fit := by
  rw [D.fit_dct] at h
  exact D.fitK_at hi h.2.2
def rDictP (K : PySem.W.Frag) : List V → Hp → VK → Prop := fun xs H Q => ∃ (a : Addr) (ps : List Addr) (kvs : List (Key × V)), xs = [.ref a] ∧ SqL K H a (ps.map V.ref) ∧ Paired (fun p kv => SqT K H p [kV kv.1, kv.2]) ps kvs ∧
    ∀ p, H p = none → Q (.ref p) (upd H p (.dK (mergeK [] kvs)))
theorem c_dictPK {X : Cx} (K : PySem.W.Frag) (hc : X.calm = true := by rfl) (h : X.K = K := by rfl) : CallR X (.type "dict") (rDictP K) := h ▸ call_dictP hc
theorem val_none {kvs : List (Key × V)} {k : Key} (h : k ∉ kvs.map (·.1)) : valV kvs k = none := by
  have a := valV_any k kvs
  cases e : valV kvs k with
  | none => rfl
  | some v => exact absurd (valV_in e) h
theorem merge_app : ∀ (kvs acc : List (Key × V)), ((acc ++ kvs).map (·.1)).Nodup → mergeK acc kvs = acc ++ kvs
  | [], acc, _ => by simp [mergeK]
  | (k, v) :: r, acc, h => by
    have e : mergeK acc ((k, v) :: r) = mergeK (putK acc k v) r := rfl
    have n : valV acc k = none := val_none fun m => by
      rw [List.map_append, List.nodup_append] at h
      exact h.2.2 k m k (by simp) rfl
    rw [e, putK_new v n]
    have h' : ((acc ++ [(k, v)] ++ r).map (·.1)).Nodup := by
      rw [List.append_assoc]
      exact h
    rw [merge_app r _ h', List.append_assoc]
    rfl
theorem merge_new {kvs : List (Key × V)} (h : (kvs.map (·.1)).Nodup) : mergeK [] kvs = kvs := merge_app kvs [] h
theorem dict_p {K : PySem.W.Frag} {H : Hp} {Q : VK} {a : Addr} {ps : List Addr} {kvs : List (Key × V)} (h : SqL K H a (ps.map V.ref)) (hp : Paired (fun p kv => SqT K H p [kV kv.1, kv.2]) ps kvs) (hn : (kvs.map (·.1)).Nodup)
    (q : ∀ p H', H p = none → Same H H' → H' p = some (.dK kvs) → Q (.ref p) H') : rDictP K [.ref a] H Q :=
  ⟨a, ps, kvs, rfl, h, hp, fun p n => q p _ n (same_new n) (by
    rw [merge_new hn]
    exact upd_same)⟩
theorem w_yes {σ : L2.St} {H : Hp} {Q : Bool → Hp → Prop} (q : Q true H) : tYes σ H Q := q
/-! ### what is new -/
/-- the part of H' that H has not -/
def New (H H' : Hp) : Hp := fun a => match H a with
  | none => H' a
  | some _ => none
theorem New.at {H H' : Hp} {a : Addr} (h : H a = none) : New H H' a = H' a := by
  unfold New
  rw [h]
theorem New.old {H H' : Hp} {a : Addr} {o : HO} (h : H a = some o) : New H H' a = none := by
  unfold New
  rw [h]
theorem New.un {H H' : Hp} {a : Addr} {o : HO} (h : New H H' a = some o) : H a = none ∧ H' a = some o := by
  cases e : H a with
  | some u =>
    rw [New.old e] at h
    cases h
  | none =>
    rw [New.at e] at h
    exact ⟨rfl, h⟩
theorem New.mk {H H' : Hp} {a : Addr} {o : HO} (h : H a = none) (e : H' a = some o) : New H H' a = some o := by
  rw [New.at h]
  exact e
theorem New.all {H H' : Hp} : Same (New H H') H' := fun a o e => (New.un e).2
theorem New.to {H H' H0 H1 : Hp} (h0 : ∀ a o, H0 a = some o → ∃ u, H a = some u) (h1 : ∀ a o, H a = none → H' a = some o → H1 a = some o) : Same (New H H') (New H0 H1) := fun a o e => by
  obtain ⟨e1, e2⟩ := New.un e
  refine New.mk ?_ (h1 a o e1 e2)
  cases z : H0 a with
  | none => rfl
  | some u =>
    obtain ⟨u', z'⟩ := h0 a u z
    rw [z'] at e1
    cases e1
theorem RepL.take_succ {H : Hp} {ds : List D} {i : Nat} {d : D} {ys : List V} {y : V} (r : RepL H (ds.take i) ys) (hi : ds[i]? = some d) (h : Rep H d y) : RepL H (ds.take (i + 1)) (ys ++ [y]) := by
  have e : ds.take (i + 1) = ds.take i ++ [d] := by
    rw [List.take_add_one, hi]
    rfl
  rw [e]
  exact RepL.snoc h r
theorem RepK.snoc {H : Hp} {k : Key} {d : D} {x : V} (h : Rep H d x) : ∀ {ds : List (Key × D)} {xs : List (Key × V)}, RepK H ds xs → RepK H (ds ++ [(k, d)]) (xs ++ [(k, x)])
  | [], xs, r => by
    unfold RepK at r
    rw [r]
    exact .cons h .nil
  | (k0, d0) :: ds, xs, r => by
    unfold RepK at r
    obtain ⟨y, s, rfl, h1, h2⟩ := r
    exact .cons h1 (RepK.snoc h h2)
theorem RepK.take_succ {H : Hp} {ds : List (Key × D)} {i : Nat} {k : Key} {d : D} {ys : List (Key × V)} {y : V} (r : RepK H (ds.take i) ys) (hi : ds[i]? = some (k, d)) (h : Rep H d y) : RepK H (ds.take (i + 1)) (ys ++ [(k, y)]) := by
  have e : ds.take (i + 1) = ds.take i ++ [(k, d)] := by
    rw [List.take_add_one, hi]
    rfl
  rw [e]
  exact RepK.snoc h r
theorem paired_len {α β : Type} {F : α → β → Prop} : ∀ {xs : List α} {ys : List β}, Paired F xs ys → xs.length = ys.length
  | _, _, .nil => rfl
  | _, _, .cons _ r => by rw [List.length_cons, List.length_cons, paired_len r]
theorem paired_snoc {α β : Type} {F : α → β → Prop} {x : α} {y : β} (h : F x y) : ∀ {xs : List α} {ys : List β}, Paired F xs ys → Paired F (xs ++ [x]) (ys ++ [y])
  | _, _, .nil => .cons h .nil
  | _, _, .cons a r => .cons a (paired_snoc h r)
theorem paired_imp {α β : Type} {F G : α → β → Prop} (f : ∀ x y, F x y → G x y) : ∀ {xs : List α} {ys : List β}, Paired F xs ys → Paired G xs ys
  | _, _, .nil => .nil
  | _, _, .cons a r => .cons (f _ _ a) (paired_imp f r)
end Cr

/-! Data that are made longer by one. -/
namespace Cr
open PySem PySem.Spec PyProof.Rows L2
/-- there is room for one more -/
def D.room : D → Prop
  | .lst xs => xs.length < 1000
  | .dct kvs => kvs.length < 1000 ∧ (Sum.inr "more" : Key) ∉ kvs.map (·.1)
  | _ => True
theorem D.deepL_snoc (d : D) : ∀ ds : List D, D.deepL (ds ++ [d]) = max (D.deepL ds) d.deep
  | [] => by
    show D.deepL [d] = max (D.deepL []) d.deep
    unfold D.deepL
    unfold D.deepL
    omega
  | d0 :: r => by
    have := D.deepL_snoc d r
    show D.deepL (d0 :: (r ++ [d])) = _
    unfold D.deepL
    rw [this]
    omega
theorem D.deepK_snoc (k : Key) (d : D) : ∀ ds : List (Key × D), D.deepK (ds ++ [(k, d)]) = max (D.deepK ds) d.deep
  | [] => by
    show D.deepK [(k, d)] = max (D.deepK []) d.deep
    unfold D.deepK
    unfold D.deepK
    omega
  | (k0, d0) :: r => by
    have := D.deepK_snoc k d r
    show D.deepK ((k0, d0) :: (r ++ [(k, d)])) = _
    unfold D.deepK
    rw [this]
    omega
theorem D.fitL_snoc {d : D} (h : d.fit) : ∀ {ds : List D}, D.fitL ds → D.fitL (ds ++ [d])
  | [], _ => by
    show D.fitL [d]
    unfold D.fitL
    unfold D.fitL
    exact ⟨h, trivial⟩
  | d0 :: r, f => by
    unfold D.fitL at f
    show D.fitL (d0 :: (r ++ [d]))
    unfold D.fitL
    exact ⟨f.1, D.fitL_snoc h f.2⟩
theorem D.fitK_snoc {k : Key} {d : D} (h : d.fit) : ∀ {ds : List (Key × D)}, D.fitK ds → D.fitK (ds ++ [(k, d)])
  | [], _ => by
    show D.fitK [(k, d)]
    unfold D.fitK
    unfold D.fitK
    exact ⟨h, trivial⟩
  | (k0, d0) :: r, f => by
    unfold D.fitK at f
    show D.fitK ((k0, d0) :: (r ++ [(k, d)]))
    unfold D.fitK
    exact ⟨f.1, D.fitK_snoc h f.2⟩
/-- v stands alone at the top: nothing but its own address changes -/
def Off (x : V) (H H' : Hp) : Prop := ∀ c o, x ≠ .ref c → H c = some o → H' c = some o
theorem Off.of {x : V} {H H' : Hp} (h : Same H H') : Off x H H' := fun c o _ e => h c o e
theorem Off.but {a : Addr} {H H' : Hp} (h : But a H H') : Off (.ref a) H H' := fun c o n e => h c o (fun z => n (by rw [z])) e
theorem D.deep_str {s : Str} : (D.str s).deep = 0 := by unfold D.deep; rfl
theorem D.deep_int {s : Int} : (D.int s).deep = 0 := by unfold D.deep; rfl
theorem D.deep_bl {s : Bool} : (D.bl s).deep = 0 := by unfold D.deep; rfl
theorem D.deep_non : D.non.deep = 0 := by unfold D.deep; rfl
theorem D.fit_str {s : Str} : (D.str s).fit := by unfold D.fit; trivial
theorem D.fit_int {s : Int} : (D.int s).fit := by unfold D.fit; trivial
theorem D.fit_bl {s : Bool} : (D.bl s).fit := by unfold D.fit; trivial
theorem D.fit_non : D.non.fit := by unfold D.fit; trivial
theorem m_appB {K : PySem.W.Frag} {a : Addr} {xs : List V} {y : V} {H : Hp} {Q : VK} (h : H a = some (.lst xs)) (hz : xs.length < 100000) (q : ∀ H', But a H H' → H' a = some (.lst (xs ++ [y])) → Q .non H') : rAppend (.ref a) [y] H Q :=
  m_app h hz (q _ But.upd upd_same)
def spVery : Sp := fun vs H Q _ => ∃ (x : V) (d : D), vs = [x, x] ∧ Rep H d x ∧ d.deep < 12 ∧ d.fit ∧ d.room ∧ ∀ H', Off x H H' → Q (.bl true) H'
end Cr

/-! What the shapes of the data are, and what an own error bears. -/
namespace Cr
open PySem PySem.Spec PyProof.Rows L2
theorem takesX {P : Program} {w : World} {K : PySem.W.Frag} {mg : Str → Option Value} {base : Heap} {N : List Str} {x : Str} {sc : Scope} {f : Addr} {cdv : Value} {A : Around} {outer : List Env} {s : Shared} {H : Hp} {E : XK} :
    L2N.Takes (cxOf (L2N.CX P w) P w K mg base N x sc f cdv A outer s H E) (fun cls d _ H => E cls d H) := L2N.takes_of rfl rfl rfl rfl
def D.isInt : D → Bool
  | .int _ => true
  | _ => false
def D.between (lo hi : Int) : D → Bool
  | .int i => decide (lo ≤ i) && decide (i ≤ hi)
  | _ => false
def D.isSeq : D → Bool
  | .lst _ => true
  | .tup _ => true
  | _ => false
def D.are (lo hi : Int) : D → Bool
  | .lst ds => (decide (lo ≤ ds.length) && decide ((ds.length : Int) ≤ hi)) && ds.all D.isInt
  | .tup ds => (decide (lo ≤ ds.length) && decide ((ds.length : Int) ≤ hi)) && ds.all D.isInt
  | _ => false
/-- an own error of class C that bears x as n leaves -/
def Rz (C : Addr) (n : Str) (x : V) (H : Hp) (E : XK) : Prop := ∀ H' p, Same H H' → H' p = some (.xd [(n, x)]) → E (.ref C) (some p) H'
def spIsInt : Sp := fun vs H Q _ => ∃ x d, vs = [x] ∧ Rep H d x ∧ Q (.bl d.isInt) H
def spBetween : Sp := fun vs H Q _ => ∃ x d lo hi, vs = [x, .int lo, .int hi] ∧ Rep H d x ∧ Q (.bl (d.between lo hi)) H
def spIsSeq : Sp := fun vs H Q _ => ∃ x d, vs = [x] ∧ Rep H d x ∧ ∀ H', Same H H' → Q (.bl d.isSeq) H'
def spAre : Sp := fun vs H Q _ => ∃ x d lo hi, vs = [x, .int lo, .int hi] ∧ Rep H d x ∧ d.fit ∧ ∀ H', Same H H' → Q (.bl (d.are lo hi)) H'
theorem w_err {C : Addr} {fs : List Str} {ta : TA} {σ : L2.St} {H : Hp} {Q : XK} (q : ta σ H fun vs H1 => vs.length = fs.length ∧ vs.length ≤ 1000 ∧ ∀ d, H1 d = none → Q (.ref C) (some d) (upd H1 d (.xd (fs.zip vs).reverse))) : tErr C fs ta σ H Q := q
theorem rz1 {C : Addr} {n : Str} {x : V} {H H1 : Hp} {E : XK} (r : Rz C n x H E) (s : Same H H1) :
    [x].length = [n].length ∧ [x].length ≤ 1000 ∧ ∀ d, H1 d = none → E (.ref C) (some d) (upd H1 d (.xd ([n].zip [x]).reverse)) :=
  ⟨rfl, by simp, fun d nd => r _ d (s.trans (same_new nd)) upd_same⟩
def Par2 (m l : Nat) (D : Ends) (σ : L2.St) (vs : List V) (H : Hp) : Prop := ∃ v w, vs = [v, w] ∧ D.nx ((σ.set m (some v)).set l (some w)) H
def Par3 (m l j : Nat) (D : Ends) (σ : L2.St) (vs : List V) (H : Hp) : Prop := ∃ u v w, vs = [u, v, w] ∧ D.nx (((σ.set m (some u)).set l (some v)).set j (some w)) H
theorem w_par2 {m l : Nat} {tr : TA} {σ : L2.St} {H : Hp} {D : Ends} (q : tr σ H fun vs H1 => Par2 m l D σ vs H1) : tPar m l tr D σ H := q
theorem w_par3 {i j l : Nat} {ta : TA} {σ : L2.St} {H : Hp} {D : Ends} (q : ta σ H fun vs H1 => Par3 i j l D σ vs H1) : tPar3 i j l ta D σ H := q
theorem par2 {m l : Nat} {σ : L2.St} {H : Hp} {D : Ends} {v w : V} (q : D.nx ((σ.set m (some v)).set l (some w)) H) : Par2 m l D σ [v, w] H := ⟨v, w, rfl, q⟩
theorem par3 {m l j : Nat} {σ : L2.St} {H : Hp} {D : Ends} {u v w : V} (q : D.nx (((σ.set m (some u)).set l (some v)).set j (some w)) H) : Par3 m l j D σ [u, v, w] H := ⟨u, v, w, rfl, q⟩
end Cr

/-! Comprehensions whose turns change nothing but the new list: its items are told by acc. -/
namespace Cr
open PySem PySem.Spec PyProof.Rows L2
theorem sqL_mono {K : PySem.W.Frag} {H H' : Hp} {a : Addr} {xs : List V} (h : SqL K H a xs) (s : Same H H') : SqL K H' a xs := by
  rcases h with (h | ⟨o, h⟩) | h
  · exact .inl (.inl (s _ _ h))
  · exact .inl (.inr ⟨o, s _ _ h⟩)
  · exact .inr h
theorem sqT_mono {K : PySem.W.Frag} {H H' : Hp} {a : Addr} {xs : List V} (h : SqT K H a xs) (s : Same H H') : SqT K H' a xs := by
  rcases h with (h | ⟨o, h⟩) | h
  · exact .inl (.inl (s _ _ h))
  · exact .inl (.inr ⟨o, s _ _ h⟩)
  · exact .inr h
def AccP (H : Hp) (acc : Nat → List V) (C : Addr) (i : Nat) (H' : Hp) : Prop := Same H H' ∧ H C = none ∧ H' C = some (.lst (acc i))
section
variable {K : PySem.W.Frag} {σ : L2.St} {H H' H4 : Hp} {Q : VK} {y : V} {a C : Addr} {xs : List V} {i : Nat} {acc : Nat → List V}
variable {g : TG} {tt : TT} {te : TE} {vs : List Nat}
theorem acc_skip (h : AccP H acc C i H') (s : Same H' H4) (e : acc (i + 1) = acc i) : AccP H acc C (i + 1) H4 := ⟨h.1.trans s, h.2.1, by rw [e]; exact s _ _ h.2.2⟩
theorem acc_push (h : AccP H acc C i H') (s : Same H' H4) (e : acc (i + 1) = acc i ++ [y]) (hz : (acc i).length < 100000) : Push C y H4 (AccP H acc C (i + 1)) :=
  push (s _ _ h.2.2) hz fun H5 b e5 => ⟨fun c o z => b _ _ (ne_of_none z h.2.1) (s _ _ (h.1 _ _ z)), h.2.1, by rw [e, e5]⟩
theorem acc_l (acc : Nat → List V) (h0 : acc 0 = []) (ha : SqL K H a xs)
    (hs : ∀ C i x H', xs[i]? = some x → AccP H acc C i H' → g x (wipe σ vs) H' fun σ2 H2 => wipe σ2 vs = wipe σ vs ∧ tt σ2 H2 fun b H3 => if b = true then te σ2 H3 fun y H4 => Push C y H4 (AccP H acc C (i + 1)) else AccP H acc C (i + 1) H3)
    (hd : ∀ C H', Same H H' → H C = none → H' C = some (.lst (acc xs.length)) → Q (.ref C) H') : LcRun (Itl K a) g tt te vs σ H Q :=
  lc_lst (AccP H acc) (fun C H1 n s e => ⟨s, n, by rw [h0]; exact e⟩) (fun C i H' _ h => sqL_mono ha h.1) hs fun C H' h => hd C H' h.1 h.2.1 h.2.2
theorem acc_t (acc : Nat → List V) (h0 : acc 0 = []) (ha : SqT K H a xs)
    (hs : ∀ C i x H', xs[i]? = some x → AccP H acc C i H' → g x (wipe σ vs) H' fun σ2 H2 => wipe σ2 vs = wipe σ vs ∧ tt σ2 H2 fun b H3 => if b = true then te σ2 H3 fun y H4 => Push C y H4 (AccP H acc C (i + 1)) else AccP H acc C (i + 1) H3)
    (hd : ∀ C H', Same H H' → H C = none → H' C = some (.lst (acc xs.length)) → Q (.ref C) H') : LcRun (Itt K a) g tt te vs σ H Q :=
  lc_tpl (AccP H acc) (fun C H1 n s e => ⟨s, n, by rw [h0]; exact e⟩) (fun C i H' _ h => sqT_mono ha h.1) hs fun C H' h => hd C H' h.1 h.2.1 h.2.2
theorem acc_r {lo : Int} {n : Nat} (acc : Nat → List V) (h0 : acc 0 = [])
    (hs : ∀ C i H', i < n → AccP H acc C i H' → g (.int (lo + i)) (wipe σ vs) H' fun σ2 H2 => wipe σ2 vs = wipe σ vs ∧ tt σ2 H2 fun b H3 => if b = true then te σ2 H3 fun y H4 => Push C y H4 (AccP H acc C (i + 1)) else AccP H acc C (i + 1) H3)
    (hd : ∀ C H', Same H H' → H C = none → H' C = some (.lst (acc n)) → Q (.ref C) H') : LcRun (Itr lo n) g tt te vs σ H Q :=
  lc_rng (AccP H acc) (fun C H1 n s e => ⟨s, n, by rw [h0]; exact e⟩) hs fun C H' h => hd C H' h.1 h.2.1 h.2.2
end
theorem take_map {α β : Type} {xs : List α} {f : α → β} {i : Nat} {x : α} (h : xs[i]? = some x) : (xs.take (i + 1)).map f = (xs.take i).map f ++ [f x] := by
  rw [List.take_add_one, h]
  simp
theorem take_filter {α : Type} {xs : List α} {p : α → Bool} {i : Nat} {x : α} (h : xs[i]? = some x) : (xs.take (i + 1)).filter p = (xs.take i).filter p ++ if p x = true then [x] else [] := by
  rw [List.take_add_one, h, List.filter_append]
  congr 1
  simp [List.filter_cons]
section
variable {K : PySem.W.Frag} {σ : L2.St} {H : Hp} {Q : VK} {a : Addr} {xs : List V}
def RevL (K : PySem.W.Frag) (x : V) (H : Hp) (Q : VK) : Prop := ∃ a xs, x = .ref a ∧ SqL K H a xs ∧ ∀ p, H p = none → Q (.ref p) (upd H p (.lst xs.reverse))
theorem w_revL {te : TE} (q : te σ H fun x H1 => RevL K x H1 Q) : tRevL K te σ H Q := q
theorem rev_l (h : SqL K H a xs) (q : ∀ p H', H p = none → Same H H' → H' p = some (.lst xs.reverse) → Q (.ref p) H') : RevL K (.ref a) H Q := ⟨a, xs, rfl, h, fun p n => q p _ n (same_new n) upd_same⟩
theorem w_ip {f : Int → Int → Int} {i j : Int} (q : Q (.int (f i j)) H) : ipI f (.int i) (.int j) H Q := ⟨_, _, rfl, rfl, q⟩
theorem pe_revLK {X : Cx} (K : PySem.W.Frag) {e : Expr} {te : TE} {k : Nat} {p1 p2 p3 pos : Pos} (he : PE X e te) (h : X.K = K := by rfl) : PE X (.Subscript e (.Slice none none (some (.UnaryOp .USub (.Constant (.int 1) k p1) p2)) p3) pos) (tRevL K te) := h ▸ pe_revL he
end
theorem sq_le {k n : Int} (h : 1 ≤ k) (h2 : k * k ≤ n) : k ≤ n := by
  have := Int.mul_le_mul_of_nonneg_left (c := k) h (by omega)
  omega
section
variable {K : PySem.W.Frag} {σ : L2.St} {H : Hp} {a : Addr} {xs : List V} {x : V} {t : TG} {u : TGs} {n : Nat} {Q : L2.St → Hp → Prop}
theorem g_tup (h : SqT K H a xs) (hl : xs.length = n) (q : u xs σ H Q) : gTup K n u (.ref a) σ H Q := ⟨a, xs, rfl, h, hl, q⟩
theorem w_gc (q : t x σ H fun σ' H' => u xs σ' H' Q) : gCons t u (x :: xs) σ H Q := ⟨x, xs, rfl, q⟩
theorem w_gn (q : Q σ H) : gNil [] σ H Q := ⟨rfl, q⟩
theorem pair_at {α β : Type} {F : α → β → Prop} : ∀ {xs : List α} {ys : List β}, Paired F xs ys → ∀ {i : Nat} {x : α}, xs[i]? = some x → ∃ y, ys[i]? = some y ∧ F x y
  | _, _, .nil, i, x, e => by simp at e
  | _, _, .cons a r, 0, x, e => by
    simp at e
    subst e
    exact ⟨_, rfl, a⟩
  | _, _, .cons a r, i + 1, x, e => by
    obtain ⟨y, h1, h2⟩ := pair_at r (i := i) (by simpa using e)
    exact ⟨y, by simpa using h1, h2⟩
end
end Cr
namespace Cr
open PySem PySem.Spec PyProof.Rows L2
theorem take_at {H : Hp} {a : Addr} {m B : Int} {Q : VK} {E : XK} (hb : IsBox H a B) (hB : B < 100000000) (m0 : 1 ≤ m) (m1 : m < 18446744073709551616) (q : ∀ d H', But a H H' → IsBox H' a (B + 1) → 0 ≤ d → d < m → Q (.int d) H') : spTake [.ref a, .int m] H Q E :=
  ⟨a, m, B, rfl, hb, hB, m0, m1, q⟩
theorem But.old {a : Addr} {H H' : Hp} {b : Addr} (h : But a H H') (n : H' b = none) (na : b ≠ a) : H b = none := by
  cases z : H b with
  | none => rfl
  | some o =>
    rw [h _ _ na z] at n
    cases n
theorem _root_.L2.Same.old {H H' : Hp} {b : Addr} (h : Same H H') (n : H' b = none) : H b = none := by
  cases z : H b with
  | none => rfl
  | some o =>
    rw [h _ _ z] at n
    cases n
end Cr
namespace Cr
open PySem PySem.Spec PyProof.Rows L2
section
variable {σ : L2.St} {H : Hp} {Q : VK}
def DNew (H : Hp) (Q : VK) : Prop := ∀ p, H p = none → Q (.ref p) (upd H p (.dK []))
theorem w_dnew (q : DNew H Q) : tDNewK σ H Q := q
theorem dnew (q : ∀ p H', H p = none → Same H H' → H' p = some (.dK []) → Q (.ref p) H') : DNew H Q := fun p n => q p _ n (same_new n) upd_same
def Disp (trs : List (TE × TE)) (σ : L2.St) (H : Hp) (Q : VK) : Prop := tDisp trs σ H Q
theorem w_disp {trs : List (TE × TE)} (q : Disp trs σ H Q) : tDisp trs σ H Q := q
theorem disp1 {s : Str} {v : V} (q : ∀ p H', H p = none → Same H H' → H' p = some (.dK [(.inr s, v)]) → Q (.ref p) H') : Disp [(tC (.str s), tC v)] σ H Q := fun p n => by
  refine ⟨upd_same, [(.inr s, v)], rfl, by simp, q p _ n ?_ ?_⟩
  · intro c o e
    rw [upd_ne (ne_of_none e n), upd_ne (ne_of_none e n)]
    exact e
  · rw [upd_same]
    rfl
end
end Cr
namespace Cr
open PySem PySem.Spec PyProof.Rows L2
mutual
def D.fitB : D → Bool
  | .lst xs => decide (xs.length ≤ 1000) && D.fitLB xs
  | .tup xs => decide (xs.length ≤ 1000) && D.fitLB xs
  | .dct kvs => decide (kvs.length ≤ 1000) && decide ((kvs.map (·.1)).Nodup) && D.fitKB kvs
  | _ => true
def D.fitLB : List D → Bool
  | [] => true
  | d :: r => d.fitB && D.fitLB r
def D.fitKB : List (Key × D) → Bool
  | [] => true
  | (_, d) :: r => d.fitB && D.fitKB r
end
mutual
theorem D.fit_of : ∀ (d : D), d.fitB = true → d.fit
  | .non, _ => D.fit_non
  | .bl _, _ => D.fit_bl
  | .int _, _ => D.fit_int
  | .str _, _ => D.fit_str
  | .lst xs, h => by
    unfold D.fitB at h
    rw [Bool.and_eq_true, decide_eq_true_eq] at h
    rw [D.fit_lst]
    exact ⟨h.1, D.fitL_of xs h.2⟩
  | .tup xs, h => by
    unfold D.fitB at h
    rw [Bool.and_eq_true, decide_eq_true_eq] at h
    rw [D.fit_tup]
    exact ⟨h.1, D.fitL_of xs h.2⟩
  | .dct xs, h => by
    unfold D.fitB at h
    rw [Bool.and_eq_true, Bool.and_eq_true, decide_eq_true_eq, decide_eq_true_eq] at h
    rw [D.fit_dct]
    exact ⟨h.1.1, h.1.2, D.fitK_of xs h.2⟩
theorem D.fitL_of : ∀ (ds : List D), D.fitLB ds = true → D.fitL ds
  | [], _ => by
    unfold D.fitL
    trivial
  | d :: r, h => by
    unfold D.fitLB at h
    rw [Bool.and_eq_true] at h
    unfold D.fitL
    exact ⟨D.fit_of d h.1, D.fitL_of r h.2⟩
theorem D.fitK_of : ∀ (ds : List (Key × D)), D.fitKB ds = true → D.fitK ds
  | [], _ => by
    unfold D.fitK
    trivial
  | (_, d) :: r, h => by
    unfold D.fitKB at h
    rw [Bool.and_eq_true] at h
    unfold D.fitK
    exact ⟨D.fit_of d h.1, D.fitK_of r h.2⟩
end
def D.roomB : D → Bool
  | .lst xs => decide (xs.length < 1000)
  | .dct kvs => decide (kvs.length < 1000) && !(kvs.any fun p => decide (p.1 = (Sum.inr "more" : Key)))
  | _ => true
theorem D.room_of : ∀ {d : D}, d.roomB = true → d.room
  | .non, _ => trivial
  | .bl _, _ => trivial
  | .int _, _ => trivial
  | .str _, _ => trivial
  | .tup _, _ => trivial
  | .lst xs, h => by
    unfold D.roomB at h
    rw [decide_eq_true_eq] at h
    exact h
  | .dct xs, h => by
    unfold D.roomB at h
    rw [Bool.and_eq_true, decide_eq_true_eq, Bool.not_eq_true'] at h
    refine ⟨h.1, fun m => ?_⟩
    obtain ⟨p, hp, e⟩ := List.mem_map.mp m
    have := List.any_eq_false.mp h.2 p hp
    rw [e] at this
    exact this (decide_eq_true rfl)
/-- small, and with room -/
def D.okB (d : D) : Bool := decide (d.deep < 10) && d.fitB && d.roomB
/-- what may be copied and made longer -/
structure D.Ok (d : D) : Prop where
  deep : d.deep < 10
  fit : d.fit
  room : d.room
theorem D.ok_of {d : D} (h : d.okB = true) : d.Ok := by
  unfold D.okB at h
  rw [Bool.and_eq_true, Bool.and_eq_true, decide_eq_true_eq] at h
  exact ⟨h.1.1, D.fit_of d h.1.2, D.room_of h.2⟩
theorem RepL.app {H : Hp} : ∀ {ds es : List D} {xs ys : List V}, RepL H ds xs → RepL H es ys → RepL H (ds ++ es) (xs ++ ys)
  | [], es, xs, ys, r, r2 => by
    unfold RepL at r
    rw [r]
    exact r2
  | d :: ds, es, xs, ys, r, r2 => by
    unfold RepL at r
    obtain ⟨x, s, rfl, h1, h2⟩ := r
    exact .cons h1 (RepL.app h2 r2)
theorem RepL.rep {H : Hp} {ds : List D} {xs : List V} (h : RepL H ds xs) : ∀ n : Nat, RepL H (List.replicate n ds).flatten (List.replicate n xs).flatten
  | 0 => .nil
  | n + 1 => by
    rw [List.replicate_succ, List.replicate_succ, List.flatten_cons, List.flatten_cons]
    exact h.app (RepL.rep h n)
end Cr
namespace Cr
open PySem PySem.Spec PyProof.Rows L2
/-- the box is old: what is new stays -/
theorem New.but {H H1 H2 : Hp} {a : Addr} {B : Int} (hb : IsBox H a B) (b : But a H1 H2) : Same (New H H1) (New H H2) := New.to (fun c o e => ⟨o, e⟩) fun c o n e => b _ _ (fun z => by
  subst z
  obtain ⟨_, _, _, _, e1, _⟩ := hb
  rw [e1] at n
  cases n) e
end Cr
namespace Cr
open PySem PySem.Spec PyProof.Rows L2
/-- a list of drawn whole numbers grows at C, k draws a turn -/
def DrawAt (a : Addr) (H : Hp) (B k : Int) (C : Addr) (i : Nat) (H' : Hp) : Prop := But a H H' ∧ H C = none ∧ IsBox H' a (B + k * i) ∧ ∃ ns : List Int, ns.length = i ∧ H' C = some (.lst (ns.map V.int))
section
variable {K : PySem.W.Frag} {σ : L2.St} {H H' H4 : Hp} {Q : VK} {a C : Addr} {i : Nat} {B k : Int} {g : TG} {tt : TT} {te : TE} {vs : List Nat}
theorem drw_push {v : Int} (hb : IsBox H a B) (h : DrawAt a H B k C i H') (hi : i < 90000) (b : But a H' H4) (ib : IsBox H4 a (B + k * i + k)) : Push C (.int v) H4 (DrawAt a H B k C (i + 1)) := by
  obtain ⟨h1, h2, h3, ns, h4, h5⟩ := h
  have nCa : C ≠ a := (hb.ne (o := .lst []) h2).symm
  refine push (b _ _ nCa h5) (by simp; omega) fun H5 b5 e5 => ⟨fun c o nc e => ?_, h2, ?_, ns ++ [v], by simp [h4], by rw [e5, List.map_append]; rfl⟩
  · exact b5 _ _ (ne_of_none e h2) (b _ _ nc (h1 _ _ nc e))
  · obtain ⟨g, r, c, kk, e1, e2, e3, e4, e6⟩ := ib
    refine ⟨g, r, c, kk, b5 _ _ (Ne.symm nCa) e1, e2, e3, e4, ?_⟩
    have : k * ((i + 1 : Nat) : Int) = k * i + k := by
      rw [Int.natCast_add, Int.mul_add, Int.natCast_one, Int.mul_one]
    omega
theorem drw_r {lo : Int} {n : Nat} (k : Int) (hb : IsBox H a B)
    (hs : ∀ C i H', i < n → DrawAt a H B k C i H' → g (.int (lo + i)) (wipe σ vs) H' fun σ2 H2 => wipe σ2 vs = wipe σ vs ∧ tt σ2 H2 fun b H3 => if b = true then te σ2 H3 fun y H4 => Push C y H4 (DrawAt a H B k C (i + 1)) else DrawAt a H B k C (i + 1) H3)
    (hd : ∀ C H' (ns : List Int), But a H H' → IsBox H' a (B + k * n) → H C = none → ns.length = n → H' C = some (.lst (ns.map V.int)) → Q (.ref C) H') : LcRun (Itr lo n) g tt te vs σ H Q :=
  lc_rng (DrawAt a H B k) (fun C H1 nC s e => ⟨But.of s, nC, (hb.mono s).le (by simp), [], rfl, e⟩) hs fun C H' ⟨h1, h2, h3, ns, h4, h5⟩ => hd C H' ns h1 h3 h2 h4 h5
end
theorem ati_last {ns : List Int} (h : ns ≠ []) : ∃ z, atI (ns.map V.int) (-1) = some (.int z) := by
  have hl : 1 ≤ ns.length := by
    cases ns with
    | nil => exact absurd rfl h
    | cons x r => simp
  refine ⟨ns[ns.length - 1], ?_⟩
  unfold atI ixN
  rw [List.length_map, if_neg (by decide), if_pos (by omega)]
  have e : ((-1 : Int) + ns.length).toNat = ns.length - 1 := by omega
  simp only [Option.bind_some]
  first
    | (rw [e]; simp)
    | (simp; omega)
end Cr
namespace Cr
open PySem PySem.Spec PyProof.Rows L2
/-- e.f of the error that an except suite holds, whatever its class -/
theorem pe_gotX {X : Cx} {x f : Str} {C a : Addr} {oe : Obj} {cls : Value} {d : Option Addr} {pn : List (Addr × Obj)} {fs : List Str} {e : Expr} {te : TE} {k : Nat} {pos : Pos} (m : Em X.prog X.w X.K X.mg X.base k x C fs) (hf : f ∈ fs)
    (hz : L2N.Zn cls d oe) (hd : ∃ vs, oe.data = .fields vs) (he : PE (X.suite a ((a, oe) :: pn)) e te) (hb : attributeBase e f X.env (eval e X.env) = eval e X.env := by rfl) :
    PE (X.suite a ((a, oe) :: pn)) (.Attribute e f pos) (tXf a cls d C f te) := pe_xf m.1.xf (m.2.1 f hf) hz.zc hd he hb
end Cr
namespace Cr
open PySem PySem.Spec PyProof.Rows L2
section
variable {K : PySem.W.Frag} {σ : L2.St} {H : Hp} {Q : VK} {D : Ends}
def KwC (n m : Nat) (sp : Sp) (π : {α : Type} → List α → List α → List α) (E : XK) (vs zs : List V) (H : Hp) (Q : VK) : Prop := vs.length = n ∧ zs.length = m ∧ sp (π vs zs) H Q E
theorem w_kw {n m : Nat} {sp : Sp} {π : {α : Type} → List α → List α → List α} {E : L2.St → XK} {t tk : TA} (q : t σ H fun vs H1 => tk σ H1 fun zs H2 => KwC n m sp (fun {α} => @π α) (E σ) vs zs H2 Q) : tKw n m sp (fun {α} => @π α) E t tk σ H Q := q
theorem kwc {n m : Nat} {sp : Sp} {π : {α : Type} → List α → List α → List α} {E : XK} {vs zs ws : List V} (h1 : vs.length = n) (h2 : zs.length = m) (e : π vs zs = ws) (q : sp ws H Q E) : KwC n m sp (fun {α} => @π α) E vs zs H Q := ⟨h1, h2, by
  show sp (π vs zs) H Q E
  rw [e]
  exact q⟩
theorem cl_hit {Wout : WX} {c cls : Value} {o : Option Nat} {ts : Addr → Value → Option Addr → TS} {r : List Clause} {d : Option Addr} (h : PySem.W.exmOne K cls c = some true)
    (q : ∀ a, H a = none → ts a cls d (asEnds o D) (asSt o a σ) H) : wCl K Wout D ((c, o, ts) :: r) cls d σ H := ⟨true, h, fun _ => q, fun z => nomatch z⟩
theorem cl_miss {Wout : WX} {c cls : Value} {o : Option Nat} {ts : Addr → Value → Option Addr → TS} {r : List Clause} {d : Option Addr} (h : PySem.W.exmOne K cls c = some false)
    (q : wCl K Wout D r cls d σ H) : wCl K Wout D ((c, o, ts) :: r) cls d σ H := ⟨false, h, (fun z => nomatch z), fun _ => q⟩
def XfR (a : Addr) (cls : Value) (d : Option Addr) (C : Addr) (f : Str) (x : V) (H : Hp) (Q : VK) : Prop := x = .ref a ∧ cls = .ref C ∧ ∃ (dd : Addr) (fs : List (Str × V)) (v : V), d = some dd ∧ H dd = some (.xd fs) ∧ fs.lookup f = some v ∧ Q v H
theorem w_xf {a : Addr} {cls : Value} {d : Option Addr} {C : Addr} {f : Str} {te : TE} (q : te σ H fun x H1 => XfR a cls d C f x H1 Q) : tXf a cls d C f te σ H Q := q
theorem xf_at {a dd C : Addr} {f : Str} {fs : List (Str × V)} {v : V} (h : H dd = some (.xd fs)) (e : fs.lookup f = some v) (q : Q v H) : XfR a (.ref C) (some dd) C f (.ref a) H Q := ⟨rfl, rfl, dd, fs, v, rfl, h, e, q⟩
end
end Cr
namespace Cr
open PySem PySem.Spec PyProof.Rows L2
theorem cut_pre (xs : List V) (j : Nat) : cutV xs none (some (j : Int)) = xs.take j := by
  unfold cutV
  rw [HT.sIx_none, HT.sIx_nat, List.drop_zero, Nat.sub_zero, List.take_eq_take_iff]
  omega
theorem cut_suf (xs : List V) (j : Nat) : cutV xs (some (j : Int)) none = xs.drop j := by
  unfold cutV
  rw [HT.sIx_none, HT.sIx_nat]
  rw [List.take_of_length_le (by rw [List.length_drop]; omega)]
  by_cases h : j ≤ xs.length
  · rw [Nat.min_eq_left h]
  · rw [Nat.min_eq_right (by omega), List.drop_of_length_le (Nat.le_refl _), List.drop_of_length_le (by omega)]
theorem fitL_ints : ∀ ns : List Int, D.fitL (ns.map D.int)
  | [] => by
    show D.fitL []
    unfold D.fitL
    trivial
  | n :: r => by
    show D.fitL (D.int n :: r.map D.int)
    unfold D.fitL
    exact ⟨D.fit_int, fitL_ints r⟩
theorem deepL_ints : ∀ ns : List Int, D.deepL (ns.map D.int) = 0
  | [] => by
    show D.deepL [] = 0
    unfold D.deepL
    rfl
  | n :: r => by
    show D.deepL (D.int n :: r.map D.int) = 0
    unfold D.deepL
    rw [deepL_ints r, D.deep_int]
    rfl
theorem fit_ints {ns : List Int} (h : ns.length ≤ 1000) : (D.lst (ns.map D.int)).fit := by
  rw [D.fit_lst, List.length_map]
  exact ⟨h, fitL_ints ns⟩
theorem fit_intsT {ns : List Int} (h : ns.length ≤ 1000) : (D.tup (ns.map D.int)).fit := by
  rw [D.fit_tup, List.length_map]
  exact ⟨h, fitL_ints ns⟩
theorem deep_ints {ns : List Int} : (D.lst (ns.map D.int)).deep = 1 := by rw [D.deep_lst, deepL_ints]
theorem deep_intsT {ns : List Int} : (D.tup (ns.map D.int)).deep = 1 := by rw [D.deep_tup, deepL_ints]
theorem rep_ints {H : Hp} {p : Addr} {ns : List Int} (h : H p = some (.lst (ns.map V.int))) : Rep H (.lst (ns.map D.int)) (.ref p) := .lst h (RepL.ints ns)
theorem rep_intsT {H : Hp} {p : Addr} {ns : List Int} (h : H p = some (.tup (ns.map V.int))) : Rep H (.tup (ns.map D.int)) (.ref p) := .tup h (RepL.ints ns)
/-- two new lists of the same plain items are the same -/
theorem same_at {n : Nat} {H : Hp} {Q : VK} {E : XK} {x y : V} (d : D) (h1 : Rep H d x) (h2 : Rep H d y) (h3 : d.deep < 10) (h4 : d.fit) (hn : 10 ≤ n) (q : ∀ H', Same H H' → Q (.bl true) H') (sp : Sp)
    (e : sp = fun vs H Q _ => ∃ (x y : V) (d : D), vs = [x, y] ∧ Rep H d x ∧ Rep H d y ∧ d.deep < n ∧ d.fit ∧ ∀ H', Same H H' → Q (.bl true) H') : sp [x, y] H Q E := by
  rw [e]
  exact ⟨x, y, d, rfl, h1, h2, by omega, h4, q⟩
end Cr
namespace Cr
open PySem PySem.Spec PyProof.Rows L2
/-- .. of drawn whole numbers that ok holds of -/
def DrawP (a : Addr) (H : Hp) (B k : Int) (ok : Int → Prop) (C : Addr) (i : Nat) (H' : Hp) : Prop := But a H H' ∧ H C = none ∧ IsBox H' a (B + k * i) ∧ ∃ ns : List Int, ns.length = i ∧ (∀ m ∈ ns, ok m) ∧ H' C = some (.lst (ns.map V.int))
section
variable {K : PySem.W.Frag} {σ : L2.St} {H H' H4 : Hp} {Q : VK} {a C : Addr} {i : Nat} {B k : Int} {g : TG} {tt : TT} {te : TE} {vs : List Nat} {ok : Int → Prop}
theorem drp_push {v : Int} (hb : IsBox H a B) (h : DrawP a H B k ok C i H') (hi : i < 90000) (b : But a H' H4) (ib : IsBox H4 a (B + k * i + k)) (hv : ok v) : Push C (.int v) H4 (DrawP a H B k ok C (i + 1)) := by
  obtain ⟨h1, h2, h3, ns, h4, h6, h5⟩ := h
  have nCa : C ≠ a := (hb.ne (o := .lst []) h2).symm
  refine push (b _ _ nCa h5) (by simp; omega) fun H5 b5 e5 => ⟨fun c o nc e => ?_, h2, ?_, ns ++ [v], by simp [h4], ?_, by rw [e5, List.map_append]; rfl⟩
  · exact b5 _ _ (ne_of_none e h2) (b _ _ nc (h1 _ _ nc e))
  · obtain ⟨g, r, c, kk, e1, e2, e3, e4, e6⟩ := ib
    refine ⟨g, r, c, kk, b5 _ _ (Ne.symm nCa) e1, e2, e3, e4, ?_⟩
    have : k * ((i + 1 : Nat) : Int) = k * i + k := by
      rw [Int.natCast_add, Int.mul_add, Int.natCast_one, Int.mul_one]
    omega
  · intro m hm
    rcases List.mem_append.mp hm with hm | hm
    · exact h6 m hm
    · have : m = v := by simpa using hm
      rw [this]
      exact hv
theorem drp_r {lo : Int} {n : Nat} (k : Int) (ok : Int → Prop) (hb : IsBox H a B)
    (hs : ∀ C i H', i < n → DrawP a H B k ok C i H' → g (.int (lo + i)) (wipe σ vs) H' fun σ2 H2 => wipe σ2 vs = wipe σ vs ∧ tt σ2 H2 fun b H3 => if b = true then te σ2 H3 fun y H4 => Push C y H4 (DrawP a H B k ok C (i + 1)) else DrawP a H B k ok C (i + 1) H3)
    (hd : ∀ C H' (ns : List Int), But a H H' → IsBox H' a (B + k * n) → H C = none → ns.length = n → (∀ m ∈ ns, ok m) → H' C = some (.lst (ns.map V.int)) → Q (.ref C) H') : LcRun (Itr lo n) g tt te vs σ H Q :=
  lc_rng (DrawP a H B k ok) (fun C H1 nC s e => ⟨But.of s, nC, (hb.mono s).le (by simp), [], rfl, (fun m hm => absurd hm List.not_mem_nil), e⟩) hs fun C H' ⟨h1, h2, h3, ns, h4, h6, h5⟩ => hd C H' ns h1 h3 h2 h4 h6 h5
end
end Cr
namespace Cr
open PySem PySem.Spec PyProof.Rows L2
/-- a list of data grows at C -/
def Grow (H : Hp) (ds : List D) (C : Addr) (i : Nat) (H' : Hp) : Prop := Same H H' ∧ H C = none ∧ ∃ ys, H' C = some (.lst ys) ∧ RepL H' (ds.take i) ys
theorem grow_push {H H' H4 : Hp} {ds : List D} {d : D} {C : Addr} {i : Nat} {y : V} (h : Grow H ds C i H') (s : Same H' H4) (hd : ds[i]? = some d) (hy : ∀ H5, But C H4 H5 → Rep H5 d y) (hz : i < 90000) : Push C y H4 (Grow H ds C (i + 1)) := by
  obtain ⟨h1, h2, ys, h3, h4⟩ := h
  have e4 := s _ _ h3
  have r4 := h4.mono s
  have hl := h4.len
  rw [List.length_take] at hl
  refine push e4 (by omega) fun H5 b5 e5 => ⟨fun c o e => b5 _ _ (ne_of_none e h2) (s _ _ (h1 _ _ e)), h2, _, e5, RepL.take_succ ?_ hd (hy _ b5)⟩
  exact RepL.but (Rep.lst e4 r4) (by rw [D.size_lst]; omega) b5 r4
theorem grow_0 {H : Hp} {ds : List D} : ∀ C H1, H C = none → Same H H1 → H1 C = some (.lst []) → Grow H ds C 0 H1 := fun C H1 n s e => ⟨s, n, [], e, .nil⟩
theorem grow_end {H H' : Hp} {ds : List D} {C : Addr} {n : Nat} (h : Grow H ds C n H') (e : n = ds.length) : Rep H' (.lst ds) (.ref C) := by
  obtain ⟨_, _, ys, h3, h4⟩ := h
  rw [e, List.take_length] at h4
  exact .lst h3 h4
theorem rep_new {H H' : Hp} {d : D} {c : Addr} (h : Rep (New H H') d (.ref c)) : H c = none := by
  cases d <;> unfold Rep at h
  all_goals first
    | (cases h; done)
    | (obtain ⟨a, xs, z, e, _⟩ := h; cases z; exact (New.un e).1)
theorem off_same {H0 H1 H2 : Hp} {y : V} (h : Off y H1 H2) (s : Same H0 H1) (hy : ∀ c, y = .ref c → H0 c = none) : Same H0 H2 := fun c o e => h c o (fun z => by
  rw [hy c z] at e
  cases e) (s c o e)
end Cr
namespace Cr
open PySem PySem.Spec PyProof.Rows L2
theorem between_int {i lo hi : Int} (h : i < lo ∨ hi < i) : (D.int i).between lo hi = false := by
  show (decide (lo ≤ i) && decide (i ≤ hi)) = false
  rcases h with h | h
  · rw [decide_eq_false (by omega), Bool.false_and]
  · rw [decide_eq_false (p := i ≤ hi) (by omega), Bool.and_false]
end Cr
namespace Cr
open PySem PySem.Spec PyProof.Rows L2
theorem off_but {a : Addr} {H0 H1 H2 : Hp} {y : V} (h : Off y H1 H2) (b : But a H0 H1) (hy : ∀ c, y = .ref c → H0 c = none) : But a H0 H2 := fun c o n e => h c o (fun z => by
  rw [hy c z] at e
  cases e) (b c o n e)
theorem off_box {a : Addr} {B : Int} {H0 H1 H2 : Hp} {y : V} {B0 : Int} (h : Off y H1 H2) (hb : IsBox H1 a B) (h0 : IsBox H0 a B0) (hy : ∀ c, y = .ref c → H0 c = none) : IsBox H2 a B := by
  obtain ⟨g, r, c, k, e1, e2, e3, e4, e5⟩ := hb
  obtain ⟨_, _, _, _, f1, _⟩ := h0
  exact ⟨g, r, c, k, h a _ (fun z => by
    rw [hy a z] at f1
    cases f1) e1, e2, e3, e4, e5⟩
end Cr

/-! Where an exception is handled (an except suite, and the defs that it calls): calls, list comprehensions over a range or a locked dict's keys. -/
namespace Cr
open PySem PySem.Spec PyProof.Rows L2 HotX L2H
abbrev CrSt := L2.St
/-! ### the end of a dict's keys -/
section
variable {prog : Program} {w : World} {A : Around} {E : Value → Shared → Prop} {s : Shared}
theorem keys_endH {it d x1 : Addr} {i n ep : Nat} {od : Obj} {es : Array DictEntry} {Q : Option Value → Shared → Prop} (hot : HotAt A x1 s.heap) (hx : x1 ≠ it) (hit : s.heap.IsKeyIter it d i n ep) (hod : s.heap.get? d = some od) (hdd : od.data = .dict es ep)
    (hsz : es.size = n) (hge : n ≤ i) (hQ : ∀ h', Heap.ExtBut it s.heap h' → Q none { s with heap := h' }) : wpAny (model prog w) A (pyNext (.ref it)) Q E s := by
  obtain ⟨o, ho, hc, hd⟩ := id hit
  obtain ⟨hh, o1, vs1, h1, d1, c1⟩ := hot
  have past : es.size ≤ i := by omega
  unfold pyNext
  refine wpAny_bind (wpAny_attempt (wpAny_callSpecial?_slot (name := Str.ofString "__next__") hit.typeIs F.slot_dict_keyiterator_next (wpAny_call_entry F.slot_dict_keyiterator_next hit.typeIs F.entry_dict_keyiterator_next ?_ (F.args_dict_keyiterator_next_1 _))))
  refine wpAny_bind (wpAny_pure (wpAny_bind (wpAny_bind ?_)))
  first | refine wpAny_bind (wpAny_typeNameOfWhole_keyiter hit.typeIs (wpAny_pure ?_)) | refine wpAny_bind (wpAny_typeNameOf_keyiter hit.typeIs (wpAny_pure ?_))
  refine wpAny_bind (wpAny_fieldsOf ho hd ?_)
  simp only [(by decide : Builtin.Dict_items.ownsTuple "dict_keyiterator" = false), Bool.false_eq_true, if_false]
  show wpAny _ _ (if (Value.ref d == Value.none) = true then _ else _) _ _ s
  rw [if_neg (by exact Bool.false_ne_true : ¬ ((Value.ref d == Value.none) = true))]
  refine wpAny_bind (wpAny_pure (wpAny_bind (wpAny_dictEntries hod hdd ?_)))
  rw [if_neg (by simp [hsz])]
  refine wpAny_bind (wpAny_pure (wpAny_bind (wpAny_dictEpoch hod hdd ?_)))
  rw [if_neg (by simp)]
  refine wpAny_pure ?_
  simp only [show ¬ ((i : Int) < 0) from by omega, if_false, Int.toNat_natCast, Array.getElem?_eq_none past]
  refine wpAny_bind ?_
  first | refine wpAny_bind (wpAny_typeNameOfWhole_keyiter hit.typeIs (wpAny_pure ?_)) | refine wpAny_bind (wpAny_typeNameOf_keyiter hit.typeIs (wpAny_pure ?_))
  show wpAny _ _ (setField (.ref it) 0 .none >>= _) _ _ s
  refine wpAny_bind (wpAny_setField ho hd (by simp) ?_)
  have h1' := (Heap.get?_update_other s.heap (f := Obj.mapFields (·.setIfInBounds 0 Value.none)) (Ne.symm hx)).trans h1
  show wpAny _ _ (newExc (.type "StopIteration") [] >>= _) _ _ _
  refine wpAny_bind ?_
  simp only [newExc, newTuple]
  refine wpAny_bind (wpAny_newObj_type ?_ (by size_fits))
  refine wpAny_bind (m := firstArgMember _ _) (wpAny_of_eq (a := Value.none) (by first | rfl | (simp only [firstArgMember]; rfl)) ?_)
  refine wpAny_newObj_type ?_ (by size_fits)
  have h2 := Heap.get?_push_of_some ({ cls := .type "tuple", data := .seq #[] } : Obj) h1'
  refine raiseNew_hot ⟨hh, o1, vs1, Heap.get?_push_of_some _ (Heap.get?_push_of_some _ h1'), d1, c1⟩ (Nat.ne_of_lt (Heap.lt_size (Heap.get?_push_of_some _ h1'))) (Heap.get?_push_size _ rfl) rfl (by first | (simp; done) | (simp; omega) | (simp only [Array.size_append]; simp; omega)) ?_
  refine wpAny_bind (wpAny_isInstance (T := "StopIteration") (b := true) ⟨_, Heap.get?_update_self _ (Heap.get?_push_size _ rfl) rfl, rfl⟩ isSubtype_stop (wpAny_pure (hQ _ ?_)))
  intro b ob hb e
  have e1 := (Heap.get?_update_other s.heap (f := Obj.mapFields (·.setIfInBounds 0 Value.none)) (Ne.symm hb)).trans e
  rw [Heap.get?_update_other _ _ (Nat.ne_of_gt (Heap.lt_size (Heap.get?_push_of_some _ e1)))]
  exact Heap.get?_push_of_some _ (Heap.get?_push_of_some _ e1)
/-- the keys of a locked dict, walked where an exception is handled -/
theorem turn_keysH {P : Program} {K : PySem.W.Frag} {tg : Expr} {d : Addr} {o : Obj} {es : Array DictEntry} {ep : Nat} {kvs : List (Key × V)} (it : Addr) (hod : o.data = .dict es ep) :
    TurnH P w K tg (Itk d o kvs) [it] it (fun i h => h.IsKeyIter it d i kvs.length ep) := by
  have T := L2.turn_keys (P := P) (w := w) (K := K) (tg := tg) (d := d) (kvs := kvs) it hod
  refine ⟨T.mem, T.obj, T.keep, ?_, ?_, T.self⟩
  · intro X hP hw hK hc i pins s σ H E I hf st hg
    subst hP hw hK
    obtain ⟨hd, hi⟩ := hg
    obtain ⟨f0, f1, f2, f3, f4, f5⟩ := hf it (by simp)
    obtain ⟨hs, hgd, hx, es', ep', vs, hdt, hsz, kv, hm⟩ := I.frzK hd
    obtain ⟨rfl, rfl⟩ := dict_ep hod hdt
    obtain ⟨⟨k, v⟩, hkv⟩ : ∃ p, kvs[i]? = some p := ⟨kvs[i], List.getElem?_eq_getElem hi⟩
    obtain ⟨u, hu, ru⟩ := kv_get kv hkv
    rw [show kvs.length = vs.length from Paired.length kv] at st
    refine wpAny_pyNext_dict_item st hm hu fun key h' hkey st' sb => ?_
    have J : Inv X pins σ H { s with heap := h' } := I.turned (t' := s.toks) (fun b ob hb e => (sb.2 b hb).trans e) f0 f1 f3 f4 f5
    obtain ⟨oi, e, c, dd⟩ := id st'
    refine ⟨key, rfl, go_of (s := { s with heap := h' }) e c dd (by decide) ⟨kV k, H, J, relV_key (show keyIs k key = true from hkey), ⟨rfl, k, v, hkv, rfl⟩, ?_, fun b hb => (hf b hb).1⟩⟩
    show h'.IsKeyIter it d (i + 1) kvs.length _
    rw [show kvs.length = vs.length from Paired.length kv]
    exact st'
  · intro X hP hw hK hc i pins s σ H E I hf st hg
    subst hP hw hK
    obtain ⟨hd, hi⟩ := hg
    obtain ⟨f0, f1, f2, f3, f4, f5⟩ := hf it (by simp)
    obtain ⟨hs, hgd, hx, es', ep', vs, hdt, hsz, kv, hm⟩ := I.frzK hd
    obtain ⟨rfl, rfl⟩ := dict_ep hod hdt
    obtain ⟨p, ⟨hh, v1, e1, c1⟩, hp⟩ := hc
    have hot : HotAt X.A p.1 s.heap := ⟨hh, p.2, v1, (I.pin p (List.mem_append_left _ hp)).1, e1, c1⟩
    exact keys_endH hot (f5 p (List.mem_append_left _ hp)) st hgd hdt hsz hi fun h' eb => ⟨rfl, I.turned (t' := s.toks) (fun b ob hb e => eb b ob hb e) f0 f1 f3 f4 f5⟩
end
section
variable {X : Cx} {tg e : Expr} {td : TE}
/-- what walks a locked dict's keys -/
def iKeysH (td : TE) : TI := fun σ H R => td σ H fun x H1 => ∃ d o, x = .ref d ∧ ∃ kvs, H1 d = some (.frz o (.dK kvs)) ∧ R (Itk d o kvs) H1
theorem pi_keysH (he : PE X e td) : PIH X tg e (iKeysH td) := by
  refine ⟨fun pins s σ H R I h => thn (he.run pins s σ H _ I h) ?_⟩
  rintro u s1 ⟨x, H1, I1, rx, d, o, rfl, kvs, hd, q⟩
  obtain rfl : u = Value.ref d := rx
  obtain ⟨hs, hgd, hx, es, ep, vs, hdt, hsz, kv, hm⟩ := I1.frzK hd
  refine iter_keys hs hgd hx hdt ⟨s1.heap.objs.size, [s1.heap.objs.size], _, _, H1, rfl, I1.kept (t' := s1.toks) fun b ob e => Heap.get?_push_of_some _ e, turn_keysH _ hdt, ⟨_, Heap.get?_push_size _ rfl, rfl, ?_⟩, ?_, q⟩
  · rw [hsz] <;> rfl
  · intro b hb
    rw [show b = s1.heap.objs.size by simpa using hb]
    exact I1.fpOk (Nat.le_refl _) (I1.hok.fresh (Nat.le_refl _))
end
/-! ### a list comprehension where an exception is handled -/
/-- the block's context, the handled exception p pinned -/
abbrev blkH (X : Cx) (s : Shared) (H : Hp) (scope : Scope) (cenv : Env) (fp : List Addr) (p : Addr × Obj) : Cx := (X.blk s H scope cenv fp).tr [p] (fun _ _ => False)
theorem Inv.pinH {Y : Cx} {σ : CrSt} {H : Hp} {s : Shared} {p : Addr × Obj} (I : Inv Y [] σ H s) (h : s.heap.get? p.1 = some p.2 ∧ H p.1 = none ∧ p.1 ≠ Y.env.locals ∧ p.1 ∉ Y.fs ∧ ∀ v, p.2.data ≠ .cell v) : Inv (Y.tr [p] Y.xe) [] σ H s :=
  ⟨I.ok.toTry _ _, I.os, I.bare, I.base, I.loc, I.cell, I.free, I.freeC, fun q hq => by
    rw [show q = p by simpa using hq]
    exact h, I.hok, I.len⟩
section
variable {X : Cx}
theorem lcH_core {pins : List (Addr × Obj)} {s : Shared} {σ : CrSt} {H : Hp} {Q : VK} {elt tg iter : Expr} {ifs : List Expr} {scope : Scope} {own : List (Str × Nat)} {pos pos' : Pos} {wi : TI} {g : TG} {tt : TT} {te : TE} {use : Option (Value → Sem Unit)} {Qf : Value → Shared → Prop}
    (hc : HotC X) (hN : X.N.Nodup) (I : Inv X pins σ H s) (hi : PIH X tg iter wi) (ok : BlkOk X.N X.env.scope scope own)
    (hg : ∀ (s : Shared) (H : Hp) (C : Addr) (cl : List (Str × Addr)) (fp : List Addr) (p : Addr × Obj), Hot1 X.A p → PG (blkH X s H scope (compEnvC scope cl C X.env) fp p) tg g)
    (ht : ∀ (s : Shared) (H : Hp) (C : Addr) (cl : List (Str × Addr)) (fp : List Addr) (p : Addr × Obj), Hot1 X.A p → PTs (blkH X s H scope (compEnvC scope cl C X.env) fp p) ifs tt)
    (he : ∀ (s : Shared) (H : Hp) (C : Addr) (cl : List (Str × Addr)) (fp : List Addr) (p : Addr × Obj), Hot1 X.A p → PE (blkH X s H scope (compEnvC scope cl C X.env) fp p) elt te) (hs : ∀ x, foldedSetIterable iter X.env x = pure x)
    (h : tLc wi g tt te (own.map (·.2)) σ H Q)
    (hRR : ∀ D C s' m H', Inv X pins σ H' s' → Q (.ref D) H' → s'.heap.Ns C m → FpOk X pins H' C → compPost (model X.prog X.w) X.A X.xe use Qf (.ref D) C (.ok .next) s') :
    wpAny (model X.prog X.w) X.A (comprehension (.ListComp elt [⟨tg, iter, ifs, 0⟩] scope pos) scope X.env pos' (newList []) false (eval iter X.env) use) Qf X.xe s := by
  obtain ⟨p, hot, hp⟩ := hc
  have hfree : ∀ y ∈ scope.names, y.2 = .free → ∃ c, X.env.cells.lookup y.1 = some c := fun y hy e => (ok.free y hy e).elim (fun k => I.ok.has _ (.inl k)) fun k => I.ok.has _ (.inr k)
  refine wpAny_comprehension_free (use := use) rfl hs (closure_ok hfree) ok.kind (fun y hy e => by rw [ok.uniq y hy, e]) (thn (hi.run pins s σ H _ I h) fun xv s1 hx => thn hx ?_)
  rintro itv s2 ⟨it, fp, tn, J, H2, rfl, I2, T, st2, f2, q⟩
  refine wpAny_newObj_type (newEnv_comp ?_) (by show 0 ≤ sizeLine; decide)
  generalize hD : s2.heap.objs.size = D
  obtain ⟨W, ⟨m0, w0⟩, turn⟩ := q D (I2.hok.fresh (Nat.le_of_eq hD))
  generalize hs3 : ({ s2 with heap := s2.heap.push { cls := .type "list", data := .seq ([] : List Value).toArray } } : Shared) = s3
  have h3 : s3.heap = s2.heap.push { cls := .type "list", data := .seq ([] : List Value).toArray } := by rw [← hs3]
  have I3 : Inv X pins σ (upd H2 D (.lst [])) s3 := by
    rw [← hs3]
    refine I2.laid (t' := s2.toks) (fun b o e => Heap.get?_push_of_some _ e) (Nat.le_of_eq hD) ⟨Nat.zero_le _, [], 0, .nil, ?_⟩
    rw [← hD]
    exact Heap.get?_push_size _ rfl
  have f3 : ∀ b ∈ fp, FpOk X pins (upd H2 D (.lst [])) b ∧ b < s3.heap.objs.size := fun b hb => by
    obtain ⟨o, e, _⟩ := T.obj _ _ st2 b hb
    have lt := Heap.lt_size e
    refine ⟨⟨?_, (f2 b hb).2⟩, by rw [h3, Heap.size_push]; exact Nat.lt_succ_of_lt lt⟩
    rw [upd_ne (by rw [← hD]; exact Nat.ne_of_lt lt)]
    exact (f2 b hb).1
  have st3 : tn 0 s3.heap := T.keep _ _ _ st2 fun b _ o e => by rw [h3]; exact Heap.get?_push_of_some _ e
  have pfp : ∀ b ∈ fp, p.1 ≠ b := fun b hb => (f2 b hb).2.2.2.2.2 p (List.mem_append_left _ hp)
  have P3 := I3.pin p (List.mem_append_left _ hp)
  have I4 := block_start I3 ok hN f3
  have pg := hg s3 (upd H2 D (.lst [])) s3.heap.objs.size (cellsFrom (s3.heap.objs.size + 1) scope.names (cloFrom X.env.cells scope.names [])) fp p hot
  have pt := ht s3 (upd H2 D (.lst [])) s3.heap.objs.size (cellsFrom (s3.heap.objs.size + 1) scope.names (cloFrom X.env.cells scope.names [])) fp p hot
  have pe := he s3 (upd H2 D (.lst [])) s3.heap.objs.size (cellsFrom (s3.heap.objs.size + 1) scope.names (cloFrom X.env.cells scope.names [])) fp p hot
  show codeAny _ _ (.compStart (.ListComp elt [⟨tg, iter, ifs, 0⟩] scope pos) 0 (.ref it) (.ref D) (compEnvC scope (cellsFrom (s3.heap.objs.size + 1) scope.names (cloFrom X.env.cells scope.names [])) s3.heap.objs.size X.env)) (compPost (model X.prog X.w) X.A X.xe use Qf (.ref D) s3.heap.objs.size) { s3 with heap := pushCells (s3.heap.push { cls := .type "dict", data := .dict #[] }) scope.names }
  have nfp : ∀ b ∈ fp, (upd H2 D (.lst [])) b = none := fun b hb => (f3 b hb).1.1
  generalize hce : compEnvC scope (cellsFrom (s3.heap.objs.size + 1) scope.names (cloFrom X.env.cells scope.names [])) s3.heap.objs.size X.env = ce at I4 pg pt pe ⊢
  have cL : ce.locals = s3.heap.objs.size := by subst hce; rfl
  generalize hH3 : upd H2 D (.lst []) = H3 at I3 I4 pg pt pe w0 nfp f3 P3
  generalize hs4 : ({ s3 with heap := pushCells (s3.heap.push { cls := .type "dict", data := .dict #[] }) scope.names } : Shared) = s4 at I4 ⊢
  have grow : ∀ b o, s3.heap.get? b = some o → s4.heap.get? b = some o := fun b o e => by rw [← hs4]; exact pushCells_keeps _ _ _ _ (Heap.get?_push_of_some _ e)
  have st4 : tn 0 s4.heap := T.keep _ _ _ st3 fun b _ o e => grow b o e
  have I4h : Inv (blkH X s3 H3 scope ce fp p) [] (wipe σ (own.map (·.2))) H3 s4 := by
    refine Inv.pinH I4 ⟨grow _ _ P3.1, P3.2.1, ?_, fun hm => ?_, P3.2.2.2.2⟩
    · show p.1 ≠ ce.locals
      rw [cL]
      exact Nat.ne_of_lt (Heap.lt_size P3.1)
    · exact (List.mem_cons.mp (I3.stkSub p.1 hm)).elim P3.2.2.1 P3.2.2.2.1
  have hotB : HotC (blkH X s3 H3 scope ce fp p) := ⟨p, hot, List.mem_singleton.mpr rfl⟩
  have stat : ∀ {σ' : CrSt} {H' : Hp} {s' : Shared}, Inv (blkH X s3 H3 scope ce fp p) [] σ' H' s' → (∀ b ∈ fp, H' b = none) → ∀ b ∈ fp, FpOk (blkH X s3 H3 scope ce fp p) [] H' b := fun {σ' H' s'} I' hn b hb =>
    ⟨hn b hb, (I'.ok.exf b hb).1, I'.ok.exfs b hb, .inl hb, fun x c e => (I'.ok.exf b hb).2 x c e, fun q hq => by
      rw [show q = p by simpa using hq]
      exact pfp b hb⟩
  have loop : codeAny (model X.prog X.w) X.A (.compLoop (.ListComp elt [⟨tg, iter, ifs, 0⟩] scope pos) 0 (.ref it) (.ref D) ce) (compPost (model X.prog X.w) X.A X.xe use Qf (.ref D) s3.heap.objs.size) s4 := by
    refine compLoop_any (fun n s' => ∃ i H', Inv (blkH X s3 H3 scope ce fp p) [] (wipe σ (own.map (·.2))) H' s' ∧ tn i s'.heap ∧ (∀ b ∈ fp, H' b = none) ∧ W i n H') ?_ m0 ⟨0, H3, I4h, st4, nfp, w0⟩
    rintro n s5 ⟨i, H5, I5, st5, n5, w5⟩
    rcases turn i n H5 w5 with ⟨stop, qq⟩ | ⟨go, Nx, hNx, step⟩
    · refine thnF (T.done (blkH X s3 H3 scope ce fp p) rfl rfl rfl hotB i [] s5 _ H5 (fun _ _ => False) I5 (stat I5 n5) st5 stop) ?_
      rintro r s6 ⟨rfl, I6⟩
      have I7 : Inv X pins σ H5 s6 := I3.call' (ch := fp) I6.os I6.base I6.hok I6.bare fun b hb => ⟨(f3 b hb).1.2.2.2.1, (f3 b hb).1.2.1, (f3 b hb).1.2.2.2.2.1, (f3 b hb).1.2.2.2.2.2⟩
      obtain ⟨m, hn, _⟩ := I6.loc
      have nC : H5 ce.locals = none := I6.free
      have hn : s6.heap.Ns ce.locals m := hn
      rw [cL] at hn nC
      exact hRR D s3.heap.objs.size s6 m H5 I7 qq hn (I3.fpOk (Nat.le_refl _) nC)
    · refine thnF (T.item (blkH X s3 H3 scope ce fp p) rfl rfl rfl hotB i [] s5 _ H5 (fun _ _ => False) I5 (stat I5 n5) st5 go) ?_
      rintro r s6 ⟨u, rfl, h6⟩
      refine thnF h6 fun _ s7 ⟨x, H7, I7, r7, y7, st7, n7⟩ => ?_
      refine thnF (pg.run _ s7 _ H7 x u _ (I7.pinned (stat I7 n7) (T.obj _ _ st7)) r7 (step x H7 y7)) fun _ s8 ⟨σ8, H8, I8, hw8, q8⟩ => ?_
      refine thnF (pt.run _ s8 σ8 H8 _ I8 q8) fun b s9 ⟨H9, I9, q9⟩ => ?_
      have fin : ∀ {s' : Shared} {H' : Hp}, Inv (blkH X s3 H3 scope ce fp p) ([] ++ pinsAt fp s7.heap) σ8 H' s' → Nx H' → ∃ m, m < n ∧ ∃ i H', Inv (blkH X s3 H3 scope ce fp p) [] (wipe σ (own.map (·.2))) H' s' ∧ tn i s'.heap ∧ (∀ b ∈ fp, H' b = none) ∧ W i m H' := fun {s' H'} I' nx => by
        obtain ⟨m', hm, w'⟩ := hNx H' nx
        have pin' : ∀ b ∈ fp, ∀ o, s7.heap.get? b = some o → s'.heap.get? b = some o ∧ H' b = none := fun b hb o e =>
          have z := I'.pin (b, o) (List.mem_append_right _ (List.mem_append_right _ (mem_pinsAt hb e)))
          ⟨z.1, z.2.1⟩
        refine ⟨m', hm, i + 1, H', (I'.unpinned (pins := [])).weak (by rw [← hw8, wipe_length]) (fun j v e => ?_), T.keep _ _ _ st7 fun b hb o e => (pin' b hb o e).1, fun b hb => ?_, w'⟩
        · rw [← hw8] at e
          exact (wipe_some e).1
        · obtain ⟨o, e, _⟩ := T.obj _ _ st7 b hb
          exact (pin' b hb o e).2
      cases b with
      | false =>
        simp only [Bool.false_eq_true, if_false] at q9 ⊢
        exact fin I9 q9
      | true =>
        simp only [if_true] at q9 ⊢
        refine thnF (pe.run _ s9 σ8 H9 _ I9 q9) fun z s10 ⟨yv, H10, I10, r10, acc, hD10, hz10, nx⟩ => ?_
        exact app_ok (X := blkH X s3 H3 scope ce fp p) I10 hD10 hz10 r10 fun s11 I11 => fin I11 nx
  exact codeAny_compStart_list loop (T.self X.A 0 _ _ _ st4 loop)
theorem pe_lcH {elt tg iter : Expr} {ifs : List Expr} {scope : Scope} {own : List (Str × Nat)} {pos : Pos} {wi : TI} {g : TG} {tt : TT} {te : TE} (hc : HotC X) (hN : X.N.Nodup) (hi : PIH X tg iter wi) (ok : BlkOk X.N X.env.scope scope own)
    (hg : ∀ (s : Shared) (H : Hp) (C : Addr) (cl : List (Str × Addr)) (fp : List Addr) (p : Addr × Obj), Hot1 X.A p → PG (blkH X s H scope (compEnvC scope cl C X.env) fp p) tg g)
    (ht : ∀ (s : Shared) (H : Hp) (C : Addr) (cl : List (Str × Addr)) (fp : List Addr) (p : Addr × Obj), Hot1 X.A p → PTs (blkH X s H scope (compEnvC scope cl C X.env) fp p) ifs tt)
    (he : ∀ (s : Shared) (H : Hp) (C : Addr) (cl : List (Str × Addr)) (fp : List Addr) (p : Addr × Obj), Hot1 X.A p → PE (blkH X s H scope (compEnvC scope cl C X.env) fp p) elt te) (hs : ∀ x, foldedSetIterable iter X.env x = pure x := by intro _; rfl) :
    PE X (.ListComp elt [⟨tg, iter, ifs, 0⟩] scope pos) (tLc wi g tt te (own.map (·.2))) := by
  refine ⟨fun pins s σ H Q I h => ?_⟩
  rw [eval_ListComp]
  refine lcH_core hc hN I hi ok hg ht he hs h fun D C s' m H' I' q hn f => ⟨m, hn, fun h'' sb => ?_⟩
  obtain ⟨f0, f1, f2, f3, f4, f5⟩ := f
  exact ⟨.ref D, H', I'.turned (t' := s'.toks) (fun b o hb e => (sb.2 b hb).trans e) f0 f1 f3 f4 f5, rfl, q⟩
end
/-! ### defs that are called there -/
def DfH (P : Program) (w : World) (K : PySem.W.Frag) (mg : Str → Option Value) (base : Heap) (k : Nat) (x : Str) (st : Stmt) (ps : List Str) (sp : Sp) : Prop :=
  ∃ f fd, Fun K x x st f fd ∧ mg x = some (.ref f) ∧ FnH P w K mg base (L2N.CX P w) k f fd ps sp ∧ Binds K fd ps []
section
variable {P : Program} {w : World} {K : PySem.W.Frag} {mg : Str → Option Value} {base : Heap}
theorem mk_dfH {x : Str} {st : Stmt} {N ps : List Str} {k : Nat} {sp : Sp} (h : Has K mg x st) (S : FnScope N ps (defScope st))
    (hb : ∀ (kV doc pm : Value) (an : Option Addr) (cdv ct : Value) (us : List Value), us.length = ps.length →
      bindArgs (PySem.W.fnOf x x (defArgs st) (defBody st) (defScope st) .none kV doc pm an cdv ct) ⟨us, []⟩ = pure (ps.zip us))
    (len : ∀ vs H Q E, sp vs H Q E → vs.length = ps.length)
    (body : ∀ (f : Addr) (cdv : Value) (A : Around) (outer : List Env) (s : Shared) (H : Hp) (vs : List V) (Q : VK) (E : XK) (p : Addr × Obj), Hot1 A p →
      RoomH k (A.deeper (envOfC x (defScope st) s.heap.objs.size f cdv)) → sp vs H Q E →
      ∃ t, PSs (cxH (L2N.CX P w) P w K mg base N x (defScope st) f cdv A outer s H E p) (defBody st) t ∧
        t { nx := fun _ H' => Q .non H', rt := Q } (start N vs) H) : DfH P w K mg base (k + 1) x st ps sp := by
  obtain ⟨f, fd, F, hm⟩ := h
  have B := F.binds hb
  refine ⟨f, fd, F, hm, ?_, B⟩
  obtain ⟨oc, od, kV, doc, pm, an, cdv, ct, osl, rfl, lk, hcd⟩ := F.ex
  exact fn_ofH lk hcd S len fun A outer s H vs Q E p hot hr hsp => body f cdv A outer s H vs Q E p hot hr hsp
theorem dfH_zero {x : Str} {st : Stmt} {ps : List Str} {sp : Sp} (h : Has K mg x st) (z : ∀ vs H Q E, ¬ sp vs H Q E)
    (hb : ∀ (kV doc pm : Value) (an : Option Addr) (cdv ct : Value) (us : List Value), us.length = ps.length →
      bindArgs (PySem.W.fnOf x x (defArgs st) (defBody st) (defScope st) .none kV doc pm an cdv ct) ⟨us, []⟩ = pure (ps.zip us)) : DfH P w K mg base 0 x st ps sp := by
  obtain ⟨f, fd, F, hm⟩ := h
  exact ⟨f, fd, F, hm, ⟨fun vs H Q E h => absurd h (z _ _ _ _), fun _ _ _ _ _ _ _ _ _ _ _ _ _ _ _ _ h => absurd h (z _ _ _ _)⟩, F.binds hb⟩
theorem FnH.mono' {CX : CXT} {j k : Nat} {f : Addr} {fd : FuncData} {ps : List Str} {sp : Sp} (F : FnH P w K mg base CX j f fd ps sp) (h : j ≤ k) : FnH P w K mg base CX k f fd ps sp :=
  ⟨F.len, fun A outer s H args us vs Q E p hr => F.run A outer s H args us vs Q E p (hr.mono h)⟩
end
section
variable {X : Cx} {k : Nat} {x : Str} {st : Stmt} {ps : List Str} {sp : Sp} {q pos : Pos} {e : Expr} {es : List Expr} {t : TA} {W : WX}
theorem pcallH {j : Nat} (d : DfH X.prog X.w X.K X.mg X.base k x st ps sp) (hr : RoomH j X.A) (hc : HotC X) (wt : L2N.Takes X W) (ha : PA X (e :: es) t) (hg : Gl X x := by rfl)
    (hdb : (x == ("__debug__" : Str)) = false := by decide) (he : starEach (e :: es) X.env = (false, eval e X.env) :: starEach es X.env := by rfl)
    (hpl : (backTo pos (starEach es X.env)).any (·.1) = false := by rfl) (hk : k ≤ j := by decide) :
    PE X (.Call (.Name x q) (e :: es) [] pos) (tCallS sp (WE W) t) := by
  obtain ⟨f, fd, F, hm, G, B⟩ := d
  exact pe_callH G (hr.mono hk) hc hg hm F.kp B (fun σ => passE wt σ) ha hdb he hpl
/-- an except suite's own exception is the handled one -/
theorem hotS {a : Addr} {oe : Obj} {cls : Value} {d : Option Addr} {pn : List (Addr × Obj)} (hz : L2N.Zn cls d oe) (hd : ∃ vs, oe.data = .fields vs) : HotC (X.suite a ((a, oe) :: pn)) := by
  obtain ⟨vs, h⟩ := hd
  exact ⟨(a, oe), ⟨rfl, vs, h, hz.2.2 vs h⟩, List.mem_cons_self⟩
theorem roomS {a : Addr} {pn : List (Addr × Obj)} {j : Nat} (h : Room j X.A) : RoomH j (X.suite a pn).A := ⟨h.dp, h.un⟩
end
def KeysH (x : V) (H : Hp) (R : It → Hp → Prop) : Prop := ∃ d o, x = .ref d ∧ ∃ kvs, H d = some (.frz o (.dK kvs)) ∧ R (Itk d o kvs) H
theorem w_keysH {td : TE} {σ : CrSt} {H : Hp} {R : It → Hp → Prop} (q : td σ H fun x H1 => KeysH x H1 R) : iKeysH td σ H R := q
theorem keysH {d : Addr} {o : Obj} {kvs : List (Key × V)} {H : Hp} {R : It → Hp → Prop} (h : H d = some (.frz o (.dK kvs))) (q : R (Itk d o kvs) H) : KeysH (.ref d) H R := ⟨d, o, rfl, kvs, h, q⟩
theorem w_brk {σ : CrSt} {H : Hp} {D : Ends} (q : D.bk σ H) : tBreak D σ H := q
theorem w_cnt {σ : CrSt} {H : Hp} {D : Ends} (q : D.ct σ H) : tCont D σ H := q
end Cr
namespace Cr
open PySem PySem.Spec PyProof.Rows L2
section
variable {K : PySem.W.Frag} {σ : CrSt} {H : Hp} {Q : VK} {a : Addr} {xs : List V} {R : It → Hp → Prop} {g : TG} {tt : TT} {te : TE} {vs : List Nat}
def EnumR (K : PySem.W.Frag) (vs : List V) (H : Hp) (R : It → Hp → Prop) : Prop := ∃ a xs, vs = [.ref a] ∧ SqL K H a xs ∧ R (Ite K a) H
theorem w_enum {ta : TA} (q : ta σ H fun vs H1 => EnumR K vs H1 R) : iEnum K ta σ H R := q
theorem enum_l (h : SqL K H a xs) (q : R (Ite K a) H) : EnumR K [.ref a] H R := ⟨a, xs, rfl, h, q⟩
theorem pi_enumK {X : Cx} (K : PySem.W.Frag) {e : Expr} {ta : TA} {p pos tpos : Pos} {elts : List Expr} {kk : Nat} (hg : Gl X "enumerate") (hm : X.mg "enumerate" = none) (ha : PA X [e] ta) (h : X.K = K := by rfl) (hs : starEach [e] X.env = [(false, eval e X.env)] := by rfl) :
    PI X (.Tuple elts kk tpos) (.Call (.Name "enumerate" p) [e] [] pos) (iEnum K ta) := h ▸ pi_enum hg hm ha hs
end
end Cr
namespace Cr
open PySem PySem.Spec PyProof.Rows L2
theorem acc_e {K : PySem.W.Frag} {σ : CrSt} {H : Hp} {Q : VK} {a : Addr} {xs : List V} {g : TG} {tt : TT} {te : TE} {vs : List Nat} (acc : Nat → List V) (h0 : acc 0 = []) (ha : SqL K H a xs)
    (hs : ∀ C i x T H', xs[i]? = some x → AccP H acc C i H' → H' T = some (.tup [.int (i : Nat), x]) → g (.ref T) (wipe σ vs) H' fun σ2 H2 => wipe σ2 vs = wipe σ vs ∧ tt σ2 H2 fun b H3 => if b = true then te σ2 H3 fun y H4 => Push C y H4 (AccP H acc C (i + 1)) else AccP H acc C (i + 1) H3)
    (hd : ∀ C H', Same H H' → H C = none → H' C = some (.lst (acc xs.length)) → Q (.ref C) H') : LcRun (Ite K a) g tt te vs σ H Q := by
  intro C nC
  refine ⟨fun i m H' => m = xs.length - i ∧ i ≤ xs.length ∧ AccP H acc C i H', ⟨xs.length, by simp, Nat.zero_le _, same_new nC, nC, by rw [upd_same, h0]⟩, ?_⟩
  rintro i m H1 ⟨rfl, hi, pp⟩
  have l := sqL_mono ha pp.1
  by_cases hlt : i < xs.length
  · have e := List.getElem?_eq_getElem hlt
    refine .inr ⟨⟨xs, xs[i], l, e⟩, AccP H acc C (i + 1), fun H2 p2 => ⟨xs.length - (i + 1), by omega, rfl, hlt, p2⟩, ?_⟩
    rintro x H2 ⟨T, x', rfl, nT, rfl, hx⟩
    have ex := hx xs l
    rw [e] at ex
    cases ex
    exact hs C i _ T _ e ⟨pp.1.trans (same_new nT), pp.2.1, same_new nT _ _ pp.2.2⟩ upd_same
  · have e : i = xs.length := by omega
    subst e
    exact .inl ⟨⟨xs, l, Nat.le_refl _⟩, hd C H1 pp.1 pp.2.1 pp.2.2⟩
end Cr
namespace Cr
open PySem PySem.Spec PyProof.Rows L2
theorem drp_l {K : PySem.W.Frag} {σ : CrSt} {H : Hp} {Q : VK} {a p : Addr} {B : Int} {xs : List V} {g : TG} {tt : TT} {te : TE} {vs : List Nat} (k : Int) (ok : Int → Prop) (hb : IsBox H a B) (hp : H p = some (.lst xs)) (na : p ≠ a)
    (hs : ∀ C i x H', xs[i]? = some x → DrawP a H B k ok C i H' → g x (wipe σ vs) H' fun σ2 H2 => wipe σ2 vs = wipe σ vs ∧ tt σ2 H2 fun b H3 => if b = true then te σ2 H3 fun y H4 => Push C y H4 (DrawP a H B k ok C (i + 1)) else DrawP a H B k ok C (i + 1) H3)
    (hd : ∀ C H' (ns : List Int), But a H H' → IsBox H' a (B + k * xs.length) → H C = none → ns.length = xs.length → (∀ m ∈ ns, ok m) → H' C = some (.lst (ns.map V.int)) → Q (.ref C) H') : LcRun (Itl K p) g tt te vs σ H Q :=
  lc_lst (DrawP a H B k ok) (fun C H1 nC s e => ⟨But.of s, nC, (hb.mono s).le (by simp), [], rfl, (fun m hm => absurd hm List.not_mem_nil), e⟩) (fun C i H' _ h => SqL.of (h.1 _ _ na hp)) hs fun C H' ⟨h1, h2, h3, ns, h4, h6, h5⟩ => hd C H' ns h1 h3 h2 h4 h6 h5
theorem new_old {H H1 H2 : Hp} {a : Addr} {B' : Int} (b : But a H H1) (hb : IsBox H1 a B') : Same (New H1 H2) (New H H2) := New.to (fun c o e => by
  by_cases z : c = a
  · subst z
    obtain ⟨_, _, _, _, e1, _⟩ := hb
    exact ⟨_, e1⟩
  · exact ⟨o, b _ _ z e⟩) fun c o n e => e
end Cr
namespace Cr
open PySem PySem.Spec PyProof.Rows L2
section
variable {K : PySem.W.Frag} {σ : CrSt} {H : Hp} {Q : VK} {D : Ends} {A B : TS} {c : Prop} [Decidable c]
/-- an if of statements, joined: key is what follows, proved once -/
theorem w_ifJ (PJ : CrSt → Hp → Prop) (key : ∀ σ' H', PJ σ' H' → D.nx σ' H') (h1 : c → ∀ D' : Ends, D'.rt = D.rt → (∀ σ' H', PJ σ' H' → D'.nx σ' H') → A D' σ H) (h2 : ¬ c → PJ σ H) : if decide c = true then A D σ H else tNext D σ H := by
  by_cases h : c
  · rw [decide_eq_true h, if_pos rfl]
    exact h1 h D rfl key
  · rw [decide_eq_false h, if_neg (by simp)]
    exact key _ _ (h2 h)
/-- a conditional value, joined -/
theorem join_cv {u v : V} {i : Nat} (p : V → Prop) (hv : σ[i]? = some (some v)) (h1 : c → p u) (h2 : ¬ c → p v) (h : ∀ z, p z → Q z H) : if decide c = true then tC u σ H Q else tVar i σ H Q := by
  by_cases hc : c
  · rw [decide_eq_true hc, if_pos rfl]
    exact h _ (h1 hc)
  · rw [decide_eq_false hc, if_neg (by simp)]
    exact ⟨v, hv, h _ (h2 hc)⟩
end
end Cr
namespace Cr
open PySem PySem.Spec PyProof.Rows L2
theorem inV_ints (i : Int) : ∀ ns : List Int, inV (.int i) (ns.map V.int) = decide (i ∈ ns)
  | [] => rfl
  | n :: r => by
    have ih := inV_ints i r
    show (decide (n = i) || inV (.int i) (r.map V.int)) = _
    rw [ih]
    by_cases h : n = i
    · subst h
      simp
    · have h' : ¬ i = n := fun z => h z.symm
      simp [h, h']
theorem flat_ints : ∀ ns : List Int, (ns.map V.int).all flatV = true
  | [] => rfl
  | n :: r => by
    rw [List.map_cons, List.all_cons, flat_ints r]
    rfl
theorem in_tI {K : PySem.W.Frag} {H : Hp} {Q : VK} {i : Int} {p : Addr} {ns : List Int} (h : SqT K H p (ns.map V.int)) (q : Q (.bl (decide (i ∈ ns))) H) : rInU K (.int i) (.ref p) H Q :=
  .inl ⟨p, _, rfl, .inr h, rfl, flat_ints ns, by
    rw [inV_ints]
    exact q⟩
end Cr
namespace Cr
open PySem PySem.Spec PyProof.Rows L2
section
variable {K : PySem.W.Frag} {H : Hp} {Q : VK} {a b : Addr} {ns : List Int}
theorem dp_ints : ∀ ns : List Int, DpAll K H (ns.map V.int) (ns.map PyData.int)
  | [] => .nil
  | n :: r => .cons (.int n) (dp_ints r)
theorem ne_nils (h1 : H a = some (.lst [])) (h2 : H b = some (.lst [])) (q : Q (.bl false) H) : rNeU K (.ref a) (.ref b) H Q :=
  ne_dd (d := .list []) (e := .list []) (.lst (SqL.of h1) .nil) (.lst (SqL.of h2) .nil) rfl rfl q
theorem ne_ints {n : Int} (hs : SeqAt.shaped (.list ((n :: ns).map PyData.int)) = true) (h1 : H a = some (.lst ((n :: ns).map V.int))) (h2 : H b = some (.lst [])) (q : Q (.bl true) H) : rNeU K (.ref a) (.ref b) H Q :=
  ne_dd (d := .list ((n :: ns).map PyData.int)) (e := .list []) (.lst (SqL.of h1) (dp_ints _)) (.lst (SqL.of h2) .nil) hs rfl q
theorem ne_nn (q : Q (.bl false) H) : rNeU K .non .non H Q := .inl ⟨rfl, q⟩
theorem min_l {m : Int} (h : SqL K H a (ns.map V.int)) (hm : m ∈ ns) (hl : ∀ y ∈ ns, m ≤ y) (q : Q (.int m) H) : rMin K [.ref a] H Q := ⟨a, ns, rfl, h, List.length_pos_of_mem hm, fun x hx hy => by
  have h1 := hl x hx
  have h2 := hy m hm
  have : x = m := by omega
  rw [this]
  exact q⟩
end
end Cr
namespace Cr
open PySem PySem.Spec PyProof.Rows L2
/-- a conditional expression, joined -/
theorem join_e {σ : CrSt} {H : Hp} {Q : VK} {A B : TE} {c : Prop} [Decidable c] (PJ : V → Hp → Prop) (key : ∀ v H', PJ v H' → Q v H') (h1 : c → ∀ Q' : VK, (∀ v H', PJ v H' → Q' v H') → A σ H Q')
    (h2 : ¬ c → ∀ Q' : VK, (∀ v H', PJ v H' → Q' v H') → B σ H Q') : if decide c = true then A σ H Q else B σ H Q := by
  by_cases h : c
  · rw [decide_eq_true h, if_pos rfl]
    exact h1 h Q key
  · rw [decide_eq_false h, if_neg (by simp)]
    exact h2 h Q key
end Cr

namespace Cr
open PySem PySem.Spec PyProof.Rows L2 L2H
local macro_rules | `(tactic| walk_at "rd") => `(tactic| first
  | ((with_reducible refine' w_var ?hv ?_); (case hv => first | rfl | assumption))
  | (with_reducible refine w_c ?_)
  | (with_reducible refine w_op ?_)
  | (with_reducible refine w_cons ?_)
  | (with_reducible refine w_nil ?_)
  | (with_reducible refine w_cb ?_)
  | (with_reducible refine w_call ?_)
  | (with_reducible refine w_seq ?_)
  | (with_reducible refine w_asg ?_)
  | (with_reducible refine w_name ?_)
  | (with_reducible refine w_sub ?_)
  | (with_reducible refine w_ret ?_)
  | (with_reducible refine w_ifS ?_)
  | (with_reducible refine w_next ?_)
  | (with_reducible refine w_test ?_)
  | (with_reducible refine w_b ?_)
  | (with_reducible refine w_bl ?_)
  | (with_reducible refine w_and ?_)
  | (with_reducible refine w_or ?_)
  | (with_reducible refine w_not ?_)
  | (with_reducible refine w_andV ?_)
  | (with_reducible refine w_orV ?_)
  | (with_reducible refine w_notV ?_)
  | (with_reducible refine w_ifNT ?_)
  | (with_reducible refine w_ifNF ?_)
  | (with_reducible refine w_if ?_)
  | (with_reducible refine w_ifT ?_)
  | (with_reducible refine w_ifF ?_)
  | (with_reducible refine w_chain ?_)
  | (with_reducible refine add_ii ?_)
  | (with_reducible refine sub_ii ?_)
  | ((with_reducible refine mul_ii ?hc ?_); (case hc => first | exact cmul1 (by omega) (by omega) | exact cmul2 (by omega) (by omega)))
  | ((with_reducible refine div_ii ?hc ?_); (case hc => exact cdivs (by omega) (by omega)))
  | ((with_reducible refine mod_ii ?hc ?_); (case hc => omega))
  | ((with_reducible refine pow_ii ?hc ?_); (case hc => exact cpows (by omega) (by omega) (by omega) (by omega)))
  | (with_reducible refine neg_i ?_)
  | (with_reducible refine w_un ?_)
  | (with_reducible refine lt_ii ?_)
  | (with_reducible refine le_ii ?_)
  | (with_reducible refine gt_ii ?_)
  | (with_reducible refine ge_ii ?_)
  | (with_reducible refine eq_ii ?_)
  | (with_reducible refine eq_ss ?_)
  | (with_reducible refine eq_btt ?_)
  | (with_reducible refine eq_bff ?_)
  | (with_reducible refine eq_bb ?_)
  | (with_reducible refine ne_ii ?_)
  | (with_reducible refine ne_ss ?_)
  | (with_reducible refine ne_btt ?_)
  | (with_reducible refine ne_bff ?_)
  | (with_reducible refine ne_bb ?_)
  | (with_reducible refine isi_non_bool ?_)
  | (with_reducible refine isi_non_int ?_)
  | (with_reducible refine isi_non_str ?_)
  | (with_reducible refine isi_non_dict ?_)
  | (with_reducible refine isi_non_list ?_)
  | (with_reducible refine isi_non_tuple ?_)
  | (with_reducible refine isi_bl_bool ?_)
  | (with_reducible refine isi_bl_int ?_)
  | (with_reducible refine isi_bl_str ?_)
  | (with_reducible refine isi_bl_dict ?_)
  | (with_reducible refine isi_bl_list ?_)
  | (with_reducible refine isi_bl_tuple ?_)
  | (with_reducible refine isi_int_bool ?_)
  | (with_reducible refine isi_int_int ?_)
  | (with_reducible refine isi_int_str ?_)
  | (with_reducible refine isi_int_dict ?_)
  | (with_reducible refine isi_int_list ?_)
  | (with_reducible refine isi_int_tuple ?_)
  | (with_reducible refine isi_str_bool ?_)
  | (with_reducible refine isi_str_int ?_)
  | (with_reducible refine isi_str_str ?_)
  | (with_reducible refine isi_str_dict ?_)
  | (with_reducible refine isi_str_list ?_)
  | (with_reducible refine isi_str_tuple ?_)
  | (with_reducible refine is_bl_n ?_)
  | (with_reducible refine isn_bl_n ?_)
  | (with_reducible refine is_int_n ?_)
  | (with_reducible refine isn_int_n ?_)
  | (with_reducible refine is_str_n ?_)
  | (with_reducible refine isn_str_n ?_)
  | (with_reducible refine is_ref_n ?_)
  | (with_reducible refine isn_ref_n ?_)
  | (with_reducible refine is_non_n ?_)
  | (with_reducible refine isn_non_n ?_)
  | (with_reducible refine is_n ?_)
  | (with_reducible refine is_bb ?_)
  | (with_reducible refine isn_n ?_)
  | (with_reducible refine int_i ?_)
  | (with_reducible refine int_b ?_)
  | (with_reducible refine abs_i ?_)
  | (with_reducible refine max_2 ?_)
  | (with_reducible refine min_2 ?_)
  | (with_reducible refine w_drop ?_)
  | (with_reducible refine w_lst ?_)
  | (with_reducible refine w_tup ?_)
  | (with_reducible refine w_bm ?_)
  | (with_reducible refine w_sl ?_)
  | (with_reducible refine w_po ?_)
  | (with_reducible refine w_poI ?_)
  | (with_reducible refine w_no ?_)
  | (with_reducible refine w_par2 ?_)
  | (with_reducible refine par2 ?_)
  | (with_reducible refine w_kw ?_)
  | (with_reducible refine w_xf ?_)
  | (with_reducible refine w_dnew ?_)
  | (with_reducible refine w_disp ?_)
  | (with_reducible refine w_gc ?_)
  | (with_reducible refine w_gn ?_)
  | (with_reducible refine w_revL ?_)
  | (with_reducible refine w_ip ?_)
  | (with_reducible refine par3 ?_)
  | (with_reducible refine w_par3 ?_)
  | (with_reducible refine w_err ?_)
  | (with_reducible refine w_lc ?_)
  | (with_reducible refine w_while ?_)
  | (with_reducible refine w_dnin ?_)
  | (with_reducible refine w_din ?_)
  | (with_reducible refine w_dget ?_)
  | (with_reducible refine w_dput ?_)
  | (with_reducible refine w_yes ?_)
  | (with_reducible refine w_keys ?_)
  | (with_reducible refine w_keysH ?_)
  | (with_reducible refine w_enum ?_)
  | (with_reducible refine w_brk ?_)
  | (with_reducible refine w_cnt ?_)
  | (with_reducible refine w_lockE ?_)
  | (with_reducible refine w_for ?_)
  | (with_reducible refine w_rng1 ?_)
  | (with_reducible refine w_rng2 ?_)
  | (with_reducible refine w_il ?_)
  | (with_reducible refine w_it ?_)
  | (with_reducible refine w_is ?_)
  | ((with_reducible refine r_rng1 ?h1 ?h2 ?_); (case h1 => omega); (case h2 => omega))
  | ((with_reducible refine r_rng2 ?h1 ?h2 ?h3 ?h4 ?_); (case h1 => omega); (case h2 => omega); (case h3 => omega); (case h4 => omega))
  | ((with_reducible refine' w_aug ?hv ?_); (case hv => first | rfl | assumption)))
local macro_rules | `(tactic| walk_at "rds") => `(tactic| repeat (walk_at "rd"))
def topS (i : Nat) : Stmt := PySem.Challenge.pw_comerounds_k06_by_primes.main.body.getD i (.Pass ⟨0, 0, 0, 0⟩)
abbrev s_RowError : Stmt := topS 1
abbrev s_InvalidRow : Stmt := topS 2
abbrev s_is_integer : Stmt := topS 4
theorem sc_is_integer : FnScope ["value"] ["value"] (defScope s_is_integer) := ⟨rfl, rfl, rfl, by decide +kernel, rfl, by decide +kernel, by decide +kernel⟩
abbrev s_is_sequence : Stmt := topS 5
theorem sc_is_sequence : FnScope ["value"] ["value"] (defScope s_is_sequence) := ⟨rfl, rfl, rfl, by decide +kernel, rfl, by decide +kernel, by decide +kernel⟩
abbrev s_are_integers : Stmt := topS 6
theorem sc_are_integers : FnScope ["value", "least", "greatest", "item"] ["value", "least", "greatest"] (defScope s_are_integers) := ⟨rfl, rfl, rfl, by decide +kernel, rfl, by decide +kernel, by decide +kernel⟩
abbrev s_power_of : Stmt := topS 7
theorem sc_power_of : FnScope ["base", "count", "found", "square"] ["base", "count"] (defScope s_power_of) := ⟨rfl, rfl, rfl, by decide +kernel, rfl, by decide +kernel, by decide +kernel⟩
abbrev s_factors_of : Stmt := topS 9
theorem sc_factors_of : FnScope ["number", "found", "left", "l", "power"] ["number"] (defScope s_factors_of) := ⟨rfl, rfl, rfl, by decide +kernel, rfl, by decide +kernel, by decide +kernel⟩
abbrev s_is_row : Stmt := topS 12
theorem sc_is_row : FnScope ["value"] ["value"] (defScope s_is_row) := ⟨rfl, rfl, rfl, by decide +kernel, rfl, by decide +kernel, by decide +kernel⟩
abbrev s_check_row : Stmt := topS 13
theorem sc_check_row : FnScope ["row"] ["row"] (defScope s_check_row) := ⟨rfl, rfl, rfl, by decide +kernel, rfl, by decide +kernel, by decide +kernel⟩
abbrev s_by_primes : Stmt := topS 15
theorem sc_by_primes : FnScope ["row", "n", "l", "power"] ["row"] (defScope s_by_primes) := ⟨rfl, rfl, rfl, by decide +kernel, rfl, by decide +kernel, by decide +kernel⟩
abbrev s_cell : Stmt := topS 17
theorem sc_cell : FnScope ["script", "k"] ["script", "k"] (defScope s_cell) := ⟨rfl, rfl, rfl, by decide +kernel, rfl, by decide +kernel, by decide +kernel⟩
abbrev s_box : Stmt := topS 18
theorem sc_box : FnScope ["great"] ["great"] (defScope s_box) := ⟨rfl, rfl, rfl, by decide +kernel, rfl, by decide +kernel, by decide +kernel⟩
abbrev s_take : Stmt := topS 19
theorem sc_take : FnScope ["box", "many", "digit", "mixed"] ["box", "many"] (defScope s_take) := ⟨rfl, rfl, rfl, by decide +kernel, rfl, by decide +kernel, by decide +kernel⟩
abbrev s_pick : Stmt := topS 20
theorem sc_pick : FnScope ["box", "items"] ["box", "items"] (defScope s_pick) := ⟨rfl, rfl, rfl, by decide +kernel, rfl, by decide +kernel, by decide +kernel⟩
abbrev s_same : Stmt := topS 21
theorem sc_same : FnScope ["given", "due", "k", "key"] ["given", "due"] (defScope s_same) := ⟨rfl, rfl, rfl, by decide +kernel, rfl, by decide +kernel, by decide +kernel⟩
abbrev s_copy : Stmt := topS 22
theorem sc_copy : FnScope ["value", "item", "key"] ["value"] (defScope s_copy) := ⟨rfl, rfl, rfl, by decide +kernel, rfl, by decide +kernel, by decide +kernel⟩
abbrev s_very : Stmt := topS 23
theorem sc_very : FnScope ["given", "value"] ["given", "value"] (defScope s_very) := ⟨rfl, rfl, rfl, by decide +kernel, rfl, by decide +kernel, by decide +kernel⟩
abbrev s_mu : Stmt := topS 24
theorem sc_mu : FnScope ["n", "found", "left", "l"] ["n"] (defScope s_mu) := ⟨rfl, rfl, rfl, by decide +kernel, rfl, by decide +kernel, by decide +kernel⟩
abbrev s_sum : Stmt := topS 25
theorem sc_sum : FnScope ["row", "n", "d"] ["row", "n"] (defScope s_sum) := ⟨rfl, rfl, rfl, by decide +kernel, rfl, by decide +kernel, by decide +kernel⟩
abbrev s_row : Stmt := topS 26
theorem sc_row : FnScope ["rings", "n", "d"] ["rings"] (defScope s_row) := ⟨rfl, rfl, rfl, by decide +kernel, rfl, by decide +kernel, by decide +kernel⟩
abbrev s_primes : Stmt := topS 27
theorem sc_primes : FnScope ["n", "found", "left", "l", "power", "turn"] ["n"] (defScope s_primes) := ⟨rfl, rfl, rfl, by decide +kernel, rfl, by decide +kernel, by decide +kernel⟩
abbrev s_to : Stmt := topS 28
theorem sc_to : FnScope ["base", "many", "found", "turn"] ["base", "many"] (defScope s_to) := ⟨rfl, rfl, rfl, by decide +kernel, rfl, by decide +kernel, by decide +kernel⟩
abbrev s_bars : Stmt := topS 29
theorem sc_bars : FnScope ["row", "n", "l", "e"] ["row", "n"] (defScope s_bars) := ⟨rfl, rfl, rfl, by decide +kernel, rfl, by decide +kernel, by decide +kernel⟩
abbrev s_first : Stmt := topS 30
theorem sc_first : FnScope ["row", "n"] ["row"] (defScope s_first) := ⟨rfl, rfl, rfl, by decide +kernel, rfl, by decide +kernel, by decide +kernel⟩
abbrev s_bent : Stmt := topS 31
theorem sc_bent : FnScope ["box", "row", "found", "at", "parts", "l", "e", "n"] ["box", "row"] (defScope s_bent) := ⟨rfl, rfl, rfl, by decide +kernel, rfl, by decide +kernel, by decide +kernel⟩
abbrev s_net : Stmt := topS 32
theorem sc_net : FnScope ["box", "many", "wide", "way", "rings", "k", "ring"] ["box", "many", "wide"] (defScope s_net) := ⟨rfl, rfl, rfl, by decide +kernel, rfl, by decide +kernel, by decide +kernel⟩
abbrev s_some_row : Stmt := topS 33
theorem sc_some_row : FnScope ["box", "most", "wide", "many", "row", "way", "k"] ["box", "most", "wide"] (defScope s_some_row) := ⟨rfl, rfl, rfl, by decide +kernel, rfl, by decide +kernel, by decide +kernel⟩
abbrev s_no_row : Stmt := topS 34
theorem sc_no_row : FnScope ["box", "some"] ["box"] (defScope s_no_row) := ⟨rfl, rfl, rfl, by decide +kernel, rfl, by decide +kernel, by decide +kernel⟩
abbrev s_due : Stmt := topS 35
theorem sc_due : FnScope ["row", "first", "barred", "n"] ["row"] (defScope s_due) := ⟨rfl, rfl, rfl, by decide +kernel, rfl, by decide +kernel, by decide +kernel⟩
abbrev s_told : Stmt := topS 36
theorem sc_told : FnScope ["row", "named"] ["row", "named"] (defScope s_told) := ⟨rfl, rfl, rfl, by decide +kernel, rfl, by decide +kernel, by decide +kernel⟩
abbrev s_row_right : Stmt := topS 37
theorem sc_row_right : FnScope ["box", "row", "named", "due", "given", "cut", "factor", "n", "l", "later", "told", "k", "term"] ["box", "row", "named"] (defScope s_row_right) := ⟨rfl, rfl, rfl, by decide +kernel, rfl, by decide +kernel, by decide +kernel⟩
abbrev s_refused_right : Stmt := topS 38
theorem sc_refused_right : FnScope ["box", "named", "turn", "bad", "e"] ["box", "named"] (defScope s_refused_right) := ⟨rfl, rfl, rfl, by decide +kernel, rfl, by decide +kernel, by decide +kernel⟩
abbrev s_law : Stmt := topS 39
theorem sc_law : FnScope ["script", "k", "box", "named", "wide", "most", "turn"] ["script"] (defScope s_law) := ⟨rfl, rfl, rfl, by decide +kernel, rfl, by decide +kernel, by decide +kernel⟩
def pi_by_primes_0_row {α : Type} (us ws : List α) : List α := match us, ws with
  | [], [b0] => [b0]
  | _, _ => []
theorem kw_by_primes_0_row : Kw "by_primes" s_by_primes ["row"] ["row"] 0 pi_by_primes_0_row :=
  ⟨fun _ _ _ _ _ _ us ws h1 h2 => match us, ws, h1, h2 with | [], [_], _, _ => rfl,
   fun h1 h2 r z => by
    rename_i vs zs us ws
    match vs, zs, us, ws, h1, h2, r, z with
    | [], [_], _, _, _, _, .nil, .cons z0 (.nil) => exact .cons z0 (.nil)⟩
/-- where the classes stand -/
structure Ad where
  RowError : Addr
  InvalidRow : Addr
/-- what the top leaves -/
structure Txt (K : PySem.W.Frag) (mg : Str → Option Value) (A : Ad) : Prop where
  b_abs : mg "abs" = none
  b_all : mg "all" = none
  b_bool : mg "bool" = none
  b_dict : mg "dict" = none
  b_enumerate : mg "enumerate" = none
  b_int : mg "int" = none
  b_isinstance : mg "isinstance" = none
  b_len : mg "len" = none
  b_list : mg "list" = none
  b_max : mg "max" = none
  b_min : mg "min" = none
  b_range : mg "range" = none
  b_str : mg "str" = none
  b_sum : mg "sum" = none
  b_tuple : mg "tuple" = none
  c_MOST_TERMS : ∃ u, mg "MOST_TERMS" = some u ∧ RelV (.int 60) u
  h_is_integer : Has K mg "is_integer" s_is_integer
  h_is_sequence : Has K mg "is_sequence" s_is_sequence
  h_are_integers : Has K mg "are_integers" s_are_integers
  h_power_of : Has K mg "power_of" s_power_of
  h_factors_of : Has K mg "factors_of" s_factors_of
  h_is_row : Has K mg "is_row" s_is_row
  h_check_row : Has K mg "check_row" s_check_row
  h_by_primes : Has K mg "by_primes" s_by_primes
  h_cell : Has K mg "_law_cell" s_cell
  h_box : Has K mg "_law_box" s_box
  h_take : Has K mg "_law_take" s_take
  h_pick : Has K mg "_law_pick" s_pick
  h_same : Has K mg "_law_same" s_same
  h_copy : Has K mg "_law_copy" s_copy
  h_very : Has K mg "_law_very" s_very
  h_mu : Has K mg "_law_mu" s_mu
  h_sum : Has K mg "_law_sum" s_sum
  h_row : Has K mg "_law_row" s_row
  h_primes : Has K mg "_law_primes" s_primes
  h_to : Has K mg "_law_to" s_to
  h_bars : Has K mg "_law_bars" s_bars
  h_first : Has K mg "_law_first" s_first
  h_bent : Has K mg "_law_bent" s_bent
  h_net : Has K mg "_law_net" s_net
  h_some_row : Has K mg "_law_some_row" s_some_row
  h_no_row : Has K mg "_law_no_row" s_no_row
  h_due : Has K mg "_law_due" s_due
  h_told : Has K mg "_law_told" s_told
  h_row_right : Has K mg "_law_row_right" s_row_right
  h_refused_right : Has K mg "_law_refused_right" s_refused_right
  h_law : Has K mg "law" s_law
  er_RowError : Er K mg "RowError" A.RowError
  er_InvalidRow : Er K mg "InvalidRow" A.InvalidRow
  no_InvalidRow_given : PySem.W.findIn K (.ref A.InvalidRow) "given" = some none
  in_InvalidRow : ∃ fI fd, PySem.W.findIn K (.ref A.InvalidRow) "__init__" = some (some (.ref fI)) ∧ PySem.W.typeIn K (.ref fI) = some (.type "function") ∧ Fun K "__init__" "InvalidRow.__init__" (inClass s_InvalidRow 0) fI fd
  rr : ∃ mc, ClX.CRead K A.RowError mc ∧ PySem.W.findCls K (.ref A.RowError) mc "__init__" = some (.val (.builtin "ValueError.__init__"))
  t_InvalidRow_RowError : PySem.W.exmOne K (.ref A.InvalidRow) (.ref A.RowError) = some true
  t_InvalidRow_InvalidRow : PySem.W.exmOne K (.ref A.InvalidRow) (.ref A.InvalidRow) = some true
section
variable {P : Program} {w : World} {K : PySem.W.Frag} {mg : Str → Option Value} {base : Heap} {A : Ad}
theorem sci_InvalidRow : FnScope ["self", "given"] ["self", "given"] (defScope (inClass s_InvalidRow 0)) := ⟨rfl, rfl, rfl, by decide +kernel, rfl, by decide +kernel, by decide +kernel⟩
theorem e_InvalidRow (T : Txt K mg A) : Em P w K mg base 1 "InvalidRow" A.InvalidRow ["given"] := by
  obtain ⟨fI, fd, iC, tI, F⟩ := T.in_InvalidRow
  obtain ⟨mc, cr, at_⟩ := T.rr
  refine ⟨T.er_InvalidRow, fun f hf => ?_, fI, fd, ["self", "given"], iC, tI, ?_, F.binds fun _ _ _ _ _ _ us hl => match us, hl with | [_, _], _ => rfl⟩
  · have e : f = "given" := by simpa using hf
    rw [e]
    exact T.no_InvalidRow_given
  · obtain ⟨oc, od, kV, doc, pm, an, cdv, ct, osl, rfl, lk, hcd⟩ := F.ex
    refine fn_of lk hcd sci_InvalidRow (fun vs H Q E h => ?_) fun A' outer s H vs Q E hr h => ?_
    · obtain ⟨a, as, rfl, hl, _⟩ := h
      rw [List.length_cons, hl]
      rfl
    · obtain ⟨a, as, rfl, hl, ha, q⟩ := h
      match as, hl with
      | [v], _ =>
        refine ⟨_, pss_cons (ps_expr (pe_rowinit (pl := _) T.er_RowError.gC cr at_ (pa_cons (pv 0) (pa_cons pe_str pa_nil)))) (pss_one (ps_ost (pv 0) (pv 1))), ?_⟩
        refine ⟨_, rfl, a, A.InvalidRow, _, rfl, Nat.le_of_ble_eq_true rfl, T.er_InvalidRow.oex, ha, v, rfl, .ref a, rfl, a, A.InvalidRow, rfl, T.er_InvalidRow.oex, T.no_InvalidRow_given, .inl ⟨ha, fun dx n1 n2 => q dx n1 n2⟩⟩
end

section
variable {P : Program} {w : World} {K : PySem.W.Frag} {mg : Str → Option Value} {base : Heap} {A : Ad}
theorem d_cell (T : Txt K mg A) : Df P w K mg base 1 "_law_cell" s_cell ["script", "k"] (spCell K) := by
  refine mk_df T.h_cell sc_cell (fun _ _ _ _ _ _ us hl => match us, hl with | [_, _], _ => rfl) (fun vs H Q E h => ?_) fun f cdv A' outer s H vs Q E hr h => ?_
  · obtain ⟨a, ns, k, rfl, _⟩ := h
    rfl
  · obtain ⟨a, ns, k, rfl, hS, h0, h1, q⟩ := h
    have hu := hu_of hr
    refine ⟨_, (pss_one (ps_ret (pe_ifExp (pt_cmpR o_lt (pv 1) (pe_callB (c_lenK K) (by rfl) T.b_len PySem.boot_len (pa_cons (pv 0) pa_nil)) (nomark _)) (pe_ix (ix_seqK K) (pv 0) (pv 1) (fun _ _ => rfl)) (pe_op (o_addK K) (pe_op (o_mulK K) pe_int (pv 1)) (pe_op o_mod (pe_callTy c_int (by rfl) T.b_int (by decide +kernel) (pa_cons (pe_callB (c_sumK K) (by rfl) T.b_sum (by decide +kernel) (pa_cons (pe_slice (s_anyK K) (pv 0) po_none (po_some pe_int)) pa_nil)) pa_nil)) pe_int))))), ?_⟩
    walk_at "rds"
    refine len_l hS ?_
    walk_at "rds"
    refine w_ifD (fun h => ?_) fun h => ?_
    · walk_at "rds"
      rw [List.length_map] at h
      obtain ⟨z, _, _, e⟩ := ati_of (f := V.int) h0 h
      exact ix_l hS e (q _ _ (Same.refl _))
    · walk_at "rds"
      refine sl_l hS fun p H1 np s1 e1 => ?_
      have e : cutV (ns.map V.int) none (some 1) = (ns.take 1).map V.int := by
        unfold cutV
        rw [HT.sIx_none, show HT.sIx (ns.map V.int).length (ns.map V.int).length (some 1) = min 1 (ns.map V.int).length from HT.sIx_nat _ _ 1]
        cases ns with
        | nil => rfl
        | cons x r =>
          rw [show min 1 ((x :: r).map V.int).length = 1 by simp]
          rfl
      rw [e] at e1
      walk_at "rds"
      refine sum_l (SqL.of e1) ?_
      walk_at "rds"
      exact q _ _ s1
theorem d_box (T : Txt K mg A) : Df P w K mg base 1 "_law_box" s_box ["great"] spBox := by
  refine mk_df T.h_box sc_box (fun _ _ _ _ _ _ us hl => match us, hl with | [_], _ => rfl) (fun vs H Q E h => ?_) fun f cdv A' outer s H vs Q E hr h => ?_
  · obtain ⟨i, rfl, _⟩ := h
    rfl
  · obtain ⟨i, rfl, q⟩ := h
    refine ⟨_, (pss_one (ps_ret (pe_lst (pa_cons (pe_callB c_abs (by rfl) T.b_abs (by decide +kernel) (pa_cons (pv 0) pa_nil)) (pa_cons (pe_cmpR o_ge (pe_callB c_abs (by rfl) T.b_abs (by decide +kernel) (pa_cons (pv 0) pa_nil)) (pe_op o_pow pe_int pe_int) (nomark _)) (pa_cons (pe_op o_mod (pe_callTy c_int (by rfl) T.b_int (by decide +kernel) (pa_cons (pe_callB c_abs (by rfl) T.b_abs (by decide +kernel) (pa_cons (pv 0) pa_nil)) pa_nil)) pe_int) (pa_cons pe_int pa_nil))))))), ?_⟩
    walk_at "rds"
    refine al_l (by simp) fun p H1 np s1 e1 => ?_
    refine q p _ s1 np ⟨_, _, _, _, e1, ?_, ?_, by decide, by decide⟩
    · exact Int.emod_nonneg _ (by decide)
    · exact Int.emod_lt_of_pos _ (by decide)
theorem d_take (T : Txt K mg A) : Df P w K mg base 1 "_law_take" s_take ["box", "many"] spTake := by
  refine mk_df T.h_take sc_take (fun _ _ _ _ _ _ us hl => match us, hl with | [_, _], _ => rfl) (fun vs H Q E h => ?_) fun f cdv A' outer s H vs Q E hr h => ?_
  · obtain ⟨a, m, B, rfl, _⟩ := h
    rfl
  · obtain ⟨a, m, B, rfl, ⟨g, r, c, k, hb, r0, r1, c0, c1⟩, hB, m0, m1, q⟩ := h
    unfold most at hB
    refine ⟨_, (pss_cons (ps_if (PW.pt (pw_and (pt_val (pe_ix (ix_seqK K) (pv 0) pe_int (fun _ _ => rfl))) (pw_and1 (pt_cmpR o_gt (pe_ix (ix_seqK K) (pv 0) pe_int (fun _ _ => rfl)) pe_int (nomark _)))))
  (pss_cons (ps_set (i := 2) sc_take.nd rfl (Or.inl rfl) (pe_op o_mod (pe_callTy c_int (by rfl) T.b_int (by decide +kernel) (pa_cons (pe_ix (ix_seqK K) (pv 0) pe_int (fun _ _ => rfl)) pa_nil)) (pv 1)))
  (pss_cons (ps_asg (pe_op o_fdiv (pe_ix (ix_seqK K) (pv 0) pe_int (fun _ _ => rfl)) (pv 1)) (pg_sub (pv 0) pe_int set_list))
  (pss_one (ps_ret (pv 2))))) pss_nil)
  (pss_cons (ps_asg (pe_op (o_addK K) (pe_ix (ix_seqK K) (pv 0) pe_int (fun _ _ => rfl)) pe_int) (pg_sub (pv 0) pe_int set_list))
  (pss_cons (ps_set (i := 3) sc_take.nd rfl (Or.inl rfl) (pe_op o_mod (pe_callTy c_int (by rfl) T.b_int (by decide +kernel) (pa_cons (pe_op o_pow (pe_op (o_addK K) (pe_op (o_addK K) (pe_ix (ix_seqK K) (pv 0) pe_int (fun _ _ => rfl)) (pe_op (o_mulK K) pe_int (pe_ix (ix_seqK K) (pv 0) pe_int (fun _ _ => rfl)))) pe_int) pe_int) pa_nil)) pe_int))
  (pss_one (ps_ret (pe_op o_mod (pe_callTy c_int (by rfl) T.b_int (by decide +kernel) (pa_cons (pe_op o_fdiv (pe_op o_mod (pe_callTy c_int (by rfl) T.b_int (by decide +kernel) (pa_cons (pe_op o_pow (pe_op (o_addK K) (pe_op (o_mulK K) (pv 3) pe_int) (pe_op (o_mulK K) pe_int (pe_ix (ix_seqK K) (pv 0) pe_int (fun _ _ => rfl)))) pe_int) pa_nil)) pe_int) pe_int) pa_nil)) (pv 1))))))), ?_⟩
    walk_at "rds"
    refine ix_l (SqL.of hb) (ati (m := 1) rfl) ?_
    walk_at "rds"
    refine w_if2 (fun hk => ?_) fun hk => ?_
    · walk_at "rds"
      refine ix_l (SqL.of hb) (ati (m := 0) rfl) ?_
      walk_at "rds"
      refine w_ifD (fun hg => ?_) fun hg => ?_
      · walk_at "rds"
        refine ix_l (SqL.of hb) (ati (m := 0) rfl) ?_
        walk_at "rds"
        refine ix_l (SqL.of hb) (ati (m := 0) rfl) ?_
        walk_at "rds"
        refine set_l hb (ixn (m := 0) (show 0 < 4 by decide)) ?_
        walk_at "rds"
        refine q _ _ But.upd ⟨_, _, _, _, upd_same, r0, r1, c0, by omega⟩ (Int.emod_nonneg _ (by omega)) (Int.emod_lt_of_pos _ (by omega))
      · walk_at "rds"
        refine ix_l (SqL.of hb) (ati (m := 3) rfl) ?_
        walk_at "rds"
        refine set_l hb (ixn (m := 3) (show 3 < 4 by decide)) ?_
        walk_at "rds"
        refine ix_l (SqL.of upd_same) (ati (m := 2) rfl) ?_
        walk_at "rds"
        refine ix_l (SqL.of upd_same) (ati (m := 3) rfl) ?_
        walk_at "rds"
        refine ix_l (SqL.of upd_same) (ati (m := 3) rfl) ?_
        walk_at "rds"
        exact q _ _ But.upd ⟨_, _, _, _, upd_same, r0, r1, by omega, by omega⟩ (Int.emod_nonneg _ (by omega)) (Int.emod_lt_of_pos _ (by omega))
    · walk_at "rds"
      refine ix_l (SqL.of hb) (ati (m := 3) rfl) ?_
      walk_at "rds"
      refine set_l hb (ixn (m := 3) (show 3 < 4 by decide)) ?_
      walk_at "rds"
      refine ix_l (SqL.of upd_same) (ati (m := 2) rfl) ?_
      walk_at "rds"
      refine ix_l (SqL.of upd_same) (ati (m := 3) rfl) ?_
      walk_at "rds"
      refine ix_l (SqL.of upd_same) (ati (m := 3) rfl) ?_
      walk_at "rds"
      exact q _ _ But.upd ⟨_, _, _, _, upd_same, r0, r1, by omega, by omega⟩ (Int.emod_nonneg _ (by omega)) (Int.emod_lt_of_pos _ (by omega))
theorem d_pick (T : Txt K mg A) : Df P w K mg base 2 "_law_pick" s_pick ["box", "items"] (spPick K) := by
  refine mk_df T.h_pick sc_pick (fun _ _ _ _ _ _ us hl => match us, hl with | [_, _], _ => rfl) (fun vs H Q E h => ?_) fun f cdv A' outer s H vs Q E hr h => ?_
  · obtain ⟨a, b, xs, B, rfl, _⟩ := h
    rfl
  · obtain ⟨a, b, xs, B, rfl, hb, hB, nb, hx, h0, hz, q⟩ := h
    have hl : 1 ≤ xs.length := by
      cases xs with
      | nil => exact absurd rfl h0
      | cons x r => simp
    refine ⟨_, (pss_one (ps_ret (pe_ix (ix_seqK K) (pv 1) (pcall (d_take T) hr takesN (pa_cons (pv 0) (pa_cons (pe_callB (c_lenK K) (by rfl) T.b_len PySem.boot_len (pa_cons (pv 1) pa_nil)) pa_nil))) (fun _ _ => rfl)))), ?_⟩
    walk_at "rds"
    rcases hx with hx | hx
    · refine len_l hx ?_
      walk_at "rds"
      refine ⟨a, _, B, rfl, hb, hB, by omega, by omega, fun d H' k hb' d0 d1 => ?_⟩
      obtain ⟨z, hz, _, e⟩ := ati_mem (zs := xs) (i := d) (by omega) (by omega)
      exact ix_l (hx.but k nb) e (q z H' hz k hb')
    · refine len_t hx ?_
      walk_at "rds"
      refine ⟨a, _, B, rfl, hb, hB, by omega, by omega, fun d H' k hb' d0 d1 => ?_⟩
      obtain ⟨z, hz, _, e⟩ := ati_mem (zs := xs) (i := d) (by omega) (by omega)
      exact ix_t (hx.but k nb) e (q z H' hz k hb')
end

def spSame (n : Nat) : Sp := fun vs H Q _ => ∃ (x y : V) (d : D), vs = [x, y] ∧ Rep H d x ∧ Rep H d y ∧ d.deep < n ∧ d.fit ∧ ∀ H', Same H H' → Q (.bl true) H'
section
variable {P : Program} {w : World} {K : PySem.W.Frag} {mg : Str → Option Value} {base : Heap} {A : Ad}
theorem df_zero {x : Str} {st : Stmt} {ps : List Str} {sp : Sp} (h : Has K mg x st) (z : ∀ vs H Q E, ¬ sp vs H Q E)
    (hb : ∀ (kV doc pm : Value) (an : Option Addr) (cdv ct : Value) (us : List Value), us.length = ps.length →
      bindArgs (PySem.W.fnOf x x (defArgs st) (defBody st) (defScope st) .none kV doc pm an cdv ct) ⟨us, []⟩ = pure (ps.zip us)) : Df P w K mg base 0 x st ps sp := by
  obtain ⟨f, fd, F, hm⟩ := h
  exact ⟨f, fd, F, hm, ⟨fun vs H Q E h => absurd h (z _ _ _ _), fun _ _ _ _ _ _ _ _ _ _ _ _ _ h => absurd h (z _ _ _ _)⟩, F.binds hb⟩
theorem ds_same (T : Txt K mg A) : ∀ n, Df P w K mg base n "_law_same" s_same ["given", "due"] (spSame n) := by
  intro n
  induction n with
  | zero =>
    refine df_zero T.h_same (fun vs H Q E h => ?_) (fun _ _ _ _ _ _ us hl => match us, hl with | [_, _], _ => rfl)
    obtain ⟨x, y, d, _, _, _, h, _⟩ := h
    omega
  | succ n ih =>
    refine mk_df T.h_same sc_same (fun _ _ _ _ _ _ us hl => match us, hl with | [_, _], _ => rfl) (fun vs H Q E h => ?_) fun f cdv A' outer s H vs Q E hr h => ?_
    · obtain ⟨x, y, d, rfl, _⟩ := h
      rfl
    · obtain ⟨x, y, d, rfl, r1, r2, hn, hf, q⟩ := h
      have hu : (A'.deeper (envOfC "_law_same" (defScope s_same) s.heap.objs.size f cdv)).units + 64 < cLine := hr.units
      have hu1 := hu_of hr
      refine ⟨_, (pss_cons (ps_if (PW.pt (pw_or (pt_cmpR o_is (pv 1) pe_non (nomark _)) (pw_or1 (pt_val (pe_callB (c_isiK K) (by rfl) T.b_isinstance (by decide +kernel) (pa_cons (pv 1) (pa_cons (pe_ty "bool" T.b_bool (by decide +kernel)) pa_nil)))))))
  (pss_one (ps_ret (pe_ifExp (pt_cmpR o_is (pv 1) pe_non (nomark _)) (pe_cmpR o_is (pv 0) pe_non (nomark _)) (pe_and (pe_callB (c_isiK K) (by rfl) T.b_isinstance (by decide +kernel) (pa_cons (pv 0) (pa_cons (pe_ty "bool" T.b_bool (by decide +kernel)) pa_nil))) (pe_one (pe_cmpR (o_eqK K hu) (pe_cmpR o_is (pv 0) pe_bl (nomark _)) (pe_cmpR o_is (pv 1) pe_bl (nomark _)) (nomark _))))))) pss_nil)
  (pss_cons (ps_if (pt_val (pe_callB (c_isiK K) (by rfl) T.b_isinstance (by decide +kernel) (pa_cons (pv 1) (pa_cons (pe_ty "int" T.b_int (by decide +kernel)) pa_nil))))
  (pss_one (ps_ret (pe_and (pe_callB (c_isiK K) (by rfl) T.b_isinstance (by decide +kernel) (pa_cons (pv 0) (pa_cons (pe_ty "int" T.b_int (by decide +kernel)) pa_nil))) (pe_and (pe_not (pe_callB (c_isiK K) (by rfl) T.b_isinstance (by decide +kernel) (pa_cons (pv 0) (pa_cons (pe_ty "bool" T.b_bool (by decide +kernel)) pa_nil)))) (pe_one (pe_cmpR (o_eqK K hu) (pe_op o_sub (pe_callTy c_int (by rfl) T.b_int (by decide +kernel) (pa_cons (pv 0) pa_nil)) (pv 1)) pe_int (nomark _))))))) pss_nil)
  (pss_cons (ps_if (pt_val (pe_callB (c_isiK K) (by rfl) T.b_isinstance (by decide +kernel) (pa_cons (pv 1) (pa_cons (pe_ty "str" T.b_str (by decide +kernel)) pa_nil))))
  (pss_one (ps_ret (pe_and (pe_callB (c_isiK K) (by rfl) T.b_isinstance (by decide +kernel) (pa_cons (pv 0) (pa_cons (pe_ty "str" T.b_str (by decide +kernel)) pa_nil))) (pe_one (pe_cmpR (o_eqK K hu) (pv 0) (pv 1) (nomark _)))))) pss_nil)
  (pss_cons (ps_if (pt_val (pe_callB (c_isiK K) (by rfl) T.b_isinstance (by decide +kernel) (pa_cons (pv 1) (pa_cons (pe_ty "dict" T.b_dict (by decide +kernel)) pa_nil))))
  (pss_cons (ps_if (PW.pt (pw_or (pt_not (pt_val (pe_callB (c_isiK K) (by rfl) T.b_isinstance (by decide +kernel) (pa_cons (pv 0) (pa_cons (pe_ty "dict" T.b_dict (by decide +kernel)) pa_nil))))) (pw_or1 (pt_cmpR (o_neK K hu) (pe_callB (c_lenK K) (by rfl) T.b_len PySem.boot_len (pa_cons (pv 0) pa_nil)) (pe_callB (c_lenK K) (by rfl) T.b_len PySem.boot_len (pa_cons (pv 1) pa_nil)) (nomark _)))))
  (pss_one (ps_ret pe_bl)) pss_nil)
  (pss_one (ps_ret (pe_cmpR (o_eqK K hu) (pe_lock (pe_lc (own := [("key", 3)]) (by rfl) sc_same.nd (pi_keys (pv 1)) (blkOk_by (own := [("key", 3)]) (N := ["given", "due", "k", "key"]) (sc := defScope s_same) (by decide +kernel)) (fun _ _ _ _ _ => (pg_name (i := 3) sc_same.nd rfl (Or.inl rfl))) (fun _ _ _ _ _ => (pts_one (PW.pt (pw_or (pt_cmp (pc_dnotin hu1 (pv 3) (pv 0)) (by rfl)) (pw_or1 (pt_not (pt_val (pcall ih hr takesN (pa_cons (pe_dget hu1 (pv 0) (pv 3) (fun _ _ => rfl)) (pa_cons (pe_dget hu1 (pv 1) (pv 3) (fun _ _ => rfl)) pa_nil)) (hk := Nat.le_refl _))))))))) (fun _ _ _ _ _ => (pv 3)))) (pe_lst pa_nil) (nomark _))))) pss_nil)
  (pss_cons (ps_if (PW.pt (pw_or (pt_not (pt_val (pe_callB (c_isiTK K) (by rfl) T.b_isinstance (by decide +kernel) (pa_cons (pv 1) (pa_cons (pe_tup (pa_cons (pe_ty "list" T.b_list (by decide +kernel)) (pa_cons (pe_ty "tuple" T.b_tuple (by decide +kernel)) pa_nil))) pa_nil))))) (pw_or1 (pt_not (pt_val (pe_callB (c_isiTK K) (by rfl) T.b_isinstance (by decide +kernel) (pa_cons (pv 0) (pa_cons (pe_tup (pa_cons (pe_ty "list" T.b_list (by decide +kernel)) (pa_cons (pe_ty "tuple" T.b_tuple (by decide +kernel)) pa_nil))) pa_nil))))))))
  (pss_one (ps_ret pe_bl)) pss_nil)
  (pss_cons (ps_if (PW.pt (pw_or (pt_cmpR (o_neK K hu) (pe_callB (c_isiK K) (by rfl) T.b_isinstance (by decide +kernel) (pa_cons (pv 0) (pa_cons (pe_ty "list" T.b_list (by decide +kernel)) pa_nil))) (pe_callB (c_isiK K) (by rfl) T.b_isinstance (by decide +kernel) (pa_cons (pv 1) (pa_cons (pe_ty "list" T.b_list (by decide +kernel)) pa_nil))) (nomark _)) (pw_or1 (pt_cmpR (o_neK K hu) (pe_callB (c_lenK K) (by rfl) T.b_len PySem.boot_len (pa_cons (pv 0) pa_nil)) (pe_callB (c_lenK K) (by rfl) T.b_len PySem.boot_len (pa_cons (pv 1) pa_nil)) (nomark _)))))
  (pss_one (ps_ret pe_bl)) pss_nil)
  (pss_one (ps_ret (pe_cmpR (o_eqK K hu) (pe_lc (own := [("k", 2)]) (by rfl) sc_same.nd (pi_range1 rfl T.b_range (pa_cons (pe_callB (c_lenK K) (by rfl) T.b_len PySem.boot_len (pa_cons (pv 1) pa_nil)) pa_nil)) (blkOk_by (own := [("k", 2)]) (N := ["given", "due", "k", "key"]) (sc := defScope s_same) (by decide +kernel)) (fun _ _ _ _ _ => (pg_name (i := 2) sc_same.nd rfl (Or.inl rfl))) (fun _ _ _ _ _ => (pts_one (pt_not (pt_val (pcall ih hr takesN (pa_cons (pe_ix (ix_seqK K) (pv 0) (pv 2) (fun _ _ => rfl)) (pa_cons (pe_ix (ix_seqK K) (pv 1) (pv 2) (fun _ _ => rfl)) pa_nil)) (hk := Nat.le_refl _)))))) (fun _ _ _ _ _ => (pv 2))) (pe_lst pa_nil) (nomark _)))))))))), ?_⟩
      cases d with
      | non =>
        cases r1.un_non
        cases r2.un_non
        walk_at "rds"
        exact q _ (Same.refl _)
      | bl b =>
        cases r1.un_bl
        cases r2.un_bl
        walk_at "rds"
        cases b <;> (walk_at "rds"; exact q _ (Same.refl _))
      | int i =>
        cases r1.un_int
        cases r2.un_int
        walk_at "rds"
        rw [Int.sub_self, decide_eq_true rfl]
        exact q _ (Same.refl _)
      | str s =>
        cases r1.un_str
        cases r2.un_str
        walk_at "rds"
        rw [decide_eq_true rfl]
        exact q _ (Same.refl _)
      | lst ds =>
        obtain ⟨a, xs, rfl, ha, ra⟩ := r1.un_lst
        obtain ⟨b, ys, rfl, hb, rb⟩ := r2.un_lst
        walk_at "rds"
        refine isi_lst_bool hb ?_
        walk_at "rds"
        refine isi_lst_int hb ?_
        walk_at "rds"
        refine isi_lst_str hb ?_
        walk_at "rds"
        refine isi_lst_dict hb ?_
        walk_at "rds"
        refine al_t (by simp) fun p H1 np s1 e1 => ?_
        walk_at "rds"
        refine isT_lst (s1 _ _ hb) e1 ?_
        walk_at "rds"
        refine al_t (by simp) fun p2 H2 np2 s2 e2 => ?_
        have s2 := s1.trans s2
        walk_at "rds"
        refine isT_lst (s2 _ _ ha) e2 ?_
        walk_at "rds"
        refine isi_lst_list (s2 _ _ ha) ?_
        walk_at "rds"
        refine isi_lst_list (s2 _ _ hb) ?_
        walk_at "rds"
        refine len_l (SqL.of (s2 _ _ ha)) ?_
        walk_at "rds"
        refine len_l (SqL.of (s2 _ _ hb)) ?_
        walk_at "rds"
        refine w_ifDN (fun z => absurd (by rw [ra.len, rb.len]) z) fun _ => ?_
        walk_at "rds"
        refine len_l (SqL.of (s2 _ _ hb)) ?_
        have hlen : ys.length ≤ 1000 := by
          rw [rb.len]
          unfold D.fit at hf
          exact hf.1
        walk_at "rds"
        refine lc_rng (fun C i H' => Same H H' ∧ H' C = some (.lst [])) (fun C H3 nC s3 e3 => ⟨s2.trans s3, e3⟩) (fun C i H' hi ⟨e1, e2⟩ => ?_) (fun C H' ⟨e1, e2⟩ => ?_)
        · have hi' : i < ds.length := by
            rw [← rb.len]
            simpa using hi
          obtain ⟨x, hx, rx⟩ := ra.get (List.getElem?_eq_getElem hi')
          obtain ⟨y, hy, ry⟩ := rb.get (List.getElem?_eq_getElem hi')
          walk_at "rds"
          refine ⟨rfl, ?_⟩
          walk_at "rds"
          refine ix_l (SqL.of (e1 _ _ ha)) (ati0 hx) ?_
          walk_at "rds"
          refine ix_l (SqL.of (e1 _ _ hb)) (ati0 hy) ?_
          walk_at "rds"
          refine ⟨x, y, ds[i], rfl, rx.mono e1, ry.mono e1, D.deep_at_lst hn hi', D.fit_at_lst hf hi', fun H3 e3 => ?_⟩
          walk_at "rds"
          exact ⟨e1.trans e3, e3 _ _ e2⟩
        · walk_at "rds"
          refine al_l (Nat.zero_le _) fun p3 H3 np3 s3 e3 => ?_
          refine eq_nil (s3 _ _ e2) e3 ?_
          exact q _ (e1.trans s3)
      | tup ds =>
        obtain ⟨a, xs, rfl, ha, ra⟩ := r1.un_tup
        obtain ⟨b, ys, rfl, hb, rb⟩ := r2.un_tup
        walk_at "rds"
        refine isi_tup_bool hb ?_
        walk_at "rds"
        refine isi_tup_int hb ?_
        walk_at "rds"
        refine isi_tup_str hb ?_
        walk_at "rds"
        refine isi_tup_dict hb ?_
        walk_at "rds"
        refine al_t (by simp) fun p H1 np s1 e1 => ?_
        walk_at "rds"
        refine isT_tup (s1 _ _ hb) e1 ?_
        walk_at "rds"
        refine al_t (by simp) fun p2 H2 np2 s2 e2 => ?_
        have s2 := s1.trans s2
        walk_at "rds"
        refine isT_tup (s2 _ _ ha) e2 ?_
        walk_at "rds"
        refine isi_tup_list (s2 _ _ ha) ?_
        walk_at "rds"
        refine isi_tup_list (s2 _ _ hb) ?_
        walk_at "rds"
        refine len_t (SqT.of (s2 _ _ ha)) ?_
        walk_at "rds"
        refine len_t (SqT.of (s2 _ _ hb)) ?_
        walk_at "rds"
        refine w_ifDN (fun z => absurd (by rw [ra.len, rb.len]) z) fun _ => ?_
        walk_at "rds"
        refine len_t (SqT.of (s2 _ _ hb)) ?_
        have hlen : ys.length ≤ 1000 := by
          rw [rb.len]
          unfold D.fit at hf
          exact hf.1
        walk_at "rds"
        refine lc_rng (fun C i H' => Same H H' ∧ H' C = some (.lst [])) (fun C H3 nC s3 e3 => ⟨s2.trans s3, e3⟩) (fun C i H' hi ⟨e1, e2⟩ => ?_) (fun C H' ⟨e1, e2⟩ => ?_)
        · have hi' : i < ds.length := by
            rw [← rb.len]
            simpa using hi
          obtain ⟨x, hx, rx⟩ := ra.get (List.getElem?_eq_getElem hi')
          obtain ⟨y, hy, ry⟩ := rb.get (List.getElem?_eq_getElem hi')
          walk_at "rds"
          refine ⟨rfl, ?_⟩
          walk_at "rds"
          refine ix_t (SqT.of (e1 _ _ ha)) (ati0 hx) ?_
          walk_at "rds"
          refine ix_t (SqT.of (e1 _ _ hb)) (ati0 hy) ?_
          walk_at "rds"
          refine ⟨x, y, ds[i], rfl, rx.mono e1, ry.mono e1, D.deep_at_tup hn hi', D.fit_at_tup hf hi', fun H3 e3 => ?_⟩
          walk_at "rds"
          exact ⟨e1.trans e3, e3 _ _ e2⟩
        · walk_at "rds"
          refine al_l (Nat.zero_le _) fun p3 H3 np3 s3 e3 => ?_
          refine eq_nil (s3 _ _ e2) e3 ?_
          exact q _ (e1.trans s3)
      | dct ds =>
        obtain ⟨a, xs, rfl, ha, ra⟩ := r1.un_dct
        obtain ⟨b, ys, rfl, hb, rb⟩ := r2.un_dct
        walk_at "rds"
        refine isi_dct_bool hb ?_
        walk_at "rds"
        refine isi_dct_int hb ?_
        walk_at "rds"
        refine isi_dct_str hb ?_
        walk_at "rds"
        refine isi_dct_dict hb ?_
        walk_at "rds"
        refine isi_dct_dict ha ?_
        walk_at "rds"
        refine len_d ha ?_
        walk_at "rds"
        refine len_d hb ?_
        walk_at "rds"
        refine w_ifDN (fun z => absurd (by rw [ra.len, rb.len]) z) fun _ => ?_
        have hf' := hf
        rw [D.fit_dct] at hf'
        have na : (xs.map (·.1)).Nodup := by
          rw [ra.keys]
          exact hf'.2.1
        have nb : (ys.map (·.1)).Nodup := by
          rw [rb.keys]
          exact hf'.2.1
        have hsz : D.sizeK ds < (D.dct ds).size := by
          rw [D.size_dct]
          omega
        walk_at "rds"
        refine lockE hb fun od H1 e1 b1 => ?_
        have rda : Rd H1 a (.dK xs) := by
          by_cases q : a = b
          · subst q
            rw [ha] at hb
            cases hb
            exact .inr ⟨od, e1⟩
          · exact .inl (b1 _ _ q ha)
        have rdb : Rd H1 b (.dK ys) := .inr ⟨od, e1⟩
        have ra1 : RepK H1 ds xs := ra.but r2 hsz b1
        have rb1 : RepK H1 ds ys := rb.but r2 hsz b1
        walk_at "rds"
        refine ⟨_, _, rfl, .inl ⟨_, e1, ?_⟩⟩
        refine lc_key (fun C i H' => Same H1 H' ∧ H' C = some (.lst [])) (fun C H3 nC s3 e3 => ⟨s3, e3⟩) (fun C i H' _ ⟨s, _⟩ => s _ _ e1) (fun C i k v H' hi ⟨s, e2⟩ => ?_) (fun C H' ⟨s, e2⟩ => ?_)
        · obtain ⟨hl, hi2⟩ := List.getElem?_eq_some_iff.mp hi
          have hi' : i < ds.length := by
            rw [← rb.len]
            exact hl
          obtain ⟨x, hx, rx⟩ := ra1.get (i := i) (k := (ds[i]).1) (d := (ds[i]).2) (List.getElem?_eq_getElem hi')
          obtain ⟨y, hy, ry⟩ := rb1.get (i := i) (k := (ds[i]).1) (d := (ds[i]).2) (List.getElem?_eq_getElem hi')
          rw [hi] at hy
          cases hy
          have rda' : Rd H' a (.dK xs) := rda.elim (fun h => .inl (s _ _ h)) fun ⟨o, h⟩ => .inr ⟨o, s _ _ h⟩
          have rdb' : Rd H' b (.dK ys) := .inr ⟨od, s _ _ e1⟩
          walk_at "rds"
          refine ⟨rfl, ?_⟩
          walk_at "rds"
          refine dnin_k rda' (val_at na hx) ?_
          walk_at "rds"
          refine drd_k rda' (val_at na hx) ?_
          walk_at "rds"
          refine drd_k rdb' (val_at nb hi) ?_
          walk_at "rds"
          refine ⟨x, _, (ds[i]).2, rfl, rx.mono s, ry.mono s, D.deep_at_dct hn hi', D.fit_at_dct hf hi', fun H3 e3 => ?_⟩
          walk_at "rds"
          exact ⟨s.trans e3, e3 _ _ e2⟩
        · refine ⟨s _ _ e1, ?_⟩
          have nC : ¬ C = b := fun z => by
            subst z
            rw [s _ _ e1] at e2
            cases e2
          have sb : Same H (upd H' b (.dK ys)) := same_back hb b1 s
          have e2' : upd H' b (.dK ys) C = some (.lst []) := by
            rw [upd_ne nC]
            exact e2
          walk_at "rds"
          refine al_l (Nat.zero_le _) fun p3 H3 np3 s3 e3 => ?_
          refine eq_nil (s3 _ _ e2') e3 ?_
          exact q _ (sb.trans s3)
theorem d_same (T : Txt K mg A) : Df P w K mg base 13 "_law_same" s_same ["given", "due"] (spSame 13) := ds_same T _
end

def spCopy (n : Nat) : Sp := fun vs H Q _ => ∃ (x : V) (d : D), vs = [x] ∧ Rep H d x ∧ d.deep < n ∧ d.fit ∧ ∀ y H', Same H H' → Rep (New H H') d y → Q y H'
section
variable {P : Program} {w : World} {K : PySem.W.Frag} {mg : Str → Option Value} {base : Heap} {A : Ad}
/-- what holds ahead of turn i of a copy: the list so far at C is new, and so are its items -/
def CopyAt (H H1 : Hp) (ds : List D) (C : Addr) (i : Nat) (H' : Hp) : Prop := Same H H' ∧ But C H1 H' ∧ H C = none ∧ ∃ ys, H' C = some (.lst ys) ∧ RepL (New H1 H') (ds.take i) ys
theorem ds_copy (T : Txt K mg A) : ∀ n, Df P w K mg base n "_law_copy" s_copy ["value"] (spCopy n) := by
  intro n
  induction n with
  | zero =>
    refine df_zero T.h_copy (fun vs H Q E h => ?_) (fun _ _ _ _ _ _ us hl => match us, hl with | [_], _ => rfl)
    obtain ⟨x, d, _, _, h, _⟩ := h
    omega
  | succ n ih =>
    refine mk_df T.h_copy sc_copy (fun _ _ _ _ _ _ us hl => match us, hl with | [_], _ => rfl) (fun vs H Q E h => ?_) fun f cdv A' outer s H vs Q E hr h => ?_
    · obtain ⟨x, d, rfl, _⟩ := h
      rfl
    · obtain ⟨x, d, rfl, r1, hn, hf, q⟩ := h
      have hu : (A'.deeper (envOfC "_law_copy" (defScope s_copy) s.heap.objs.size f cdv)).units + 64 < cLine := hr.units
      have hu1 := hu_of hr
      refine ⟨_, (pss_cons (ps_if (pt_val (pe_callB (c_isiK K) (by rfl) T.b_isinstance (by decide +kernel) (pa_cons (pv 0) (pa_cons (pe_ty "list" T.b_list (by decide +kernel)) pa_nil))))
  (pss_one (ps_ret (pe_lc (own := [("item", 1)]) (by rfl) sc_copy.nd (pi_seqK K (pv 0)) (blkOk_by (own := [("item", 1)]) (N := ["value", "item", "key"]) (sc := defScope s_copy) (by decide +kernel)) (fun _ _ _ _ _ => (pg_name (i := 1) sc_copy.nd rfl (Or.inl rfl))) (fun _ _ _ _ _ => pts_nil) (fun _ _ _ _ _ => (pcall ih hr takesN (pa_cons (pv 1) pa_nil) (hk := Nat.le_refl _)))))) pss_nil)
  (pss_cons (ps_if (pt_val (pe_callB (c_isiK K) (by rfl) T.b_isinstance (by decide +kernel) (pa_cons (pv 0) (pa_cons (pe_ty "tuple" T.b_tuple (by decide +kernel)) pa_nil))))
  (pss_one (ps_ret (pe_callTy (c_tupleK K) (by rfl) T.b_tuple (by decide +kernel) (pa_cons (pe_lc (own := [("item", 1)]) (by rfl) sc_copy.nd (pi_seqK K (pv 0)) (blkOk_by (own := [("item", 1)]) (N := ["value", "item", "key"]) (sc := defScope s_copy) (by decide +kernel)) (fun _ _ _ _ _ => (pg_name (i := 1) sc_copy.nd rfl (Or.inl rfl))) (fun _ _ _ _ _ => pts_nil) (fun _ _ _ _ _ => (pcall ih hr takesN (pa_cons (pv 1) pa_nil) (hk := Nat.le_refl _)))) pa_nil)))) pss_nil)
  (pss_one (ps_ret (pe_ifExp (pt_val (pe_callB (c_isiK K) (by rfl) T.b_isinstance (by decide +kernel) (pa_cons (pv 0) (pa_cons (pe_ty "dict" T.b_dict (by decide +kernel)) pa_nil)))) (pe_callTy (c_dictPK K) (by rfl) T.b_dict (by decide +kernel) (pa_cons (pe_lock (pe_lc (own := [("key", 2)]) (by rfl) sc_copy.nd (pi_keys (pv 0)) (blkOk_by (own := [("key", 2)]) (N := ["value", "item", "key"]) (sc := defScope s_copy) (by decide +kernel)) (fun _ _ _ _ _ => (pg_name (i := 2) sc_copy.nd rfl (Or.inl rfl))) (fun _ _ _ _ _ => pts_nil) (fun _ _ _ _ _ => (pe_tup (pa_cons (pv 2) (pa_cons (pcall ih hr takesN (pa_cons (pe_dget hu1 (pv 0) (pv 2) (fun _ _ => rfl)) pa_nil) (hk := Nat.le_refl _)) pa_nil)))))) pa_nil)) (pv 0)))))), ?_⟩
      cases d with
      | non =>
        cases r1.un_non
        walk_at "rds"
        exact q _ _ (Same.refl _) .non
      | bl b =>
        cases r1.un_bl
        walk_at "rds"
        exact q _ _ (Same.refl _) .bl
      | int i =>
        cases r1.un_int
        walk_at "rds"
        exact q _ _ (Same.refl _) .int
      | str s =>
        cases r1.un_str
        walk_at "rds"
        exact q _ _ (Same.refl _) .str
      | lst ds =>
        obtain ⟨a, xs, rfl, ha, ra⟩ := r1.un_lst
        have hlen : xs.length ≤ 1000 := by
          rw [ra.len]
          unfold D.fit at hf
          exact hf.1
        walk_at "rds"
        refine isi_lst_list ha ?_
        walk_at "rds"
        refine r_isl (SqL.of ha) ?_
        refine lc_lst (xs := xs) (fun C i H' => ∃ H1, Same H H1 ∧ H1 C = some (.lst []) ∧ CopyAt H H1 ds C i H') (fun C H1 nC s3 e3 => ⟨H1, s3, e3, s3, But.refl, nC, [], e3, .nil⟩) (fun C i H' _ ⟨H1, _, _, s, _⟩ => SqL.of (s _ _ ha)) (fun C i x H' hi ⟨H1, s1, c1, s, b, nC, ys, e2, ry⟩ => ?_) (fun C H' ⟨H1, s1, c1, s, b, nC, ys, e2, ry⟩ => ?_)
        · obtain ⟨hl, hi2⟩ := List.getElem?_eq_some_iff.mp hi
          have hi' : i < ds.length := by
            rw [← ra.len]
            exact hl
          obtain ⟨x', hx, rx⟩ := ra.get (List.getElem?_eq_getElem hi')
          rw [hi] at hx
          cases hx
          walk_at "rds"
          refine ⟨rfl, ?_⟩
          walk_at "rds"
          refine ⟨x, ds[i], rfl, rx.mono s, D.deep_at_lst hn hi', D.fit_at_lst hf hi', fun y H3 s3 r3 => ?_⟩
          walk_at "rds"
          have hys : ys.length < 100000 := by
            have := ry.len
            rw [List.length_take] at this
            omega
          refine push (s3 _ _ e2) hys fun H4 b4 e4 => ?_
          refine ⟨H1, s1, c1, fun c o e => b4 _ _ (ne_of_none e nC) (s3 _ _ (s _ _ e)), (b.trans (But.of s3)).trans b4, nC, _, e4, RepL.take_succ (ry.mono (New.to (fun a o e => ⟨o, e⟩) fun c o n e => b4 _ _ (fun z => by
            subst z
            rw [c1] at n
            cases n) (s3 _ _ e))) (List.getElem?_eq_getElem hi') (r3.mono (New.to (fun c o e => ?_) fun c o n e => b4 _ _ (fun z => by
            subst z
            rw [e2] at n
            cases n) e))⟩
          by_cases z : c = C
          · exact ⟨_, by rw [z]; exact e2⟩
          · exact ⟨_, b _ _ z e⟩
        · walk_at "rds"
          rw [ra.len, List.take_length] at ry
          exact q _ _ s (.lst (New.mk nC e2) (ry.mono (New.to (fun c o e => ⟨_, s1 _ _ e⟩) fun c o n e => e)))
      | tup ds =>
        obtain ⟨a, xs, rfl, ha, ra⟩ := r1.un_tup
        have hlen : xs.length ≤ 1000 := by
          rw [ra.len]
          unfold D.fit at hf
          exact hf.1
        walk_at "rds"
        refine isi_tup_list ha ?_
        walk_at "rds"
        refine isi_tup_tuple ha ?_
        walk_at "rds"
        refine r_ist (SqT.of ha) ?_
        refine lc_tpl (xs := xs) (fun C i H' => ∃ H1, Same H H1 ∧ H1 C = some (.lst []) ∧ CopyAt H H1 ds C i H') (fun C H1 nC s3 e3 => ⟨H1, s3, e3, s3, But.refl, nC, [], e3, .nil⟩) (fun C i H' _ ⟨H1, _, _, s, _⟩ => SqT.of (s _ _ ha)) (fun C i x H' hi ⟨H1, s1, c1, s, b, nC, ys, e2, ry⟩ => ?_) (fun C H' ⟨H1, s1, c1, s, b, nC, ys, e2, ry⟩ => ?_)
        · obtain ⟨hl, hi2⟩ := List.getElem?_eq_some_iff.mp hi
          have hi' : i < ds.length := by
            rw [← ra.len]
            exact hl
          obtain ⟨x', hx, rx⟩ := ra.get (List.getElem?_eq_getElem hi')
          rw [hi] at hx
          cases hx
          walk_at "rds"
          refine ⟨rfl, ?_⟩
          walk_at "rds"
          refine ⟨x, ds[i], rfl, rx.mono s, D.deep_at_tup hn hi', D.fit_at_tup hf hi', fun y H3 s3 r3 => ?_⟩
          walk_at "rds"
          have hys : ys.length < 100000 := by
            have := ry.len
            rw [List.length_take] at this
            omega
          refine push (s3 _ _ e2) hys fun H4 b4 e4 => ?_
          refine ⟨H1, s1, c1, fun c o e => b4 _ _ (ne_of_none e nC) (s3 _ _ (s _ _ e)), (b.trans (But.of s3)).trans b4, nC, _, e4, RepL.take_succ (ry.mono (New.to (fun a o e => ⟨o, e⟩) fun c o n e => b4 _ _ (fun z => by
            subst z
            rw [c1] at n
            cases n) (s3 _ _ e))) (List.getElem?_eq_getElem hi') (r3.mono (New.to (fun c o e => ?_) fun c o n e => b4 _ _ (fun z => by
            subst z
            rw [e2] at n
            cases n) e))⟩
          by_cases z : c = C
          · exact ⟨_, by rw [z]; exact e2⟩
          · exact ⟨_, b _ _ z e⟩
        · walk_at "rds"
          rw [ra.len, List.take_length] at ry
          refine tuple_l (SqL.of e2) fun p H4 np s4 e4 => ?_
          refine q _ _ (s.trans s4) (.tup (New.mk ?_ e4) (ry.mono (New.to (fun c o e => ⟨_, s1 _ _ e⟩) fun c o n e => s4 _ _ e)))
          cases z : H p with
          | none => rfl
          | some o =>
            rw [s _ _ z] at np
            cases np
      | dct ds =>
        obtain ⟨a, xs, rfl, ha, ra⟩ := r1.un_dct
        walk_at "rds"
        refine isi_dct_list ha ?_
        walk_at "rds"
        refine isi_dct_tuple ha ?_
        walk_at "rds"
        refine isi_dct_dict ha ?_
        have hf' := hf
        rw [D.fit_dct] at hf'
        have na : (xs.map (·.1)).Nodup := by
          rw [ra.keys]
          exact hf'.2.1
        have hsz : D.sizeK ds < (D.dct ds).size := by
          rw [D.size_dct]
          omega
        have hlen : xs.length ≤ 1000 := by
          rw [ra.len]
          exact hf'.1
        walk_at "rds"
        refine lockE ha fun od H0 e0 b0 => ?_
        have ra0 : RepK H0 ds xs := ra.but r1 hsz b0
        walk_at "rds"
        refine ⟨_, _, rfl, .inl ⟨_, e0, ?_⟩⟩
        refine lc_key (fun C i H' => ∃ H1, Same H0 H1 ∧ H1 C = some (.lst []) ∧ Same H0 H' ∧ But C H1 H' ∧ H0 C = none ∧ ∃ (ps : List Addr) (kvs : List (Key × V)), H' C = some (.lst (ps.map V.ref)) ∧ Paired (fun p kv => New H1 H' p = some (.tup [kV kv.1, kv.2])) ps kvs ∧ RepK (New H1 H') (ds.take i) kvs)
          (fun C H1 nC s3 e3 => ⟨H1, s3, e3, s3, But.refl, nC, [], [], e3, .nil, .nil⟩) (fun C i H' _ ⟨H1, _, _, s, _⟩ => s _ _ e0) (fun C i k v H' hi ⟨H1, s1, c1, s, b, nC, ps, kvs, e2, pp, ry⟩ => ?_) (fun C H' ⟨H1, s1, c1, s, b, nC, ps, kvs, e2, pp, ry⟩ => ?_)
        · obtain ⟨hl, hi2⟩ := List.getElem?_eq_some_iff.mp hi
          have hi' : i < ds.length := by
            rw [← ra.len]
            exact hl
          obtain ⟨x, hx, rx⟩ := ra0.get (i := i) (k := (ds[i]).1) (d := (ds[i]).2) (List.getElem?_eq_getElem hi')
          rw [hi] at hx
          cases hx
          walk_at "rds"
          refine ⟨rfl, ?_⟩
          walk_at "rds"
          refine drd_k (.inr ⟨od, s _ _ e0⟩) (val_at na hi) ?_
          walk_at "rds"
          refine ⟨_, (ds[i]).2, rfl, rx.mono s, D.deep_at_dct hn hi', D.fit_at_dct hf hi', fun y H3 s3 r3 => ?_⟩
          walk_at "rds"
          refine al_t (by simp) fun p H4 np4 s4 e4 => ?_
          have hys : (ps.map V.ref).length < 100000 := by
            have h1 := ry.len
            have h2 := paired_len pp
            rw [List.length_take] at h1
            rw [List.length_map]
            omega
          refine push (s4 _ _ (s3 _ _ e2)) hys fun H5 b5 e5 => ?_
          have new5 : Same (New H1 H') (New H1 H5) := New.to (fun a o e => ⟨o, e⟩) fun c o n e => b5 _ _ (fun z => by
            subst z
            rw [c1] at n
            cases n) (s4 _ _ (s3 _ _ e))
          have old1 : ∀ c o, H1 c = some o → ∃ u, H' c = some u := fun c o e => by
            by_cases z : c = C
            · exact ⟨_, by rw [z]; exact e2⟩
            · exact ⟨_, b _ _ z e⟩
          have np1 : H1 p = none := by
            cases z : H1 p with
            | none => rfl
            | some o =>
              obtain ⟨u, hu'⟩ := old1 _ _ z
              rw [s3 _ _ hu'] at np4
              cases np4
          have pC : p ≠ C := fun z => by
            rw [z, s3 _ _ e2] at np4
            cases np4
          refine ⟨H1, s1, c1, fun c o e => b5 _ _ (ne_of_none e nC) (s4 _ _ (s3 _ _ (s _ _ e))), ((b.trans (But.of s3)).trans (But.of s4)).trans b5, nC, ps ++ [p], kvs ++ [((ds[i]).1, y)], by rw [e5, List.map_append]; rfl, paired_snoc (F := fun (p : Addr) (kv : Key × V) => New H1 H5 p = some (.tup [kV kv.1, kv.2])) (New.mk np1 (b5 _ _ pC e4)) (paired_imp (fun p kv e => new5 _ _ e) pp), ?_⟩
          refine RepK.take_succ (ry.mono new5) (List.getElem?_eq_getElem hi') (r3.mono (New.to old1 fun c o n e => b5 _ _ (fun z => by
            subst z
            rw [e2] at n
            cases n) (s4 _ _ e)))
        · refine ⟨s _ _ e0, ?_⟩
          have h0C : H C = none := by
            cases z : H C with
            | none => rfl
            | some o =>
              have ne : C ≠ a := fun z => by
                subst z
                rw [e0] at nC
                cases nC
              rw [b0 _ _ ne z] at nC
              cases nC
          have nCa : C ≠ a := fun z => by
            subst z
            rw [e0] at nC
            cases nC
          have sb : Same H (upd H' a (.dK xs)) := same_back ha b0 s
          rw [ra.len, List.take_length] at ry
          have h01 : ∀ c o, H c = some o → ∃ u, H1 c = some u := fun c o e => by
            by_cases z : c = a
            · subst z
              exact ⟨_, s1 _ _ e0⟩
            · exact ⟨_, s1 _ _ (b0 _ _ z e)⟩
          have nwa : ∀ c, H1 c = none → c ≠ a := fun c n z => by
            subst z
            rw [s1 _ _ e0] at n
            cases n
          walk_at "rds"
          refine dict_p (kvs := kvs) (SqL.of (by rw [upd_ne nCa]; exact e2)) (paired_imp (fun p kv e => SqT.of ?_) pp) (by rw [ry.keys]; exact hf'.2.1) fun p H4 np s4 e4 => ?_
          · obtain ⟨m1, m2⟩ := New.un e
            rw [upd_ne (nwa _ m1)]
            exact m2
          · refine q _ _ (sb.trans s4) (.dct (New.mk ?_ e4) (ry.mono (New.to h01 fun c o n e => s4 _ _ ?_)))
            · cases z : H p with
              | none => rfl
              | some o =>
                rw [sb _ _ z] at np
                cases np
            · rw [upd_ne (nwa _ n)]
              exact e
theorem d_copy (T : Txt K mg A) : Df P w K mg base 13 "_law_copy" s_copy ["value"] (spCopy 13) := ds_copy T _
end

section
variable {P : Program} {w : World} {K : PySem.W.Frag} {mg : Str → Option Value} {base : Heap} {A : Ad}
theorem dsH_same (T : Txt K mg A) : ∀ n, DfH P w K mg base n "_law_same" s_same ["given", "due"] (spSame n) := by
  intro n
  induction n with
  | zero =>
    refine dfH_zero T.h_same (fun vs H Q E h => ?_) (fun _ _ _ _ _ _ us hl => match us, hl with | [_, _], _ => rfl)
    obtain ⟨x, y, d, _, _, _, h, _⟩ := h
    omega
  | succ n ih =>
    refine mk_dfH T.h_same sc_same (fun _ _ _ _ _ _ us hl => match us, hl with | [_, _], _ => rfl) (fun vs H Q E h => ?_) fun f cdv A' outer s H vs Q E p hot hr h => ?_
    · obtain ⟨x, y, d, rfl, _⟩ := h
      rfl
    · obtain ⟨x, y, d, rfl, r1, r2, hn, hf, q⟩ := h
      have hu : (A'.deeper (envOfC "_law_same" (defScope s_same) s.heap.objs.size f cdv)).units + 64 < cLine := by have := hr.un; omega
      have hu1 : (A'.deeper (envOfC "_law_same" (defScope s_same) s.heap.objs.size f cdv)).units + 1 < cLine := by have := hr.un; omega
      refine ⟨_, (pss_cons (ps_if (PW.pt (pw_or (pt_cmpR o_is (pv 1) pe_non (nomark _)) (pw_or1 (pt_val (pe_callB (c_isiK K) (by rfl) T.b_isinstance (by decide +kernel) (pa_cons (pv 1) (pa_cons (pe_ty "bool" T.b_bool (by decide +kernel)) pa_nil)))))))
  (pss_one (ps_ret (pe_ifExp (pt_cmpR o_is (pv 1) pe_non (nomark _)) (pe_cmpR o_is (pv 0) pe_non (nomark _)) (pe_and (pe_callB (c_isiK K) (by rfl) T.b_isinstance (by decide +kernel) (pa_cons (pv 0) (pa_cons (pe_ty "bool" T.b_bool (by decide +kernel)) pa_nil))) (pe_one (pe_cmpR (o_eqK K hu) (pe_cmpR o_is (pv 0) pe_bl (nomark _)) (pe_cmpR o_is (pv 1) pe_bl (nomark _)) (nomark _))))))) pss_nil)
  (pss_cons (ps_if (pt_val (pe_callB (c_isiK K) (by rfl) T.b_isinstance (by decide +kernel) (pa_cons (pv 1) (pa_cons (pe_ty "int" T.b_int (by decide +kernel)) pa_nil))))
  (pss_one (ps_ret (pe_and (pe_callB (c_isiK K) (by rfl) T.b_isinstance (by decide +kernel) (pa_cons (pv 0) (pa_cons (pe_ty "int" T.b_int (by decide +kernel)) pa_nil))) (pe_and (pe_not (pe_callB (c_isiK K) (by rfl) T.b_isinstance (by decide +kernel) (pa_cons (pv 0) (pa_cons (pe_ty "bool" T.b_bool (by decide +kernel)) pa_nil)))) (pe_one (pe_cmpR (o_eqK K hu) (pe_op o_sub (pe_callTy c_int (by rfl) T.b_int (by decide +kernel) (pa_cons (pv 0) pa_nil)) (pv 1)) pe_int (nomark _))))))) pss_nil)
  (pss_cons (ps_if (pt_val (pe_callB (c_isiK K) (by rfl) T.b_isinstance (by decide +kernel) (pa_cons (pv 1) (pa_cons (pe_ty "str" T.b_str (by decide +kernel)) pa_nil))))
  (pss_one (ps_ret (pe_and (pe_callB (c_isiK K) (by rfl) T.b_isinstance (by decide +kernel) (pa_cons (pv 0) (pa_cons (pe_ty "str" T.b_str (by decide +kernel)) pa_nil))) (pe_one (pe_cmpR (o_eqK K hu) (pv 0) (pv 1) (nomark _)))))) pss_nil)
  (pss_cons (ps_if (pt_val (pe_callB (c_isiK K) (by rfl) T.b_isinstance (by decide +kernel) (pa_cons (pv 1) (pa_cons (pe_ty "dict" T.b_dict (by decide +kernel)) pa_nil))))
  (pss_cons (ps_if (PW.pt (pw_or (pt_not (pt_val (pe_callB (c_isiK K) (by rfl) T.b_isinstance (by decide +kernel) (pa_cons (pv 0) (pa_cons (pe_ty "dict" T.b_dict (by decide +kernel)) pa_nil))))) (pw_or1 (pt_cmpR (o_neK K hu) (pe_callB (c_lenK K) (by rfl) T.b_len PySem.boot_len (pa_cons (pv 0) pa_nil)) (pe_callB (c_lenK K) (by rfl) T.b_len PySem.boot_len (pa_cons (pv 1) pa_nil)) (nomark _)))))
  (pss_one (ps_ret pe_bl)) pss_nil)
  (pss_one (ps_ret (pe_cmpR (o_eqK K hu) (pe_lock (pe_lcH (own := [("key", 3)]) ⟨p, hot, List.mem_singleton.mpr rfl⟩ sc_same.nd (pi_keysH (pv 1)) (blkOk_by (own := [("key", 3)]) (N := ["given", "due", "k", "key"]) (sc := defScope s_same) (by decide +kernel)) (fun _ _ _ _ _ p hot => (pg_name (i := 3) sc_same.nd rfl (Or.inl rfl))) (fun _ _ _ _ _ p hot => (pts_one (PW.pt (pw_or (pt_cmp (pc_dnotin hu1 (pv 3) (pv 0)) (by rfl)) (pw_or1 (pt_not (pt_val (pcallH ih hr ⟨p, hot, List.mem_singleton.mpr rfl⟩ takesN (pa_cons (pe_dget hu1 (pv 0) (pv 3) (fun _ _ => rfl)) (pa_cons (pe_dget hu1 (pv 1) (pv 3) (fun _ _ => rfl)) pa_nil)) (hk := Nat.le_refl _))))))))) (fun _ _ _ _ _ p hot => (pv 3)))) (pe_lst pa_nil) (nomark _))))) pss_nil)
  (pss_cons (ps_if (PW.pt (pw_or (pt_not (pt_val (pe_callB (c_isiTK K) (by rfl) T.b_isinstance (by decide +kernel) (pa_cons (pv 1) (pa_cons (pe_tup (pa_cons (pe_ty "list" T.b_list (by decide +kernel)) (pa_cons (pe_ty "tuple" T.b_tuple (by decide +kernel)) pa_nil))) pa_nil))))) (pw_or1 (pt_not (pt_val (pe_callB (c_isiTK K) (by rfl) T.b_isinstance (by decide +kernel) (pa_cons (pv 0) (pa_cons (pe_tup (pa_cons (pe_ty "list" T.b_list (by decide +kernel)) (pa_cons (pe_ty "tuple" T.b_tuple (by decide +kernel)) pa_nil))) pa_nil))))))))
  (pss_one (ps_ret pe_bl)) pss_nil)
  (pss_cons (ps_if (PW.pt (pw_or (pt_cmpR (o_neK K hu) (pe_callB (c_isiK K) (by rfl) T.b_isinstance (by decide +kernel) (pa_cons (pv 0) (pa_cons (pe_ty "list" T.b_list (by decide +kernel)) pa_nil))) (pe_callB (c_isiK K) (by rfl) T.b_isinstance (by decide +kernel) (pa_cons (pv 1) (pa_cons (pe_ty "list" T.b_list (by decide +kernel)) pa_nil))) (nomark _)) (pw_or1 (pt_cmpR (o_neK K hu) (pe_callB (c_lenK K) (by rfl) T.b_len PySem.boot_len (pa_cons (pv 0) pa_nil)) (pe_callB (c_lenK K) (by rfl) T.b_len PySem.boot_len (pa_cons (pv 1) pa_nil)) (nomark _)))))
  (pss_one (ps_ret pe_bl)) pss_nil)
  (pss_one (ps_ret (pe_cmpR (o_eqK K hu) (pe_lcH (own := [("k", 2)]) ⟨p, hot, List.mem_singleton.mpr rfl⟩ sc_same.nd (pi_range1H rfl T.b_range (pa_cons (pe_callB (c_lenK K) (by rfl) T.b_len PySem.boot_len (pa_cons (pv 1) pa_nil)) pa_nil)) (blkOk_by (own := [("k", 2)]) (N := ["given", "due", "k", "key"]) (sc := defScope s_same) (by decide +kernel)) (fun _ _ _ _ _ p hot => (pg_name (i := 2) sc_same.nd rfl (Or.inl rfl))) (fun _ _ _ _ _ p hot => (pts_one (pt_not (pt_val (pcallH ih hr ⟨p, hot, List.mem_singleton.mpr rfl⟩ takesN (pa_cons (pe_ix (ix_seqK K) (pv 0) (pv 2) (fun _ _ => rfl)) (pa_cons (pe_ix (ix_seqK K) (pv 1) (pv 2) (fun _ _ => rfl)) pa_nil)) (hk := Nat.le_refl _)))))) (fun _ _ _ _ _ p hot => (pv 2))) (pe_lst pa_nil) (nomark _)))))))))), ?_⟩
      cases d with
      | non =>
        cases r1.un_non
        cases r2.un_non
        walk_at "rds"
        exact q _ (Same.refl _)
      | bl b =>
        cases r1.un_bl
        cases r2.un_bl
        walk_at "rds"
        cases b <;> (walk_at "rds"; exact q _ (Same.refl _))
      | int i =>
        cases r1.un_int
        cases r2.un_int
        walk_at "rds"
        rw [Int.sub_self, decide_eq_true rfl]
        exact q _ (Same.refl _)
      | str s =>
        cases r1.un_str
        cases r2.un_str
        walk_at "rds"
        rw [decide_eq_true rfl]
        exact q _ (Same.refl _)
      | lst ds =>
        obtain ⟨a, xs, rfl, ha, ra⟩ := r1.un_lst
        obtain ⟨b, ys, rfl, hb, rb⟩ := r2.un_lst
        walk_at "rds"
        refine isi_lst_bool hb ?_
        walk_at "rds"
        refine isi_lst_int hb ?_
        walk_at "rds"
        refine isi_lst_str hb ?_
        walk_at "rds"
        refine isi_lst_dict hb ?_
        walk_at "rds"
        refine al_t (by simp) fun p H1 np s1 e1 => ?_
        walk_at "rds"
        refine isT_lst (s1 _ _ hb) e1 ?_
        walk_at "rds"
        refine al_t (by simp) fun p2 H2 np2 s2 e2 => ?_
        have s2 := s1.trans s2
        walk_at "rds"
        refine isT_lst (s2 _ _ ha) e2 ?_
        walk_at "rds"
        refine isi_lst_list (s2 _ _ ha) ?_
        walk_at "rds"
        refine isi_lst_list (s2 _ _ hb) ?_
        walk_at "rds"
        refine len_l (SqL.of (s2 _ _ ha)) ?_
        walk_at "rds"
        refine len_l (SqL.of (s2 _ _ hb)) ?_
        walk_at "rds"
        refine w_ifDN (fun z => absurd (by rw [ra.len, rb.len]) z) fun _ => ?_
        walk_at "rds"
        refine len_l (SqL.of (s2 _ _ hb)) ?_
        have hlen : ys.length ≤ 1000 := by
          rw [rb.len]
          unfold D.fit at hf
          exact hf.1
        walk_at "rds"
        refine lc_rng (fun C i H' => Same H H' ∧ H' C = some (.lst [])) (fun C H3 nC s3 e3 => ⟨s2.trans s3, e3⟩) (fun C i H' hi ⟨e1, e2⟩ => ?_) (fun C H' ⟨e1, e2⟩ => ?_)
        · have hi' : i < ds.length := by
            rw [← rb.len]
            simpa using hi
          obtain ⟨x, hx, rx⟩ := ra.get (List.getElem?_eq_getElem hi')
          obtain ⟨y, hy, ry⟩ := rb.get (List.getElem?_eq_getElem hi')
          walk_at "rds"
          refine ⟨rfl, ?_⟩
          walk_at "rds"
          refine ix_l (SqL.of (e1 _ _ ha)) (ati0 hx) ?_
          walk_at "rds"
          refine ix_l (SqL.of (e1 _ _ hb)) (ati0 hy) ?_
          walk_at "rds"
          refine ⟨x, y, ds[i], rfl, rx.mono e1, ry.mono e1, D.deep_at_lst hn hi', D.fit_at_lst hf hi', fun H3 e3 => ?_⟩
          walk_at "rds"
          exact ⟨e1.trans e3, e3 _ _ e2⟩
        · walk_at "rds"
          refine al_l (Nat.zero_le _) fun p3 H3 np3 s3 e3 => ?_
          refine eq_nil (s3 _ _ e2) e3 ?_
          exact q _ (e1.trans s3)
      | tup ds =>
        obtain ⟨a, xs, rfl, ha, ra⟩ := r1.un_tup
        obtain ⟨b, ys, rfl, hb, rb⟩ := r2.un_tup
        walk_at "rds"
        refine isi_tup_bool hb ?_
        walk_at "rds"
        refine isi_tup_int hb ?_
        walk_at "rds"
        refine isi_tup_str hb ?_
        walk_at "rds"
        refine isi_tup_dict hb ?_
        walk_at "rds"
        refine al_t (by simp) fun p H1 np s1 e1 => ?_
        walk_at "rds"
        refine isT_tup (s1 _ _ hb) e1 ?_
        walk_at "rds"
        refine al_t (by simp) fun p2 H2 np2 s2 e2 => ?_
        have s2 := s1.trans s2
        walk_at "rds"
        refine isT_tup (s2 _ _ ha) e2 ?_
        walk_at "rds"
        refine isi_tup_list (s2 _ _ ha) ?_
        walk_at "rds"
        refine isi_tup_list (s2 _ _ hb) ?_
        walk_at "rds"
        refine len_t (SqT.of (s2 _ _ ha)) ?_
        walk_at "rds"
        refine len_t (SqT.of (s2 _ _ hb)) ?_
        walk_at "rds"
        refine w_ifDN (fun z => absurd (by rw [ra.len, rb.len]) z) fun _ => ?_
        walk_at "rds"
        refine len_t (SqT.of (s2 _ _ hb)) ?_
        have hlen : ys.length ≤ 1000 := by
          rw [rb.len]
          unfold D.fit at hf
          exact hf.1
        walk_at "rds"
        refine lc_rng (fun C i H' => Same H H' ∧ H' C = some (.lst [])) (fun C H3 nC s3 e3 => ⟨s2.trans s3, e3⟩) (fun C i H' hi ⟨e1, e2⟩ => ?_) (fun C H' ⟨e1, e2⟩ => ?_)
        · have hi' : i < ds.length := by
            rw [← rb.len]
            simpa using hi
          obtain ⟨x, hx, rx⟩ := ra.get (List.getElem?_eq_getElem hi')
          obtain ⟨y, hy, ry⟩ := rb.get (List.getElem?_eq_getElem hi')
          walk_at "rds"
          refine ⟨rfl, ?_⟩
          walk_at "rds"
          refine ix_t (SqT.of (e1 _ _ ha)) (ati0 hx) ?_
          walk_at "rds"
          refine ix_t (SqT.of (e1 _ _ hb)) (ati0 hy) ?_
          walk_at "rds"
          refine ⟨x, y, ds[i], rfl, rx.mono e1, ry.mono e1, D.deep_at_tup hn hi', D.fit_at_tup hf hi', fun H3 e3 => ?_⟩
          walk_at "rds"
          exact ⟨e1.trans e3, e3 _ _ e2⟩
        · walk_at "rds"
          refine al_l (Nat.zero_le _) fun p3 H3 np3 s3 e3 => ?_
          refine eq_nil (s3 _ _ e2) e3 ?_
          exact q _ (e1.trans s3)
      | dct ds =>
        obtain ⟨a, xs, rfl, ha, ra⟩ := r1.un_dct
        obtain ⟨b, ys, rfl, hb, rb⟩ := r2.un_dct
        walk_at "rds"
        refine isi_dct_bool hb ?_
        walk_at "rds"
        refine isi_dct_int hb ?_
        walk_at "rds"
        refine isi_dct_str hb ?_
        walk_at "rds"
        refine isi_dct_dict hb ?_
        walk_at "rds"
        refine isi_dct_dict ha ?_
        walk_at "rds"
        refine len_d ha ?_
        walk_at "rds"
        refine len_d hb ?_
        walk_at "rds"
        refine w_ifDN (fun z => absurd (by rw [ra.len, rb.len]) z) fun _ => ?_
        have hf' := hf
        rw [D.fit_dct] at hf'
        have na : (xs.map (·.1)).Nodup := by
          rw [ra.keys]
          exact hf'.2.1
        have nb : (ys.map (·.1)).Nodup := by
          rw [rb.keys]
          exact hf'.2.1
        have hsz : D.sizeK ds < (D.dct ds).size := by
          rw [D.size_dct]
          omega
        walk_at "rds"
        refine lockE hb fun od H1 e1 b1 => ?_
        have rda : Rd H1 a (.dK xs) := by
          by_cases q : a = b
          · subst q
            rw [ha] at hb
            cases hb
            exact .inr ⟨od, e1⟩
          · exact .inl (b1 _ _ q ha)
        have rdb : Rd H1 b (.dK ys) := .inr ⟨od, e1⟩
        have ra1 : RepK H1 ds xs := ra.but r2 hsz b1
        have rb1 : RepK H1 ds ys := rb.but r2 hsz b1
        walk_at "rds"
        refine keysH e1 ?_
        refine lc_key (fun C i H' => Same H1 H' ∧ H' C = some (.lst [])) (fun C H3 nC s3 e3 => ⟨s3, e3⟩) (fun C i H' _ ⟨s, _⟩ => s _ _ e1) (fun C i k v H' hi ⟨s, e2⟩ => ?_) (fun C H' ⟨s, e2⟩ => ?_)
        · obtain ⟨hl, hi2⟩ := List.getElem?_eq_some_iff.mp hi
          have hi' : i < ds.length := by
            rw [← rb.len]
            exact hl
          obtain ⟨x, hx, rx⟩ := ra1.get (i := i) (k := (ds[i]).1) (d := (ds[i]).2) (List.getElem?_eq_getElem hi')
          obtain ⟨y, hy, ry⟩ := rb1.get (i := i) (k := (ds[i]).1) (d := (ds[i]).2) (List.getElem?_eq_getElem hi')
          rw [hi] at hy
          cases hy
          have rda' : Rd H' a (.dK xs) := rda.elim (fun h => .inl (s _ _ h)) fun ⟨o, h⟩ => .inr ⟨o, s _ _ h⟩
          have rdb' : Rd H' b (.dK ys) := .inr ⟨od, s _ _ e1⟩
          walk_at "rds"
          refine ⟨rfl, ?_⟩
          walk_at "rds"
          refine dnin_k rda' (val_at na hx) ?_
          walk_at "rds"
          refine drd_k rda' (val_at na hx) ?_
          walk_at "rds"
          refine drd_k rdb' (val_at nb hi) ?_
          walk_at "rds"
          refine ⟨x, _, (ds[i]).2, rfl, rx.mono s, ry.mono s, D.deep_at_dct hn hi', D.fit_at_dct hf hi', fun H3 e3 => ?_⟩
          walk_at "rds"
          exact ⟨s.trans e3, e3 _ _ e2⟩
        · refine ⟨s _ _ e1, ?_⟩
          have nC : ¬ C = b := fun z => by
            subst z
            rw [s _ _ e1] at e2
            cases e2
          have sb : Same H (upd H' b (.dK ys)) := same_back hb b1 s
          have e2' : upd H' b (.dK ys) C = some (.lst []) := by
            rw [upd_ne nC]
            exact e2
          walk_at "rds"
          refine al_l (Nat.zero_le _) fun p3 H3 np3 s3 e3 => ?_
          refine eq_nil (s3 _ _ e2') e3 ?_
          exact q _ (sb.trans s3)
theorem dH_same (T : Txt K mg A) : DfH P w K mg base 13 "_law_same" s_same ["given", "due"] (spSame 13) := dsH_same T _
end

section
variable {P : Program} {w : World} {K : PySem.W.Frag} {mg : Str → Option Value} {base : Heap} {A : Ad}
theorem dH_very (T : Txt K mg A) : DfH P w K mg base 14 "_law_very" s_very ["given", "value"] spVery := by
  refine mk_dfH T.h_very sc_very (fun _ _ _ _ _ _ us hl => match us, hl with | [_, _], _ => rfl) (fun vs H Q E h => ?_) fun f cdv A' outer s H vs Q E p hot hr h => ?_
  · obtain ⟨x, d, rfl, _⟩ := h
    rfl
  · obtain ⟨x, d, rfl, r, hd, hf, hr0, q⟩ := h
    have hu1 : (A'.deeper (envOfC "_law_very" (defScope s_very) s.heap.objs.size f cdv)).units + 1 < cLine := by have := hr.un; omega
    refine ⟨_, (pss_cons (ps_if (pt_not (pt_val (pcallH (dH_same T) hr ⟨p, hot, List.mem_singleton.mpr rfl⟩ takesN (pa_cons (pv 0) (pa_cons (pv 1) pa_nil)))))
  (pss_one (ps_ret pe_bl)) pss_nil)
  (pss_cons (ps_if (pt_val (pe_callB (c_isiK K) (by rfl) T.b_isinstance (by decide +kernel) (pa_cons (pv 1) (pa_cons (pe_ty "list" T.b_list (by decide +kernel)) pa_nil))))
  (pss_one (ps_expr (pe_bmK K PySem.F.plainAttrs_list PySem.F.slot_list_append PySem.F.type_list_append mt_append (pv 1) (pa_cons pe_str pa_nil)))) pss_nil)
  (pss_cons (ps_if (pt_val (pe_callB (c_isiK K) (by rfl) T.b_isinstance (by decide +kernel) (pa_cons (pv 1) (pa_cons (pe_ty "dict" T.b_dict (by decide +kernel)) pa_nil))))
  (pss_one (ps_dput hu1 (pv 1) pe_str pe_int rfl)) pss_nil)
  (pss_one (ps_ret (pcallH (dH_same T) hr ⟨p, hot, List.mem_singleton.mpr rfl⟩ takesN (pa_cons (pv 0) (pa_cons (pv 1) pa_nil)))))))), ?_⟩
    walk_at "rds"
    refine ⟨x, x, d, rfl, r, r, by omega, hf, fun H1 s1 => ?_⟩
    have r1 := r.mono s1
    walk_at "rds"
    cases d with
    | lst ds =>
      obtain ⟨a, xs, rfl, ha, ra⟩ := r1.un_lst
      have hl := ra.len
      unfold D.room at hr0
      rw [D.fit_lst] at hf
      rw [D.deep_lst] at hd
      refine isi_lst_list ha ?_
      walk_at "rds"
      refine ⟨tyl ha, ?_⟩
      walk_at "rds"
      refine m_appB (K := K) ha (by omega) fun H2 b2 e2 => ?_
      walk_at "rds"
      refine isi_lst_dict e2 ?_
      walk_at "rds"
      have r2 : Rep H2 (.lst (ds ++ [.str "more"])) (.ref a) := .lst e2 (RepL.snoc .str (ra.but r1 (by rw [D.size_lst]; omega) b2))
      refine ⟨_, _, _, rfl, r2, r2, by rw [D.deep_lst, D.deepL_snoc, D.deep_str]; omega, by rw [D.fit_lst]; exact ⟨by simp; omega, D.fitL_snoc D.fit_str hf.2⟩, fun H3 s3 => ?_⟩
      exact q _ (Off.but ((But.of s1).trans (b2.trans (But.of s3))))
    | dct ds =>
      obtain ⟨a, xs, rfl, ha, ra⟩ := r1.un_dct
      have hl := ra.len
      unfold D.room at hr0
      rw [D.fit_dct] at hf
      rw [D.deep_dct] at hd
      refine isi_dct_list ha ?_
      walk_at "rds"
      refine isi_dct_dict ha ?_
      walk_at "rds"
      have hn : valV xs (.inr "more") = none := val_none (by rw [ra.keys]; exact hr0.2)
      refine dwr_s ha (by omega) fun H2 b2 e2 => ?_
      rw [putK_new _ hn] at e2
      walk_at "rds"
      have r2 : Rep H2 (.dct (ds ++ [(.inr "more", .int 1)])) (.ref a) := .dct e2 (RepK.snoc .int (ra.but r1 (by rw [D.size_dct]; omega) b2))
      refine ⟨_, _, _, rfl, r2, r2, by rw [D.deep_dct, D.deepK_snoc, D.deep_int]; omega, by
        rw [D.fit_dct]
        refine ⟨by simp; omega, ?_, D.fitK_snoc D.fit_int hf.2.2⟩
        rw [List.map_append, List.nodup_append]
        refine ⟨hf.2.1, by simp, fun a ha b hb => ?_⟩
        have e : b = .inr "more" := by simpa using hb
        rw [e]
        exact fun z => hr0.2 (z ▸ ha), fun H3 s3 => ?_⟩
      exact q _ (Off.but ((But.of s1).trans (b2.trans (But.of s3))))
    | tup ds =>
      obtain ⟨a, xs, rfl, ha, ra⟩ := r1.un_tup
      refine isi_tup_list ha ?_
      walk_at "rds"
      refine isi_tup_dict ha ?_
      walk_at "rds"
      refine ⟨_, _, _, rfl, r1, r1, by omega, hf, fun H3 s3 => q _ (Off.of (s1.trans s3))⟩
    | non =>
      cases r1.un_non
      walk_at "rds"
      exact ⟨_, _, _, rfl, r1, r1, by omega, hf, fun H3 s3 => q _ (Off.of (s1.trans s3))⟩
    | bl b =>
      cases r1.un_bl
      walk_at "rds"
      exact ⟨_, _, _, rfl, r1, r1, by omega, hf, fun H3 s3 => q _ (Off.of (s1.trans s3))⟩
    | int b =>
      cases r1.un_int
      walk_at "rds"
      exact ⟨_, _, _, rfl, r1, r1, by omega, hf, fun H3 s3 => q _ (Off.of (s1.trans s3))⟩
    | str b =>
      cases r1.un_str
      walk_at "rds"
      exact ⟨_, _, _, rfl, r1, r1, by omega, hf, fun H3 s3 => q _ (Off.of (s1.trans s3))⟩
end

/-! ### plain: mu, divisors, inversion -/
def muGo : Nat → Int → Int → Int → Int
  | 0, _, _, found => found
  | f + 1, l, left, found => if l ≤ left then (if left % l = 0 then (if (left / l) % l = 0 then 0 else muGo f (l + 1) (left / l) (0 - found)) else muGo f (l + 1) left found) else found
def muN (n : Int) : Int := muGo 60 2 n 1
/-- the numbers 1 .. 60 -/
def upto : List Nat := List.range' 1 60
def divs (n : Nat) : List Nat := upto.filter fun d => n % d == 0
def sumOn (l : List Nat) (f : Nat → Int) : Int := (l.map f).sum
theorem sumOn_nil (f : Nat → Int) : sumOn [] f = 0 := rfl
theorem sumOn_cons (a : Nat) (l : List Nat) (f : Nat → Int) : sumOn (a :: l) f = f a + sumOn l f := rfl
theorem sumOn_zero : ∀ l : List Nat, sumOn l (fun _ => 0) = 0
  | [] => rfl
  | a :: l => by rw [sumOn_cons, sumOn_zero l]; rfl
theorem sumOn_add (f g : Nat → Int) : ∀ l : List Nat, sumOn l (fun x => f x + g x) = sumOn l f + sumOn l g
  | [] => rfl
  | a :: l => by rw [sumOn_cons, sumOn_cons, sumOn_cons, sumOn_add f g l]; omega
theorem sumOn_mul (c : Int) (f : Nat → Int) : ∀ l : List Nat, sumOn l (fun x => f x * c) = sumOn l f * c
  | [] => by rw [sumOn_nil, sumOn_nil, Int.zero_mul]
  | a :: l => by rw [sumOn_cons, sumOn_cons, sumOn_mul c f l, Int.add_mul]
theorem sumOn_congr {f g : Nat → Int} : ∀ {l : List Nat}, (∀ x ∈ l, f x = g x) → sumOn l f = sumOn l g
  | [], _ => rfl
  | a :: l, h => by
    rw [sumOn_cons, sumOn_cons, h a (by simp), sumOn_congr (l := l) fun x hx => h x (by simp [hx])]
theorem sumOn_swap (f : Nat → Nat → Int) (m : List Nat) : ∀ l : List Nat, sumOn l (fun x => sumOn m (f x)) = sumOn m (fun y => sumOn l fun x => f x y)
  | [] => (sumOn_zero m).symm
  | a :: l => by
    rw [sumOn_cons, sumOn_swap f m l, ← sumOn_add]
    rfl
theorem sumOn_filter (p : Nat → Bool) (f : Nat → Int) : ∀ l : List Nat, sumOn (l.filter p) f = sumOn l fun x => if p x = true then f x else 0
  | [] => rfl
  | a :: l => by
    rw [List.filter_cons, sumOn_cons, ← sumOn_filter p f l]
    by_cases h : p a = true
    · rw [if_pos h, if_pos h, sumOn_cons]
    · rw [if_neg h, if_neg h, Int.zero_add]
/-- what mu gives at d for e -/
def mm (d e : Nat) : Int := if d % e == 0 then muN ((d / e : Nat) : Int) else 0
/-- the sum by mu at n of r -/
def pp (r : Nat → Int) (n : Nat) : Int := sumOn upto fun e => mm n e * r e
def mmOk (n : Nat) (ds : List Nat) : Bool := upto.all fun e => sumOn (ds.filter fun d => d % e == 0) (fun d => muN ((d / e : Nat) : Int)) == if e = n then 1 else 0
theorem mmOk_all : (upto.all fun n => mmOk n (divs n)) = true := by decide +kernel
theorem mm_sum (n : Nat) (hn : n ∈ upto) (e : Nat) (he : e ∈ upto) : sumOn upto (fun d => if (n % d == 0) = true then mm d e else 0) = if e = n then 1 else 0 := by
  have a := List.all_eq_true.mp mmOk_all n hn
  unfold mmOk at a
  have b := eq_of_beq (List.all_eq_true.mp a e he)
  rw [sumOn_filter] at b
  rw [← b, ← sumOn_filter]
  rfl
theorem sumOn_at (n : Nat) (r : Nat → Int) : ∀ l : List Nat, l.Nodup → n ∈ l → sumOn l (fun e => (if e = n then 1 else 0) * r e) = r n
  | [], _, h => by cases h
  | a :: l, hd, h => by
    rw [List.nodup_cons] at hd
    rw [sumOn_cons]
    by_cases e : a = n
    · subst e
      rw [if_pos rfl, Int.one_mul, sumOn_congr (g := fun _ => 0) fun x hx => by rw [if_neg (fun z : x = a => hd.1 (by rw [← z]; exact hx)), Int.zero_mul], sumOn_zero]
      omega
    · rw [if_neg e, Int.zero_mul, sumOn_at n r l hd.2 (by simpa [Ne.symm e] using h), Int.zero_add]
theorem upto_nodup : upto.Nodup := by decide +kernel
theorem mem_upto {n : Nat} : n ∈ upto ↔ 1 ≤ n ∧ n ≤ 60 := by
  unfold upto
  rw [List.mem_range'_1]
  omega
/-- the divisors' sums by mu give the row back -/
theorem invert (r : Nat → Int) {n : Nat} (h : n ∈ upto) : sumOn (divs n) (pp r) = r n := by
  unfold divs pp
  rw [sumOn_filter]
  have e : ∀ x, (if (n % x == 0) = true then sumOn upto (fun e => mm x e * r e) else 0) = sumOn upto fun e => (if (n % x == 0) = true then mm x e else 0) * r e := fun x => by
    by_cases c : (n % x == 0) = true
    · rw [if_pos c]
      exact sumOn_congr fun y _ => by rw [if_pos c]
    · rw [if_neg c]
      refine (sumOn_zero upto).symm.trans (sumOn_congr fun y _ => ?_)
      rw [if_neg c, Int.zero_mul]
  rw [sumOn_congr fun x _ => e x, sumOn_swap, ← sumOn_at n r upto upto_nodup h]
  refine sumOn_congr fun y hy => ?_
  rw [sumOn_mul, mm_sum n h y hy]
theorem divs_last : ∀ n ∈ upto, divs n = ((List.range' 1 (n - 1)).filter fun d => n % d == 0) ++ [n] := by decide +kernel
theorem sumOn_app (f : Nat → Int) (m : List Nat) : ∀ l : List Nat, sumOn (l ++ m) f = sumOn l f + sumOn m f
  | [] => by rw [sumOn_nil, Int.zero_add]; rfl
  | a :: l => by rw [List.cons_append, sumOn_cons, sumOn_cons, sumOn_app f m l]; omega
/-- the recursion of the sums by mu -/
theorem pp_rec (r : Nat → Int) {n : Nat} (h : n ∈ upto) : pp r n = r n - sumOn ((List.range' 1 (n - 1)).filter fun d => n % d == 0) (pp r) := by
  have a := invert r h
  rw [divs_last n h, sumOn_app, sumOn_cons, sumOn_nil] at a
  omega
/-- .. as a sum over the divisors -/
theorem pp_divs (r : Nat → Int) (n : Nat) : pp r n = sumOn (divs n) fun d => muN ((n / d : Nat) : Int) * r d := by
  unfold pp divs
  rw [sumOn_filter]
  refine sumOn_congr fun x _ => ?_
  unfold mm
  by_cases c : (n % x == 0) = true
  · rw [if_pos c, if_pos c]
  · rw [if_neg c, if_neg c, Int.zero_mul]
theorem pp_add (r q : Nat → Int) (n : Nat) : pp (fun x => r x + q x) n = pp r n + pp q n := by
  unfold pp
  rw [← sumOn_add]
  exact sumOn_congr fun x _ => Int.mul_add _ _ _
/-- c more at n -/
theorem pp_bent (r : Nat → Int) {n : Nat} (c : Int) (m : Nat) (h : n ∈ upto) : pp (fun x => r x + if x = n then c else 0) m = pp r m + mm m n * c := by
  rw [pp_add]
  congr 1
  unfold pp
  rw [← sumOn_at n (fun x => mm m x * c) upto upto_nodup h]
  refine sumOn_congr fun x _ => ?_
  by_cases e : x = n
  · show mm m x * (if x = n then c else 0) = _
    rw [if_pos e, if_pos e, Int.one_mul]
  · show mm m x * (if x = n then c else 0) = _
    rw [if_neg e, if_neg e, Int.zero_mul, Int.mul_zero]
theorem mu_small : ∀ n ∈ upto, -1 ≤ muN ((n : Nat) : Int) ∧ muN ((n : Nat) : Int) ≤ 1 := by decide +kernel
theorem divs_small : ∀ n ∈ upto, (divs n).length ≤ 60 := by decide +kernel

section
variable {P : Program} {w : World} {K : PySem.W.Frag} {mg : Str → Option Value} {base : Heap} {A : Ad}
theorem d_is_integer (T : Txt K mg A) : Df P w K mg base 1 "is_integer" s_is_integer ["value"] spIsInt := by
  refine mk_df T.h_is_integer sc_is_integer (fun _ _ _ _ _ _ us hl => match us, hl with | [_], _ => rfl) (fun vs H Q E h => ?_) fun f cdv A' outer s H vs Q E hr h => ?_
  · obtain ⟨x, d, rfl, _⟩ := h
    rfl
  · obtain ⟨x, d, rfl, r, q⟩ := h
    refine ⟨_, (pss_one (ps_ret (pe_and (pe_callB (c_isiK K) (by rfl) T.b_isinstance (by decide +kernel) (pa_cons (pv 0) (pa_cons (pe_ty "int" T.b_int (by decide +kernel)) pa_nil))) (pe_one (pe_not (pe_callB (c_isiK K) (by rfl) T.b_isinstance (by decide +kernel) (pa_cons (pv 0) (pa_cons (pe_ty "bool" T.b_bool (by decide +kernel)) pa_nil)))))))), ?_⟩
    cases d with
    | non =>
      cases r.un_non
      walk_at "rds"
      exact q
    | bl b =>
      cases r.un_bl
      walk_at "rds"
      exact q
    | int i =>
      cases r.un_int
      walk_at "rds"
      exact q
    | str s =>
      cases r.un_str
      walk_at "rds"
      exact q
    | lst ds =>
      obtain ⟨a, xs, rfl, ha, ra⟩ := r.un_lst
      walk_at "rds"
      refine isi_lst_int ha ?_
      walk_at "rds"
      exact q
    | tup ds =>
      obtain ⟨a, xs, rfl, ha, ra⟩ := r.un_tup
      walk_at "rds"
      refine isi_tup_int ha ?_
      walk_at "rds"
      exact q
    | dct ds =>
      obtain ⟨a, xs, rfl, ha, ra⟩ := r.un_dct
      walk_at "rds"
      refine isi_dct_int ha ?_
      walk_at "rds"
      exact q
end

section
variable {P : Program} {w : World} {K : PySem.W.Frag} {mg : Str → Option Value} {base : Heap} {A : Ad}
theorem d_is_sequence (T : Txt K mg A) : Df P w K mg base 1 "is_sequence" s_is_sequence ["value"] spIsSeq := by
  refine mk_df T.h_is_sequence sc_is_sequence (fun _ _ _ _ _ _ us hl => match us, hl with | [_], _ => rfl) (fun vs H Q E h => ?_) fun f cdv A' outer s H vs Q E hr h => ?_
  · obtain ⟨x, d, rfl, _⟩ := h
    rfl
  · obtain ⟨x, d, rfl, r, q⟩ := h
    refine ⟨_, (pss_one (ps_ret (pe_callB (c_isiTK K) (by rfl) T.b_isinstance (by decide +kernel) (pa_cons (pv 0) (pa_cons (pe_tup (pa_cons (pe_ty "list" T.b_list (by decide +kernel)) (pa_cons (pe_ty "tuple" T.b_tuple (by decide +kernel)) pa_nil))) pa_nil))))), ?_⟩
    walk_at "rds"
    refine al_t (by simp) fun p H1 np s1 e1 => ?_
    walk_at "rds"
    cases d with
    | non =>
      cases r.un_non
      exact isT_non e1 (q _ s1)
    | bl b =>
      cases r.un_bl
      exact isT_bl e1 (q _ s1)
    | int i =>
      cases r.un_int
      exact isT_int e1 (q _ s1)
    | str s =>
      cases r.un_str
      exact isT_str e1 (q _ s1)
    | lst ds =>
      obtain ⟨a, xs, rfl, ha, ra⟩ := r.un_lst
      exact isT_lst (s1 _ _ ha) e1 (q _ s1)
    | tup ds =>
      obtain ⟨a, xs, rfl, ha, ra⟩ := r.un_tup
      exact isT_tup (s1 _ _ ha) e1 (q _ s1)
    | dct ds =>
      obtain ⟨a, xs, rfl, ha, ra⟩ := r.un_dct
      exact isT_dct (s1 _ _ ha) e1 (q _ s1)
end

theorem all_isInt_false {ds : List D} {i : Nat} {d : D} (h : ds[i]? = some d) (e : d.isInt = false) : ds.all D.isInt = false := by
  cases z : ds.all D.isInt with
  | false => rfl
  | true =>
    rw [List.all_eq_true] at z
    rw [z d (List.mem_of_getElem? h)] at e
    cases e
section
variable {P : Program} {w : World} {K : PySem.W.Frag} {mg : Str → Option Value} {base : Heap} {A : Ad}
theorem d_are_integers (T : Txt K mg A) : Df P w K mg base 2 "are_integers" s_are_integers ["value", "least", "greatest"] spAre := by
  refine mk_df T.h_are_integers sc_are_integers (fun _ _ _ _ _ _ us hl => match us, hl with | [_, _, _], _ => rfl) (fun vs H Q E h => ?_) fun f cdv A' outer s H vs Q E hr h => ?_
  · obtain ⟨x, d, lo, hi, rfl, _⟩ := h
    rfl
  · obtain ⟨x, d, lo, hi, rfl, r, hf, q⟩ := h
    refine ⟨_, (pss_one (ps_ret (pe_and (pcall (d_is_sequence T) hr takesN (pa_cons (pv 0) pa_nil)) (pe_and (pe_chain o_le o_le (pv 1) (pe_callB (c_lenK K) (by rfl) T.b_len PySem.boot_len (pa_cons (pv 0) pa_nil)) (pv 2)) (pe_one (pe_callB (c_allK K) (by rfl) T.b_all (by decide +kernel) (pa_cons (pe_lc (own := [("item", 3)]) (by rfl) sc_are_integers.nd (pi_seqK K (pv 0)) (blkOk_by (own := [("item", 3)]) (N := ["value", "least", "greatest", "item"]) (sc := defScope s_are_integers) (by decide +kernel)) (fun _ _ _ _ _ => (pg_name (i := 3) sc_are_integers.nd rfl (Or.inl rfl))) (fun _ _ _ _ _ => pts_nil) (fun _ _ _ _ _ => (pcall (d_is_integer T) hr takesN (pa_cons (pv 3) pa_nil)))) pa_nil))))))), ?_⟩
    walk_at "rds"
    refine ⟨x, d, rfl, r, fun H1 s1 => ?_⟩
    cases d with
    | lst ds =>
      obtain ⟨a, xs, rfl, ha, ra⟩ := (r.mono s1).un_lst
      rw [D.fit_lst] at hf
      have q : ∀ H', Same H H' → Q (.bl ((decide (lo ≤ ds.length) && decide ((ds.length : Int) ≤ hi)) && ds.all D.isInt)) H' := q
      refine ⟨true, rfl, ?_⟩
      walk_at "rds"
      refine len_l (SqL.of ha) ?_
      walk_at "rds"
      refine w_ifD (fun h1 => ?_) fun h1 => ?_
      · walk_at "rds"
        refine w_ifD (fun h2 => ?_) fun h2 => ?_
        · walk_at "rds"
          refine r_isl (SqL.of ha) ?_
          refine acc_l (fun i => ((ds.take i).map D.isInt).map V.bl) rfl (SqL.of ha) (fun C i x H' hi hp => ?_) (fun C H' s2 nC e2 => ?_)
          · obtain ⟨hl, _⟩ := List.getElem?_eq_some_iff.mp hi
            have hi' : i < ds.length := by
              rw [← ra.len]
              exact hl
            obtain ⟨x', hx, rx⟩ := ra.get (List.getElem?_eq_getElem hi')
            rw [hi] at hx
            cases hx
            walk_at "rds"
            refine ⟨rfl, ?_⟩
            walk_at "rds"
            refine ⟨x, ds[i], rfl, rx.mono hp.1, ?_⟩
            refine acc_push hp (Same.refl _) ?_ (by simp; omega)
            show ((ds.take (i + 1)).map D.isInt).map V.bl = ((ds.take i).map D.isInt).map V.bl ++ [V.bl (ds[i]).isInt]
            rw [take_map (List.getElem?_eq_getElem hi'), List.map_append]
            rfl
          · rw [ra.len, List.take_length] at e2
            walk_at "rds"
            refine all_l (SqL.of e2) ?_
            have q2 := q _ (s1.trans s2)
            rw [← ra.len, decide_eq_true h1, decide_eq_true h2, Bool.true_and, Bool.true_and] at q2
            rw [List.all_map]
            exact q2
        · walk_at "rds"
          have q2 := q _ s1
          rw [← ra.len, decide_eq_true h1, decide_eq_false h2] at q2
          exact q2
      · refine ⟨false, rfl, ?_⟩
        walk_at "rds"
        have q2 := q _ s1
        rw [← ra.len, decide_eq_false h1] at q2
        exact q2
    | tup ds =>
      obtain ⟨a, xs, rfl, ha, ra⟩ := (r.mono s1).un_tup
      rw [D.fit_tup] at hf
      have q : ∀ H', Same H H' → Q (.bl ((decide (lo ≤ ds.length) && decide ((ds.length : Int) ≤ hi)) && ds.all D.isInt)) H' := q
      refine ⟨true, rfl, ?_⟩
      walk_at "rds"
      refine len_t (SqT.of ha) ?_
      walk_at "rds"
      refine w_ifD (fun h1 => ?_) fun h1 => ?_
      · walk_at "rds"
        refine w_ifD (fun h2 => ?_) fun h2 => ?_
        · walk_at "rds"
          refine r_ist (SqT.of ha) ?_
          refine acc_t (fun i => ((ds.take i).map D.isInt).map V.bl) rfl (SqT.of ha) (fun C i x H' hi hp => ?_) (fun C H' s2 nC e2 => ?_)
          · obtain ⟨hl, _⟩ := List.getElem?_eq_some_iff.mp hi
            have hi' : i < ds.length := by
              rw [← ra.len]
              exact hl
            obtain ⟨x', hx, rx⟩ := ra.get (List.getElem?_eq_getElem hi')
            rw [hi] at hx
            cases hx
            walk_at "rds"
            refine ⟨rfl, ?_⟩
            walk_at "rds"
            refine ⟨x, ds[i], rfl, rx.mono hp.1, ?_⟩
            refine acc_push hp (Same.refl _) ?_ (by simp; omega)
            show ((ds.take (i + 1)).map D.isInt).map V.bl = ((ds.take i).map D.isInt).map V.bl ++ [V.bl (ds[i]).isInt]
            rw [take_map (List.getElem?_eq_getElem hi'), List.map_append]
            rfl
          · rw [ra.len, List.take_length] at e2
            walk_at "rds"
            refine all_l (SqL.of e2) ?_
            have q2 := q _ (s1.trans s2)
            rw [← ra.len, decide_eq_true h1, decide_eq_true h2, Bool.true_and, Bool.true_and] at q2
            rw [List.all_map]
            exact q2
        · walk_at "rds"
          have q2 := q _ s1
          rw [← ra.len, decide_eq_true h1, decide_eq_false h2] at q2
          exact q2
      · refine ⟨false, rfl, ?_⟩
        walk_at "rds"
        have q2 := q _ s1
        rw [← ra.len, decide_eq_false h1] at q2
        exact q2
    | _ =>
      refine ⟨false, rfl, ?_⟩
      walk_at "rds"
      exact q _ s1
end

def powGo : Nat → Int → Int → Int → Int × Int
  | 0, _, left, power => (left, power)
  | f + 1, l, left, power => if left % l = 0 then powGo f l (left / l) (power + 1) else (left, power)
def facGo : Nat → Int → Int → List (Int × Int) → List (Int × Int)
  | 0, _, left, fs => fs ++ if left > 1 then [(left, 1)] else []
  | f + 1, l, left, fs => if l * l ≤ left then facGo f (l + 1) (powGo 60 l left 0).1 (if (powGo 60 l left 0).2 > 0 then fs ++ [(l, (powGo 60 l left 0).2)] else fs) else fs ++ if left > 1 then [(left, 1)] else []
theorem fac_small : ∀ n ∈ upto, (facGo 60 2 (n : Int) []).length ≤ 60 := by decide +kernel
def FacAt (H : Hp) (ps : List Addr) (fs : List (Int × Int)) : Prop := Paired (fun p (f : Int × Int) => H p = some (.tup [.int f.1, .int f.2])) ps fs
def spFac : Sp := fun vs H Q _ => ∃ n : Nat, vs = [.int n] ∧ n ∈ upto ∧ ∀ p ps H', Same H H' → H' p = some (.lst (ps.map V.ref)) → FacAt H' ps (facGo 60 2 (n : Int) []) → Q (.ref p) H'
theorem powGo_s (f : Nat) (l left power : Int) : powGo (f + 1) l left power = if left % l = 0 then powGo f l (left / l) (power + 1) else (left, power) := rfl
theorem facGo_s (f : Nat) (l left : Int) (fs : List (Int × Int)) : facGo (f + 1) l left fs = if l * l ≤ left then facGo f (l + 1) (powGo 60 l left 0).1 (if (powGo 60 l left 0).2 > 0 then fs ++ [(l, (powGo 60 l left 0).2)] else fs) else fs ++ if left > 1 then [(left, 1)] else [] := by
  rw [facGo]
theorem facAt_mono {H H' : Hp} {ps : List Addr} {fs : List (Int × Int)} (h : FacAt H ps fs) (s : ∀ p xs, H p = some (.tup xs) → H' p = some (.tup xs)) : FacAt H' ps fs := paired_imp (fun p f e => s _ _ e) h

section
variable {P : Program} {w : World} {K : PySem.W.Frag} {mg : Str → Option Value} {base : Heap} {A : Ad}
theorem d_factors_of (T : Txt K mg A) : Df P w K mg base 1 "factors_of" s_factors_of ["number"] spFac := by
  refine mk_df T.h_factors_of sc_factors_of (fun _ _ _ _ _ _ us hl => match us, hl with | [_], _ => rfl) (fun vs H Q E h => ?_) fun f cdv A' outer s H vs Q E hr h => ?_
  · obtain ⟨n, rfl, _⟩ := h
    rfl
  · obtain ⟨n, rfl, hn, q⟩ := h
    have hn' := mem_upto.mp hn
    have hu : (A'.deeper (envOfC "factors_of" (defScope s_factors_of) s.heap.objs.size f cdv)).units + 64 < cLine := hr.units
    refine ⟨_, (pss_cons (ps_par3 (i := 1) (j := 2) (l := 3) (by rfl) sc_factors_of.nd rfl rfl rfl (by decide) (by decide) (by decide) rfl rfl rfl (pa_cons (pe_lst pa_nil) (pa_cons (pv 0) (pa_cons pe_int pa_nil))) (by rfl))
  (pss_cons (ps_while PassesOwn.leaving (pt_cmpR o_le (pe_op (o_mulK K) (pv 3) (pv 3)) (pv 2) (nomark _))
  (pss_cons (ps_set (i := 4) sc_factors_of.nd rfl (Or.inl rfl) pe_int)
  (pss_cons (ps_while PassesOwn.leaving (pt_cmpR (o_eqK K hu) (pe_op o_mod (pv 2) (pv 3)) pe_int (nomark _))
  (pss_one (ps_par (i := 2) (j := 4) (by rfl) sc_factors_of.nd rfl rfl (by decide) rfl rfl (pa_cons (pe_op o_fdiv (pv 2) (pv 3)) (pa_cons (pe_op (o_addK K) (pv 4) pe_int) pa_nil)) (by rfl))))
  (pss_cons (ps_if (pt_cmpR o_gt (pv 4) pe_int (nomark _))
  (pss_one (ps_expr (pe_bmK K PySem.F.plainAttrs_list PySem.F.slot_list_append PySem.F.type_list_append mt_append (pv 1) (pa_cons (pe_tup (pa_cons (pv 3) (pa_cons (pv 4) pa_nil))) pa_nil)))) pss_nil)
  (pss_one (ps_aug (i := 3) sc_factors_of.nd rfl (Or.inl rfl) pe_int ip_add))))))
  (pss_one (ps_ret (pe_op (o_addK K) (pv 1) (pe_ifExp (pt_cmpR o_gt (pv 2) pe_int (nomark _)) (pe_lst (pa_cons (pe_tup (pa_cons (pv 2) (pa_cons pe_int pa_nil))) pa_nil)) (pe_lst pa_nil))))))), ?_⟩
    walk_at "rds"
    refine al_l (by simp) fun pf H1 np1 s1 e1 => ?_
    walk_at "rds"
    refine wh (n := 60) (fun m σ H' => Same H H' ∧ ∃ (left l : Int) (pw : Option V) (ps : List Addr) (fs : List (Int × Int)), σ = [some (.int n), some (.ref pf), some (.int left), some (.int l), pw] ∧ H' pf = some (.lst (ps.map V.ref)) ∧ FacAt H' ps fs ∧
        2 ≤ l ∧ l ≤ 62 ∧ (fs.length : Int) ≤ l ∧ 1 ≤ left ∧ left ≤ 60 ∧ left < l + m ∧ facGo m l left fs = facGo 60 2 n [])
      ⟨s1, n, 2, _, [], [], rfl, e1, .nil, by omega, by omega, by simp, by omega, by omega, by omega, rfl⟩ ?_
    rintro m σ H3 ⟨s3, left, l, pw, ps, fs, rfl, el, hfs, l2, l62, hfl, lf1, lf60, hm, hv⟩
    walk_at "rds"
    refine w_ifD (fun hk => ?_) fun hk => ?_
    · refine turn ?_
      have hkn := sq_le (by omega) hk
      obtain ⟨m', rfl⟩ : ∃ m', m = m' + 1 := ⟨m - 1, by omega⟩
      rw [facGo_s, if_pos hk] at hv
      walk_at "rds"
      refine wh (n := 60) (fun m2 σ H' => H' = H3 ∧ ∃ (left2 power : Int), σ = [some (.int n), some (.ref pf), some (.int left2), some (.int l), some (.int power)] ∧ 1 ≤ left2 ∧ left2 ≤ left ∧ left2 ≤ m2 ∧ 0 ≤ power ∧ power + left2 ≤ 61 ∧
          powGo m2 l left2 power = powGo 60 l left 0)
        ⟨rfl, left, 0, rfl, lf1, by omega, by omega, by omega, by omega, rfl⟩ ?_
      rintro m2 σ H4 ⟨rfl, left2, power, rfl, a1, a2, a3, a4, a5, hv2⟩
      obtain ⟨m3, rfl⟩ : ∃ m3, m2 = m3 + 1 := ⟨m2 - 1, by omega⟩
      rw [powGo_s] at hv2
      walk_at "rds"
      refine w_ifD (fun hd => ?_) fun hd => ?_
      · rw [if_pos hd] at hv2
        have d1 : left2 / l < left2 := Int.ediv_lt_of_lt_mul (by omega) (by
          have := Int.mul_lt_mul_of_pos_left (show 1 < l by omega) (show 0 < left2 by omega)
          omega)
        have d2 : 1 ≤ left2 / l := by
          have h0 := Int.mul_ediv_add_emod left2 l
          have h3 : left2 / l ≠ 0 := fun z => by
            rw [z, Int.mul_zero] at h0
            omega
          have h4 : 0 ≤ left2 / l := Int.ediv_nonneg (by omega) (by omega)
          omega
        refine turn ?_
        walk_at "rds"
        exact ⟨m3, by omega, rfl, left2 / l, power + 1, rfl, d2, by omega, by omega, by omega, by omega, hv2⟩
      · rw [if_neg hd] at hv2
        have p1 : (powGo 60 l left 0).1 = left2 := by rw [← hv2]
        have p2 : (powGo 60 l left 0).2 = power := by rw [← hv2]
        rw [p1, p2] at hv
        walk_at "rds"
        refine w_ifD (fun hp => ?_) fun hp => ?_
        · rw [if_pos hp] at hv
          walk_at "rds"
          refine ⟨tyl el, ?_⟩
          walk_at "rds"
          refine al_t (by simp) fun pt H5 np5 s5 e5 => ?_
          walk_at "rds"
          have hpl : (ps.map V.ref).length < 100000 := by
            rw [List.length_map, paired_len hfs]
            omega
          refine m_appB (K := K) (s5 _ _ el) hpl fun H6 b6 e6 => ?_
          walk_at "rds"
          have tp : ∀ p xs, H5 p = some (.tup xs) → H6 p = some (.tup xs) := fun p xs e => b6 _ _ (fun z => by
            subst z
            rw [s5 _ _ el] at e
            cases e) e
          refine ⟨m', by omega, fun c o z => b6 _ _ (ne_of_none z np1) (s5 _ _ (s3 _ _ z)), left2, l + 1, _, ps ++ [pt], fs ++ [(l, power)], rfl, ?_, ?_, by omega, by omega, by simp; omega, a1, by omega, by omega, hv⟩
          · rw [e6, List.map_append]
            rfl
          · exact paired_snoc (F := fun p (f : Int × Int) => H6 p = some (.tup [.int f.1, .int f.2])) (tp _ _ e5) (facAt_mono hfs fun p xs e => tp _ _ (s5 _ _ e))
        · rw [if_neg hp] at hv
          walk_at "rds"
          exact ⟨m', by omega, s3, left2, l + 1, _, ps, fs, rfl, el, hfs, by omega, by omega, by omega, a1, by omega, by omega, hv⟩
    · have e : facGo m l left fs = fs ++ if left > 1 then [(left, 1)] else [] := by
        cases m with
        | zero => rfl
        | succ m =>
          rw [facGo_s, if_neg hk]
      rw [e] at hv
      have hpl : (ps.map V.ref).length ≤ 1000 := by
        rw [List.length_map, paired_len hfs]
        omega
      walk_at "rds"
      refine w_ifD (fun h1 => ?_) fun h1 => ?_
      · rw [if_pos h1] at hv
        walk_at "rds"
        refine al_t (by simp) fun pt H5 np5 s5 e5 => ?_
        walk_at "rds"
        refine al_l (by simp) fun pq H6 np6 s6 e6 => ?_
        refine add_ll (s6 _ _ (s5 _ _ el)) e6 (szl (by simp at hpl ⊢; omega)) fun pr H7 np7 s7 e7 => ?_
        refine q pr (ps ++ [pt]) _ (s3.trans (s5.trans (s6.trans s7))) (by rw [e7, List.map_append]; rfl) ?_
        rw [← hv]
        exact paired_snoc (F := fun p (f : Int × Int) => H7 p = some (.tup [.int f.1, .int f.2])) (s7 _ _ (s6 _ _ e5)) (facAt_mono hfs fun p xs e => s7 _ _ (s6 _ _ (s5 _ _ e)))
      · rw [if_neg h1, List.append_nil] at hv
        walk_at "rds"
        refine al_l (by simp) fun pq H6 np6 s6 e6 => ?_
        refine add_ll (s6 _ _ el) e6 (szl (by simp at hpl ⊢; omega)) fun pr H7 np7 s7 e7 => ?_
        refine q pr ps _ (s3.trans (s6.trans s7)) (by rw [e7, List.append_nil]) ?_
        rw [← hv]
        exact facAt_mono hfs fun p xs e => s7 _ _ (s6 _ _ e)
end

/-- the n-th of a row, from 1 -/
def at1 (ns : List Int) (n : Nat) : Int := (ns[n - 1]?).getD 0
def D.rowOf (ns : List Int) (d : D) : Prop := d = .lst (ns.map D.int) ∨ d = .tup (ns.map D.int)
theorem RepL.un_ints {H : Hp} : ∀ {ns : List Int} {xs : List V}, RepL H (ns.map D.int) xs → xs = ns.map V.int
  | [], xs, h => by
    unfold RepL at h
    exact h
  | n :: r, xs, h => by
    unfold RepL at h
    obtain ⟨x, s, rfl, h1, h2⟩ := h
    rw [h1.un_int, RepL.un_ints h2]
    rfl
theorem D.ints_of : ∀ {ds : List D}, ds.all D.isInt = true → ∃ ns : List Int, ds = ns.map D.int
  | [], _ => ⟨[], rfl⟩
  | d :: r, h => by
    rw [List.all_cons, Bool.and_eq_true] at h
    obtain ⟨ns, rfl⟩ := D.ints_of h.2
    cases d with
    | int i => exact ⟨i :: ns, rfl⟩
    | _ => cases h.1
/-- a sequence of the row's whole numbers stands at x -/
def SqI (K : PySem.W.Frag) (H : Hp) (x : V) (ns : List Int) : Prop := ∃ a, x = .ref a ∧ (SqL K H a (ns.map V.int) ∨ SqT K H a (ns.map V.int))
theorem SqI.mono {K : PySem.W.Frag} {H H' : Hp} {x : V} {ns : List Int} (h : SqI K H x ns) (s : Same H H') : SqI K H' x ns := by
  obtain ⟨a, e, h | h⟩ := h
  · exact ⟨a, e, .inl (sqL_mono h s)⟩
  · exact ⟨a, e, .inr (sqT_mono h s)⟩
theorem SqI.of {K : PySem.W.Frag} {H : Hp} {x : V} {ns : List Int} {d : D} (h : d.rowOf ns) (r : Rep H d x) : SqI K H x ns := by
  rcases h with rfl | rfl
  · obtain ⟨a, xs, rfl, ha, ra⟩ := r.un_lst
    rw [ra.un_ints] at ha
    exact ⟨a, rfl, .inl (SqL.of ha)⟩
  · obtain ⟨a, xs, rfl, ha, ra⟩ := r.un_tup
    rw [ra.un_ints] at ha
    exact ⟨a, rfl, .inr (SqT.of ha)⟩
theorem SqI.len {K : PySem.W.Frag} {H : Hp} {x : V} {ns : List Int} {Q : VK} (h : SqI K H x ns) (q : Q (.int ns.length) H) : rLenU K [x] H Q := by
  obtain ⟨a, rfl, h | h⟩ := h
  · exact len_l h (by rw [List.length_map]; exact q)
  · exact len_t h (by rw [List.length_map]; exact q)
theorem SqI.ix {K : PySem.W.Frag} {H : Hp} {x : V} {ns : List Int} {Q : VK} {i : Int} (h : SqI K H x ns) (h0 : 0 ≤ i) (h1 : i < ns.length) (q : Q (.int (at1 ns (i.toNat + 1))) H) : rIx K x (.int i) H Q := by
  have e : atI (ns.map V.int) i = some (.int (at1 ns (i.toNat + 1))) := by
    obtain ⟨z, _, hz, e⟩ := ati_of (f := V.int) h0 h1
    rw [e]
    unfold at1
    rw [Nat.add_sub_cancel, hz]
    rfl
  obtain ⟨a, rfl, h | h⟩ := h
  · exact ix_l h e q
  · exact ix_t h e q
def spIsRow : Sp := fun vs H Q _ => ∃ x d, vs = [x] ∧ Rep H d x ∧ d.fit ∧ ∀ H', Same H H' → Q (.bl (d.are 1 60)) H'
def spCheckRow (C : Addr) : Sp := fun vs H Q E => ∃ x d, vs = [x] ∧ Rep H d x ∧ d.fit ∧ ((d.are 1 60 = false ∧ Rz C "given" x H E) ∨ (d.are 1 60 = true ∧ ∀ H', Same H H' → Q .non H'))
theorem D.are_row {ns : List Int} {d : D} (h : d.rowOf ns) (h1 : 1 ≤ ns.length) (h2 : ns.length ≤ 60) : d.are 1 60 = true := by
  have all : (ns.map D.int).all D.isInt = true := by
    rw [List.all_map, List.all_eq_true]
    intro x _
    rfl
  have e : ((decide ((1 : Int) ≤ (ns.map D.int).length) && decide (((ns.map D.int).length : Int) ≤ 60)) && (ns.map D.int).all D.isInt) = true := by
    rw [all, List.length_map, decide_eq_true (by omega), decide_eq_true (by omega)]
    rfl
  rcases h with rfl | rfl
  · exact e
  · exact e

section
variable {P : Program} {w : World} {K : PySem.W.Frag} {mg : Str → Option Value} {base : Heap} {A : Ad}
theorem d_is_row (T : Txt K mg A) : Df P w K mg base 3 "is_row" s_is_row ["value"] spIsRow := by
  refine mk_df T.h_is_row sc_is_row (fun _ _ _ _ _ _ us hl => match us, hl with | [_], _ => rfl) (fun vs H Q E h => ?_) fun f cdv A' outer s H vs Q E hr h => ?_
  · obtain ⟨x, d, rfl, _⟩ := h
    rfl
  · obtain ⟨x, d, rfl, r, hf, q⟩ := h
    refine ⟨_, (pss_one (ps_ret (pcall (d_are_integers T) hr takesN (pa_cons (pv 0) (pa_cons pe_int (pa_cons (C8.pe_gc rfl T.c_MOST_TERMS) pa_nil)))))), ?_⟩
    walk_at "rds"
    exact ⟨x, d, 1, 60, rfl, r, hf, q⟩
theorem d_check_row (T : Txt K mg A) : Df P w K mg base 4 "check_row" s_check_row ["row"] (spCheckRow A.InvalidRow) := by
  refine mk_df T.h_check_row sc_check_row (fun _ _ _ _ _ _ us hl => match us, hl with | [_], _ => rfl) (fun vs H Q E h => ?_) fun f cdv A' outer s H vs Q E hr h => ?_
  · obtain ⟨x, d, rfl, _⟩ := h
    rfl
  · obtain ⟨x, d, rfl, r, hf, h⟩ := h
    refine ⟨_, (pss_one (ps_if (pt_not (pt_val (pcall (d_is_row T) hr takesX (pa_cons (pv 0) pa_nil))))
  (pss_one (ps_err (e_InvalidRow T) hr takesX (pa_cons (pv 0) pa_nil))) pss_nil)), ?_⟩
    walk_at "rds"
    refine ⟨x, d, rfl, r, hf, fun H1 s1 => ?_⟩
    refine ⟨_, rfl, ?_⟩
    rcases h with ⟨e, z⟩ | ⟨e, q⟩
    · rw [e]
      walk_at "rds"
      exact rz1 z s1
    · rw [e]
      walk_at "rds"
      exact q _ s1
end

/-! ### plain: bars by prime powers, and sums by mu -/
def facs (n : Nat) : List (Int × Int) := facGo 60 2 (n : Int) []
/-- l bars r at n -/
def barAt (r : Nat → Int) (n : Nat) (f : Int × Int) : Bool := decide (¬ (r n - r (n / f.1.toNat)) % (f.1 ^ f.2.toNat) = 0)
def badB (r : Nat → Int) (n : Nat) : Bool := (facs n).any (barAt r n)
def badS (r : Nat → Int) (n : Nat) : Bool := decide (¬ pp r n % (n : Int) = 0)
/-- linear forms: places with their coefficients -/
def evalL (r : Nat → Int) (L : List (Nat × Int)) : Int := (L.map fun p => p.2 * r p.1).sum
def coefL (L : List (Nat × Int)) (i : Nat) : Int := (L.map fun p => if p.1 = i then p.2 else 0).sum
theorem evalL_coef (r : Nat → Int) {idx : List Nat} (hn : idx.Nodup) : ∀ {L : List (Nat × Int)}, (∀ p ∈ L, p.1 ∈ idx) → evalL r L = sumOn idx fun i => coefL L i * r i
  | [], _ => by
    have : (fun i => coefL [] i * r i) = fun _ => (0 : Int) := funext fun i => by
      show (0 : Int) * r i = 0
      omega
    rw [this, sumOn_zero]
    rfl
  | p :: L, h => by
    have a := evalL_coef r hn (L := L) fun q hq => h q (List.mem_cons_of_mem _ hq)
    have e : (fun i => coefL (p :: L) i * r i) = fun i => (if i = p.1 then 1 else 0) * (p.2 * r i) + coefL L i * r i := funext fun i => by
      show ((if p.1 = i then p.2 else 0) + coefL L i) * r i = _
      rw [Int.add_mul]
      congr 1
      by_cases q : p.1 = i
      · rw [if_pos q, if_pos q.symm, Int.one_mul]
      · rw [if_neg q, if_neg (fun z => q z.symm), Int.zero_mul, Int.zero_mul]
    rw [e, sumOn_add, ← a, sumOn_at p.1 (fun i => p.2 * r i) idx hn (h p List.mem_cons_self)]
    rfl
theorem evalL_eq (r : Nat → Int) {idx : List Nat} (hn : idx.Nodup) {L M : List (Nat × Int)} (hL : ∀ p ∈ L, p.1 ∈ idx) (hM : ∀ p ∈ M, p.1 ∈ idx) (h : ∀ i ∈ idx, coefL L i = coefL M i) : evalL r L = evalL r M := by
  rw [evalL_coef r hn hL, evalL_coef r hn hM]
  exact sumOn_congr fun i hi => by rw [h i hi]
def formS (n : Nat) : List (Nat × Int) := (divs n).map fun d => (d, muN ((n / d : Nat) : Int))
def formB (n l q : Nat) : List (Nat × Int) := (divs (n / q)).flatMap fun j => [(j * q, muN ((n / q / j : Nat) : Int)), (j * q / l, - muN ((n / q / j : Nat) : Int))]
/-- everything about one factor of n -/
def facOne (n : Nat) (f : Int × Int) (l q : Nat) : Bool :=
  decide (f.1 = (l : Int)) && decide (2 ≤ l) && decide (1 ≤ f.2) && decide (f.2 ≤ 5) && decide (l ≤ 60) && decide (1 ≤ q) && decide (q ≤ 60) && decide (n % q = 0) && decide (n % l = 0) && decide (f.1 ^ f.2.toNat = (q : Int)) &&
    ((formS n).all fun p => (divs n).contains p.1) && ((formB n l q).all fun p => (divs n).contains p.1) && ((divs n).all fun d => decide (coefL (formS n) d = coefL (formB n l q) d)) &&
    ((divs (n / q)).all fun j => decide (j = n / q) || ((facs (j * q)).contains f && decide (j * q < n) && decide (1 ≤ j * q)))
def facOk (n : Nat) : Bool := (facs n).all fun f => facOne n f f.1.toNat (f.1.toNat ^ f.2.toNat)
theorem facOk_all : (upto.all facOk) = true := by decide +kernel

def prodL : List Nat → Nat
  | [] => 1
  | q :: r => q * prodL r
def copL : List Nat → Bool
  | [] => true
  | q :: r => decide (Nat.gcd q (prodL r) = 1) && copL r
theorem crt {s : Nat} : ∀ {L : List Nat}, copL L = true → (∀ q ∈ L, q ∣ s) → prodL L ∣ s
  | [], _, _ => Nat.one_dvd _
  | q :: r, h, hd => by
    unfold copL at h
    rw [Bool.and_eq_true, decide_eq_true_eq] at h
    exact Nat.Coprime.mul_dvd_of_dvd_of_dvd h.1 (hd q List.mem_cons_self) (crt h.2 fun q' hq => hd q' (List.mem_cons_of_mem _ hq))
def pows (n : Nat) : List Nat := (facs n).map fun f => f.1.toNat ^ f.2.toNat
theorem pows_ok : (upto.all fun n => copL (pows n) && decide (prodL (pows n) = n)) = true := by decide +kernel
theorem facs_at {n : Nat} (hn : n ∈ upto) {f : Int × Int} (hf : f ∈ facs n) : facOne n f f.1.toNat (f.1.toNat ^ f.2.toNat) = true := by
  have a := List.all_eq_true.mp facOk_all n hn
  exact List.all_eq_true.mp a f hf
structure FacOne (n : Nat) (f : Int × Int) (l q : Nat) : Prop where
  l_eq : f.1 = (l : Int)
  l2 : 2 ≤ l
  p1 : 1 ≤ f.2
  p5 : f.2 ≤ 5
  l60 : l ≤ 60
  q1 : 1 ≤ q
  q60 : q ≤ 60
  nq : n % q = 0
  nl : n % l = 0
  pw : f.1 ^ f.2.toNat = (q : Int)
  inS : ∀ p ∈ formS n, p.1 ∈ divs n
  inB : ∀ p ∈ formB n l q, p.1 ∈ divs n
  co : ∀ d ∈ divs n, coefL (formS n) d = coefL (formB n l q) d
  js : ∀ j ∈ divs (n / q), j = n / q ∨ (f ∈ facs (j * q) ∧ j * q < n ∧ 1 ≤ j * q)
theorem facOne_of {n : Nat} {f : Int × Int} {l q : Nat} (h : facOne n f l q = true) : FacOne n f l q := by
  unfold facOne at h
  simp only [Bool.and_eq_true, List.all_eq_true, decide_eq_true_eq, Bool.or_eq_true] at h
  obtain ⟨⟨⟨⟨⟨⟨⟨⟨⟨⟨⟨⟨⟨h1, h2⟩, h3⟩, h4⟩, h5⟩, h6⟩, h7⟩, h8⟩, h9⟩, h10⟩, h11⟩, h12⟩, h13⟩, h14⟩ := h
  exact ⟨h1, h2, h3, h4, h5, h6, h7, h8, h9, h10, fun p hp => List.contains_iff_mem.mp (h11 p hp), fun p hp => List.contains_iff_mem.mp (h12 p hp), h13, fun j hj => (h14 j hj).imp id fun z => ⟨List.contains_iff_mem.mp z.1.1, z.1.2, z.2⟩⟩
theorem divs_nodup (n : Nat) : (divs n).Nodup := upto_nodup.filter _
theorem pp_form (r : Nat → Int) (n : Nat) : pp r n = evalL r (formS n) := by
  rw [pp_divs]
  unfold sumOn evalL formS
  rw [List.map_map]
  rfl
theorem evalL_B (r : Nat → Int) (n l q : Nat) : evalL r (formB n l q) = ((divs (n / q)).map fun j => muN ((n / q / j : Nat) : Int) * (r (j * q) - r (j * q / l))).sum := by
  unfold formB
  generalize divs (n / q) = js
  induction js with
  | nil => rfl
  | cons j js ih =>
    rw [List.flatMap_cons, List.map_cons, List.sum_cons, ← ih]
    unfold evalL
    rw [List.map_append, List.sum_append]
    congr 1
    show muN _ * r (j * q) + (- muN _ * r (j * q / l) + 0) = _
    rw [Int.mul_sub, Int.neg_mul]
    omega
theorem dvd_rest {q : Int} {t : Nat → Int} {J : Nat} : ∀ {js : List Nat}, js.Nodup → (∀ j ∈ js, j ≠ J → q ∣ t j) → (J ∉ js → q ∣ (js.map t).sum) ∧ (J ∈ js → q ∣ (js.map t).sum - t J)
  | [], _, _ => ⟨fun _ => Int.dvd_zero _, fun h => absurd h List.not_mem_nil⟩
  | j :: js, hd, h => by
    rw [List.nodup_cons] at hd
    have ih := dvd_rest hd.2 fun i hi => h i (List.mem_cons_of_mem _ hi)
    rw [List.map_cons, List.sum_cons]
    refine ⟨fun n => ?_, fun n => ?_⟩
    · rw [List.mem_cons, not_or] at n
      exact Int.dvd_add (h j List.mem_cons_self (Ne.symm n.1)) (ih.1 n.2)
    · by_cases e : j = J
      · subst e
        have := ih.1 hd.1
        have e2 : t j + (js.map t).sum - t j = (js.map t).sum := by omega
        rw [e2]
        exact this
      · have m : J ∈ js := by
          rcases List.mem_cons.mp n with z | z
          · exact absurd z.symm e
          · exact z
        have e2 : t j + (js.map t).sum - t J = t j + ((js.map t).sum - t J) := by omega
        rw [e2]
        exact Int.dvd_add (h j List.mem_cons_self e) (ih.2 m)
theorem self_divs {m : Nat} (h : m ∈ upto) : m ∈ divs m := by
  unfold divs
  rw [List.mem_filter]
  exact ⟨h, by simp⟩
theorem bad_same (r : Nat → Int) {n : Nat} (hn : n ∈ upto) (h : ∀ m, 1 ≤ m → m < n → badB r m = false) : badS r n = badB r n := by
  have hn' := mem_upto.mp hn
  have key : ∀ f ∈ facs n, ∃ q : Nat, q = f.1.toNat ^ f.2.toNat ∧ f.1 ^ f.2.toNat = (q : Int) ∧ ((q : Int) ∣ pp r n ↔ (q : Int) ∣ r n - r (n / f.1.toNat)) ∧ q ∣ n := by
    intro f hf
    have F := facOne_of (facs_at hn hf)
    generalize hl : f.1.toNat = l at F
    generalize hq : l ^ f.2.toNat = q at F
    refine ⟨q, rfl, F.pw, ?_, Nat.dvd_of_mod_eq_zero F.nq⟩
    have q0 : 0 < q := F.q1
    have hnq : n / q * q = n := Nat.div_mul_cancel (Nat.dvd_of_mod_eq_zero F.nq)
    have hnq1 : 1 ≤ n / q := (Nat.one_le_div_iff q0).mpr (Nat.le_of_dvd (by omega) (Nat.dvd_of_mod_eq_zero F.nq))
    have hJ : n / q ∈ divs (n / q) := self_divs (mem_upto.mpr ⟨hnq1, by have := Nat.div_le_self n q; omega⟩)
    have e : pp r n = ((divs (n / q)).map fun j => muN ((n / q / j : Nat) : Int) * (r (j * q) - r (j * q / l))).sum := by
      rw [pp_form, evalL_eq r (divs_nodup n) F.inS F.inB F.co, evalL_B]
    have d := (dvd_rest (q := (q : Int)) (t := fun j => muN ((n / q / j : Nat) : Int) * (r (j * q) - r (j * q / l))) (J := n / q) (divs_nodup (n / q)) fun j hj nj => by
      rcases F.js j hj with z | ⟨z1, z2, z3⟩
      · exact absurd z nj
      · have b := h (j * q) z3 z2
        unfold badB at b
        have c := List.any_eq_false.mp b f z1
        unfold barAt at c
        rw [decide_eq_true_eq, Classical.not_not, hl, F.pw] at c
        exact Int.dvd_trans (Int.dvd_of_emod_eq_zero c) (Int.dvd_mul_left _ _)).2 hJ
    rw [← e] at d
    have e1 : muN ((n / q / (n / q) : Nat) : Int) = 1 := by
      rw [Nat.div_self (by omega)]
      rfl
    have d2 : (q : Int) ∣ pp r n - (r n - r (n / l)) := by
      rw [e1, hnq, Int.one_mul] at d
      exact d
    exact ⟨fun z => by
      have := Int.dvd_sub z d2
      rwa [show pp r n - (pp r n - (r n - r (n / l))) = r n - r (n / l) by omega] at this, fun z => by
      have := Int.dvd_add d2 z
      rwa [show pp r n - (r n - r (n / l)) + (r n - r (n / l)) = pp r n by omega] at this⟩
  have iff : (pp r n % (n : Int) = 0) ↔ ∀ f ∈ facs n, (r n - r (n / f.1.toNat)) % (f.1 ^ f.2.toNat) = 0 := by
    constructor
    · intro z f hf
      obtain ⟨q, _, e, k, qn⟩ := key f hf
      rw [e]
      exact Int.emod_eq_zero_of_dvd (k.mp (Int.dvd_trans (Int.natCast_dvd_natCast.mpr qn) (Int.dvd_of_emod_eq_zero z)))
    · intro z
      have P := List.all_eq_true.mp pows_ok n hn
      rw [Bool.and_eq_true, decide_eq_true_eq] at P
      have := crt (s := (pp r n).natAbs) P.1 fun q hq => by
        obtain ⟨f, hf, rfl⟩ := List.mem_map.mp hq
        obtain ⟨q, e0, e, k, _⟩ := key f hf
        have y := k.mpr (by
          rw [← e]
          exact Int.dvd_of_emod_eq_zero (z f hf))
        rw [← e0]
        exact Int.natCast_dvd_natCast.mp (Int.dvd_natAbs.mpr y)
      rw [P.2] at this
      exact Int.emod_eq_zero_of_dvd (Int.dvd_natAbs.mp (Int.natCast_dvd_natCast.mpr this))
  unfold badS badB
  by_cases z : pp r n % (n : Int) = 0
  · rw [decide_eq_false (by simpa using z)]
    symm
    rw [List.any_eq_false]
    intro f hf
    unfold barAt
    rw [decide_eq_true_eq, Classical.not_not]
    exact iff.mp z f hf
  · rw [decide_eq_true z]
    symm
    rw [List.any_eq_true]
    have : ¬ ∀ f ∈ facs n, (r n - r (n / f.1.toNat)) % (f.1 ^ f.2.toNat) = 0 := fun y => z (iff.mpr y)
    rw [Classical.not_forall] at this
    obtain ⟨f, this⟩ := this
    rw [Classical.not_imp] at this
    exact ⟨f, this.1, decide_eq_true this.2⟩

/-! ### plain: the first bar -/
def barF (r : Nat → Int) (n : Nat) : Option (Nat × Int) := ((facs n).find? (barAt r n)).map fun f => (n, f.1)
def barOf (r : Nat → Int) (k : Nat) : Option (Nat × Int) := (List.range' 1 k).findSome? (barF r)
def pwGo : Nat → Int → Int → Int → Option Int
  | 0, found, _, count => if count > 0 then none else some found
  | k + 1, found, square, count => if count > 0 then (if 0 ≤ found ∧ found < 1000000000 ∧ 0 ≤ square ∧ square < 1000000000 then pwGo k (if count % 2 = 1 then found * square else found) (square * square) (count / 2) else none) else some found
theorem pwGo_s (k : Nat) (found square count : Int) : pwGo (k + 1) found square count = if count > 0 then (if 0 ≤ found ∧ found < 1000000000 ∧ 0 ≤ square ∧ square < 1000000000 then pwGo k (if count % 2 = 1 then found * square else found) (square * square) (count / 2) else none) else some found := by
  rw [pwGo]
theorem pw_all : (upto.all fun n => (facs n).all fun f => decide (pwGo 8 1 f.1 f.2 = some (f.1 ^ f.2.toNat))) = true := by decide +kernel
theorem pw_ok {n : Nat} (hn : n ∈ upto) {f : Int × Int} (hf : f ∈ facs n) : pwGo 8 1 f.1 f.2 = some (f.1 ^ f.2.toNat) := of_decide_eq_true (List.all_eq_true.mp (List.all_eq_true.mp pw_all n hn) f hf)
def spPow : Sp := fun vs H Q _ => ∃ (b c r : Int), vs = [.int b, .int c] ∧ pwGo 8 1 b c = some r ∧ ∀ H', Same H H' → Q (.int r) H'
/-- what by_primes answers -/
def BarV (o : Option (Nat × Int)) (H : Hp) (v : V) : Prop := match o with
  | none => v = .non
  | some (n, l) => ∃ p, v = .ref p ∧ H p = some (.tup [.int n, .int l])
theorem BarV.mono {o : Option (Nat × Int)} {H H' : Hp} {v : V} (h : BarV o H v) (s : Same H H') : BarV o H' v := by
  cases o with
  | none => exact h
  | some z =>
    obtain ⟨p, e, h⟩ := h
    exact ⟨p, e, s _ _ h⟩
def spBy (C : Addr) : Sp := fun vs H Q E => ∃ (x : V) (d : D), vs = [x] ∧ Rep H d x ∧ d.fit ∧ ((d.are 1 60 = false ∧ Rz C "given" x H E) ∨
  ∃ ns : List Int, d.rowOf ns ∧ 1 ≤ ns.length ∧ ns.length ≤ 60 ∧ ∀ v H', Same H H' → BarV (barOf (at1 ns) ns.length) H' v → Q v H')
section
variable {P : Program} {w : World} {K : PySem.W.Frag} {mg : Str → Option Value} {base : Heap} {A : Ad}
theorem d_power_of (T : Txt K mg A) : Df P w K mg base 1 "power_of" s_power_of ["base", "count"] spPow := by
  refine mk_df T.h_power_of sc_power_of (fun _ _ _ _ _ _ us hl => match us, hl with | [_, _], _ => rfl) (fun vs H Q E h => ?_) fun f cdv A' outer s H vs Q E hr h => ?_
  · obtain ⟨b, c, r, rfl, _⟩ := h
    rfl
  · obtain ⟨b, c, r, rfl, hv, q⟩ := h
    have hu : (A'.deeper (envOfC "power_of" (defScope s_power_of) s.heap.objs.size f cdv)).units + 64 < cLine := hr.units
    refine ⟨_, (pss_cons (ps_par (i := 2) (j := 3) (by rfl) sc_power_of.nd rfl rfl (by decide) rfl rfl (pa_cons pe_int (pa_cons (pv 0) pa_nil)) (by rfl))
  (pss_cons (ps_while PassesOwn.leaving (pt_cmpR o_gt (pv 1) pe_int (nomark _))
  (pss_cons (ps_if (pt_cmpR (o_eqK K hu) (pe_op o_mod (pv 1) pe_int) pe_int (nomark _))
  (pss_one (ps_set (i := 2) sc_power_of.nd rfl (Or.inl rfl) (pe_op (o_mulK K) (pv 2) (pv 3)))) pss_nil)
  (pss_one (ps_par (i := 3) (j := 1) (by rfl) sc_power_of.nd rfl rfl (by decide) rfl rfl (pa_cons (pe_op (o_mulK K) (pv 3) (pv 3)) (pa_cons (pe_op o_fdiv (pv 1) pe_int) pa_nil)) (by rfl)))))
  (pss_one (ps_ret (pv 2))))), ?_⟩
    walk_at "rds"
    refine wh (n := 8) (fun m σ H' => Same H H' ∧ ∃ found square count : Int, σ = [some (.int b), some (.int count), some (.int found), some (.int square)] ∧ pwGo m found square count = some r) ⟨Same.refl _, 1, b, c, rfl, hv⟩ ?_
    rintro m σ H1 ⟨s1, found, square, count, rfl, hv⟩
    walk_at "rds"
    refine w_ifD (fun hc => ?_) fun hc => ?_
    · refine turn ?_
      cases m with
      | zero =>
        unfold pwGo at hv
        rw [if_pos hc] at hv
        cases hv
      | succ m =>
        rw [pwGo_s, if_pos hc] at hv
        split at hv
        · rename_i hb
          obtain ⟨b1, b2, b3, b4⟩ := hb
          walk_at "rds"
          refine w_ifD (fun ho => ?_) fun ho => ?_
          · rw [if_pos ho] at hv
            walk_at "rds"
            exact ⟨m, by omega, s1, _, _, _, rfl, hv⟩
          · rw [if_neg ho] at hv
            walk_at "rds"
            exact ⟨m, by omega, s1, _, _, _, rfl, hv⟩
        · cases hv
    · have e : pwGo m found square count = some found := by
        cases m with
        | zero =>
          unfold pwGo
          rw [if_neg hc]
        | succ m => rw [pwGo_s, if_neg hc]
      rw [e] at hv
      cases hv
      walk_at "rds"
      exact q _ s1
theorem d_by_primes (T : Txt K mg A) : Df P w K mg base 5 "by_primes" s_by_primes ["row"] (spBy A.InvalidRow) := by
  refine mk_df T.h_by_primes sc_by_primes (fun _ _ _ _ _ _ us hl => match us, hl with | [_], _ => rfl) (fun vs H Q E h => ?_) fun f cdv A' outer s H vs Q E hr h => ?_
  · obtain ⟨x, d, rfl, _⟩ := h
    rfl
  · obtain ⟨x, d, rfl, r, hf, h⟩ := h
    have hu : (A'.deeper (envOfC "by_primes" (defScope s_by_primes) s.heap.objs.size f cdv)).units + 64 < cLine := hr.units
    refine ⟨_, (pss_cons (ps_expr (pcall (d_check_row T) hr takesX (pa_cons (pv 0) pa_nil)))
  (pss_cons (ps_for PassesOwn.leaving rfl (pi_range2 rfl T.b_range (pa_cons pe_int (pa_cons (pe_op (o_addK K) (pe_callB (c_lenK K) (by rfl) T.b_len PySem.boot_len (pa_cons (pv 0) pa_nil)) pe_int) pa_nil))) (pg_name (i := 1) sc_by_primes.nd rfl (Or.inl rfl))
  (pss_one (ps_for PassesOwn.leaving rfl (pi_listK K (pcall (d_factors_of T) hr takesX (pa_cons (pv 1) pa_nil))) (pg_tupK K (n := 2) (pgs_cons (pg_name (i := 2) sc_by_primes.nd rfl (Or.inl rfl)) (pgs_cons (pg_name (i := 3) sc_by_primes.nd rfl (Or.inl rfl)) pgs_nil)))
  (pss_one (ps_if (pt_cmpR (o_neK K hu) (pe_op o_mod (pe_op o_sub (pe_ix (ix_seqK K) (pv 0) (pe_op o_sub (pv 1) pe_int) (fun _ _ => rfl)) (pe_ix (ix_seqK K) (pv 0) (pe_op o_sub (pe_op o_fdiv (pv 1) (pv 2)) pe_int) (fun _ _ => rfl))) (pcall (d_power_of T) hr takesX (pa_cons (pv 2) (pa_cons (pv 3) pa_nil)))) pe_int (nomark _))
  (pss_one (ps_ret (pe_tup (pa_cons (pv 1) (pa_cons (pv 2) pa_nil))))) pss_nil)))))
  (pss_one (ps_ret pe_non)))), ?_⟩
    walk_at "rds"
    refine ⟨x, d, rfl, r, hf, ?_⟩
    rcases h with ⟨e0, z⟩ | ⟨ns, hrow, n1, n60, q⟩
    · exact .inl ⟨e0, z⟩
    · refine .inr ⟨D.are_row hrow n1 n60, fun H1 s1 => ?_⟩
      have hs : SqI K H1 x ns := .of hrow (r.mono s1)
      walk_at "rds"
      refine hs.len ?_
      walk_at "rds"
      have en : (↑ns.length + 1 - 1 : Int).toNat = ns.length := by omega
      rw [en]
      refine f_rng (fun i σ H' => Same H1 H' ∧ (∃ nv lv pv, σ = [some x, nv, lv, pv]) ∧ barOf (at1 ns) ns.length = (List.range' (1 + i) (ns.length - i)).findSome? (barF (at1 ns)))
        ⟨Same.refl _, ⟨_, _, _, rfl⟩, rfl⟩ (fun i σ H2 hi hp => ?_) (fun σ H2 hp => ?_)
      · obtain ⟨s2, ⟨nv, lv, pv, rfl⟩, hbar⟩ := hp
        have en : (1 + (i : Int)) = ((i + 1 : Nat) : Int) := by omega
        have em : (((i + 1 : Nat) : Int) - 1) = ((i : Nat) : Int) := by omega
        have hn : i + 1 ∈ upto := mem_upto.mpr ⟨by omega, by omega⟩
        rw [en]
        have er : List.range' (1 + i) (ns.length - i) = (i + 1) :: List.range' (1 + (i + 1)) (ns.length - (i + 1)) := by
          have : ns.length - i = (ns.length - (i + 1)) + 1 := by omega
          rw [this, List.range'_succ]
          congr 1
          omega
        rw [er, List.findSome?_cons] at hbar
        walk_at "rds"
        refine ⟨i + 1, rfl, hn, fun pf ps H3 s3 e3 hfs => ?_⟩
        change FacAt H3 ps (facs (i + 1)) at hfs
        walk_at "rds"
        refine r_il (SqL.of e3) ?_
        refine f_lst (xs := ps.map V.ref) (fun j σ H' => Same H3 H' ∧ (∃ lv pv, σ = [some x, some (.int ((i + 1 : Nat) : Int)), lv, pv]) ∧ (facs (i + 1)).find? (barAt (at1 ns) (i + 1)) = ((facs (i + 1)).drop j).find? (barAt (at1 ns) (i + 1)))
          ⟨Same.refl _, ⟨_, _, rfl⟩, rfl⟩ (fun j σ H' _ hp => SqL.of (hp.1 _ _ e3)) (fun j x' σ H4 hj hp => ?_) (fun σ H4 hp => ?_)
        · obtain ⟨s4, ⟨lv, pv, rfl⟩, hfd⟩ := hp
          obtain ⟨pt, hpt, rfl⟩ : ∃ pt, ps[j]? = some pt ∧ x' = .ref pt := by
            rw [List.getElem?_map] at hj
            cases z : ps[j]? with
            | none =>
              rw [z] at hj
              cases hj
            | some pt =>
              rw [z] at hj
              cases hj
              exact ⟨pt, rfl, rfl⟩
          obtain ⟨g, hg, et⟩ := pair_at hfs hpt
          have hgm := List.mem_of_getElem? hg
          have FO := facOne_of (facs_at hn hgm)
          have hdr : (facs (i + 1)).drop j = g :: (facs (i + 1)).drop (j + 1) := by
            obtain ⟨hl, he⟩ := List.getElem?_eq_some_iff.mp hg
            rw [List.drop_eq_getElem_cons hl, he]
          rw [hdr, List.find?_cons] at hfd
          refine g_tup (SqT.of (s4 _ _ et)) rfl ?_
          walk_at "rds"
          have l2 : 2 ≤ g.1 := by
            have h1 := FO.l2
            have h2 := FO.l_eq
            omega
          have l60 : g.1 ≤ 60 := by
            have h1 := FO.l60
            have h2 := FO.l_eq
            omega
          have eq : ((i + 1 : Nat) : Int) / g.1 = (((i + 1) / g.1.toNat : Nat) : Int) := by
            have h2 := FO.l_eq
            rw [Int.natCast_ediv, ← h2]
          have d1 : 1 ≤ (i + 1) / g.1.toNat := (Nat.one_le_div_iff (by have := FO.l2; omega)).mpr (Nat.le_of_dvd (by omega) (Nat.dvd_of_mod_eq_zero FO.nl))
          have d2 : (i + 1) / g.1.toNat ≤ i + 1 := Nat.div_le_self _ _
          have hs4 := hs.mono (s2.trans (s3.trans s4))
          refine hs4.ix (by omega) (by omega) ?_
          walk_at "rds"
          rw [eq]
          refine hs4.ix (by omega) (by omega) ?_
          walk_at "rds"
          refine ⟨_, _, _, rfl, pw_ok hn hgm, fun H5 s5 => ?_⟩
          have e1 : (((i + 1 : Nat) : Int) - 1).toNat + 1 = i + 1 := by omega
          have e2 : ((((i + 1) / g.1.toNat : Nat) : Int) - 1).toNat + 1 = (i + 1) / g.1.toNat := by omega
          rw [e1, e2]
          have pw1 : 0 < g.1 ^ g.2.toNat := by
            have h1 := FO.pw
            have h2 := FO.q1
            omega
          walk_at "rds"
          refine w_ifDN (fun hb => ?_) fun hb => ?_
          · have hB : barAt (at1 ns) (i + 1) g = true := decide_eq_true hb
            rw [hB] at hfd
            walk_at "rds"
            refine al_t (by simp) fun pr H6 n6 s6 e6 => ?_
            refine q _ _ (s1.trans (s2.trans (s3.trans (s4.trans (s5.trans s6))))) ?_
            have hF : barF (at1 ns) (i + 1) = some (i + 1, g.1) := by
              unfold barF
              rw [hfd]
              rfl
            rw [hF] at hbar
            rw [hbar]
            exact ⟨pr, rfl, e6⟩
          · have hB : barAt (at1 ns) (i + 1) g = false := by
              unfold barAt
              rw [decide_eq_false_iff_not, Classical.not_not]
              exact hb
            rw [hB] at hfd
            walk_at "rds"
            exact ⟨s4.trans s5, ⟨_, _, rfl⟩, hfd⟩
        · obtain ⟨s4, ⟨lv, pv, rfl⟩, hfd⟩ := hp
          have hl : (ps.map V.ref).length = (facs (i + 1)).length := by rw [List.length_map, paired_len hfs]
          rw [hl, List.drop_length] at hfd
          have hF : barF (at1 ns) (i + 1) = none := by
            unfold barF
            rw [hfd]
            rfl
          rw [hF] at hbar
          exact ⟨s2.trans (s3.trans s4), ⟨_, _, _, rfl⟩, hbar⟩
      · obtain ⟨s2, ⟨nv, lv, pv, rfl⟩, hbar⟩ := hp
        walk_at "rds"
        rw [Nat.sub_self] at hbar
        refine q _ _ (s1.trans s2) ?_
        rw [hbar]
        rfl
end

def mu2Go : List Nat → Int → Int → Int
  | [], _, found => found
  | l :: ls, left, found => if left % (l : Int) = 0 then (if (left / (l : Int)) % (l : Int) = 0 then 0 else mu2Go ls (left / (l : Int)) (0 - found)) else mu2Go ls left found
theorem mu2_ok : ∀ n ∈ upto, mu2Go (List.range' 2 (n - 1)) (n : Int) 1 = muN (n : Int) := by decide +kernel
theorem divs_range : ∀ n ∈ upto, ((List.range' 1 n).filter fun d => n % d == 0) = divs n := by decide +kernel
def prGo : List Nat → Int → List (Int × Int) → List (Int × Int)
  | [], _, fs => fs
  | l :: ls, left, fs => if left % (l : Int) = 0 then prGo ls (powGo 60 l left 0).1 (fs ++ [((l : Int), (powGo 60 l left 0).2)]) else prGo ls left fs
theorem prGo_ok : ∀ n ∈ upto, prGo (List.range' 2 (n - 1)) (n : Int) [] = facs n := by decide +kernel
theorem prGo_s (l : Nat) (ls : List Nat) (left : Int) (fs : List (Int × Int)) : prGo (l :: ls) left fs = if left % (l : Int) = 0 then prGo ls (powGo 60 l left 0).1 (fs ++ [((l : Int), (powGo 60 l left 0).2)]) else prGo ls left fs := by
  rw [prGo]
def spMu2 : Sp := fun vs H Q _ => ∃ n : Nat, vs = [.int n] ∧ n ∈ upto ∧ ∀ H', Same H H' → Q (.int (muN n)) H'
def spSum2 (K : PySem.W.Frag) : Sp := fun vs H Q _ => ∃ (x : V) (ns : List Int) (n : Nat), vs = [x, .int n] ∧ SqI K H x ns ∧ n ∈ upto ∧ n ≤ ns.length ∧ ∀ H', Same H H' → Q (.int (pp (at1 ns) n)) H'
def spTo : Sp := fun vs H Q _ => ∃ b c : Int, vs = [.int b, .int c] ∧ 0 ≤ c ∧ c ≤ 1000 ∧ -1000 < b ∧ b < 1000 ∧ ∀ H', Same H H' → Q (.int (b ^ c.toNat)) H'
def spPrimes : Sp := fun vs H Q _ => ∃ n : Nat, vs = [.int n] ∧ n ∈ upto ∧ ∀ p ps H', Same H H' → H' p = some (.lst (ps.map V.ref)) → FacAt H' ps (facs n) → Q (.ref p) H'
section
variable {P : Program} {w : World} {K : PySem.W.Frag} {mg : Str → Option Value} {base : Heap} {A : Ad}
theorem range_step {a k i : Nat} (h : i < k) : List.range' (a + i) (k - i) = (a + i) :: List.range' (a + (i + 1)) (k - (i + 1)) := by
  have : k - i = (k - (i + 1)) + 1 := by omega
  rw [this, List.range'_succ]
  congr 1
theorem d_mu (T : Txt K mg A) : Df P w K mg base 1 "_law_mu" s_mu ["n"] spMu2 := by
  refine mk_df T.h_mu sc_mu (fun _ _ _ _ _ _ us hl => match us, hl with | [_], _ => rfl) (fun vs H Q E h => ?_) fun f cdv A' outer s H vs Q E hr h => ?_
  · obtain ⟨n, rfl, _⟩ := h
    rfl
  · obtain ⟨n, rfl, hn, q⟩ := h
    have hn' := mem_upto.mp hn
    have hu : (A'.deeper (envOfC "_law_mu" (defScope s_mu) s.heap.objs.size f cdv)).units + 64 < cLine := hr.units
    refine ⟨_, (pss_cons (ps_par (i := 1) (j := 2) (by rfl) sc_mu.nd rfl rfl (by decide) rfl rfl (pa_cons pe_int (pa_cons (pv 0) pa_nil)) (by rfl))
  (pss_cons (ps_for PassesOwn.leaving rfl (pi_range2 rfl T.b_range (pa_cons pe_int (pa_cons (pe_op (o_addK K) (pv 0) pe_int) pa_nil))) (pg_name (i := 3) sc_mu.nd rfl (Or.inl rfl))
  (pss_one (ps_if (pt_cmpR (o_eqK K hu) (pe_op o_mod (pe_callTy c_int (by rfl) T.b_int (by decide +kernel) (pa_cons (pv 2) pa_nil)) (pv 3)) pe_int (nomark _))
  (pss_cons (ps_par (i := 2) (j := 1) (by rfl) sc_mu.nd rfl rfl (by decide) rfl rfl (pa_cons (pe_op o_fdiv (pv 2) (pv 3)) (pa_cons (pe_op o_sub pe_int (pv 1)) pa_nil)) (by rfl))
  (pss_one (ps_if (pt_cmpR (o_eqK K hu) (pe_op o_mod (pe_callTy c_int (by rfl) T.b_int (by decide +kernel) (pa_cons (pv 2) pa_nil)) (pv 3)) pe_int (nomark _))
  (pss_one (ps_ret pe_int)) pss_nil))) pss_nil)))
  (pss_one (ps_ret (pv 1))))), ?_⟩
    walk_at "rds"
    have en : ((n : Int) + 1 - 2).toNat = n - 1 := by omega
    rw [en]
    refine f_rng (fun i σ H' => Same H H' ∧ ∃ (left found : Int) (lv : Option V), σ = [some (.int n), some (.int found), some (.int left), lv] ∧ 1 ≤ left ∧ left ≤ 60 ∧ mu2Go (List.range' (2 + i) (n - 1 - i)) left found = muN n)
      ⟨Same.refl _, n, 1, none, rfl, by omega, by omega, mu2_ok n hn⟩ (fun i σ H1 hi hp => ?_) (fun σ H1 hp => ?_)
    · obtain ⟨s1, left, found, lv, rfl, l1, l60, hv⟩ := hp
      have el : (2 + (i : Int)) = ((2 + i : Nat) : Int) := by omega
      rw [el]
      rw [range_step hi] at hv
      unfold mu2Go at hv
      walk_at "rds"
      refine w_ifD (fun hd => ?_) fun hd => ?_
      · rw [if_pos hd] at hv
        have d1 : 1 ≤ left / ((2 + i : Nat) : Int) := by
          have h0 := Int.mul_ediv_add_emod left ((2 + i : Nat) : Int)
          have h3 : left / ((2 + i : Nat) : Int) ≠ 0 := fun z => by
            rw [z, Int.mul_zero] at h0
            omega
          have h4 : 0 ≤ left / ((2 + i : Nat) : Int) := Int.ediv_nonneg (by omega) (by omega)
          omega
        have d2 : left / ((2 + i : Nat) : Int) ≤ left := Int.ediv_le_self _ (by omega)
        walk_at "rds"
        refine w_ifD (fun he => ?_) fun he => ?_
        · rw [if_pos he] at hv
          walk_at "rds"
          rw [hv]
          exact q _ s1
        · rw [if_neg he] at hv
          walk_at "rds"
          exact ⟨s1, _, _, _, rfl, d1, by omega, hv⟩
      · rw [if_neg hd] at hv
        walk_at "rds"
        exact ⟨s1, _, _, _, rfl, l1, l60, hv⟩
    · obtain ⟨s1, left, found, lv, rfl, l1, l60, hv⟩ := hp
      rw [Nat.sub_self] at hv
      walk_at "rds"
      have hv : found = muN n := hv
      rw [hv]
      exact q _ s1
theorem d_to (T : Txt K mg A) : Df P w K mg base 1 "_law_to" s_to ["base", "many"] spTo := by
  refine mk_df T.h_to sc_to (fun _ _ _ _ _ _ us hl => match us, hl with | [_, _], _ => rfl) (fun vs H Q E h => ?_) fun f cdv A' outer s H vs Q E hr h => ?_
  · obtain ⟨b, c, rfl, _⟩ := h
    rfl
  · obtain ⟨b, c, rfl, c0, c1, b0, b1, q⟩ := h
    refine ⟨_, (pss_cons (ps_set (i := 2) sc_to.nd rfl (Or.inl rfl) pe_int)
  (pss_cons (ps_for PassesOwn.leaving rfl (pi_range1 rfl T.b_range (pa_cons (pv 1) pa_nil)) (pg_name (i := 3) sc_to.nd rfl (Or.inl rfl))
  (pss_one (ps_set (i := 2) sc_to.nd rfl (Or.inl rfl) (pe_op (o_mulK K) (pv 2) (pv 0)))))
  (pss_one (ps_ret (pv 2))))), ?_⟩
    walk_at "rds"
    refine f_rng (fun i σ H' => Same H H' ∧ ∃ fv tv, σ = [some (.int b), some (.int c), some (.int fv), tv] ∧ fv = b ^ i) ⟨Same.refl _, 1, none, rfl, (Int.pow_zero b).symm⟩ (fun i σ H1 hi hp => ?_) (fun σ H1 hp => ?_)
    · obtain ⟨s1, fv, tv, rfl, rfl⟩ := hp
      walk_at "rds"
      exact ⟨s1, _, _, rfl, (Int.pow_succ _ _).symm⟩
    · obtain ⟨s1, fv, tv, rfl, rfl⟩ := hp
      walk_at "rds"
      exact q _ s1
theorem d_primes (T : Txt K mg A) : Df P w K mg base 1 "_law_primes" s_primes ["n"] spPrimes := by
  refine mk_df T.h_primes sc_primes (fun _ _ _ _ _ _ us hl => match us, hl with | [_], _ => rfl) (fun vs H Q E h => ?_) fun f cdv A' outer s H vs Q E hr h => ?_
  · obtain ⟨n, rfl, _⟩ := h
    rfl
  · obtain ⟨n, rfl, hn, q⟩ := h
    have hn' := mem_upto.mp hn
    have hu : (A'.deeper (envOfC "_law_primes" (defScope s_primes) s.heap.objs.size f cdv)).units + 64 < cLine := hr.units
    refine ⟨_, (pss_cons (ps_par (i := 1) (j := 2) (by rfl) sc_primes.nd rfl rfl (by decide) rfl rfl (pa_cons (pe_lst pa_nil) (pa_cons (pv 0) pa_nil)) (by rfl))
  (pss_cons (ps_for PassesOwn.leaving rfl (pi_range2 rfl T.b_range (pa_cons pe_int (pa_cons (pe_op (o_addK K) (pv 0) pe_int) pa_nil))) (pg_name (i := 3) sc_primes.nd rfl (Or.inl rfl))
  (pss_one (ps_if (pt_cmpR (o_eqK K hu) (pe_op o_mod (pe_callTy c_int (by rfl) T.b_int (by decide +kernel) (pa_cons (pv 2) pa_nil)) (pv 3)) pe_int (nomark _))
  (pss_cons (ps_set (i := 4) sc_primes.nd rfl (Or.inl rfl) pe_int)
  (pss_cons (ps_for PassesOwn.leaving rfl (pi_range1 rfl T.b_range (pa_cons (pv 0) pa_nil)) (pg_name (i := 5) sc_primes.nd rfl (Or.inl rfl))
  (pss_cons (ps_if (pt_cmpR (o_neK K hu) (pe_op o_mod (pe_callTy c_int (by rfl) T.b_int (by decide +kernel) (pa_cons (pv 2) pa_nil)) (pv 3)) pe_int (nomark _))
  (pss_one ps_break) pss_nil)
  (pss_one (ps_par (i := 2) (j := 4) (by rfl) sc_primes.nd rfl rfl (by decide) rfl rfl (pa_cons (pe_op o_fdiv (pv 2) (pv 3)) (pa_cons (pe_op (o_addK K) (pv 4) pe_int) pa_nil)) (by rfl)))))
  (pss_one (ps_expr (pe_bmK K PySem.F.plainAttrs_list PySem.F.slot_list_append PySem.F.type_list_append mt_append (pv 1) (pa_cons (pe_tup (pa_cons (pv 3) (pa_cons (pv 4) pa_nil))) pa_nil)))))) pss_nil)))
  (pss_one (ps_ret (pv 1))))), ?_⟩
    walk_at "rds"
    refine al_l (by simp) fun pf H1 np1 s1 e1 => ?_
    walk_at "rds"
    have en : ((n : Int) + 1 - 2).toNat = n - 1 := by omega
    rw [en]
    refine f_rng (fun i σ H' => Same H H' ∧ ∃ (left : Int) (lv pv tv : Option V) (ps : List Addr) (fs : List (Int × Int)), σ = [some (.int n), some (.ref pf), some (.int left), lv, pv, tv] ∧ H' pf = some (.lst (ps.map V.ref)) ∧ FacAt H' ps fs ∧ fs.length ≤ i ∧
        1 ≤ left ∧ left ≤ n ∧ prGo (List.range' (2 + i) (n - 1 - i)) left fs = facs n)
      ⟨s1, n, none, none, none, [], [], rfl, e1, .nil, by simp, by omega, by omega, prGo_ok n hn⟩ (fun i σ H2 hi hp => ?_) (fun σ H2 hp => ?_)
    · obtain ⟨s2, left, lv, pv, tv, ps, fs, rfl, e2, hfs, hfl, l1, ln, hv⟩ := hp
      have el : (2 + (i : Int)) = ((2 + i : Nat) : Int) := by omega
      rw [el]
      rw [range_step hi, prGo_s] at hv
      walk_at "rds"
      refine w_ifD (fun hd => ?_) fun hd => ?_
      · rw [if_pos hd] at hv
        walk_at "rds"
        have ent : ((n : Int)).toNat = n := by omega
        rw [ent]
        refine f_rng (fun j σ H' => H' = H2 ∧ ∃ (left2 power : Int) (tv : Option V), σ = [some (.int n), some (.ref pf), some (.int left2), some (.int ((2 + i : Nat) : Int)), some (.int power), tv] ∧ 1 ≤ left2 ∧ left2 + j ≤ left ∧
            powGo (60 - j) ((2 + i : Nat) : Int) left2 power = powGo 60 ((2 + i : Nat) : Int) left 0)
          ⟨rfl, left, 0, tv, rfl, l1, by omega, rfl⟩ (fun j σ H3 hj hp => ?_) (fun σ H3 hp => ?_)
        · obtain ⟨rfl, left2, power, tv, rfl, a1, a2, hv2⟩ := hp
          have e60 : 60 - j = (60 - (j + 1)) + 1 := by omega
          rw [e60, powGo_s] at hv2
          walk_at "rds"
          refine w_ifDN (fun he => ?_) fun he => ?_
          · rw [if_neg he] at hv2
            have p1 : (powGo 60 ((2 + i : Nat) : Int) left 0).1 = left2 := by rw [← hv2]
            have p2 : (powGo 60 ((2 + i : Nat) : Int) left 0).2 = power := by rw [← hv2]
            rw [p1, p2] at hv
            walk_at "rds"
            refine ⟨tyl e2, ?_⟩
            walk_at "rds"
            refine al_t (by simp) fun pt H5 np5 s5 e5 => ?_
            walk_at "rds"
            have hpl : (ps.map V.ref).length < 100000 := by
              rw [List.length_map, paired_len hfs]
              omega
            refine m_appB (K := K) (s5 _ _ e2) hpl fun H6 b6 e6 => ?_
            walk_at "rds"
            have tp : ∀ p xs, H5 p = some (.tup xs) → H6 p = some (.tup xs) := fun p xs e => b6 _ _ (fun z => by
              subst z
              rw [s5 _ _ e2] at e
              cases e) e
            refine ⟨fun c o z => b6 _ _ (ne_of_none z np1) (s5 _ _ (s2 _ _ z)), left2, _, _, _, ps ++ [pt], fs ++ [(((2 + i : Nat) : Int), power)], rfl, ?_, ?_, by simp; omega, a1, by omega, hv⟩
            · rw [e6, List.map_append]
              rfl
            · exact paired_snoc (F := fun p (f : Int × Int) => H6 p = some (.tup [.int f.1, .int f.2])) (tp _ _ e5) (facAt_mono hfs fun p xs e => tp _ _ (s5 _ _ e))
          · rw [if_pos he] at hv2
            have d1 : 1 ≤ left2 / ((2 + i : Nat) : Int) := by
              have h0 := Int.mul_ediv_add_emod left2 ((2 + i : Nat) : Int)
              have h3 : left2 / ((2 + i : Nat) : Int) ≠ 0 := fun z => by
                rw [z, Int.mul_zero] at h0
                omega
              have h4 : 0 ≤ left2 / ((2 + i : Nat) : Int) := Int.ediv_nonneg (by omega) (by omega)
              omega
            have d2 : left2 / ((2 + i : Nat) : Int) < left2 := Int.ediv_lt_of_lt_mul (by omega) (by
              have := Int.mul_lt_mul_of_pos_left (show (1 : Int) < ((2 + i : Nat) : Int) by omega) (show 0 < left2 by omega)
              omega)
            walk_at "rds"
            exact ⟨rfl, _, _, _, rfl, d1, by omega, hv2⟩
        · obtain ⟨rfl, left2, power, tv, rfl, a1, a2, hv2⟩ := hp
          exfalso
          omega
      · rw [if_neg hd] at hv
        walk_at "rds"
        exact ⟨s2, _, _, _, _, _, _, rfl, e2, hfs, by omega, l1, ln, hv⟩
    · obtain ⟨s2, left, lv, pv, tv, ps, fs, rfl, e2, hfs, hfl, l1, ln, hv⟩ := hp
      rw [Nat.sub_self] at hv
      have hv : fs = facs n := hv
      walk_at "rds"
      rw [hv] at hfs
      exact q pf ps _ s2 e2 hfs
end

/-- the primes that bar r at n -/
def barsL (r : Nat → Int) (n : Nat) : List Int := ((facs n).filter (barAt r n)).map (·.1)
def firstS (r : Nat → Int) (k : Nat) : Option Nat := (List.range' 1 k).find? (badS r)
def OptN (o : Option Nat) : V := match o with
  | none => .non
  | some n => .int n
def spRow : Sp := fun vs H Q _ => ∃ (p : Addr) (ns : List Int), vs = [.ref p] ∧ H p = some (.lst (ns.map V.int)) ∧ ns.length ≤ 60 ∧ ∀ p' (ms : List Int) H', Same H H' → H p' = none → H' p' = some (.lst (ms.map V.int)) → ms.length = ns.length → Q (.ref p') H'
def spBars (K : PySem.W.Frag) : Sp := fun vs H Q _ => ∃ (x : V) (ns : List Int) (n : Nat), vs = [x, .int n] ∧ SqI K H x ns ∧ n ∈ upto ∧ n ≤ ns.length ∧ ∀ p H', Same H H' → H p = none → H' p = some (.lst ((barsL (at1 ns) n).map V.int)) → Q (.ref p) H'
def spFirst (K : PySem.W.Frag) : Sp := fun vs H Q _ => ∃ (x : V) (ns : List Int), vs = [x] ∧ SqI K H x ns ∧ ns.length ≤ 60 ∧ ∀ H', Same H H' → Q (OptN (firstS (at1 ns) ns.length)) H'
theorem fac_few {n : Nat} (hn : n ∈ upto) : (facs n).length ≤ 60 := fac_small n hn
section
variable {P : Program} {w : World} {K : PySem.W.Frag} {mg : Str → Option Value} {base : Heap} {A : Ad}
theorem d_sum (T : Txt K mg A) : Df P w K mg base 2 "_law_sum" s_sum ["row", "n"] (spSum2 K) := by
  refine mk_df T.h_sum sc_sum (fun _ _ _ _ _ _ us hl => match us, hl with | [_, _], _ => rfl) (fun vs H Q E h => ?_) fun f cdv A' outer s H vs Q E hr h => ?_
  · obtain ⟨x, ns, n, rfl, _⟩ := h
    rfl
  · obtain ⟨x, ns, n, rfl, hx, hn, hl, q⟩ := h
    have hn' := mem_upto.mp hn
    have hu : (A'.deeper (envOfC "_law_sum" (defScope s_sum) s.heap.objs.size f cdv)).units + 64 < cLine := hr.units
    refine ⟨_, (pss_one (ps_ret (pe_callB (c_sumK K) (by rfl) T.b_sum (by decide +kernel) (pa_cons (pe_lc (own := [("d", 2)]) (by rfl) sc_sum.nd (pi_range2 rfl T.b_range (pa_cons pe_int (pa_cons (pe_op (o_addK K) (pv 1) pe_int) pa_nil))) (blkOk_by (own := [("d", 2)]) (N := ["row", "n", "d"]) (sc := defScope s_sum) (by decide +kernel)) (fun _ _ _ _ _ => (pg_name (i := 2) sc_sum.nd rfl (Or.inl rfl))) (fun _ _ _ _ _ => (pts_one (pt_cmpR (o_eqK K hu) (pe_op o_mod (pe_callTy c_int (by rfl) T.b_int (by decide +kernel) (pa_cons (pv 1) pa_nil)) (pv 2)) pe_int (nomark _)))) (fun _ _ _ _ _ => (pe_op (o_mulK K) (pcall (d_mu T) hr takesN (pa_cons (pe_op o_fdiv (pv 1) (pv 2)) pa_nil)) (pe_ix (ix_seqK K) (pv 0) (pe_op o_sub (pv 2) pe_int) (fun _ _ => rfl))))) pa_nil)))), ?_⟩
    walk_at "rds"
    have en : ((n : Int) + 1 - 1).toNat = n := by omega
    rw [en]
    refine acc_r (fun j => (((List.range' 1 j).filter fun d => n % d == 0).map fun d => muN ((n / d : Nat) : Int) * at1 ns d).map V.int) rfl (fun C j H3 hj hp => ?_) (fun C H3 s3 nC e3 => ?_)
    · walk_at "rds"
      refine ⟨rfl, ?_⟩
      have er : List.range' 1 (j + 1) = List.range' 1 j ++ [j + 1] := by
        rw [List.range'_1_concat, Nat.add_comm]
      have ej : (1 : Int) + j = ((j + 1 : Nat) : Int) := by omega
      have em : (n : Int) % ((j + 1 : Nat) : Int) = ((n % (j + 1) : Nat) : Int) := (Int.natCast_emod _ _).symm
      rw [ej]
      walk_at "rds"
      rw [em]
      refine w_ifD (fun hd => ?_) fun hd => ?_
      · have hd' : n % (j + 1) = 0 := by omega
        have hq : n / (j + 1) ∈ upto := by
          rw [mem_upto]
          exact ⟨(Nat.one_le_div_iff (by omega)).mpr (Nat.le_of_dvd (by omega) (Nat.dvd_of_mod_eq_zero hd')), Nat.le_trans (Nat.div_le_self _ _) hn'.2⟩
        walk_at "rds"
        refine ⟨n / (j + 1), rfl, hq, fun H4 s4 => ?_⟩
        walk_at "rds"
        refine (hx.mono (hp.1.trans s4)).ix (by omega) (by omega) ?_
        have e1 : (((j + 1 : Nat) : Int) - 1).toNat + 1 = j + 1 := by omega
        rw [e1]
        have := mu_small _ hq
        refine mul_ii (cmul1 (by omega) (by omega)) ?_
        refine acc_push hp s4 ?_ ?_
        · show (((List.range' 1 (j + 1)).filter fun d => n % d == 0).map fun d => muN ((n / d : Nat) : Int) * at1 ns d).map V.int = _
          rw [er, List.filter_append, List.map_append, List.map_append]
          simp [hd']
        · have := List.length_filter_le (fun d => n % d == 0) (List.range' 1 j)
          simp at this ⊢
          omega
      · walk_at "rds"
        refine acc_skip hp (Same.refl _) ?_
        show (((List.range' 1 (j + 1)).filter fun d => n % d == 0).map fun d => muN ((n / d : Nat) : Int) * at1 ns d).map V.int = _
        have hd' : ¬ n % (j + 1) = 0 := by omega
        rw [er, List.filter_append, List.map_append, List.map_append]
        simp [hd']
    · walk_at "rds"
      rw [divs_range n hn] at e3
      refine sum_l (SqL.of e3) ?_
      have e : ((divs n).map fun d => muN ((n / d : Nat) : Int) * at1 ns d).sum = pp (at1 ns) n := (pp_divs _ _).symm
      rw [e]
      exact q _ s3
theorem d_row (T : Txt K mg A) : Df P w K mg base 1 "_law_row" s_row ["rings"] spRow := by
  refine mk_df T.h_row sc_row (fun _ _ _ _ _ _ us hl => match us, hl with | [_], _ => rfl) (fun vs H Q E h => ?_) fun f cdv A' outer s H vs Q E hr h => ?_
  · obtain ⟨p, ns, rfl, _⟩ := h
    rfl
  · obtain ⟨C, ns, rfl, e6, hl, q⟩ := h
    have hu : (A'.deeper (envOfC "_law_row" (defScope s_row) s.heap.objs.size f cdv)).units + 64 < cLine := hr.units
    refine ⟨_, (pss_one (ps_ret (pe_lc (own := [("n", 1)]) (by rfl) sc_row.nd (pi_range2 rfl T.b_range (pa_cons pe_int (pa_cons (pe_op (o_addK K) (pe_callB (c_lenK K) (by rfl) T.b_len PySem.boot_len (pa_cons (pv 0) pa_nil)) pe_int) pa_nil))) (blkOk_by (own := [("n", 1)]) (N := ["rings", "n", "d"]) (sc := defScope s_row) (by decide +kernel)) (fun _ _ _ _ _ => (pg_name (i := 1) sc_row.nd rfl (Or.inr rfl))) (fun _ _ _ _ _ => pts_nil) (fun _ _ _ _ _ => (pe_callB (c_sumK K) (by rfl) T.b_sum (by decide +kernel) (pa_cons (pe_lc (own := [("d", 2)]) (by rfl) sc_row.nd (pi_range2 rfl T.b_range (pa_cons pe_int (pa_cons (pe_op (o_addK K) (pv 1) pe_int) pa_nil))) (blkOk_by (own := [("d", 2)]) (N := ["rings", "n", "d"]) (sc := ⟨.function, [(".0", .local), ("n", .cell), ("sum", .globalImplicit), ("range", .globalImplicit), ("rings", .cell)], false, false, []⟩) (by decide +kernel)) (fun _ _ _ _ _ => (pg_name (i := 2) sc_row.nd rfl (Or.inl rfl))) (fun _ _ _ _ _ => (pts_one (pt_cmpR (o_eqK K hu) (pe_op o_mod (pe_callTy c_int (by rfl) T.b_int (by decide +kernel) (pa_cons (pv 1) pa_nil)) (pv 2)) pe_int (nomark _)))) (fun _ _ _ _ _ => (pe_op (o_mulK K) (pv 2) (pe_ix (ix_seqK K) (pv 0) (pe_op o_sub (pv 2) pe_int) (fun _ _ => rfl))))) pa_nil)))))), ?_⟩
    walk_at "rds"
    refine len_l (SqL.of e6) ?_
    rw [List.length_map]
    walk_at "rds"
    have en : ((ns.length : Int) + 1 - 1).toNat = ns.length := by omega
    rw [en]
    refine acc_r (fun i => ((List.range' 1 i).map fun n => (((List.range' 1 n).filter fun d => n % d == 0).map fun (d : Nat) => (d : Int) * at1 ns d).sum).map V.int) rfl (fun C2 i H7 hi hp => ?_) (fun C2 H7 s7 n7 e7 => ?_)
    · walk_at "rds"
      refine ⟨rfl, ?_⟩
      walk_at "rds"
      have en : ((1 : Int) + i + 1 - 1).toNat = i + 1 := by omega
      rw [en]
      refine acc_r (fun j => (((List.range' 1 j).filter fun d => (i + 1) % d == 0).map fun (d : Nat) => (d : Int) * at1 ns d).map V.int) rfl (fun C3 j H8 hj hp3 => ?_) (fun C3 H8 s8 n8 e8 => ?_)
      · walk_at "rds"
        refine ⟨rfl, ?_⟩
        have er : List.range' 1 (j + 1) = List.range' 1 j ++ [j + 1] := by
          rw [List.range'_1_concat, Nat.add_comm]
        have em : ((1 : Int) + i) % (1 + j) = (((i + 1) % (j + 1) : Nat) : Int) := by
          rw [Int.natCast_emod]
          congr 1 <;> omega
        walk_at "rds"
        rw [em]
        refine w_ifD (fun hd => ?_) fun hd => ?_
        · walk_at "rds"
          have e6' := hp3.1 _ _ (hp.1 _ _ e6)
          refine SqI.ix (ns := ns) ⟨C, rfl, .inl (SqL.of e6')⟩ (by omega) (by omega) ?_
          have en : ((1 : Int) + j - 1).toNat + 1 = j + 1 := by omega
          rw [en]
          walk_at "rds"
          refine acc_push hp3 (Same.refl _) ?_ ?_
          · show (((List.range' 1 (j + 1)).filter fun d => (i + 1) % d == 0).map fun (d : Nat) => (d : Int) * at1 ns d).map V.int = _
            have hd' : (i + 1) % (j + 1) = 0 := by omega
            rw [er, List.filter_append, List.map_append, List.map_append]
            simp [hd', Int.add_comm]
          · have := List.length_filter_le (fun d => (i + 1) % d == 0) (List.range' 1 j)
            simp at this ⊢
            omega
        · walk_at "rds"
          refine acc_skip hp3 (Same.refl _) ?_
          show (((List.range' 1 (j + 1)).filter fun d => (i + 1) % d == 0).map fun (d : Nat) => (d : Int) * at1 ns d).map V.int = _
          have hd' : ¬ (i + 1) % (j + 1) = 0 := by omega
          rw [er, List.filter_append, List.map_append, List.map_append]
          simp [hd']
      · walk_at "rds"
        refine sum_l (SqL.of e8) ?_
        refine acc_push hp s8 ?_ (by simp; omega)
        have er : List.range' 1 (i + 1) = List.range' 1 i ++ [i + 1] := by
          rw [List.range'_1_concat, Nat.add_comm]
        show ((List.range' 1 (i + 1)).map _).map V.int = _
        rw [er, List.map_append, List.map_append, ← er]
        rfl
    · exact q C2 _ _ s7 n7 e7 (by simp)
theorem d_bars (T : Txt K mg A) : Df P w K mg base 2 "_law_bars" s_bars ["row", "n"] (spBars K) := by
  refine mk_df T.h_bars sc_bars (fun _ _ _ _ _ _ us hl => match us, hl with | [_, _], _ => rfl) (fun vs H Q E h => ?_) fun f cdv A' outer s H vs Q E hr h => ?_
  · obtain ⟨x, ns, n, rfl, _⟩ := h
    rfl
  · obtain ⟨x, ns, n, rfl, hx, hn, hl, q⟩ := h
    have hn' := mem_upto.mp hn
    have hu : (A'.deeper (envOfC "_law_bars" (defScope s_bars) s.heap.objs.size f cdv)).units + 64 < cLine := hr.units
    refine ⟨_, (pss_one (ps_ret (pe_lc (own := [("l", 2), ("e", 3)]) (by rfl) sc_bars.nd (pi_listK K (pcall (d_primes T) hr takesN (pa_cons (pv 1) pa_nil))) (blkOk_by (own := [("l", 2), ("e", 3)]) (N := ["row", "n", "l", "e"]) (sc := defScope s_bars) (by decide +kernel)) (fun _ _ _ _ _ => (pg_tupK K (n := 2) (pgs_cons (pg_name (i := 2) sc_bars.nd rfl (Or.inl rfl)) (pgs_cons (pg_name (i := 3) sc_bars.nd rfl (Or.inl rfl)) pgs_nil)))) (fun _ _ _ _ _ => (pts_one (pt_cmpR (o_neK K hu) (pe_op o_mod (pe_callTy c_int (by rfl) T.b_int (by decide +kernel) (pa_cons (pe_op o_sub (pe_ix (ix_seqK K) (pv 0) (pe_op o_sub (pv 1) pe_int) (fun _ _ => rfl)) (pe_ix (ix_seqK K) (pv 0) (pe_op o_sub (pe_op o_fdiv (pv 1) (pv 2)) pe_int) (fun _ _ => rfl))) pa_nil)) (pcall (d_to T) hr takesN (pa_cons (pv 2) (pa_cons (pv 3) pa_nil)))) pe_int (nomark _)))) (fun _ _ _ _ _ => (pv 2))))), ?_⟩
    walk_at "rds"
    refine ⟨n, rfl, hn, fun pf ps H1 s1 e1 hfs => ?_⟩
    walk_at "rds"
    refine r_il (SqL.of e1) ?_
    refine acc_l (fun i => ((((facs n).take i).filter (barAt (at1 ns) n)).map (·.1)).map V.int) rfl (SqL.of e1) (fun C j x' H2 hj hp => ?_) (fun C H2 s2 nC e2 => ?_)
    · obtain ⟨pt, hpt, rfl⟩ : ∃ pt, ps[j]? = some pt ∧ x' = .ref pt := by
        rw [List.getElem?_map] at hj
        cases z : ps[j]? with
        | none =>
          rw [z] at hj
          cases hj
        | some pt =>
          rw [z] at hj
          cases hj
          exact ⟨pt, rfl, rfl⟩
      obtain ⟨g, hg, et⟩ := pair_at hfs hpt
      have hgm := List.mem_of_getElem? hg
      have FO := facOne_of (facs_at hn hgm)
      have l2 : 2 ≤ g.1 := by
        have h1 := FO.l2
        have h2 := FO.l_eq
        omega
      have l60 : g.1 ≤ 60 := by
        have h1 := FO.l60
        have h2 := FO.l_eq
        omega
      have p1 := FO.p1
      have p5 := FO.p5
      have eq : (n : Int) / g.1 = ((n / g.1.toNat : Nat) : Int) := by
        have h2 := FO.l_eq
        rw [Int.natCast_ediv, ← h2]
      have d1 : 1 ≤ n / g.1.toNat := (Nat.one_le_div_iff (by have := FO.l2; omega)).mpr (Nat.le_of_dvd (by omega) (Nat.dvd_of_mod_eq_zero FO.nl))
      have d2 : n / g.1.toNat ≤ n := Nat.div_le_self _ _
      refine g_tup (SqT.of (hp.1 _ _ et)) rfl ?_
      walk_at "rds"
      refine ⟨rfl, ?_⟩
      have hx2 := hx.mono (s1.trans hp.1)
      walk_at "rds"
      refine hx2.ix (by omega) (by omega) ?_
      walk_at "rds"
      rw [eq]
      refine hx2.ix (by omega) (by omega) ?_
      walk_at "rds"
      have e1 : ((n : Int) - 1).toNat + 1 = n := by omega
      have e2 : (((n / g.1.toNat : Nat) : Int) - 1).toNat + 1 = n / g.1.toNat := by omega
      rw [e1, e2]
      refine ⟨g.1, g.2, rfl, by omega, by omega, by omega, by omega, fun H5 s5 => ?_⟩
      have pw1 : 0 < g.1 ^ g.2.toNat := by
        have h1 := FO.pw
        have h2 := FO.q1
        omega
      have tf := take_filter (p := barAt (at1 ns) n) hg
      walk_at "rds"
      refine w_ifDN (fun hb => ?_) fun hb => ?_
      · have hB : barAt (at1 ns) n g = true := decide_eq_true hb
        rw [if_pos hB] at tf
        walk_at "rds"
        refine acc_push hp s5 ?_ ?_
        · show ((((facs n).take (j + 1)).filter (barAt (at1 ns) n)).map (·.1)).map V.int = _
          rw [tf, List.map_append, List.map_append]
          rfl
        · have h1 := List.length_filter_le (barAt (at1 ns) n) ((facs n).take j)
          have h2 := fac_few hn
          simp at h1 ⊢
          omega
      · have hB : barAt (at1 ns) n g = false := by
          unfold barAt
          rw [decide_eq_false_iff_not, Classical.not_not]
          exact hb
        rw [if_neg (by rw [hB]; simp), List.append_nil] at tf
        walk_at "rds"
        refine acc_skip hp s5 ?_
        show ((((facs n).take (j + 1)).filter (barAt (at1 ns) n)).map (·.1)).map V.int = _
        rw [tf]
    · have hlen : (ps.map V.ref).length = (facs n).length := by rw [List.length_map, paired_len hfs]
      rw [hlen, List.take_length] at e2
      walk_at "rds"
      exact q C _ (s1.trans s2) (s1.old nC) e2
theorem d_first (T : Txt K mg A) : Df P w K mg base 3 "_law_first" s_first ["row"] (spFirst K) := by
  refine mk_df T.h_first sc_first (fun _ _ _ _ _ _ us hl => match us, hl with | [_], _ => rfl) (fun vs H Q E h => ?_) fun f cdv A' outer s H vs Q E hr h => ?_
  · obtain ⟨x, ns, rfl, _⟩ := h
    rfl
  · obtain ⟨x, ns, rfl, hx, n60, q⟩ := h
    have hu : (A'.deeper (envOfC "_law_first" (defScope s_first) s.heap.objs.size f cdv)).units + 64 < cLine := hr.units
    refine ⟨_, (pss_cons (ps_for PassesOwn.leaving rfl (pi_range2 rfl T.b_range (pa_cons pe_int (pa_cons (pe_op (o_addK K) (pe_callB (c_lenK K) (by rfl) T.b_len PySem.boot_len (pa_cons (pv 0) pa_nil)) pe_int) pa_nil))) (pg_name (i := 1) sc_first.nd rfl (Or.inl rfl))
  (pss_one (ps_if (pt_cmpR (o_neK K hu) (pe_op o_mod (pe_callTy c_int (by rfl) T.b_int (by decide +kernel) (pa_cons (pcall (d_sum T) hr takesN (pa_cons (pv 0) (pa_cons (pv 1) pa_nil))) pa_nil)) (pv 1)) pe_int (nomark _))
  (pss_one (ps_ret (pv 1))) pss_nil)))
  (pss_one (ps_ret pe_non))), ?_⟩
    walk_at "rds"
    refine hx.len ?_
    walk_at "rds"
    have en : (↑ns.length + 1 - 1 : Int).toNat = ns.length := by omega
    rw [en]
    refine f_rng (fun i σ H' => Same H H' ∧ (∃ nv, σ = [some x, nv]) ∧ firstS (at1 ns) ns.length = (List.range' (1 + i) (ns.length - i)).find? (badS (at1 ns)))
      ⟨Same.refl _, ⟨_, rfl⟩, rfl⟩ (fun i σ H2 hi hp => ?_) (fun σ H2 hp => ?_)
    · obtain ⟨s2, ⟨nv, rfl⟩, hbar⟩ := hp
      have el : (1 + (i : Int)) = ((1 + i : Nat) : Int) := by omega
      rw [el]
      rw [range_step hi, List.find?_cons] at hbar
      walk_at "rds"
      refine ⟨x, ns, 1 + i, rfl, hx.mono s2, mem_upto.mpr ⟨by omega, by omega⟩, by omega, fun H3 s3 => ?_⟩
      walk_at "rds"
      refine w_ifDN (fun hb => ?_) fun hb => ?_
      · have hB : badS (at1 ns) (1 + i) = true := decide_eq_true hb
        rw [hB] at hbar
        walk_at "rds"
        have := q _ (s2.trans s3)
        rw [hbar] at this
        exact this
      · have hB : badS (at1 ns) (1 + i) = false := by
          unfold badS
          rw [decide_eq_false_iff_not, Classical.not_not]
          exact hb
        rw [hB] at hbar
        walk_at "rds"
        exact ⟨s2.trans s3, ⟨_, rfl⟩, hbar⟩
    · obtain ⟨s2, ⟨nv, rfl⟩, hbar⟩ := hp
      walk_at "rds"
      have := q _ s2
      rw [hbar, Nat.sub_self] at this
      exact this
end

def spBent : Sp := fun vs H Q _ => ∃ (a p : Addr) (ns : List Int) (B : Int), vs = [.ref a, .ref p] ∧ IsBox H a B ∧ B < 80000000 ∧ p ≠ a ∧ H p = some (.lst (ns.map V.int)) ∧ 1 ≤ ns.length ∧ ns.length ≤ 60 ∧
  ∀ p' (ms : List Int) H', But a H H' → IsBox H' a (B + 10) → H p' = none → H' p' = some (.lst (ms.map V.int)) → ms.length = ns.length → Q (.ref p') H'
def spNet : Sp := fun vs H Q _ => ∃ (a : Addr) (m : Nat) (wd : Bool) (B : Int), vs = [.ref a, .int m, .bl wd] ∧ IsBox H a B ∧ B < 80000000 ∧ 1 ≤ m ∧ m ≤ 60 ∧
  ∀ p' (ms : List Int) H', But a H H' → IsBox H' a (B + 200) → H p' = none → H' p' = some (.lst (ms.map V.int)) → ms.length = m → Q (.ref p') H'
theorem mem_ints {zs : List Int} {v : V} (h : v ∈ zs.map V.int) : ∃ z, z ∈ zs ∧ v = .int z := by
  obtain ⟨z, hz, e⟩ := List.mem_map.mp h
  exact ⟨z, hz, e.symm⟩
section
variable {P : Program} {w : World} {K : PySem.W.Frag} {mg : Str → Option Value} {base : Heap} {A : Ad}
theorem d_bent (T : Txt K mg A) : Df P w K mg base 3 "_law_bent" s_bent ["box", "row"] spBent := by
  refine mk_df T.h_bent sc_bent (fun _ _ _ _ _ _ us hl => match us, hl with | [_, _], _ => rfl) (fun vs H Q E h => ?_) fun f cdv A' outer s H vs Q E hr h => ?_
  · obtain ⟨a, p, ns, B, rfl, _⟩ := h
    rfl
  · obtain ⟨a, p, ns, B, rfl, hb, hB, npa, ep, n1, n60, q⟩ := h
    have hu : (A'.deeper (envOfC "_law_bent" (defScope s_bent) s.heap.objs.size f cdv)).units + 64 < cLine := hr.units
    refine ⟨_, (pss_cons (ps_set (i := 2) sc_bent.nd rfl (Or.inl rfl) (pe_callTy (c_listK K) (by rfl) T.b_list (by decide +kernel) (pa_cons (pv 1) pa_nil)))
  (pss_cons (ps_set (i := 3) sc_bent.nd rfl (Or.inl rfl) (pe_op (o_addK K) pe_int (pcall (d_take T) hr takesN (pa_cons (pv 0) (pa_cons (pe_callB (c_lenK K) (by rfl) T.b_len PySem.boot_len (pa_cons (pv 1) pa_nil)) pa_nil)))))
  (pss_cons (ps_if (pt_cmpR (o_eqK K hu) (pcall (d_take T) hr takesN (pa_cons (pv 0) (pa_cons pe_int pa_nil))) pe_int (nomark _))
  (pss_one (ps_set (i := 3) sc_bent.nd rfl (Or.inl rfl) (pcall (d_pick T) hr takesN (pa_cons (pv 0) (pa_cons (pe_op (o_addK K) (pe_lc (own := [("n", 7)]) (by rfl) sc_bent.nd (pi_listK K (pe_lst (pa_cons pe_int (pa_cons pe_int (pa_cons pe_int (pa_cons pe_int (pa_cons pe_int (pa_cons pe_int (pa_cons pe_int (pa_cons pe_int (pa_cons pe_int pa_nil))))))))))) (blkOk_by (own := [("n", 7)]) (N := ["box", "row", "found", "at", "parts", "l", "e", "n"]) (sc := defScope s_bent) (by decide +kernel)) (fun _ _ _ _ _ => (pg_name (i := 7) sc_bent.nd rfl (Or.inl rfl))) (fun _ _ _ _ _ => (pts_one (pt_cmpR o_le (pv 7) (pe_callB (c_lenK K) (by rfl) T.b_len PySem.boot_len (pa_cons (pv 1) pa_nil)) (nomark _)))) (fun _ _ _ _ _ => (pv 7))) (pe_lst (pa_cons (pe_callB (c_lenK K) (by rfl) T.b_len PySem.boot_len (pa_cons (pv 1) pa_nil)) pa_nil))) pa_nil))))) pss_nil)
  (pss_cons (ps_set (i := 4) sc_bent.nd rfl (Or.inl rfl) (pe_op (o_addK K) (pe_lc (own := [("l", 5), ("e", 6)]) (by rfl) sc_bent.nd (pi_listK K (pcall (d_primes T) hr takesN (pa_cons (pv 3) pa_nil))) (blkOk_by (own := [("l", 5), ("e", 6)]) (N := ["box", "row", "found", "at", "parts", "l", "e", "n"]) (sc := defScope s_bent) (by decide +kernel)) (fun _ _ _ _ _ => (pg_tupK K (n := 2) (pgs_cons (pg_name (i := 5) sc_bent.nd rfl (Or.inl rfl)) (pgs_cons (pg_name (i := 6) sc_bent.nd rfl (Or.inl rfl)) pgs_nil)))) (fun _ _ _ _ _ => pts_nil) (fun _ _ _ _ _ => (pcall (d_to T) hr takesN (pa_cons (pv 5) (pa_cons (pv 6) pa_nil))))) (pe_lst (pa_cons pe_int (pa_cons (pv 3) (pa_cons (pe_op (o_addK K) (pe_op o_fdiv (pv 3) pe_int) pe_int) (pa_cons (pe_op (o_mulK K) pe_int (pv 3)) pa_nil)))))))
  (pss_cons (ps_asg (pe_op (o_addK K) (pe_ix (ix_seqK K) (pv 2) (pe_op o_sub (pv 3) pe_int) (fun _ _ => rfl)) (pe_op (o_mulK K) (pcall (d_pick T) hr takesN (pa_cons (pv 0) (pa_cons (pe_lst (pa_cons pe_int (pa_cons (pe_un un_neg pe_int) (pa_cons pe_int pa_nil)))) pa_nil))) (pcall (d_pick T) hr takesN (pa_cons (pv 0) (pa_cons (pv 4) pa_nil))))) (pg_sub (pv 2) (pe_op o_sub (pv 3) pe_int) set_list))
  (pss_one (ps_ret (pv 2)))))))), ?_⟩
    walk_at "rds"
    refine list_l (SqL.of ep) fun pf H1 nf s1 e1 => ?_
    have npf : pf ≠ a := (hb.ne (o := .lst []) nf).symm
    walk_at "rds"
    refine len_l (SqL.of (s1 _ _ ep)) ?_
    rw [List.length_map]
    walk_at "rds"
    refine take_at (hb.mono s1) (by omega) (by omega) (by omega) fun t0 H2 b2 hb2 l2 u2 => ?_
    walk_at "rds"
    refine take_at hb2 (by omega) (by simp) (by simp) fun t1 H3 b3 hb3 l3 u3 => ?_
    have ep3 := b3 _ _ npa (b2 _ _ npa (s1 _ _ ep))
    have e3 := b3 _ _ npf (b2 _ _ npf e1)
    have b13 : But a H H3 := (But.of s1).trans (b2.trans b3)
    walk_at "rds"
    refine w_ifD (fun ht => ?_) fun ht => ?_
    · walk_at "rds"
      refine al_l (by simp) fun p4 H4 n4 s4 e4 => ?_
      let opts : List Int := [6, 12, 30, 60, 10, 20, 8, 9, 2]
      have e4 : H4 p4 = some (.lst (opts.map V.int)) := e4
      walk_at "rds"
      refine r_il (SqL.of e4) ?_
      refine acc_l (fun i => ((opts.take i).filter fun z => decide (z ≤ (ns.length : Int))).map V.int) rfl (SqL.of e4) (fun C j x' H5 hj hp => ?_) (fun C H5 s5 nC e5 => ?_)
      · obtain ⟨z, hz, rfl⟩ : ∃ z, opts[j]? = some z ∧ x' = .int z := by
          rw [List.getElem?_map] at hj
          cases w : opts[j]? with
          | none =>
            rw [w] at hj
            cases hj
          | some z =>
            rw [w] at hj
            cases hj
            exact ⟨z, rfl, rfl⟩
        have tf := take_filter (p := fun z => decide (z ≤ (ns.length : Int))) hz
        have hj9 : opts.length = 9 := rfl
        walk_at "rds"
        refine ⟨rfl, ?_⟩
        walk_at "rds"
        refine len_l (SqL.of (hp.1 _ _ (s4 _ _ ep3))) ?_
        rw [List.length_map]
        walk_at "rds"
        refine w_ifD (fun hle => ?_) fun hle => ?_
        · rw [if_pos (decide_eq_true hle)] at tf
          walk_at "rds"
          refine acc_push hp (Same.refl _) ?_ ?_
          · show ((opts.take (j + 1)).filter fun z => decide (z ≤ (ns.length : Int))).map V.int = _
            rw [tf, List.map_append]
            rfl
          · have := List.length_filter_le (fun z => decide (z ≤ (ns.length : Int))) (opts.take j)
            simp at this ⊢
            omega
        · rw [if_neg (by simpa using hle), List.append_nil] at tf
          walk_at "rds"
          refine acc_skip hp (Same.refl _) ?_
          show ((opts.take (j + 1)).filter fun z => decide (z ≤ (ns.length : Int))).map V.int = _
          rw [tf]
      · walk_at "rds"
        have s45 := s4.trans s5
        refine len_l (SqL.of (s45 _ _ ep3)) ?_
        rw [List.length_map]
        walk_at "rds"
        refine al_l (by simp) fun p6 H6a n6 s6a e6a => ?_
        walk_at "rds"
        have e5 : H5 C = some (.lst ((opts.filter fun z => decide (z ≤ (ns.length : Int))).map V.int)) := e5
        have hol : (opts.filter fun z => decide (z ≤ (ns.length : Int))).length ≤ 9 := List.length_filter_le _ _
        refine add_ll (s6a _ _ e5) e6a (szl (by simp at hol ⊢; omega)) fun p7 H7a n7 s7a e7a => ?_
        walk_at "rds"
        have s37 := s45.trans (s6a.trans s7a)
        have hb7 : IsBox H7a a (B + 2) := (hb3.mono s37).le (by omega)
        have np7 : p7 ≠ a := ((hb3.mono (s45.trans s6a)).ne (o := .lst []) n7).symm
        have e7a : H7a p7 = some (.lst (((opts.filter fun z => decide (z ≤ (ns.length : Int))) ++ [(ns.length : Int)]).map V.int)) := by
          rw [e7a, List.map_append]
          rfl
        refine ⟨a, p7, _, _, rfl, hb7, by unfold most; omega, np7, .inl (SqL.of e7a), by simp, by simp at hol ⊢; omega, fun v H8a hv b8a hb8 => ?_⟩
        obtain ⟨z, hz, rfl⟩ := mem_ints hv
        have hz1 : 1 ≤ z ∧ z ≤ ns.length := by
          rcases List.mem_append.mp hz with hz | hz
          · obtain ⟨h1, h2⟩ := List.mem_filter.mp hz
            have h2 := of_decide_eq_true h2
            simp [opts] at h1
            omega
          · have : z = ns.length := by simpa using hz
            omega
        obtain ⟨n, rfl⟩ : ∃ n : Nat, z = n := ⟨z.toNat, by omega⟩
        have e8a := b8a _ _ npf (s37 _ _ e3)
        have b18 : But a H H8a := b13.trans ((But.of s37).trans b8a)
        walk_at "rds"
        refine ⟨n, rfl, mem_upto.mpr ⟨by omega, by omega⟩, fun pq ps H6 s6 e6 hfs => ?_⟩
        walk_at "rds"
        refine r_il (SqL.of e6) ?_
        have hn : n ∈ upto := mem_upto.mpr ⟨by omega, by omega⟩
        refine acc_l (fun i => (((facs n).take i).map fun f => f.1 ^ f.2.toNat).map V.int) rfl (SqL.of e6) (fun C j x' H7 hj hp => ?_) (fun C H7 s7 nC e7 => ?_)
        · obtain ⟨pt, hpt, rfl⟩ : ∃ pt, ps[j]? = some pt ∧ x' = .ref pt := by
            rw [List.getElem?_map] at hj
            cases z : ps[j]? with
            | none =>
              rw [z] at hj
              cases hj
            | some pt =>
              rw [z] at hj
              cases hj
              exact ⟨pt, rfl, rfl⟩
          obtain ⟨g, hg, et⟩ := pair_at hfs hpt
          have FO := facOne_of (facs_at hn (List.mem_of_getElem? hg))
          have p1 := FO.p1
          have p5 := FO.p5
          have l60 := FO.l60
          have le := FO.l_eq
          refine g_tup (SqT.of (hp.1 _ _ et)) rfl ?_
          walk_at "rds"
          refine ⟨rfl, ?_⟩
          walk_at "rds"
          refine ⟨g.1, g.2, rfl, by omega, by omega, by omega, by omega, fun H8 s8 => ?_⟩
          refine acc_push hp s8 ?_ ?_
          · show (((facs n).take (j + 1)).map fun f => f.1 ^ f.2.toNat).map V.int = _
            rw [take_map hg, List.map_append]
            rfl
          · have := fac_few hn
            simp
            omega
        · have hlen : (ps.map V.ref).length = (facs n).length := by rw [List.length_map, paired_len hfs]
          rw [hlen, List.take_length] at e7
          have s67 := s6.trans s7
          have few := fac_few hn
          walk_at "rds"
          refine al_l (by simp) fun p8 H8 n8 s8 e8 => ?_
          walk_at "rds"
          refine add_ll (s8 _ _ e7) e8 (szl (by simp; omega)) fun p9 H9 n9 s9 e9 => ?_
          have e9 : H9 p9 = some (.lst ((((facs n).map fun f => f.1 ^ f.2.toNat) ++ [1, (n : Int), (n : Int) / 2 + 1, 2 * (n : Int)]).map V.int)) := by
            rw [e9, List.map_append]
            rfl
          have hlz : (((facs n).map fun f => f.1 ^ f.2.toNat) ++ [1, (n : Int), (n : Int) / 2 + 1, 2 * (n : Int)]).length ≤ 100 := by
            simp
            omega
          have hne : (((facs n).map fun f => f.1 ^ f.2.toNat) ++ [1, (n : Int), (n : Int) / 2 + 1, 2 * (n : Int)]) ≠ [] := by simp
          generalize (((facs n).map fun f => f.1 ^ f.2.toNat) ++ [1, (n : Int), (n : Int) / 2 + 1, 2 * (n : Int)]) = zs at e9 hlz hne
          have s89 := s67.trans (s8.trans s9)
          have em : ((n : Int) - 1) = ((n - 1 : Nat) : Int) := by omega
          have nat_ := ((hb8).mono (s67.trans s8)).ne (o := .lst []) n9
          walk_at "rds"
          rw [em]
          obtain ⟨z0, hz0⟩ : ∃ z, (ns.map V.int)[n - 1]? = some (.int z) := ⟨_, by
            rw [List.getElem?_map, List.getElem?_eq_getElem (by omega : n - 1 < ns.length)]
            rfl⟩
          refine ix_l (SqL.of (s89 _ _ e8a)) (ati hz0) ?_
          walk_at "rds"
          refine al_l (by simp) fun pA HA nA sA eA => ?_
          walk_at "rds"
          have hbA := ((hb8).mono s89).mono sA
          have npA : pA ≠ a := (((hb8).mono s89).ne (o := .lst []) nA).symm
          refine ⟨a, pA, _, _, rfl, hbA, by unfold most; omega, npA, .inl (SqL.of eA), by simp, by simp, fun v1 HB hv1 bB hbB => ?_⟩
          walk_at "rds"
          refine ⟨a, p9, _, _, rfl, hbB, by unfold most; omega, Ne.symm nat_, .inl (SqL.of (bB _ _ (Ne.symm nat_) (sA _ _ e9))), by simpa using hne, by rw [List.length_map]; omega, fun v2 HC hv2 bC hbC => ?_⟩
          obtain ⟨w2, _, rfl⟩ := mem_ints hv2
          obtain ⟨w1, hw1, rfl⟩ : ∃ w1 : Int, (w1 = 1 ∨ w1 = -1 ∨ w1 = 5) ∧ v1 = .int w1 := by
            simp at hv1
            rcases hv1 with rfl | rfl | rfl
            · exact ⟨1, by simp, rfl⟩
            · exact ⟨-1, by simp, rfl⟩
            · exact ⟨5, by simp, rfl⟩
          walk_at "rds"
          rw [em]
          have bGC : But a H8a HC := (But.of (s89.trans sA)).trans (bB.trans bC)
          have eC := bGC _ _ npf e8a
          refine set_l eC (ixn (m := n - 1) (by simp; omega)) ?_
          walk_at "rds"
          have bHC := (b18).trans bGC
          refine q pf (ns.set (n - 1) (z0 + w1 * w2)) _ (bHC.wr nf) ((hbC.upd (Ne.symm npf)).le (by omega)) nf ?_ (by simp)
          rw [upd_same, List.map_set]
    · walk_at "rds"
      obtain ⟨n, hn0⟩ : ∃ n : Nat, 1 + t0 = (n : Int) := ⟨(1 + t0).toNat, by omega⟩
      rw [hn0]
      have hb3' : IsBox H3 a (B + 3) := hb3.le (by omega)
      refine ⟨n, rfl, mem_upto.mpr ⟨by omega, by omega⟩, fun pq ps H6 s6 e6 hfs => ?_⟩
      walk_at "rds"
      refine r_il (SqL.of e6) ?_
      have hn : n ∈ upto := mem_upto.mpr ⟨by omega, by omega⟩
      refine acc_l (fun i => (((facs n).take i).map fun f => f.1 ^ f.2.toNat).map V.int) rfl (SqL.of e6) (fun C j x' H7 hj hp => ?_) (fun C H7 s7 nC e7 => ?_)
      · obtain ⟨pt, hpt, rfl⟩ : ∃ pt, ps[j]? = some pt ∧ x' = .ref pt := by
          rw [List.getElem?_map] at hj
          cases z : ps[j]? with
          | none =>
            rw [z] at hj
            cases hj
          | some pt =>
            rw [z] at hj
            cases hj
            exact ⟨pt, rfl, rfl⟩
        obtain ⟨g, hg, et⟩ := pair_at hfs hpt
        have FO := facOne_of (facs_at hn (List.mem_of_getElem? hg))
        have p1 := FO.p1
        have p5 := FO.p5
        have l60 := FO.l60
        have le := FO.l_eq
        refine g_tup (SqT.of (hp.1 _ _ et)) rfl ?_
        walk_at "rds"
        refine ⟨rfl, ?_⟩
        walk_at "rds"
        refine ⟨g.1, g.2, rfl, by omega, by omega, by omega, by omega, fun H8 s8 => ?_⟩
        refine acc_push hp s8 ?_ ?_
        · show (((facs n).take (j + 1)).map fun f => f.1 ^ f.2.toNat).map V.int = _
          rw [take_map hg, List.map_append]
          rfl
        · have := fac_few hn
          simp
          omega
      · have hlen : (ps.map V.ref).length = (facs n).length := by rw [List.length_map, paired_len hfs]
        rw [hlen, List.take_length] at e7
        have s67 := s6.trans s7
        have few := fac_few hn
        walk_at "rds"
        refine al_l (by simp) fun p8 H8 n8 s8 e8 => ?_
        walk_at "rds"
        refine add_ll (s8 _ _ e7) e8 (szl (by simp; omega)) fun p9 H9 n9 s9 e9 => ?_
        have e9 : H9 p9 = some (.lst ((((facs n).map fun f => f.1 ^ f.2.toNat) ++ [1, (n : Int), (n : Int) / 2 + 1, 2 * (n : Int)]).map V.int)) := by
          rw [e9, List.map_append]
          rfl
        have hlz : (((facs n).map fun f => f.1 ^ f.2.toNat) ++ [1, (n : Int), (n : Int) / 2 + 1, 2 * (n : Int)]).length ≤ 100 := by
          simp
          omega
        have hne : (((facs n).map fun f => f.1 ^ f.2.toNat) ++ [1, (n : Int), (n : Int) / 2 + 1, 2 * (n : Int)]) ≠ [] := by simp
        generalize (((facs n).map fun f => f.1 ^ f.2.toNat) ++ [1, (n : Int), (n : Int) / 2 + 1, 2 * (n : Int)]) = zs at e9 hlz hne
        have s89 := s67.trans (s8.trans s9)
        have em : ((n : Int) - 1) = ((n - 1 : Nat) : Int) := by omega
        have nat_ := ((hb3').mono (s67.trans s8)).ne (o := .lst []) n9
        walk_at "rds"
        rw [em]
        obtain ⟨z0, hz0⟩ : ∃ z, (ns.map V.int)[n - 1]? = some (.int z) := ⟨_, by
          rw [List.getElem?_map, List.getElem?_eq_getElem (by omega : n - 1 < ns.length)]
          rfl⟩
        refine ix_l (SqL.of (s89 _ _ e3)) (ati hz0) ?_
        walk_at "rds"
        refine al_l (by simp) fun pA HA nA sA eA => ?_
        walk_at "rds"
        have hbA := ((hb3').mono s89).mono sA
        have npA : pA ≠ a := (((hb3').mono s89).ne (o := .lst []) nA).symm
        refine ⟨a, pA, _, _, rfl, hbA, by unfold most; omega, npA, .inl (SqL.of eA), by simp, by simp, fun v1 HB hv1 bB hbB => ?_⟩
        walk_at "rds"
        refine ⟨a, p9, _, _, rfl, hbB, by unfold most; omega, Ne.symm nat_, .inl (SqL.of (bB _ _ (Ne.symm nat_) (sA _ _ e9))), by simpa using hne, by rw [List.length_map]; omega, fun v2 HC hv2 bC hbC => ?_⟩
        obtain ⟨w2, _, rfl⟩ := mem_ints hv2
        obtain ⟨w1, hw1, rfl⟩ : ∃ w1 : Int, (w1 = 1 ∨ w1 = -1 ∨ w1 = 5) ∧ v1 = .int w1 := by
          simp at hv1
          rcases hv1 with rfl | rfl | rfl
          · exact ⟨1, by simp, rfl⟩
          · exact ⟨-1, by simp, rfl⟩
          · exact ⟨5, by simp, rfl⟩
        walk_at "rds"
        rw [em]
        have bGC : But a H3 HC := (But.of (s89.trans sA)).trans (bB.trans bC)
        have eC := bGC _ _ npf e3
        refine set_l eC (ixn (m := n - 1) (by simp; omega)) ?_
        walk_at "rds"
        have bHC := (b13).trans bGC
        refine q pf (ns.set (n - 1) (z0 + w1 * w2)) _ (bHC.wr nf) ((hbC.upd (Ne.symm npf)).le (by omega)) nf ?_ (by simp)
        rw [upd_same, List.map_set]
end

def spSomeRow : Sp := fun vs H Q _ => ∃ (a : Addr) (m : Nat) (wd : Bool) (B : Int), vs = [.ref a, .int m, .bl wd] ∧ IsBox H a B ∧ B < 70000000 ∧ 12 ≤ m ∧ m ≤ 60 ∧
  ∀ p' (ms : List Int) H', But a H H' → IsBox H' a (B + 400) → H p' = none → H' p' = some (.lst (ms.map V.int)) → 1 ≤ ms.length → ms.length ≤ 60 → Q (.ref p') H'
def NotRow (H : Hp) (x : V) : Prop := ∃ d : D, Rep H d x ∧ d.are 1 60 = false ∧ d.Ok
theorem NotRow.mono {H H' : Hp} {x : V} (h : NotRow H x) (s : Same H H') : NotRow H' x := by
  obtain ⟨d, r, h1, h2⟩ := h
  exact ⟨d, r.mono s, h1, h2⟩
def spNoRow : Sp := fun vs H Q _ => ∃ (a : Addr) (B : Int), vs = [.ref a] ∧ IsBox H a B ∧ B < 90000000 ∧ ∀ x H', But a H H' → IsBox H' a (B + 1) → NotRow (New H H') x → Q x H'
section
variable {P : Program} {w : World} {K : PySem.W.Frag} {mg : Str → Option Value} {base : Heap} {A : Ad}
theorem d_net (T : Txt K mg A) : Df P w K mg base 2 "_law_net" s_net ["box", "many", "wide"] spNet := by
  refine mk_df T.h_net sc_net (fun _ _ _ _ _ _ us hl => match us, hl with | [_, _, _], _ => rfl) (fun vs H Q E h => ?_) fun f cdv A' outer s H vs Q E hr h => ?_
  · obtain ⟨a, m, wd, B, rfl, _⟩ := h
    rfl
  · obtain ⟨a, m, wd, B, rfl, hb, hB, m1, m60, q⟩ := h
    have hu : (A'.deeper (envOfC "_law_net" (defScope s_net) s.heap.objs.size f cdv)).units + 64 < cLine := hr.units
    refine ⟨_, (pss_cons (ps_set (i := 3) sc_net.nd rfl (Or.inr rfl) (pcall (d_take T) hr takesN (pa_cons (pv 0) (pa_cons pe_int pa_nil))))
  (pss_cons (ps_setLc (i := 4) (own := [("k", 5)]) (by rfl) sc_net.nd rfl rfl (sw_true rfl rfl rfl (by decide +kernel)) (pi_range1 rfl T.b_range (pa_cons (pv 1) pa_nil)) (blkOk_by (own := [("k", 5)]) (N := ["box", "many", "wide", "way", "rings", "k", "ring"]) (sc := defScope s_net) (by decide +kernel)) (fun _ _ _ _ _ => (pg_name (i := 5) sc_net.nd rfl (Or.inl rfl))) (fun _ _ _ _ _ => pts_nil) (fun _ _ _ _ _ => (pe_op o_sub (pcall (d_take T) hr takesN (pa_cons (pv 0) (pa_cons pe_int pa_nil))) (pe_ix (ix_seqK K) (pe_lst (pa_cons pe_int (pa_cons pe_int (pa_cons pe_int (pa_cons pe_int pa_nil))))) (pv 3) (fun _ _ => rfl)))))
  (pss_cons (ps_if (pt_cmpR (o_eqK K hu) (pv 3) pe_int (nomark _))
  (pss_one (ps_setLc (i := 4) (own := [("k", 5), ("ring", 6)]) (by rfl) sc_net.nd rfl rfl (sw_true rfl rfl rfl (by decide +kernel)) (pi_enumK K (by rfl) T.b_enumerate (pa_cons (pv 4) pa_nil)) (blkOk_by (own := [("k", 5), ("ring", 6)]) (N := ["box", "many", "wide", "way", "rings", "k", "ring"]) (sc := defScope s_net) (by decide +kernel)) (fun _ _ _ _ _ => (pg_tupK K (n := 2) (pgs_cons (pg_name (i := 5) sc_net.nd rfl (Or.inl rfl)) (pgs_cons (pg_name (i := 6) sc_net.nd rfl (Or.inl rfl)) pgs_nil)))) (fun _ _ _ _ _ => pts_nil) (fun _ _ _ _ _ => (pe_ifExp (pt_cmpR (o_eqK K hu) (pe_op o_mod (pe_callTy c_int (by rfl) T.b_int (by decide +kernel) (pa_cons (pv 5) pa_nil)) pe_int) pe_int (nomark _)) (pv 6) pe_int)))) pss_nil)
  (pss_cons (ps_if (pt_val (pv 2))
  (pss_one (ps_setLc (i := 4) (own := [("ring", 6)]) (by rfl) sc_net.nd rfl rfl (sw_true rfl rfl rfl (by decide +kernel)) (pi_listK K (pv 4)) (blkOk_by (own := [("ring", 6)]) (N := ["box", "many", "wide", "way", "rings", "k", "ring"]) (sc := defScope s_net) (by decide +kernel)) (fun _ _ _ _ _ => (pg_name (i := 6) sc_net.nd rfl (Or.inl rfl))) (fun _ _ _ _ _ => pts_nil) (fun _ _ _ _ _ => (pe_op (o_addK K) (pe_op (o_mulK K) (pv 6) (pe_op (o_addK K) (pe_op o_pow pe_int pe_int) pe_int)) (pcall (d_take T) hr takesN (pa_cons (pv 0) (pa_cons pe_int pa_nil))))))) pss_nil)
  (pss_one (ps_ret (pcall (d_row T) hr takesN (pa_cons (pv 4) pa_nil)))))))), ?_⟩
    walk_at "rds"
    refine take_at hb (by omega) (by omega) (by omega) fun way H1 b1 hb1 l1 u1 => ?_
    walk_at "rds"
    refine drp_r 1 (fun z => -100 < z ∧ z < 100) hb1 (fun C i H2 hi hp => ?_) fun C H2 rs b2 hb2 nC hl hsm e2 => ?_
    · have hp' := hp
      obtain ⟨h1, h2, h3, _⟩ := hp'
      walk_at "rds"
      refine ⟨rfl, ?_⟩
      walk_at "rds"
      refine take_at h3 (by omega) (by omega) (by omega) fun d H3 b3 hb3 l3 u3 => ?_
      walk_at "rds"
      refine al_l (by simp) fun p4 H4 n4 s4 e4 => ?_
      walk_at "rds"
      obtain ⟨z, hz, _, e⟩ := ati_of (f := V.int) (zs := [0, 4, 4, 8]) (i := way) (by omega) (by simp; omega)
      refine ix_l (SqL.of e4) e ?_
      walk_at "rds"
      have hz' : 0 ≤ z ∧ z ≤ 8 := by
        simp at hz
        omega
      exact drp_push hb1 hp (by omega) (b3.trans (But.of s4)) (hb3.mono s4) ⟨by omega, by omega⟩
    · have nCa : C ≠ a := (hb1.ne (o := .lst []) nC).symm
      have hl : rs.length = m := by omega
      have b02 := b1.trans b2
      have nCH : H C = none := b1.old nC nCa
      have hb2' : IsBox H2 a (B + 61) := hb2.le (by omega)
      walk_at "rds"
      refine w_ifD (fun hw => ?_) fun hw => ?_
      · walk_at "rds"
        refine enum_l (SqL.of e2) ?_
        refine acc_e (fun i => (((List.range i).map fun k => if k % 3 = 0 then (rs[k]?).getD 0 else 0)).map V.int) rfl (SqL.of e2) (fun C2 i x' T2 H3 hi hp eT => ?_) (fun C2 H3 s3 n3 e3 => ?_)
        · have hi60 := (List.getElem?_eq_some_iff.mp hi).1
          rw [List.length_map] at hi60
          obtain ⟨z, _, rfl⟩ := mem_ints (List.mem_of_getElem? hi)
          have hz : rs[i]? = some z := by
            rw [List.getElem?_map] at hi
            cases w : rs[i]? with
            | none =>
              rw [w] at hi
              cases hi
            | some y =>
              rw [w] at hi
              cases hi
              rfl
          refine g_tup (SqT.of eT) rfl ?_
          walk_at "rds"
          refine ⟨rfl, ?_⟩
          walk_at "rds"
          refine w_ifD (fun hd => ?_) fun hd => ?_
          · walk_at "rds"
            refine acc_push hp (Same.refl _) ?_ (by simp; omega)
            show ((List.range (i + 1)).map _).map V.int = _
            rw [List.range_succ, List.map_append, List.map_append]
            have hd' : i % 3 = 0 := by omega
            show _ ++ [V.int (if i % 3 = 0 then (rs[i]?).getD 0 else 0)] = _
            rw [if_pos hd', hz]
            rfl
          · walk_at "rds"
            refine acc_push hp (Same.refl _) ?_ (by simp; omega)
            show ((List.range (i + 1)).map _).map V.int = _
            rw [List.range_succ, List.map_append, List.map_append]
            have hd' : ¬ i % 3 = 0 := by omega
            show _ ++ [V.int (if i % 3 = 0 then (rs[i]?).getD 0 else 0)] = _
            rw [if_neg hd']
        · rw [List.length_map] at e3
          have n3a : C2 ≠ a := (hb2'.ne (o := .lst []) n3).symm
          have hb3 := hb2'.mono s3
          have b03 := b02.trans (But.of s3)
          have hl3 : ((List.range rs.length).map fun k => if k % 3 = 0 then (rs[k]?).getD 0 else 0).length = m := by simp [hl]
          have hsm : ∀ z ∈ ((List.range rs.length).map fun k => if k % 3 = 0 then (rs[k]?).getD 0 else 0), -100 < z ∧ z < 100 := by
            intro z hz
            obtain ⟨k, hk, rfl⟩ := List.mem_map.mp hz
            have hk := List.mem_range.mp hk
            by_cases h3 : k % 3 = 0
            · rw [if_pos h3, List.getElem?_eq_getElem hk]
              exact hsm _ (List.getElem_mem hk)
            · rw [if_neg h3]
              omega
          generalize ((List.range rs.length).map fun k => if k % 3 = 0 then (rs[k]?).getD 0 else 0) = rs3 at e3 hl3 hsm
          walk_at "rds"
          cases wd with
          | true =>
            walk_at "rds"
            refine r_il (SqL.of e3) ?_
            refine drp_l 1 (fun _ => True) hb3 e3 n3a (fun C3 i x' H5 hi hp => ?_) fun C3 H5 rs5 b5 hb5 nC5 hl5 _ e5 => ?_
            · have hp' := hp
              obtain ⟨h1, h2, h3, _⟩ := hp'
              have hi60 := (List.getElem?_eq_some_iff.mp hi).1
              rw [List.length_map] at hi60
              obtain ⟨z, hzm, rfl⟩ := mem_ints (List.mem_of_getElem? hi)
              have hz' := hsm z hzm
              walk_at "rds"
              refine ⟨rfl, ?_⟩
              walk_at "rds"
              walk_at "rds"
              refine take_at h3 (by omega) (by omega) (by omega) fun d H6 b6 hb6 l6 u6 => ?_
              walk_at "rds"
              exact drp_push hb3 hp (by omega) b6 hb6 trivial
            · rw [List.length_map] at hl5
              have nC5a : C3 ≠ a := ((hb3).ne (o := .lst []) nC5).symm
              have b05 := (b03).trans b5
              walk_at "rds"
              refine ⟨C3, rs5, rfl, e5, by omega, fun p6 ms H6 s6 n6 e6 hm => ?_⟩
              have n6a : p6 ≠ a := (hb5.ne (o := .lst []) n6).symm
              exact q p6 ms _ (b05.trans (But.of s6)) ((hb5.mono s6).le (by rw [List.length_map]; omega)) (b05.old n6 n6a) e6 (by omega)
          | false =>
            walk_at "rds"
            refine ⟨C2, _, rfl, e3, by omega, fun p6 ms H6 s6 n6 e6 hm => ?_⟩
            have n6a : p6 ≠ a := ((hb3).ne (o := .lst []) n6).symm
            exact q p6 ms _ ((b03).trans (But.of s6)) (((hb3).mono s6).le (by omega)) ((b03).old n6 n6a) e6 (by omega)
      · walk_at "rds"
        cases wd with
        | true =>
          walk_at "rds"
          refine r_il (SqL.of e2) ?_
          refine drp_l 1 (fun _ => True) hb2' e2 nCa (fun C3 i x' H5 hi hp => ?_) fun C3 H5 rs5 b5 hb5 nC5 hl5 _ e5 => ?_
          · have hp' := hp
            obtain ⟨h1, h2, h3, _⟩ := hp'
            have hi60 := (List.getElem?_eq_some_iff.mp hi).1
            rw [List.length_map] at hi60
            obtain ⟨z, hzm, rfl⟩ := mem_ints (List.mem_of_getElem? hi)
            have hz' := hsm z hzm
            walk_at "rds"
            refine ⟨rfl, ?_⟩
            walk_at "rds"
            walk_at "rds"
            refine take_at h3 (by omega) (by omega) (by omega) fun d H6 b6 hb6 l6 u6 => ?_
            walk_at "rds"
            exact drp_push hb2' hp (by omega) b6 hb6 trivial
          · rw [List.length_map] at hl5
            have nC5a : C3 ≠ a := ((hb2').ne (o := .lst []) nC5).symm
            have b05 := (b02).trans b5
            walk_at "rds"
            refine ⟨C3, rs5, rfl, e5, by omega, fun p6 ms H6 s6 n6 e6 hm => ?_⟩
            have n6a : p6 ≠ a := (hb5.ne (o := .lst []) n6).symm
            exact q p6 ms _ (b05.trans (But.of s6)) ((hb5.mono s6).le (by rw [List.length_map]; omega)) (b05.old n6 n6a) e6 (by omega)
        | false =>
          walk_at "rds"
          refine ⟨C, _, rfl, e2, by omega, fun p6 ms H6 s6 n6 e6 hm => ?_⟩
          have n6a : p6 ≠ a := ((hb2').ne (o := .lst []) n6).symm
          exact q p6 ms _ ((b02).trans (But.of s6)) (((hb2').mono s6).le (by omega)) ((b02).old n6 n6a) e6 (by omega)
theorem d_no_row (T : Txt K mg A) : Df P w K mg base 14 "_law_no_row" s_no_row ["box"] spNoRow := by
  refine mk_df T.h_no_row sc_no_row (fun _ _ _ _ _ _ us hl => match us, hl with | [_], _ => rfl) (fun vs H Q E h => ?_) fun f cdv A' outer s H vs Q E hr h => ?_
  · obtain ⟨a, B, rfl, _⟩ := h
    rfl
  · obtain ⟨a, B, rfl, hb, hB, q⟩ := h
    refine ⟨_, (pss_cons (ps_set (i := 1) sc_no_row.nd rfl (Or.inl rfl) (pe_lst (pa_cons pe_non (pa_cons pe_int (pa_cons pe_str (pa_cons (pe_lst pa_nil) (pa_cons (pe_tup pa_nil) (pa_cons pe_dnewK (pa_cons (pe_lst (pa_cons pe_bl pa_nil)) (pa_cons (pe_lst (pa_cons pe_int (pa_cons pe_non pa_nil))) (pa_cons (pe_lst (pa_cons pe_int (pa_cons pe_str pa_nil))) (pa_cons (pe_lst (pa_cons (pe_lst (pa_cons pe_int pa_nil)) pa_nil)) (pa_cons (pe_lst (pa_cons (pe_tup (pa_cons pe_int pa_nil)) pa_nil)) (pa_cons (pe_op (o_mulK K) (pe_lst (pa_cons pe_int pa_nil)) pe_int) (pa_cons (pe_op (o_mulK K) (pe_tup (pa_cons pe_int pa_nil)) pe_int) (pa_cons (pe_disp (pps_cons pe_str pe_int pps_nil) (by rfl) (by rfl) (fun z => by cases z) (by decide)) (pa_cons (pe_lst (pa_cons pe_int (pa_cons pe_bl (pa_cons pe_int pa_nil)))) (pa_cons pe_str (pa_cons (pe_lst (pa_cons pe_dnewK pa_nil)) pa_nil)))))))))))))))))))
  (pss_one (ps_ret (pcall (d_copy T) hr takesN (pa_cons (pcall (d_pick T) hr takesN (pa_cons (pv 0) (pa_cons (pv 1) pa_nil))) pa_nil))))), ?_⟩
    walk_at "rds"
    refine al_l (by simp) fun wp1 wH1 wn1 ws1 we1 => ?_
    walk_at "rds"
    refine al_t (by simp) fun wp2 wH2 wn2 ws2 we2 => ?_
    walk_at "rds"
    refine dnew fun wp3 wH3 wn3 ws3 we3 => ?_
    walk_at "rds"
    refine al_l (by simp) fun wp4 wH4 wn4 ws4 we4 => ?_
    walk_at "rds"
    refine al_l (by simp) fun wp5 wH5 wn5 ws5 we5 => ?_
    walk_at "rds"
    refine al_l (by simp) fun wp6 wH6 wn6 ws6 we6 => ?_
    walk_at "rds"
    refine al_l (by simp) fun wp7 wH7 wn7 ws7 we7 => ?_
    walk_at "rds"
    refine al_l (by simp) fun wp8 wH8 wn8 ws8 we8 => ?_
    walk_at "rds"
    refine al_t (by simp) fun wp9 wH9 wn9 ws9 we9 => ?_
    walk_at "rds"
    refine al_l (by simp) fun wp10 wH10 wn10 ws10 we10 => ?_
    walk_at "rds"
    refine al_l (by simp) fun wp11 wH11 wn11 ws11 we11 => ?_
    walk_at "rds"
    refine mul_li we11 (by decide) (by decide) (by decide) fun wp12 wH12 wn12 ws12 we12 => ?_
    walk_at "rds"
    refine al_t (by simp) fun wp13 wH13 wn13 ws13 we13 => ?_
    walk_at "rds"
    refine mul_ti (SqT.of we13) (by simp) (by decide) (by decide) (by simp) fun wp14 wH14 wn14 ws14 we14 => ?_
    walk_at "rds"
    refine disp1 fun wp15 wH15 wn15 ws15 we15 => ?_
    walk_at "rds"
    refine al_l (by simp) fun wp16 wH16 wn16 ws16 we16 => ?_
    walk_at "rds"
    refine dnew fun wp17 wH17 wn17 ws17 we17 => ?_
    walk_at "rds"
    refine al_l (by simp) fun wp18 wH18 wn18 ws18 we18 => ?_
    walk_at "rds"
    refine al_l (by simp) fun wp19 wH19 wn19 ws19 we19 => ?_
    walk_at "rds"
    have wf0 := Same.refl H
    have wf1 := wf0.trans ws1
    have wf2 := wf1.trans ws2
    have wf3 := wf2.trans ws3
    have wf4 := wf3.trans ws4
    have wf5 := wf4.trans ws5
    have wf6 := wf5.trans ws6
    have wf7 := wf6.trans ws7
    have wf8 := wf7.trans ws8
    have wf9 := wf8.trans ws9
    have wf10 := wf9.trans ws10
    have wf11 := wf10.trans ws11
    have wf12 := wf11.trans ws12
    have wf13 := wf12.trans ws13
    have wf14 := wf13.trans ws14
    have wf15 := wf14.trans ws15
    have wf16 := wf15.trans ws16
    have wf17 := wf16.trans ws17
    have wf18 := wf17.trans ws18
    have wf19 := wf18.trans ws19
    have wt19 := Same.refl wH19
    have wt18 := ws19.trans wt19
    have wt17 := ws18.trans wt18
    have wt16 := ws17.trans wt17
    have wt15 := ws16.trans wt16
    have wt14 := ws15.trans wt15
    have wt13 := ws14.trans wt14
    have wt12 := ws13.trans wt13
    have wt11 := ws12.trans wt12
    have wt10 := ws11.trans wt11
    have wt9 := ws10.trans wt10
    have wt8 := ws9.trans wt9
    have wt7 := ws8.trans wt8
    have wt6 := ws7.trans wt7
    have wt5 := ws6.trans wt6
    have wt4 := ws5.trans wt5
    have wt3 := ws4.trans wt4
    have wt2 := ws3.trans wt3
    have wt1 := ws2.trans wt2
    have wgood : ∀ z ∈ [V.non, (V.int 5), (V.str "12"), (V.ref wp1), (V.ref wp2), (V.ref wp3), (V.ref wp4), (V.ref wp5), (V.ref wp6), (V.ref wp8), (V.ref wp10), (V.ref wp12), (V.ref wp14), (V.ref wp15), (V.ref wp16), (V.str ""), (V.ref wp18)], NotRow (New H wH19) z := by
      simp only [List.forall_mem_cons]
      exact ⟨⟨D.non, Rep.non, by decide +kernel, D.ok_of (by first | decide +kernel | rfl)⟩, ⟨(D.int 5), Rep.int, by decide +kernel, D.ok_of (by first | decide +kernel | rfl)⟩, ⟨(D.str "12"), Rep.str, by decide +kernel, D.ok_of (by first | decide +kernel | rfl)⟩, ⟨(D.lst []), (Rep.lst (New.mk (wf0.old wn1) (wt1 _ _ we1)) RepL.nil), by decide +kernel, D.ok_of (by first | decide +kernel | rfl)⟩, ⟨(D.tup []), (Rep.tup (New.mk (wf1.old wn2) (wt2 _ _ we2)) RepL.nil), by decide +kernel, D.ok_of (by first | decide +kernel | rfl)⟩, ⟨(D.dct []), (Rep.dct (New.mk (wf2.old wn3) (wt3 _ _ we3)) RepK.nil), by decide +kernel, D.ok_of (by first | decide +kernel | rfl)⟩, ⟨(D.lst [(D.bl true)]), (Rep.lst (New.mk (wf3.old wn4) (wt4 _ _ we4)) (RepL.cons Rep.bl RepL.nil)), by decide +kernel, D.ok_of (by first | decide +kernel | rfl)⟩, ⟨(D.lst [(D.int 1), D.non]), (Rep.lst (New.mk (wf4.old wn5) (wt5 _ _ we5)) (RepL.cons Rep.int (RepL.cons Rep.non RepL.nil))), by decide +kernel, D.ok_of (by first | decide +kernel | rfl)⟩, ⟨(D.lst [(D.int 1), (D.str "2")]), (Rep.lst (New.mk (wf5.old wn6) (wt6 _ _ we6)) (RepL.cons Rep.int (RepL.cons Rep.str RepL.nil))), by decide +kernel, D.ok_of (by first | decide +kernel | rfl)⟩, ⟨(D.lst [(D.lst [(D.int 1)])]), (Rep.lst (New.mk (wf7.old wn8) (wt8 _ _ we8)) (RepL.cons (Rep.lst (New.mk (wf6.old wn7) (wt7 _ _ we7)) (RepL.cons Rep.int RepL.nil)) RepL.nil)), by decide +kernel, D.ok_of (by first | decide +kernel | rfl)⟩, ⟨(D.lst [(D.tup [(D.int 1)])]), (Rep.lst (New.mk (wf9.old wn10) (wt10 _ _ we10)) (RepL.cons (Rep.tup (New.mk (wf8.old wn9) (wt9 _ _ we9)) (RepL.cons Rep.int RepL.nil)) RepL.nil)), by decide +kernel, D.ok_of (by first | decide +kernel | rfl)⟩, ⟨(D.lst (List.replicate 61 [(D.int 0)]).flatten), (Rep.lst (New.mk (wf11.old wn12) (wt12 _ _ we12)) (RepL.rep (RepL.cons Rep.int RepL.nil) 61)), by decide +kernel, D.ok_of (by first | decide +kernel | rfl)⟩, ⟨(D.tup (List.replicate 61 [(D.int 0)]).flatten), (Rep.tup (New.mk (wf13.old wn14) (wt14 _ _ we14)) (RepL.rep (RepL.cons Rep.int RepL.nil) 61)), by decide +kernel, D.ok_of (by first | decide +kernel | rfl)⟩, ⟨(D.dct [((Sum.inr "a"), (D.int 1))]), (Rep.dct (New.mk (wf14.old wn15) (wt15 _ _ we15)) (RepK.cons Rep.int RepK.nil)), by decide +kernel, D.ok_of (by first | decide +kernel | rfl)⟩, ⟨(D.lst [(D.int 1), (D.bl false), (D.int 3)]), (Rep.lst (New.mk (wf15.old wn16) (wt16 _ _ we16)) (RepL.cons Rep.int (RepL.cons Rep.bl (RepL.cons Rep.int RepL.nil)))), by decide +kernel, D.ok_of (by first | decide +kernel | rfl)⟩, ⟨(D.str ""), Rep.str, by decide +kernel, D.ok_of (by first | decide +kernel | rfl)⟩, ⟨(D.lst [(D.dct [])]), (Rep.lst (New.mk (wf17.old wn18) (wt18 _ _ we18)) (RepL.cons (Rep.dct (New.mk (wf16.old wn17) (wt17 _ _ we17)) RepK.nil) RepL.nil)), by decide +kernel, D.ok_of (by first | decide +kernel | rfl)⟩, fun z h => absurd h List.not_mem_nil⟩
    have npa : wp19 ≠ a := ((hb.mono wf18).ne (o := .lst []) wn19).symm
    refine ⟨a, wp19, _, _, rfl, hb.mono wf19, by unfold most; omega, npa, .inl (SqL.of we19), by simp, by simp, fun v H2 hv b2 hb2 => ?_⟩
    obtain ⟨d, r, h1, h2⟩ := (wgood v hv).mono (New.but hb b2)
    have bH2 : But a H H2 := (But.of wf19).trans b2
    walk_at "rds"
    refine ⟨v, d, rfl, r.mono New.all, by have := h2.deep; omega, h2.fit, fun y H3 s3 ry => ?_⟩
    exact q y H3 (bH2.trans (But.of s3)) (hb2.mono s3) ⟨d, ry.mono (new_old bH2 hb2), h1, h2⟩
end

section
variable {P : Program} {w : World} {K : PySem.W.Frag} {mg : Str → Option Value} {base : Heap} {A : Ad}
theorem d_some_row (T : Txt K mg A) : Df P w K mg base 4 "_law_some_row" s_some_row ["box", "most", "wide"] spSomeRow := by
  refine mk_df T.h_some_row sc_some_row (fun _ _ _ _ _ _ us hl => match us, hl with | [_, _, _], _ => rfl) (fun vs H Q E h => ?_) fun f cdv A' outer s H vs Q E hr h => ?_
  · obtain ⟨a, m, wd, B, rfl, _⟩ := h
    rfl
  · obtain ⟨a, m, wd, B, rfl, hb, hB, m1, m60, q⟩ := h
    have hu : (A'.deeper (envOfC "_law_some_row" (defScope s_some_row) s.heap.objs.size f cdv)).units + 64 < cLine := hr.units
    refine ⟨_, (pss_cons (ps_set (i := 3) sc_some_row.nd rfl (Or.inl rfl) (pe_ix (ix_seqK K) (pe_lst (pa_cons pe_int (pa_cons pe_int (pa_cons (pe_op (o_addK K) pe_int (pcall (d_take T) hr takesN (pa_cons (pv 0) (pa_cons (pv 1) pa_nil)))) (pa_cons (pe_op (o_addK K) pe_int (pcall (d_take T) hr takesN (pa_cons (pv 0) (pa_cons (pv 1) pa_nil)))) (pa_cons (pv 1) (pa_cons (pe_ifExp (pt_cmpR o_gt (pv 1) pe_int (nomark _)) pe_int (pv 1)) (pa_cons pe_int (pa_cons (pe_ifExp (pt_cmpR o_gt (pv 1) pe_int (nomark _)) pe_int (pv 1)) pa_nil))))))))) (pcall (d_take T) hr takesN (pa_cons (pv 0) (pa_cons pe_int pa_nil))) (fun _ _ => rfl)))
  (pss_cons (ps_par (i := 4) (j := 5) (by rfl) sc_some_row.nd rfl rfl (by decide) rfl rfl (pa_cons (pcall (d_net T) hr takesN (pa_cons (pv 0) (pa_cons (pv 3) (pa_cons (pv 2) pa_nil)))) (pa_cons (pcall (d_take T) hr takesN (pa_cons (pv 0) (pa_cons pe_int pa_nil))) pa_nil)) (by rfl))
  (pss_cons (ps_if (pt_cmpR (o_inK K) (pv 5) (pe_tup (pa_cons pe_int (pa_cons pe_int (pa_cons pe_int pa_nil)))) rfl)
  (pss_one (ps_set (i := 4) sc_some_row.nd rfl (Or.inl rfl) (pcall (d_bent T) hr takesN (pa_cons (pv 0) (pa_cons (pv 4) pa_nil))))) pss_nil)
  (pss_cons (ps_if (pt_cmpR (o_eqK K hu) (pv 5) pe_int (nomark _))
  (pss_one (ps_set (i := 4) sc_some_row.nd rfl (Or.inl rfl) (pcall (d_bent T) hr takesN (pa_cons (pv 0) (pa_cons (pv 4) pa_nil))))) pss_nil)
  (pss_cons (ps_if (pt_cmpR (o_eqK K hu) (pv 5) pe_int (nomark _))
  (pss_one (ps_setLc (i := 4) (own := [("k", 6)]) (by rfl) sc_some_row.nd rfl rfl (sw_true rfl rfl rfl (by decide +kernel)) (pi_range1 rfl T.b_range (pa_cons (pv 3) pa_nil)) (blkOk_by (own := [("k", 6)]) (N := ["box", "most", "wide", "many", "row", "way", "k"]) (sc := defScope s_some_row) (by decide +kernel)) (fun _ _ _ _ _ => (pg_name (i := 6) sc_some_row.nd rfl (Or.inl rfl))) (fun _ _ _ _ _ => pts_nil) (fun _ _ _ _ _ => (pe_op o_sub (pcall (d_take T) hr takesN (pa_cons (pv 0) (pa_cons pe_int pa_nil))) pe_int)))) pss_nil)
  (pss_cons (ps_if (pt_cmpR (o_eqK K hu) (pv 5) pe_int (nomark _))
  (pss_one (ps_set (i := 4) sc_some_row.nd rfl (Or.inl rfl) (pe_op (o_mulK K) (pe_lst (pa_cons (pe_op o_sub (pcall (d_take T) hr takesN (pa_cons (pv 0) (pa_cons pe_int pa_nil))) pe_int) pa_nil)) (pv 3)))) pss_nil)
  (pss_one (ps_ret (pv 4))))))))), ?_⟩
    walk_at "rds"
    refine take_at hb (by omega) (by omega) (by omega) fun t1 H1 b1 hb1 l1 u1 => ?_
    walk_at "rds"
    refine take_at hb1 (by omega) (by omega) (by omega) fun t2 H2 b2 hb2 l2 u2 => ?_
    walk_at "rds"
    refine w_ifD (fun h11 => ?_) fun h11 => absurd (by omega) h11
    walk_at "rds"
    refine join_cv (fun v => ∃ z : Int, v = .int z ∧ 1 ≤ z ∧ z ≤ 60) rfl (fun _ => ⟨24, rfl, by omega, by omega⟩) (fun _ => ⟨m, rfl, by omega, by omega⟩) ?_
    rintro _ ⟨c, rfl, c1, c60⟩
    walk_at "rds"
    refine al_l (by simp) fun p3 H3 n3 s3 e3 => ?_
    walk_at "rds"
    have n3a : p3 ≠ a := (hb2.ne (o := .lst []) n3).symm
    refine take_at (hb2.mono s3) (by omega) (by omega) (by omega) fun t4 H4 b4 hb4 l4 u4 => ?_
    walk_at "rds"
    obtain ⟨y, hy, _, e⟩ := ati_of (f := V.int) (zs := [1, 2, 1 + t1, 1 + t2, (m : Int), 12, 6, c]) (i := t4) (by omega) (by simp; omega)
    refine ix_l (SqL.of (b4 _ _ n3a e3)) e ?_
    have hy1 : 1 ≤ y ∧ y ≤ 60 := by
      simp at hy
      omega
    obtain ⟨k, rfl⟩ : ∃ k : Nat, y = k := ⟨y.toNat, by omega⟩
    have b14 : But a H H4 := b1.trans (b2.trans ((But.of s3).trans b4))
    walk_at "rds"
    refine ⟨a, k, wd, _, rfl, hb4, by omega, by omega, by omega, fun p5 ms5 H5 b5 hb5 n5 e5 hm5 => ?_⟩
    have n5a : p5 ≠ a := (hb4.ne (o := .lst []) n5).symm
    have n5H : H p5 = none := b14.old n5 n5a
    walk_at "rds"
    refine take_at hb5 (by omega) (by omega) (by omega) fun way H6 b6 hb6 l6 u6 => ?_
    have b16 := b14.trans (b5.trans b6)
    have e6 := b6 _ _ n5a e5
    walk_at "rds"
    refine al_t (by simp) fun p7 H7 n7 s7 e7 => ?_
    refine in_tI (ns := [2, 3, 4]) (SqT.of e7) ?_
    walk_at "rds"
    refine w_ifJ (fun σ' H' => But a H H' ∧ IsBox H' a (B + 250) ∧ ∃ p' ms kv, σ' = [some (.ref a), some (.int (m : Int)), some (.bl wd), some (.int (k : Int)), some (.ref p'), some (.int way), kv] ∧ H p' = none ∧ p' ≠ a ∧ H' p' = some (.lst (ms.map V.int)) ∧ 1 ≤ ms.length ∧ ms.length ≤ 60)
      ?_ (fun hc D' hrt key => ?_) (fun hc => ⟨b16.trans (But.of s7), (hb6.mono s7).le (by omega), p5, ms5, none, rfl, n5H, n5a, s7 _ _ e6, by omega, by omega⟩)
    rotate_left 1
    · walk_at "rds"
      refine ⟨a, p5, ms5, _, rfl, hb6.mono s7, by omega, n5a, s7 _ _ e6, by omega, by omega, fun p8 ms8 H8 b8 hb8 n8 e8 hm8 => ?_⟩
      have n8a : p8 ≠ a := ((hb6.mono s7).ne (o := .lst []) n8).symm
      have b17 := b16.trans (But.of s7)
      walk_at "rds"
      exact key _ _ ⟨b17.trans b8, hb8.le (by omega), p8, ms8, none, rfl, b17.old n8 n8a, n8a, e8, by omega, by omega⟩
    rintro σ H8 ⟨b8, hb8, p8, ms8, kv, rfl, n8, n8a, e8, l8, u8⟩
    walk_at "rds"
    refine w_ifJ (fun σ' H' => But a H H' ∧ IsBox H' a (B + 270) ∧ ∃ p' ms kv, σ' = [some (.ref a), some (.int (m : Int)), some (.bl wd), some (.int (k : Int)), some (.ref p'), some (.int way), kv] ∧ H p' = none ∧ p' ≠ a ∧ H' p' = some (.lst (ms.map V.int)) ∧ 1 ≤ ms.length ∧ ms.length ≤ 60)
      ?_ (fun hc D' hrt key => ?_) (fun hc => ⟨b8, hb8.le (by omega), p8, ms8, kv, rfl, n8, n8a, e8, by omega, by omega⟩)
    rotate_left 1
    · walk_at "rds"
      refine ⟨a, p8, ms8, _, rfl, hb8, by omega, n8a, e8, by omega, by omega, fun p9 ms9 H9 b9 hb9 n9 e9 hm9 => ?_⟩
      have n9a : p9 ≠ a := (hb8.ne (o := .lst []) n9).symm
      walk_at "rds"
      exact key _ _ ⟨b8.trans b9, hb9.le (by omega), p9, ms9, kv, rfl, b8.old n9 n9a, n9a, e9, by omega, by omega⟩
    clear l8 u8 e8 n8a n8 hb8 b8
    rintro σ H8 ⟨b8, hb8, p8, ms8, kv, rfl, n8, n8a, e8, l8, u8⟩
    walk_at "rds"
    refine w_ifJ (fun σ' H' => But a H H' ∧ IsBox H' a (B + 340) ∧ ∃ p' ms kv, σ' = [some (.ref a), some (.int (m : Int)), some (.bl wd), some (.int (k : Int)), some (.ref p'), some (.int way), kv] ∧ H p' = none ∧ p' ≠ a ∧ H' p' = some (.lst (ms.map V.int)) ∧ 1 ≤ ms.length ∧ ms.length ≤ 60)
      ?_ (fun hc D' hrt key => ?_) (fun hc => ⟨b8, hb8.le (by omega), p8, ms8, kv, rfl, n8, n8a, e8, by omega, by omega⟩)
    rotate_left 1
    · walk_at "rds"
      refine drp_r 1 (fun z => True) hb8 (fun C i H9 hi hp => ?_) fun C H9 rs b9 hb9 nC hl _ e9 => ?_
      · have hp' := hp
        obtain ⟨h1, h2, h3, _⟩ := hp'
        walk_at "rds"
        refine ⟨rfl, ?_⟩
        walk_at "rds"
        refine take_at h3 (by omega) (by omega) (by omega) fun d H10 b10 hb10 l10 u10 => ?_
        walk_at "rds"
        exact drp_push hb8 hp (by omega) b10 hb10 trivial
      · have nCa : C ≠ a := (hb8.ne (o := .lst []) nC).symm
        walk_at "rds"
        exact key _ _ ⟨b8.trans b9, hb9.le (by omega), C, rs, kv, rfl, b8.old nC nCa, nCa, e9, by omega, by omega⟩
    clear l8 u8 e8 n8a n8 hb8 b8
    rintro σ H8 ⟨b8, hb8, p8, ms8, kv, rfl, n8, n8a, e8, l8, u8⟩
    walk_at "rds"
    refine w_ifJ (fun σ' H' => But a H H' ∧ IsBox H' a (B + 350) ∧ ∃ p' ms kv, σ' = [some (.ref a), some (.int (m : Int)), some (.bl wd), some (.int (k : Int)), some (.ref p'), some (.int way), kv] ∧ H p' = none ∧ p' ≠ a ∧ H' p' = some (.lst (ms.map V.int)) ∧ 1 ≤ ms.length ∧ ms.length ≤ 60)
      ?_ (fun hc D' hrt key => ?_) (fun hc => ⟨b8, hb8.le (by omega), p8, ms8, kv, rfl, n8, n8a, e8, by omega, by omega⟩)
    rotate_left 1
    · walk_at "rds"
      refine take_at hb8 (by omega) (by omega) (by omega) fun d H9 b9 hb9 l9 u9 => ?_
      walk_at "rds"
      refine al_l (by simp) fun pA HA nA sA eA => ?_
      walk_at "rds"
      have hsz : ([V.int (d - 2)] : List V).length * ((k : Int)).toNat ≤ sizeLine := szl (by simp; omega)
      refine mul_li eA (by omega) (by omega) hsz fun pB HB nB sB eB => ?_
      walk_at "rds"
      have nBa : pB ≠ a := ((hb9.mono sA).ne (o := .lst []) nB).symm
      have b8B := b8.trans (b9.trans (But.of sA))
      refine key _ _ ⟨b8B.trans (But.of sB), ((hb9.mono sA).mono sB).le (by omega), pB, List.replicate k (d - 2), kv, rfl, b8B.old nB nBa, nBa, ?_, by simp; omega, by simp; omega⟩
      rw [eB]
      have : (k : Int).toNat = k := by omega
      rw [this, List.map_replicate]
      simp
    clear l8 u8 e8 n8a n8 hb8 b8
    rintro σ H8 ⟨b8, hb8, p8, ms8, kv, rfl, n8, n8a, e8, l8, u8⟩
    walk_at "rds"
    exact q p8 ms8 _ b8 (hb8.le (by omega)) n8 e8 l8 u8
theorem d_told (T : Txt K mg A) : Df P w K mg base 6 "_law_told" s_told ["row", "named"] (fun vs H Q E => ∃ nm x, vs = [x, .bl nm] ∧ spBy A.InvalidRow [x] H Q E) := by
  refine mk_df T.h_told sc_told (fun _ _ _ _ _ _ us hl => match us, hl with | [_, _], _ => rfl) (fun vs H Q E h => ?_) fun f cdv A' outer s H vs Q E hr h => ?_
  · obtain ⟨nm, x, rfl, _⟩ := h
    rfl
  · obtain ⟨nm, x, rfl, h⟩ := h
    refine ⟨_, (pss_one (ps_ret (pe_ifExp (pt_val (pv 1)) (pkw0 (d_by_primes T) hr kw_by_primes_0_row takesX (pk_cons (pv 0) pk_nil)) (pcall (d_by_primes T) hr takesX (pa_cons (pv 0) pa_nil))))), ?_⟩
    cases nm with
    | true =>
      walk_at "rds"
      exact kwc rfl rfl rfl h
    | false =>
      walk_at "rds"
      exact h
end

/-! ### plain: what is due -/
theorem bars_nil {r : Nat → Int} {n : Nat} : (barsL r n = [] ↔ badB r n = false) := by
  unfold barsL badB
  rw [List.map_eq_nil_iff, List.filter_eq_nil_iff, List.any_eq_false]
theorem barF_some {r : Nat → Int} {n : Nat} : (barF r n).isSome = badB r n := by
  unfold barF badB
  rw [Option.isSome_map]
  exact by
    cases h : (facs n).find? (barAt r n) with
    | none =>
      rw [List.find?_eq_none] at h
      exact (List.any_eq_false.mpr h).symm
    | some f => exact (List.any_eq_true.mpr ⟨f, List.mem_of_find?_eq_some h, List.find?_some h⟩).symm
theorem find_bar (r : Nat → Int) : ∀ l : List Nat, (l.findSome? (barF r)).map (·.1) = l.find? (badB r)
  | [] => rfl
  | n :: l => by
    rw [List.findSome?_cons, List.find?_cons]
    have h := barF_some (r := r) (n := n)
    cases e : barF r n with
    | none =>
      rw [e] at h
      rw [← h]
      exact find_bar r l
    | some z =>
      rw [e] at h
      rw [← h]
      unfold barF at e
      cases w : (facs n).find? (barAt r n) with
      | none =>
        rw [w] at e
        cases e
      | some f =>
        rw [w] at e
        cases e
        rfl
theorem find_same (r : Nat → Int) : ∀ (k s : Nat), 1 ≤ s → s + k ≤ 61 → (∀ m, 1 ≤ m → m < s → badB r m = false) → (List.range' s k).find? (badS r) = (List.range' s k).find? (badB r)
  | 0, _, _, _, _ => rfl
  | k + 1, s, h1, h2, h => by
    rw [List.range'_succ, List.find?_cons, List.find?_cons, bad_same r (mem_upto.mpr ⟨h1, by omega⟩) h]
    cases e : badB r s with
    | true => rfl
    | false =>
      refine find_same r k (s + 1) (by omega) (by omega) fun m m1 m2 => ?_
      by_cases z : m = s
      · rw [z]
        exact e
      · exact h m m1 (by omega)
theorem first_bar (r : Nat → Int) {k : Nat} (h : k ≤ 60) : firstS r k = (barOf r k).map (·.1) := by
  unfold firstS barOf
  rw [find_bar]
  exact find_same r k 1 (by omega) (by omega) fun m m1 m2 => by omega
theorem facs_up : (upto.all fun n => decide (((facs n).map (·.1)).Pairwise fun (a b : Int) => a ≤ b)) = true := by decide +kernel
theorem barOf_mem {r : Nat → Int} {k n : Nat} {l : Int} (h : barOf r k = some (n, l)) : 1 ≤ n ∧ n ≤ k ∧ barF r n = some (n, l) := by
  unfold barOf at h
  obtain ⟨m, hm, e⟩ := List.exists_of_findSome?_eq_some h
  rw [List.mem_range'_1] at hm
  have : m = n := by
    unfold barF at e
    cases w : (facs m).find? (barAt r m) with
    | none =>
      rw [w] at e
      cases e
    | some f =>
      rw [w] at e
      cases e
      rfl
  subst this
  exact ⟨hm.1, by omega, e⟩
theorem bars_head {r : Nat → Int} {n : Nat} {l : Int} (hn : n ∈ upto) (h : barF r n = some (n, l)) : l ∈ barsL r n ∧ ∀ y ∈ barsL r n, l ≤ y := by
  have up := of_decide_eq_true (List.all_eq_true.mp facs_up n hn)
  unfold barF at h
  unfold barsL
  generalize facs n = fs at h up
  cases w : fs.find? (barAt r n) with
  | none =>
    rw [w] at h
    cases h
  | some f =>
    rw [w] at h
    cases h
    refine ⟨List.mem_map.mpr ⟨f, List.mem_filter.mpr ⟨List.mem_of_find?_eq_some w, List.find?_some w⟩, rfl⟩, fun y hy => ?_⟩
    obtain ⟨g, hg, rfl⟩ := List.mem_map.mp hy
    obtain ⟨hg, hb⟩ := List.mem_filter.mp hg
    obtain ⟨h1, as, bs, rfl, h2⟩ := List.find?_eq_some_iff_append.mp w
    rw [List.map_append, List.pairwise_append] at up
    rcases List.mem_append.mp hg with hg | hg
    · have := h2 g hg
      rw [hb] at this
      cases this
    · rcases List.mem_cons.mp hg with rfl | hg
      · exact Int.le_refl _
      · have := (List.pairwise_cons.mp up.2.1).1 g.1 (List.mem_map.mpr ⟨g, hg, rfl⟩)
        exact this
def spDue : Sp := fun vs H Q _ => ∃ (p : Addr) (ns : List Int), vs = [.ref p] ∧ H p = some (.lst (ns.map V.int)) ∧ ns.length ≤ 60 ∧ ∀ v H', Same H H' → BarV (barOf (at1 ns) ns.length) H' v → Q v H'
section
variable {P : Program} {w : World} {K : PySem.W.Frag} {mg : Str → Option Value} {base : Heap} {A : Ad}
theorem d_due (T : Txt K mg A) : Df P w K mg base 4 "_law_due" s_due ["row"] spDue := by
  refine mk_df T.h_due sc_due (fun _ _ _ _ _ _ us hl => match us, hl with | [_], _ => rfl) (fun vs H Q E h => ?_) fun f cdv A' outer s H vs Q E hr h => ?_
  · obtain ⟨p, ns, rfl, _⟩ := h
    rfl
  · obtain ⟨p, ns, rfl, ep, n60, q⟩ := h
    have hu : (A'.deeper (envOfC "_law_due" (defScope s_due) s.heap.objs.size f cdv)).units + 64 < cLine := hr.units
    refine ⟨_, (pss_cons (ps_set (i := 1) sc_due.nd rfl (Or.inl rfl) (pcall (d_first T) hr takesN (pa_cons (pv 0) pa_nil)))
  (pss_cons (ps_setLc (i := 2) (own := [("n", 3)]) (by rfl) sc_due.nd rfl rfl (sw_true rfl rfl rfl (by decide +kernel)) (pi_range2 rfl T.b_range (pa_cons pe_int (pa_cons (pe_op (o_addK K) (pe_callB (c_lenK K) (by rfl) T.b_len PySem.boot_len (pa_cons (pv 0) pa_nil)) pe_int) pa_nil))) (blkOk_by (own := [("n", 3)]) (N := ["row", "first", "barred", "n"]) (sc := defScope s_due) (by decide +kernel)) (fun _ _ _ _ _ => (pg_name (i := 3) sc_due.nd rfl (Or.inl rfl))) (fun _ _ _ _ _ => (pts_one (pt_cmpR (o_neK K hu) (pcall (d_bars T) hr takesN (pa_cons (pv 0) (pa_cons (pv 3) pa_nil))) (pe_lst pa_nil) (nomark _)))) (fun _ _ _ _ _ => (pv 3)))
  (pss_cons (ps_if (pt_cmpR (o_neK K hu) (pe_ifExp (pt_cmpR (o_neK K hu) (pv 2) (pe_lst pa_nil) (nomark _)) (pe_ix (ix_seqK K) (pv 2) pe_int (fun _ _ => rfl)) pe_non) (pv 1) (nomark _))
  (pss_one (ps_ret pe_str)) pss_nil)
  (pss_one (ps_ret (pe_ifExp (pt_cmpR o_is (pv 1) pe_non (nomark _)) pe_non (pe_tup (pa_cons (pv 1) (pa_cons (pe_callB (c_minK K) (by rfl) T.b_min (by decide +kernel) (pa_cons (pcall (d_bars T) hr takesN (pa_cons (pv 0) (pa_cons (pv 1) pa_nil))) pa_nil)) pa_nil))))))))), ?_⟩
    have hsq : ∀ {H' : Hp}, Same H H' → SqI K H' (.ref p) ns := fun s => ⟨p, rfl, .inl (SqL.of (s _ _ ep))⟩
    have hfb := first_bar (at1 ns) n60
    walk_at "rds"
    refine ⟨.ref p, ns, rfl, hsq (Same.refl _), n60, fun H1 s1 => ?_⟩
    walk_at "rds"
    refine len_l (SqL.of (s1 _ _ ep)) ?_
    rw [List.length_map]
    walk_at "rds"
    have en : (↑ns.length + 1 - 1 : Int).toNat = ns.length := by omega
    rw [en]
    refine acc_r (fun j => ((List.range' 1 j).filter (badB (at1 ns))).map fun (n : Nat) => V.int (n : Int)) rfl (fun C j H2 hj hp => ?_) (fun C H2 s2 nC e2 => ?_)
    · have ej : (1 : Int) + j = ((j + 1 : Nat) : Int) := by omega
      rw [ej]
      walk_at "rds"
      refine ⟨rfl, ?_⟩
      walk_at "rds"
      refine ⟨.ref p, ns, j + 1, rfl, hsq (s1.trans hp.1), mem_upto.mpr ⟨by omega, by omega⟩, by omega, fun pb H3 s3 nb e3 => ?_⟩
      walk_at "rds"
      refine al_l (by simp) fun pe H4 npe s4 e4 => ?_
      have er : List.range' 1 (j + 1) = List.range' 1 j ++ [j + 1] := by
        rw [List.range'_1_concat, Nat.add_comm]
      have hlen := List.length_filter_le (badB (at1 ns)) (List.range' 1 j)
      rw [List.length_range'] at hlen
      by_cases hb : barsL (at1 ns) (j + 1) = []
      · rw [hb] at e3
        refine ne_nils (s4 _ _ e3) e4 ?_
        walk_at "rds"
        refine acc_skip hp (s3.trans s4) ?_
        show ((List.range' 1 (j + 1)).filter (badB (at1 ns))).map (fun (n : Nat) => V.int (n : Int)) = _
        rw [er, List.filter_append, List.map_append]
        simp [bars_nil.mp hb]
      · have hB : badB (at1 ns) (j + 1) = true := by
          cases z : badB (at1 ns) (j + 1) with
          | true => rfl
          | false => exact absurd (bars_nil.mpr z) hb
        obtain ⟨b0, br, hbr⟩ := List.exists_cons_of_ne_nil hb
        rw [hbr] at e3
        refine ne_ints (PySem.W.shaped_ints _) (s4 _ _ e3) e4 ?_
        walk_at "rds"
        refine acc_push hp (s3.trans s4) ?_ ?_
        · show ((List.range' 1 (j + 1)).filter (badB (at1 ns))).map (fun (n : Nat) => V.int (n : Int)) = _
          rw [er, List.filter_append, List.map_append]
          simp [hB]
        · rw [List.length_map]
          omega
    · have hfind : firstS (at1 ns) ns.length = ((List.range' 1 ns.length).filter (badB (at1 ns))).head? := by
        rw [hfb]
        unfold barOf
        rw [find_bar, ← List.head?_filter]
      have s12 := s1.trans s2
      walk_at "rds"
      refine al_l (by simp) fun pe H3 npe s3 e3 => ?_
      cases hL : (List.range' 1 ns.length).filter (badB (at1 ns)) with
      | nil =>
        rw [hL] at hfind e2
        have hbar : barOf (at1 ns) ns.length = none := by
          rw [hfind] at hfb
          cases z : barOf (at1 ns) ns.length with
          | none => rfl
          | some y =>
            rw [z] at hfb
            cases hfb
        have hfv : OptN (firstS (at1 ns) ns.length) = .non := by
          rw [hfind]
          rfl
        rw [hfv]
        refine ne_nils (s3 _ _ e2) e3 ?_
        walk_at "rds"
        refine ne_nn ?_
        walk_at "rds"
        refine q _ _ (s12.trans s3) ?_
        rw [hbar]
        rfl
      | cons n r =>
        rw [hL] at hfind e2
        obtain ⟨m, l, hbar⟩ : ∃ m l, barOf (at1 ns) ns.length = some (m, l) := by
          rw [hfind] at hfb
          cases z : barOf (at1 ns) ns.length with
          | none =>
            rw [z] at hfb
            cases hfb
          | some y => exact ⟨y.1, y.2, rfl⟩
        have hmn : m = n := by
          rw [hfind, hbar] at hfb
          simpa using hfb.symm
        subst hmn
        obtain ⟨m1, mk, hF⟩ := barOf_mem hbar
        have hm : m ∈ upto := mem_upto.mpr ⟨m1, by omega⟩
        obtain ⟨hl1, hl2⟩ := bars_head hm hF
        have hfv : OptN (firstS (at1 ns) ns.length) = .int (m : Int) := by
          rw [hfind]
          rfl
        rw [hfv]
        have e2 : H2 C = some (.lst (((m : Int) :: r.map fun (n : Nat) => (n : Int)).map V.int)) := by
          rw [e2, List.map_cons, List.map_cons, List.map_map]
          rfl
        refine ne_ints (PySem.W.shaped_ints _) (s3 _ _ e2) e3 ?_
        walk_at "rds"
        refine ix_l (SqL.of (s3 _ _ e2)) (ati (m := 0) rfl) ?_
        walk_at "rds"
        refine w_ifDN (fun z => absurd rfl z) fun _ => ?_
        walk_at "rds"
        refine ⟨.ref p, ns, m, rfl, hsq (s12.trans s3), hm, mk, fun pb H4 s4 nb e4 => ?_⟩
        walk_at "rds"
        refine min_l (SqL.of e4) hl1 hl2 ?_
        walk_at "rds"
        refine al_t (by simp) fun pr H5 nr s5 e5 => ?_
        refine q _ _ (s12.trans (s3.trans (s4.trans s5))) ?_
        rw [hbar]
        exact ⟨pr, rfl, e5⟩
end

theorem same_ok {H : Hp} {Q : VK} {E : XK} {x y : V} (d : D) (h1 : Rep H d x) (h2 : Rep H d y) (h3 : d.deep < 10) (h4 : d.fit) (q : ∀ H', Same H H' → Q (.bl true) H') : spSame 13 [x, y] H Q E := ⟨x, y, d, rfl, h1, h2, by omega, h4, q⟩
/-- the data that an answer of by_primes is -/
def BarD (o : Option (Nat × Int)) : D := match o with
  | none => .non
  | some (n, l) => .tup [.int n, .int l]
theorem BarV.rep {o : Option (Nat × Int)} {H : Hp} {v : V} (h : BarV o H v) : Rep H (BarD o) v := by
  cases o with
  | none =>
    obtain rfl : v = .non := h
    exact .non
  | some z =>
    obtain ⟨p, rfl, e⟩ := h
    exact .tup e (.cons .int (.cons .int .nil))
theorem BarD.deep (o : Option (Nat × Int)) : (BarD o).deep < 10 := by
  cases o with
  | none => exact (by decide : (0 : Nat) < 10)
  | some z => exact Nat.lt_of_le_of_lt (Nat.le_of_eq (rfl : _ = 1)) (by decide)
theorem BarD.fit (o : Option (Nat × Int)) : (BarD o).fit := by
  cases o with
  | none => exact D.fit_non
  | some z => exact D.fit_of _ rfl
/-- what bars looks at is the part up to n -/
theorem barF_congr {r s : Nat → Int} {n : Nat} (h : ∀ m, 1 ≤ m → m ≤ n → r m = s m) (hn : n ∈ upto) : barF r n = barF s n := by
  have hn' := mem_upto.mp hn
  have e : ∀ f ∈ facs n, barAt r n f = barAt s n f := fun f hf => by
    have FO := facOne_of (facs_at hn hf)
    have d1 : 1 ≤ n / f.1.toNat := (Nat.one_le_div_iff (by have := FO.l2; omega)).mpr (Nat.le_of_dvd (by omega) (Nat.dvd_of_mod_eq_zero FO.nl))
    unfold barAt
    rw [h n (by omega) (Nat.le_refl _), h _ d1 (Nat.div_le_self _ _)]
  unfold barF
  rw [find_congr e]
where
  find_congr {f g : Int × Int → Bool} : ∀ {l : List (Int × Int)}, (∀ x ∈ l, f x = g x) → l.find? f = l.find? g
    | [], _ => rfl
    | a :: l, h => by
      rw [List.find?_cons, List.find?_cons, h a List.mem_cons_self, find_congr fun x hx => h x (List.mem_cons_of_mem _ hx)]
theorem barOf_cut {r s : Nat → Int} {j k : Nat} (hk : k ≤ 60) (hj : j ≤ k) (h : ∀ m, 1 ≤ m → m ≤ j → r m = s m) : barOf s j = barOf r j := by
  unfold barOf
  refine findSome_congr fun n hn => ?_
  rw [List.mem_range'_1] at hn
  exact (barF_congr (fun m m1 m2 => h m m1 (by omega)) (mem_upto.mpr ⟨hn.1, by omega⟩)).symm
where
  findSome_congr {f g : Nat → Option (Nat × Int)} : ∀ {l : List Nat}, (∀ x ∈ l, f x = g x) → l.findSome? f = l.findSome? g
    | [], _ => rfl
    | a :: l, h => by
      rw [List.findSome?_cons, List.findSome?_cons, h a List.mem_cons_self, findSome_congr fun x hx => h x (List.mem_cons_of_mem _ hx)]
theorem barOf_app (r : Nat → Int) (j k : Nat) : barOf r (j + k) = (barOf r j).or ((List.range' (1 + j) k).findSome? (barF r)) := by
  unfold barOf
  rw [← List.findSome?_append, List.range'_append_1]
theorem barOf_none {r : Nat → Int} {j k : Nat} (h : barOf r k = none) (hj : j ≤ k) : barOf r j = none := by
  obtain ⟨c, rfl⟩ : ∃ c, k = j + c := ⟨k - j, by omega⟩
  rw [barOf_app] at h
  cases e : barOf r j with
  | none => rfl
  | some z =>
    rw [e] at h
    cases h
/-- up to its own place a bar is the first one, ahead of it there is none -/
theorem barOf_at {r : Nat → Int} {k n : Nat} {l : Int} (h : barOf r k = some (n, l)) : barOf r n = some (n, l) ∧ barOf r (n - 1) = none := by
  obtain ⟨n1, nk, hF⟩ := barOf_mem h
  have pre : barOf r (n - 1) = none := by
    cases e : barOf r (n - 1) with
    | none => rfl
    | some z =>
      obtain ⟨c, rfl⟩ : ∃ c, k = (n - 1) + c := ⟨k - (n - 1), by omega⟩
      rw [barOf_app, e] at h
      have h : some z = some (n, l) := h
      obtain ⟨m, y⟩ := z
      obtain ⟨h1, h2, _⟩ := barOf_mem e
      have : m = n := by
        have := Option.some.inj h
        exact (Prod.mk.inj this).1
      omega
  refine ⟨?_, pre⟩
  have e := barOf_app r (n - 1) 1
  have e1 : n - 1 + 1 = n := by omega
  have e2 : 1 + (n - 1) = n := by omega
  rw [e1, pre, e2] at e
  rw [e]
  simp [List.range'_succ, hF]
theorem barOf_mul {r : Nat → Int} {k : Nat} (c : Int) (hk : k ≤ 60) (h : barOf r k = none) : barOf (fun x => c * r x) k = none := by
  unfold barOf at h ⊢
  rw [List.findSome?_eq_none_iff] at h ⊢
  intro n hn
  have a := h n hn
  unfold barF at a ⊢
  rw [Option.map_eq_none_iff, List.find?_eq_none] at a ⊢
  intro f hf
  have b := a f hf
  unfold barAt at b ⊢
  rw [decide_eq_true_eq, Classical.not_not] at b ⊢
  rw [← Int.mul_sub, Int.mul_emod, b]
  simp
theorem BarV.but {o : Option (Nat × Int)} {H H' : Hp} {v : V} {a : Addr} {B : Int} (h : BarV o H v) (hb : IsBox H a B) (b : But a H H') : BarV o H' v := by
  cases o with
  | none => exact h
  | some z =>
    obtain ⟨p, e, h⟩ := h
    refine ⟨p, e, b _ _ (fun q => ?_) h⟩
    obtain ⟨_, _, _, _, e1, _⟩ := hb
    rw [q, e1] at h
    cases h
theorem barOf_later {r s : Nat → Int} {j k n : Nat} {l : Int} (h : barOf r k = some (n, l)) (hk : k ≤ 60) (hj : n ≤ j) (e : ∀ m, 1 ≤ m → m ≤ n → r m = s m) : barOf s j = some (n, l) := by
  obtain ⟨h1, _⟩ := barOf_at h
  obtain ⟨_, h3, _⟩ := barOf_mem h
  obtain ⟨c, rfl⟩ : ∃ c, j = n + c := ⟨j - n, by omega⟩
  rw [barOf_app, barOf_cut (r := r) (k := k) hk h3 e, h1]
  rfl
theorem at1_take {ns : List Int} {j m : Nat} (h1 : 1 ≤ m) (h2 : m ≤ j) : at1 (ns.take j) m = at1 ns m := by
  unfold at1
  rw [List.getElem?_take, if_pos (by omega)]
theorem at1_app {ns zs : List Int} {j m : Nat} (h1 : 1 ≤ m) (h2 : m ≤ j) (hj : j ≤ ns.length) : at1 (ns.take j ++ zs) m = at1 ns m := by
  unfold at1
  rw [List.getElem?_append_left (by rw [List.length_take]; omega), List.getElem?_take, if_pos (by omega)]
theorem at1_map {ns : List Int} {c : Int} (m : Nat) : at1 (ns.map fun x => c * x) m = c * at1 ns m := by
  unfold at1
  rw [List.getElem?_map]
  cases ns[m - 1]? with
  | none => simp
  | some x => rfl
theorem told_ok {C : Addr} {H : Hp} {Q : VK} {E : XK} {x : V} {nm : Bool} {d : D} {ns : List Int} (hr : d.rowOf ns) (r : Rep H d x) (h1 : 1 ≤ ns.length) (h60 : ns.length ≤ 60) (q : ∀ v H', Same H H' → BarV (barOf (at1 ns) ns.length) H' v → Q v H') :
    ∃ nm' x', [x, V.bl nm] = [x', V.bl nm'] ∧ spBy C [x'] H Q E :=
  ⟨nm, x, rfl, x, d, rfl, r, by
    rcases hr with rfl | rfl
    · exact fit_ints (by omega)
    · exact fit_intsT (by omega), .inr ⟨ns, hr, h1, h60, q⟩⟩
theorem two_rep {o : Option (Nat × Int)} {H : Hp} {p : Addr} {v w : V} (h : H p = some (.lst [v, w])) (h1 : BarV o H v) (h2 : BarV o H w) : Rep H (.lst [BarD o, BarD o]) (.ref p) := .lst h (.cons h1.rep (.cons h2.rep .nil))
theorem two_deep (o : Option (Nat × Int)) : (D.lst [BarD o, BarD o]).deep < 10 := by
  cases o with
  | none => exact Nat.lt_of_le_of_lt (Nat.le_of_eq (rfl : _ = 1)) (by decide)
  | some z => exact Nat.lt_of_le_of_lt (Nat.le_of_eq (rfl : _ = 2)) (by decide)
theorem two_fit (o : Option (Nat × Int)) : (D.lst [BarD o, BarD o]).fit := by
  cases o with
  | none => exact D.fit_of _ rfl
  | some z => exact D.fit_of _ rfl

def spRowRight : Sp := fun vs H Q _ => ∃ (a p : Addr) (nm : Bool) (ns : List Int) (B : Int), vs = [.ref a, .ref p, .bl nm] ∧ IsBox H a B ∧ B < 80000000 ∧ p ≠ a ∧ H p = some (.lst (ns.map V.int)) ∧ 1 ≤ ns.length ∧ ns.length ≤ 60 ∧
  ∀ H', But a H H' → IsBox H' a (B + 100) → Q (.bl true) H'
section
variable {P : Program} {w : World} {K : PySem.W.Frag} {mg : Str → Option Value} {base : Heap} {A : Ad}
theorem d_row_right (T : Txt K mg A) : Df P w K mg base 14 "_law_row_right" s_row_right ["box", "row", "named"] spRowRight := by
  refine mk_df T.h_row_right sc_row_right (fun _ _ _ _ _ _ us hl => match us, hl with | [_, _, _], _ => rfl) (fun vs H Q E h => ?_) fun f cdv A' outer s H vs Q E hr h => ?_
  · obtain ⟨a, p, nm, ns, B, rfl, _⟩ := h
    rfl
  · obtain ⟨a, p, nm, ns, B, rfl, hb, hB, npa, ep, n1, n60, q⟩ := h
    have hu : (A'.deeper (envOfC "_law_row_right" (defScope s_row_right) s.heap.objs.size f cdv)).units + 64 < cLine := hr.units
    refine ⟨_, (pss_cons (ps_set (i := 3) sc_row_right.nd rfl (Or.inl rfl) (pcall (d_due T) hr takesX (pa_cons (pv 1) pa_nil)))
  (pss_cons (ps_set (i := 4) sc_row_right.nd rfl (Or.inl rfl) (pe_ifExp (pt_cmpR (o_eqK K hu) (pcall (d_take T) hr takesX (pa_cons (pv 0) (pa_cons pe_int pa_nil))) pe_int (nomark _)) (pe_callTy (c_tupleK K) (by rfl) T.b_tuple (by decide +kernel) (pa_cons (pv 1) pa_nil)) (pe_callTy (c_listK K) (by rfl) T.b_list (by decide +kernel) (pa_cons (pv 1) pa_nil))))
  (pss_cons (ps_if (PW.pt (pw_or (pt_not (pt_val (pcall (d_same T) hr takesX (pa_cons (pcall (d_told T) hr takesX (pa_cons (pv 4) (pa_cons (pv 2) pa_nil))) (pa_cons (pv 3) pa_nil))))) (pw_or1 (pt_not (pt_val (pcall (d_same T) hr takesX (pa_cons (pe_callTy (c_listK K) (by rfl) T.b_list (by decide +kernel) (pa_cons (pv 4) pa_nil)) (pa_cons (pv 1) pa_nil))))))))
  (pss_one (ps_ret pe_bl)) pss_nil)
  (pss_cons (ps_if (pt_cmpR o_is (pv 3) pe_non (nomark _))
  (pss_cons (ps_set (i := 5) sc_row_right.nd rfl (Or.inl rfl) (pe_op (o_addK K) pe_int (pcall (d_take T) hr takesX (pa_cons (pv 0) (pa_cons (pe_callB (c_lenK K) (by rfl) T.b_len PySem.boot_len (pa_cons (pv 1) pa_nil)) pa_nil)))))
  (pss_cons (ps_set (i := 6) sc_row_right.nd rfl (Or.inr rfl) (pe_op o_sub (pcall (d_take T) hr takesX (pa_cons (pv 0) (pa_cons pe_int pa_nil))) pe_int))
  (pss_one (ps_ret (pcall (d_same T) hr takesX (pa_cons (pe_lst (pa_cons (pcall (d_told T) hr takesX (pa_cons (pe_slice (s_anyK K) (pv 1) po_none (po_some (pv 5))) (pa_cons (pe_not (pv 2)) pa_nil))) (pa_cons (pcall (d_told T) hr takesX (pa_cons (pe_lc (own := [("term", 12)]) (by rfl) sc_row_right.nd (pi_listK K (pv 1)) (blkOk_by (own := [("term", 12)]) (N := ["box", "row", "named", "due", "given", "cut", "factor", "n", "l", "later", "told", "k", "term"]) (sc := defScope s_row_right) (by decide +kernel)) (fun _ _ _ _ _ => (pg_name (i := 12) sc_row_right.nd rfl (Or.inl rfl))) (fun _ _ _ _ _ => pts_nil) (fun _ _ _ _ _ => (pe_op (o_mulK K) (pv 6) (pv 12)))) (pa_cons (pv 2) pa_nil))) pa_nil))) (pa_cons (pe_lst (pa_cons pe_non (pa_cons pe_non pa_nil))) pa_nil))))))) pss_nil)
  (pss_cons (ps_asg (pv 3) (pg_tupK K (n := 2) (pgs_cons (pg_name (i := 7) sc_row_right.nd rfl (Or.inl rfl)) (pgs_cons (pg_name (i := 8) sc_row_right.nd rfl (Or.inl rfl)) pgs_nil))))
  (pss_cons (ps_set (i := 9) sc_row_right.nd rfl (Or.inl rfl) (pe_op (o_addK K) (pe_slice (s_anyK K) (pv 1) po_none (po_some (pv 7))) (pe_lc (own := [("k", 11)]) (by rfl) sc_row_right.nd (pi_range1 rfl T.b_range (pa_cons (pe_op o_sub (pe_callB (c_lenK K) (by rfl) T.b_len PySem.boot_len (pa_cons (pv 1) pa_nil)) (pv 7)) pa_nil)) (blkOk_by (own := [("k", 11)]) (N := ["box", "row", "named", "due", "given", "cut", "factor", "n", "l", "later", "told", "k", "term"]) (sc := defScope s_row_right) (by decide +kernel)) (fun _ _ _ _ _ => (pg_name (i := 11) sc_row_right.nd rfl (Or.inl rfl))) (fun _ _ _ _ _ => pts_nil) (fun _ _ _ _ _ => (pcall (d_take T) hr takesN (pa_cons (pv 0) (pa_cons pe_int pa_nil)))))))
  (pss_cons (ps_set (i := 10) sc_row_right.nd rfl (Or.inl rfl) (pe_lst (pa_cons (pcall (d_told T) hr takesX (pa_cons (pv 9) (pa_cons (pe_not (pv 2)) pa_nil))) (pa_cons (pcall (d_told T) hr takesX (pa_cons (pe_slice (s_anyK K) (pv 1) po_none (po_some (pv 7))) (pa_cons (pv 2) pa_nil))) pa_nil))))
  (pss_cons (ps_if (pt_not (pt_val (pcall (d_same T) hr takesX (pa_cons (pv 10) (pa_cons (pe_lst (pa_cons (pv 3) (pa_cons (pv 3) pa_nil))) pa_nil)))))
  (pss_one (ps_ret pe_bl)) pss_nil)
  (pss_one (ps_ret (pe_or (pe_cmpR (o_eqK K hu) (pv 7) pe_int (nomark _)) (pe_one (pcall (d_same T) hr takesX (pa_cons (pcall (d_told T) hr takesX (pa_cons (pe_slice (s_anyK K) (pv 1) po_none (po_some (pe_op o_sub (pv 7) pe_int))) (pa_cons (pe_not (pv 2)) pa_nil))) (pa_cons pe_non pa_nil))))))))))))))), ?_⟩
    walk_at "rds"
    refine ⟨p, ns, rfl, ep, n60, fun due H1 s1 hdue => ?_⟩
    walk_at "rds"
    refine take_at (hb.mono s1) (by omega) (by omega) (by omega) fun t H2 b2 hb2 l2 u2 => ?_
    have ep2 := b2 _ _ npa (s1 _ _ ep)
    walk_at "rds"
    refine join_e (fun v H' => Same H2 H' ∧ ∃ pg, v = .ref pg ∧ (H' pg = some (.lst (ns.map V.int)) ∨ H' pg = some (.tup (ns.map V.int)))) ?_ (fun _ Q' key => ?_) (fun _ Q' key => ?_)
    rotate_left 1
    · walk_at "rds"
      exact tuple_l (SqL.of ep2) fun pg H3 n3 s3 e3 => key _ _ ⟨s3, pg, rfl, .inr e3⟩
    · walk_at "rds"
      exact list_l (SqL.of ep2) fun pg H3 n3 s3 e3 => key _ _ ⟨s3, pg, rfl, .inl e3⟩
    rintro _ H3 ⟨s3, pg, rfl, eg⟩
    have b13 : But a H1 H3 := b2.trans (But.of s3)
    have hdue3 := hdue.but (hb.mono s1) b13
    have ep3 := s3 _ _ ep2
    have hb3 := hb2.mono s3
    obtain ⟨d, hd, hr3⟩ : ∃ d : D, d.rowOf ns ∧ ∀ {H' : Hp}, Same H3 H' → Rep H' d (.ref pg) := by
      rcases eg with eg | eg
      · exact ⟨_, .inl rfl, fun s => rep_ints (s _ _ eg)⟩
      · exact ⟨_, .inr rfl, fun s => rep_intsT (s _ _ eg)⟩
    walk_at "rds"
    refine told_ok hd (hr3 (Same.refl _)) n1 n60 fun v4 H4 s4 h4 => ?_
    walk_at "rds"
    refine same_ok (BarD _) h4.rep (hdue3.mono s4).rep (BarD.deep _) (BarD.fit _) fun H5 s5 => ?_
    walk_at "rds"
    have s35 := s4.trans s5
    have fin : ∀ {H6 : Hp} {pl : Addr}, Same H5 H6 → H6 pl = some (.lst (ns.map V.int)) → spSame 13 [.ref pl, .ref p] H6 (fun v H' => v = .bl true ∧ Same H5 H') (fun _ _ _ => False) := fun s e => same_ok _ (rep_ints e) (rep_ints (s _ _ (s35 _ _ ep3))) (by rw [deep_ints]; omega) (fit_ints (by omega)) fun H' s' => ⟨rfl, s.trans s'⟩
    clear fin
    have go : ∀ {Q' : VK}, (∀ H6 pl, Same H5 H6 → H6 pl = some (.lst (ns.map V.int)) → Q' (.ref pl) H6) → rListOf K [.ref pg] H5 Q' := fun {Q'} k => by
      rcases eg with eg | eg
      · exact list_l (SqL.of (s35 _ _ eg)) fun pl H6 n6 s6 e6 => k H6 pl s6 e6
      · exact list_t (SqT.of (s35 _ _ eg)) fun pl H6 n6 s6 e6 => k H6 pl s6 e6
    refine go fun H6 pl s6 e6 => ?_
    walk_at "rds"
    refine same_ok _ (rep_ints e6) (rep_ints (s6 _ _ (s35 _ _ ep3))) (by rw [deep_ints]; omega) (fit_ints (by omega)) fun H7 s7 => ?_
    have s37 := s35.trans (s6.trans s7)
    have hdue7 := hdue3.mono s37
    have hb7 := hb3.mono s37
    have ep7 := s37 _ _ ep3
    have b07 : But a H H7 := (But.of s1).trans (b13.trans (But.of s37))
    cases hbar : barOf (at1 ns) ns.length with
    | none =>
      rw [hbar] at hdue7
      obtain rfl : due = .non := hdue7
      walk_at "rds"
      refine len_l (SqL.of ep7) ?_
      rw [List.length_map]
      walk_at "rds"
      refine take_at hb7 (by omega) (by omega) (by omega) fun c0 H8 b8 hb8 l8 u8 => ?_
      obtain ⟨j, hj⟩ : ∃ j : Nat, 1 + c0 = (j : Int) := ⟨(1 + c0).toNat, by omega⟩
      walk_at "rds"
      refine take_at hb8 (by omega) (by omega) (by omega) fun g0 H9 b9 hb9 l9 u9 => ?_
      rw [hj]
      have b79 := b8.trans b9
      have ep9 := b79 _ _ npa ep7
      walk_at "rds"
      refine sl_l (SqL.of ep9) fun p1 H10 n10 s10 e10 => ?_
      rw [cut_pre, ← List.map_take] at e10
      walk_at "rds"
      refine told_ok (ns := ns.take j) (.inl rfl) (rep_ints e10) (by simp; omega) (by simp; omega) fun v11 H11 s11 h11 => ?_
      have z1 : barOf (at1 (ns.take j)) (ns.take j).length = none := by
        have e : (ns.take j).length = j := by
          rw [List.length_take]
          omega
        rw [e, barOf_cut (r := at1 ns) (k := ns.length) n60 (by omega) fun m m1 m2 => (at1_take m1 m2).symm]
        exact barOf_none hbar (by omega)
      rw [z1] at h11
      obtain rfl : v11 = .non := h11
      have ep11 := s11 _ _ (s10 _ _ ep9)
      walk_at "rds"
      refine r_il (SqL.of ep11) ?_
      refine acc_l (fun i => ((ns.take i).map fun x => (g0 - 4) * x).map V.int) rfl (SqL.of ep11) (fun C i x' H12 hi hp => ?_) (fun C H12 s12 nC e12 => ?_)
      · obtain ⟨z, hz, rfl⟩ : ∃ z, ns[i]? = some z ∧ x' = .int z := by
          rw [List.getElem?_map] at hi
          cases w : ns[i]? with
          | none =>
            rw [w] at hi
            cases hi
          | some z =>
            rw [w] at hi
            cases hi
            exact ⟨z, rfl, rfl⟩
        have hil := (List.getElem?_eq_some_iff.mp hz).1
        walk_at "rds"
        refine ⟨rfl, ?_⟩
        walk_at "rds"
        refine acc_push hp (Same.refl _) ?_ (by simp; omega)
        show ((ns.take (i + 1)).map fun x => (g0 - 4) * x).map V.int = _
        rw [take_map hz, List.map_append]
        rfl
      · rw [List.length_map, List.take_length] at e12
        walk_at "rds"
        refine told_ok (ns := ns.map fun x => (g0 - 4) * x) (.inl rfl) (rep_ints e12) (by simp; omega) (by simp; omega) fun v13 H13 s13 h13 => ?_
        have z2 : barOf (at1 (ns.map fun x => (g0 - 4) * x)) (ns.map fun x => (g0 - 4) * x).length = none := by
          rw [List.length_map, show at1 (ns.map fun x => (g0 - 4) * x) = fun m => (g0 - 4) * at1 ns m from funext fun m => at1_map m]
          exact barOf_mul _ n60 hbar
        rw [z2] at h13
        obtain rfl : v13 = .non := h13
        walk_at "rds"
        refine al_l (by simp) fun p14 H14 n14 s14 e14 => ?_
        walk_at "rds"
        refine al_l (by simp) fun p15 H15 n15 s15 e15 => ?_
        walk_at "rds"
        refine same_ok _ (two_rep (o := none) (s15 _ _ e14) rfl rfl) (two_rep (o := none) e15 rfl rfl) (two_deep none) (two_fit none) fun H16 s16 => ?_
        have sa := s10.trans (s11.trans (s12.trans (s13.trans (s14.trans (s15.trans s16)))))
        exact q _ (b07.trans (b79.trans (But.of sa))) ((hb9.mono sa).le (by omega))
    | some z =>
      obtain ⟨n, l⟩ := z
      rw [hbar] at hdue7
      obtain ⟨pd, rfl, ed⟩ := hdue7
      obtain ⟨m1, mk, hF⟩ := barOf_mem hbar
      obtain ⟨hat, hpre⟩ := barOf_at hbar
      have npd : pd ≠ a := fun z => by
        obtain ⟨_, _, _, _, e1, _⟩ := hb7
        rw [z, e1] at ed
        cases ed
      walk_at "rds"
      refine g_tup (SqT.of ed) rfl ?_
      walk_at "rds"
      refine sl_l (SqL.of ep7) fun p1 H8 n8 s8 e8 => ?_
      rw [cut_pre, ← List.map_take] at e8
      have np1 : p1 ≠ a := (hb7.ne (o := .lst []) n8).symm
      have ep8 := s8 _ _ ep7
      have hb8 := hb7.mono s8
      walk_at "rds"
      refine len_l (SqL.of ep8) ?_
      rw [List.length_map]
      walk_at "rds"
      refine drp_r 1 (fun _ => True) hb8 (fun C i H9 hi hp => ?_) fun C H9 zs b9 hb9 nC hl _ e9 => ?_
      · have hp' := hp
        obtain ⟨h1, h2, h3, _⟩ := hp'
        walk_at "rds"
        refine ⟨rfl, ?_⟩
        walk_at "rds"
        refine take_at h3 (by omega) (by omega) (by omega) fun d H10 b10 hb10 l10 u10 => ?_
        exact drp_push hb8 hp (by omega) b10 hb10 trivial
      · walk_at "rds"
        refine add_ll (b9 _ _ np1 e8) e9 (szl (by simp; omega)) fun pL H10 n10 s10 e10 => ?_
        rw [← List.map_append] at e10
        have ep10 := s10 _ _ (b9 _ _ npa ep8)
        have ed10 := s10 _ _ (b9 _ _ npd (s8 _ _ ed))
        walk_at "rds"
        have hll : (ns.take n ++ zs).length = ns.length := by
          simp
          omega
        refine told_ok (ns := ns.take n ++ zs) (.inl rfl) (rep_ints e10) (by omega) (by omega) fun v11 H11 s11 h11 => ?_
        rw [hll, barOf_later hbar n60 mk fun m m1 m2 => (at1_app m1 m2 mk).symm] at h11
        walk_at "rds"
        refine sl_l (SqL.of (s11 _ _ ep10)) fun p12 H12 n12 s12 e12 => ?_
        rw [cut_pre, ← List.map_take] at e12
        walk_at "rds"
        have hlt : (ns.take n).length = n := by
          rw [List.length_take]
          omega
        refine told_ok (ns := ns.take n) (.inl rfl) (rep_ints e12) (by omega) (by omega) fun v13 H13 s13 h13 => ?_
        rw [hlt, barOf_later hbar n60 (Nat.le_refl n) fun m m1 m2 => (at1_take m1 m2).symm] at h13
        walk_at "rds"
        refine al_l (by simp) fun p14 H14 n14 s14 e14 => ?_
        walk_at "rds"
        refine al_l (by simp) fun p15 H15 n15 s15 e15 => ?_
        walk_at "rds"
        have s1015 := s11.trans (s12.trans (s13.trans (s14.trans s15)))
        have hv11 : BarV (some (n, l)) H15 v11 := h11.mono (s12.trans (s13.trans (s14.trans s15)))
        have hv13 : BarV (some (n, l)) H15 v13 := h13.mono (s14.trans s15)
        have hvd : BarV (some (n, l)) H15 (.ref pd) := ⟨pd, rfl, s1015 _ _ ed10⟩
        refine same_ok _ (two_rep (s15 _ _ e14) hv11 hv13) (two_rep e15 hvd hvd) (two_deep _) (two_fit _) fun H16 s16 => ?_
        have sa := s10.trans (s1015.trans s16)
        have bA := b07.trans ((But.of s8).trans (b9.trans (But.of sa)))
        have hbA : IsBox H16 a (B + 100) := (hb9.mono sa).le (by omega)
        have ep16 := (s1015.trans s16) _ _ ep10
        walk_at "rds"
        refine w_ifD (fun h1 => q _ bA hbA) fun h1 => ?_
        walk_at "rds"
        have em : ((n : Int) - 1) = ((n - 1 : Nat) : Int) := by omega
        rw [em]
        refine sl_l (SqL.of ep16) fun p17 H17 n17 s17 e17 => ?_
        rw [cut_pre, ← List.map_take] at e17
        walk_at "rds"
        have hlu : (ns.take (n - 1)).length = n - 1 := by
          rw [List.length_take]
          omega
        refine told_ok (ns := ns.take (n - 1)) (.inl rfl) (rep_ints e17) (by omega) (by omega) fun v18 H18 s18 h18 => ?_
        rw [hlu, barOf_cut (r := at1 ns) (k := ns.length) n60 (by omega) fun m m1 m2 => (at1_take m1 m2).symm, hpre] at h18
        obtain rfl : v18 = .non := h18
        walk_at "rds"
        refine same_ok .non .non .non (by decide +kernel) D.fit_non fun H19 s19 => ?_
        have sb := s17.trans (s18.trans s19)
        exact q _ (bA.trans (But.of sb)) (hbA.mono sb)
end

def spRefused : Sp := fun vs H Q _ => ∃ (a : Addr) (nm : Bool) (B : Int), vs = [.ref a, .bl nm] ∧ IsBox H a B ∧ B < 80000000 ∧ ∀ H', But a H H' → IsBox H' a (B + 10) → Q (.bl true) H'
def spLaw (K : PySem.W.Frag) : Sp := fun vs H Q _ => ∃ (a : Addr) (ns : List Int), vs = [.ref a] ∧ SqL K H a (ns.map V.int) ∧ ∀ H', Q (.bl true) H'
section
variable {P : Program} {w : World} {K : PySem.W.Frag} {mg : Str → Option Value} {base : Heap} {A : Ad}
theorem d_refused_right (T : Txt K mg A) : Df P w K mg base 15 "_law_refused_right" s_refused_right ["box", "named"] spRefused := by
  refine mk_df T.h_refused_right sc_refused_right (fun _ _ _ _ _ _ us hl => match us, hl with | [_, _], _ => rfl) (fun vs H Q E h => ?_) fun f cdv A' outer s H vs Q E hr h => ?_
  · obtain ⟨a, nm, B, rfl, _⟩ := h
    rfl
  · obtain ⟨a, nm, B, rfl, hb, hB, q⟩ := h
    have hu : (A'.deeper (envOfC "_law_refused_right" (defScope s_refused_right) s.heap.objs.size f cdv)).units + 64 < cLine := hr.units
    refine ⟨_, (pss_cons (ps_for PassesOwn.leaving rfl (pi_range1 rfl T.b_range (pa_cons pe_int pa_nil)) (pg_name (i := 2) sc_refused_right.nd rfl (Or.inl rfl))
  (pss_cons (ps_set (i := 3) sc_refused_right.nd rfl (Or.inl rfl) (pcall (d_no_row T) hr takesN (pa_cons (pv 0) pa_nil)))
  (pss_cons (ps_tryc (tb := _) sc_refused_right.nd takesN (fun W pn xe tk po => (pss_cons (ps_expr (pcall (d_told T) hr tk (pa_cons (pv 3) (pa_cons (pv 1) pa_nil))))
  (pss_one (ps_ret pe_bl))))
  (Cls.as (i := 4) (ts := _) ⟨rfl, by decide, .inl T.er_InvalidRow.gC⟩ rfl rfl (fun a oe cls d pn hz hd => (pss_one (ps_if (pt_not (pt_val (pcallH (dH_very T) (roomS hr) (hotS hz hd) takesN (pa_cons (pe_gotX (e_InvalidRow T) (by simp) hz hd (pv 4)) (pa_cons (pv 3) pa_nil)))))
  (pss_one (ps_ret pe_bl)) pss_nil))) Cls.nil))
  (pss_one (ps_set (i := 1) sc_refused_right.nd rfl (Or.inl rfl) (pe_not (pv 1)))))))
  (pss_one (ps_ret pe_bl))), ?_⟩
    walk_at "rds"
    have ek3 : (Int.toNat 3) = 3 := rfl
    rw [ek3]
    refine f_rng (fun i σ H' => But a H H' ∧ IsBox H' a (B + i) ∧ ∃ nm tv bv, σ = [some (.ref a), some (.bl nm), tv, bv, none]) ⟨But.refl, hb.le (by omega), nm, none, none, rfl⟩ (fun i σ H1 hi hp => ?_) (fun σ H1 hp => ?_)
    · obtain ⟨b1, hb1, nm, tv, bv, rfl⟩ := hp
      walk_at "rds"
      refine ⟨a, _, rfl, hb1, by omega, fun bad H2 b2 hb2 gbad => ?_⟩
      obtain ⟨d, rd, are, ok⟩ := gbad
      have nd : ∀ c, bad = .ref c → H1 c = none := fun c z => by
        subst z
        exact rep_new rd
      walk_at "rds"
      refine ⟨nm, bad, rfl, bad, d, rfl, rd.mono New.all, ok.fit, .inl ⟨are, fun H3 p s3 e3 => ?_⟩⟩
      refine cl_hit T.t_InvalidRow_InvalidRow fun x na => ?_
      walk_at "rds"
      refine xf_at e3 rfl ?_
      walk_at "rds"
      refine ⟨bad, d, rfl, (rd.mono New.all).mono s3, by have := ok.deep; omega, ok.fit, ok.room, fun H4 o4 => ?_⟩
      have b14 : But a H1 H4 := off_but o4 (b2.trans (But.of s3)) nd
      have hb4 : IsBox H4 a (B + i + 1) := off_box o4 (hb2.mono s3) hb1 nd
      walk_at "rds"
      refine ⟨.bl nm, rfl, ?_⟩
      walk_at "rds"
      exact ⟨b1.trans b14, hb4.le (by omega), _, _, _, rfl⟩
    · obtain ⟨b1, hb1, nm, tv, bv, rfl⟩ := hp
      walk_at "rds"
      exact q _ b1 (hb1.le (by omega))
theorem d_law (T : Txt K mg A) : Df P w K mg base 16 "law" s_law ["script"] (spLaw K) := by
  refine mk_df T.h_law sc_law (fun _ _ _ _ _ _ us hl => match us, hl with | [_], _ => rfl) (fun vs H Q E h => ?_) fun f cdv A' outer s H vs Q E hr h => ?_
  · obtain ⟨a, ns, rfl, _⟩ := h
    rfl
  · obtain ⟨a, ns, rfl, hS, q⟩ := h
    have hu : (A'.deeper (envOfC "law" (defScope s_law) s.heap.objs.size f cdv)).units + 64 < cLine := hr.units
    refine ⟨_, (pss_cons (ps_for PassesOwn.leaving rfl (pi_range1 rfl T.b_range (pa_cons (pe_callB (c_max2 rfl) (by rfl) T.b_max (by decide +kernel) (pa_cons pe_int (pa_cons (pe_callB (c_min2 rfl) (by rfl) T.b_min (by decide +kernel) (pa_cons pe_int (pa_cons (pe_callB (c_lenK K) (by rfl) T.b_len PySem.boot_len (pa_cons (pv 0) pa_nil)) pa_nil))) pa_nil))) pa_nil)) (pg_name (i := 1) sc_law.nd rfl (Or.inl rfl))
  (pss_cons (ps_set (i := 2) sc_law.nd rfl (Or.inl rfl) (pcall (d_box T) hr takesX (pa_cons (pcall (d_cell T) hr takesX (pa_cons (pv 0) (pa_cons (pv 1) pa_nil))) pa_nil)))
  (pss_cons (ps_par (i := 3) (j := 4) (by rfl) sc_law.nd rfl rfl (by decide) rfl rfl (pa_cons (pe_cmpR (o_eqK K hu) (pcall (d_take T) hr takesX (pa_cons (pv 2) (pa_cons pe_int pa_nil))) pe_int (nomark _)) (pa_cons (pe_cmpR (o_eqK K hu) (pcall (d_take T) hr takesX (pa_cons (pv 2) (pa_cons pe_int pa_nil))) pe_int (nomark _)) pa_nil)) (by rfl))
  (pss_cons (ps_set (i := 5) sc_law.nd rfl (Or.inl rfl) (pe_ifExp (PW.pt (pw_and (pt_cmpR (o_eqK K hu) (pv 1) pe_int (nomark _)) (pw_and1 (pt_cmpR (o_eqK K hu) (pcall (d_take T) hr takesX (pa_cons (pv 2) (pa_cons pe_int pa_nil))) pe_int (nomark _))))) pe_int pe_int))
  (pss_cons (ps_for PassesOwn.leaving rfl (pi_range1 rfl T.b_range (pa_cons pe_int pa_nil)) (pg_name (i := 6) sc_law.nd rfl (Or.inl rfl))
  (pss_cons (ps_if (pt_not (pt_val (pcall (d_row_right T) hr takesX (pa_cons (pv 2) (pa_cons (pcall (d_some_row T) hr takesX (pa_cons (pv 2) (pa_cons (pv 5) (pa_cons (pv 4) pa_nil)))) (pa_cons (pv 3) pa_nil))))))
  (pss_one (ps_ret pe_bl)) pss_nil)
  (pss_one (ps_set (i := 3) sc_law.nd rfl (Or.inl rfl) (pe_not (pv 3))))))
  (pss_one (ps_if (pt_not (pt_val (pcall (d_refused_right T) hr takesX (pa_cons (pv 2) (pa_cons (pv 3) pa_nil)))))
  (pss_one (ps_ret pe_bl)) pss_nil)))))))
  (pss_one (ps_ret pe_bl))), ?_⟩
    walk_at "rds"
    refine len_l hS ?_
    walk_at "rds"
    obtain ⟨k, hk, k3⟩ : ∃ k : Nat, k ≤ 6 ∧ (if (if ((ns.map V.int).length : Int) < 6 then ((ns.map V.int).length : Int) else 6) > 2 then (if ((ns.map V.int).length : Int) < 6 then ((ns.map V.int).length : Int) else 6) else 2) = (k : Int) := by
      by_cases h : ((ns.map V.int).length : Int) < 6
      · by_cases h2 : ((ns.map V.int).length : Int) > 2
        · exact ⟨(ns.map V.int).length, by omega, by rw [if_pos h, if_pos h2]⟩
        · exact ⟨2, by omega, by rw [if_pos h, if_neg h2]; rfl⟩
      · exact ⟨6, by omega, by rw [if_neg h, if_pos (by omega)]; rfl⟩
    rw [k3]
    walk_at "rds"
    refine f_rng (fun i σ H' => Same H H' ∧ ∃ kv bx nm wv mv tv, σ = [some (.ref a), kv, bx, nm, wv, mv, tv]) ⟨Same.refl _, none, none, none, none, none, none, rfl⟩ (fun i σ H1 hi hp => ?_) (fun σ H1 hp => ?_)
    · obtain ⟨s1, kv, bx, nm, wv, mv, tv, rfl⟩ := hp
      rw [Int.zero_add]
      walk_at "rds"
      refine ⟨a, ns, _, rfl, sqL_mono hS s1, by omega, by omega, fun v H2 s2 => ?_⟩
      walk_at "rds"
      refine ⟨v, rfl, fun pb H3 s3 nb hb => ?_⟩
      walk_at "rds"
      refine take_at hb (by omega) (by simp) (by simp) fun d1 H4 b4 hb4 l4 u4 => ?_
      walk_at "rds"
      refine take_at hb4 (by omega) (by simp) (by simp) fun d2 H5 b5 hb5 l5 u5 => ?_
      walk_at "rds"
      have s12 := s1.trans s2
      have nbH : H pb = none := s12.old nb
      have ek3 : (Int.toNat 3) = 3 := rfl
      refine w_ifD (fun h0 => ?_) fun h0 => ?_
      · walk_at "rds"
        refine take_at hb5 (by omega) (by simp) (by simp) fun d3 H6 b6 hb6 l6 u6 => ?_
        have b36 := b4.trans (b5.trans b6)
        walk_at "rds"
        refine w_ifD (fun h4 => ?_) fun h4 => ?_
        · walk_at "rds"
          rw [ek3]
          obtain ⟨ms, hms⟩ : ∃ ms : Nat, ms = 60 := ⟨60, rfl⟩
          have hme : (60 : Int) = (ms : Int) := by omega
          rw [hme]
          refine f_rng (fun j σ H' => But pb H3 H' ∧ IsBox H' pb (10 + 700 * j) ∧ ∃ nm tv, σ = [some (.ref a), some (.int (i : Int)), some (.ref pb), some (.bl nm), some (.bl (decide (d2 = 0))), some (.int (ms : Int)), tv]) ⟨b36, hb6.le (by omega), _, _, rfl⟩ (fun j σ H7 hj hp => ?_) (fun σ H7 hp => ?_)
          · obtain ⟨b7, hb7, nm, tv, rfl⟩ := hp
            walk_at "rds"
            refine ⟨pb, ms, _, _, rfl, hb7, by omega, by omega, by omega, fun p8 rs H8 b8 hb8 n8 e8 l8 u8 => ?_⟩
            have n8a : p8 ≠ pb := (hb7.ne (o := .lst []) n8).symm
            walk_at "rds"
            refine ⟨pb, p8, nm, rs, _, rfl, hb8, by omega, n8a, e8, l8, u8, fun H9 b9 hb9 => ?_⟩
            walk_at "rds"
            exact ⟨b7.trans (b8.trans b9), hb9.le (by omega), _, _, rfl⟩
          · obtain ⟨b7, hb7, nm, tv, rfl⟩ := hp
            walk_at "rds"
            refine ⟨pb, nm, _, rfl, hb7, by omega, fun H8 b8 hb8 => ?_⟩
            walk_at "rds"
            refine ⟨fun c o e => (b7.trans b8) _ _ (ne_of_none e nbH) ((s12.trans s3) _ _ e), _, _, _, _, _, _, rfl⟩
        · walk_at "rds"
          rw [ek3]
          obtain ⟨ms, hms⟩ : ∃ ms : Nat, ms = 24 := ⟨24, rfl⟩
          have hme : (24 : Int) = (ms : Int) := by omega
          rw [hme]
          refine f_rng (fun j σ H' => But pb H3 H' ∧ IsBox H' pb (10 + 700 * j) ∧ ∃ nm tv, σ = [some (.ref a), some (.int (i : Int)), some (.ref pb), some (.bl nm), some (.bl (decide (d2 = 0))), some (.int (ms : Int)), tv]) ⟨b36, hb6.le (by omega), _, _, rfl⟩ (fun j σ H7 hj hp => ?_) (fun σ H7 hp => ?_)
          · obtain ⟨b7, hb7, nm, tv, rfl⟩ := hp
            walk_at "rds"
            refine ⟨pb, ms, _, _, rfl, hb7, by omega, by omega, by omega, fun p8 rs H8 b8 hb8 n8 e8 l8 u8 => ?_⟩
            have n8a : p8 ≠ pb := (hb7.ne (o := .lst []) n8).symm
            walk_at "rds"
            refine ⟨pb, p8, nm, rs, _, rfl, hb8, by omega, n8a, e8, l8, u8, fun H9 b9 hb9 => ?_⟩
            walk_at "rds"
            exact ⟨b7.trans (b8.trans b9), hb9.le (by omega), _, _, rfl⟩
          · obtain ⟨b7, hb7, nm, tv, rfl⟩ := hp
            walk_at "rds"
            refine ⟨pb, nm, _, rfl, hb7, by omega, fun H8 b8 hb8 => ?_⟩
            walk_at "rds"
            refine ⟨fun c o e => (b7.trans b8) _ _ (ne_of_none e nbH) ((s12.trans s3) _ _ e), _, _, _, _, _, _, rfl⟩
      · have b36 := b4.trans b5
        have hb6 := hb5
        walk_at "rds"
        rw [ek3]
        obtain ⟨ms, hms⟩ : ∃ ms : Nat, ms = 24 := ⟨24, rfl⟩
        have hme : (24 : Int) = (ms : Int) := by omega
        rw [hme]
        refine f_rng (fun j σ H' => But pb H3 H' ∧ IsBox H' pb (10 + 700 * j) ∧ ∃ nm tv, σ = [some (.ref a), some (.int (i : Int)), some (.ref pb), some (.bl nm), some (.bl (decide (d2 = 0))), some (.int (ms : Int)), tv]) ⟨b36, hb6.le (by omega), _, _, rfl⟩ (fun j σ H7 hj hp => ?_) (fun σ H7 hp => ?_)
        · obtain ⟨b7, hb7, nm, tv, rfl⟩ := hp
          walk_at "rds"
          refine ⟨pb, ms, _, _, rfl, hb7, by omega, by omega, by omega, fun p8 rs H8 b8 hb8 n8 e8 l8 u8 => ?_⟩
          have n8a : p8 ≠ pb := (hb7.ne (o := .lst []) n8).symm
          walk_at "rds"
          refine ⟨pb, p8, nm, rs, _, rfl, hb8, by omega, n8a, e8, l8, u8, fun H9 b9 hb9 => ?_⟩
          walk_at "rds"
          exact ⟨b7.trans (b8.trans b9), hb9.le (by omega), _, _, rfl⟩
        · obtain ⟨b7, hb7, nm, tv, rfl⟩ := hp
          walk_at "rds"
          refine ⟨pb, nm, _, rfl, hb7, by omega, fun H8 b8 hb8 => ?_⟩
          walk_at "rds"
          refine ⟨fun c o e => (b7.trans b8) _ _ (ne_of_none e nbH) ((s12.trans s3) _ _ e), _, _, _, _, _, _, rfl⟩
    · obtain ⟨s1, kv, bx, nm, wv, mv, tv, rfl⟩ := hp
      walk_at "rds"
      exact q _
end

/-! ### the end -/
theorem exm_of {K : PySem.W.Frag} {S Y : Addr} {b : Bool} (h1 : PySem.W.subIn K (.ref S) (.type "BaseException") = some true) (h2 : PySem.W.isClsIn K S = true) (h3 : PySem.W.typeIn K (.ref S) = some (.type "type")) (h4 : PySem.W.subIn K (.ref Y) (.ref S) = some b) :
    PySem.W.exmOne K (.ref Y) (.ref S) = some b := by
  have e1 : (PySem.W.subIn K (.ref S) (.type "BaseException") == some true) = true := by rw [h1] <;> rfl
  have e2 : ((PySem.W.clsIn K S).isSome && PySem.W.typeIn K (.ref S) == some (.type "type")) = true := by
    have h2' : (PySem.W.clsIn K S).isSome = true := h2
    rw [h2', h3] <;> rfl
  show (if (PySem.W.subIn K (.ref S) (.type "BaseException") == some true) = true then (if ((PySem.W.clsIn K S).isSome && PySem.W.typeIn K (.ref S) == some (.type "type")) = true then PySem.W.subIn K (.ref Y) (.ref S) else none) else none) = some b
  rw [if_pos e1, if_pos e2]
  exact h4
theorem fun_one {K : PySem.W.Frag} {x q : Str} {st : Stmt} {f : Addr} {fd fd' : FuncData} (F : Fun K x q st f fd) (F' : Fun K x q st f fd') : fd = fd' := by
  obtain ⟨_, _, _, _, _, _, _, _, _, _, l, _⟩ := F.ex
  obtain ⟨_, _, _, _, _, _, _, _, _, _, l', _⟩ := F'.ex
  rw [l] at l'
  injection l' with e
  injection e with _ _ e _
  injection e
theorem passL {w : World} {P : Program} {H : Hp} {s : Shared} {e : Value} {s' : Shared} (c : L2N.CX P w [] H s (fun _ _ _ => False) e s') : False := by
  obtain ⟨_, _, _, _, _, _, _, _, _, _, _, _, z⟩ := c
  exact z
theorem all_mk {P : Program} {w : World} {K : PySem.W.Frag} {h : Heap} {mg : Str → Option Value} {fa f0 f1 f2 f3 f4 f5 f6 f7 f8 f9 f10 f11 f12 f13 f14 f15 f16 f17 f18 f19 f20 f21 f22 f23 f24 f25 f26 f27 f28 f29 f30 CRowError CInvalidRow fIInvalidRow : Addr} (X : K.In h) (G : h.Ns mainGlobals mg) (hfa : mg "law" = some (.ref fa))
    {od0 an0 : Option Addr} {sl0 : Array (Option Value)} {oc0 kV0 dc0 pm0 cd0 ct0 : Value}
    {od1 an1 : Option Addr} {sl1 : Array (Option Value)} {oc1 kV1 dc1 pm1 cd1 ct1 : Value}
    {od2 an2 : Option Addr} {sl2 : Array (Option Value)} {oc2 kV2 dc2 pm2 cd2 ct2 : Value}
    {od3 an3 : Option Addr} {sl3 : Array (Option Value)} {oc3 kV3 dc3 pm3 cd3 ct3 : Value}
    {od4 an4 : Option Addr} {sl4 : Array (Option Value)} {oc4 kV4 dc4 pm4 cd4 ct4 : Value}
    {od5 an5 : Option Addr} {sl5 : Array (Option Value)} {oc5 kV5 dc5 pm5 cd5 ct5 : Value}
    {od6 an6 : Option Addr} {sl6 : Array (Option Value)} {oc6 kV6 dc6 pm6 cd6 ct6 : Value}
    {od7 an7 : Option Addr} {sl7 : Array (Option Value)} {oc7 kV7 dc7 pm7 cd7 ct7 : Value}
    {od8 an8 : Option Addr} {sl8 : Array (Option Value)} {oc8 kV8 dc8 pm8 cd8 ct8 : Value}
    {od9 an9 : Option Addr} {sl9 : Array (Option Value)} {oc9 kV9 dc9 pm9 cd9 ct9 : Value}
    {od10 an10 : Option Addr} {sl10 : Array (Option Value)} {oc10 kV10 dc10 pm10 cd10 ct10 : Value}
    {od11 an11 : Option Addr} {sl11 : Array (Option Value)} {oc11 kV11 dc11 pm11 cd11 ct11 : Value}
    {od12 an12 : Option Addr} {sl12 : Array (Option Value)} {oc12 kV12 dc12 pm12 cd12 ct12 : Value}
    {od13 an13 : Option Addr} {sl13 : Array (Option Value)} {oc13 kV13 dc13 pm13 cd13 ct13 : Value}
    {od14 an14 : Option Addr} {sl14 : Array (Option Value)} {oc14 kV14 dc14 pm14 cd14 ct14 : Value}
    {od15 an15 : Option Addr} {sl15 : Array (Option Value)} {oc15 kV15 dc15 pm15 cd15 ct15 : Value}
    {od16 an16 : Option Addr} {sl16 : Array (Option Value)} {oc16 kV16 dc16 pm16 cd16 ct16 : Value}
    {od17 an17 : Option Addr} {sl17 : Array (Option Value)} {oc17 kV17 dc17 pm17 cd17 ct17 : Value}
    {od18 an18 : Option Addr} {sl18 : Array (Option Value)} {oc18 kV18 dc18 pm18 cd18 ct18 : Value}
    {od19 an19 : Option Addr} {sl19 : Array (Option Value)} {oc19 kV19 dc19 pm19 cd19 ct19 : Value}
    {od20 an20 : Option Addr} {sl20 : Array (Option Value)} {oc20 kV20 dc20 pm20 cd20 ct20 : Value}
    {od21 an21 : Option Addr} {sl21 : Array (Option Value)} {oc21 kV21 dc21 pm21 cd21 ct21 : Value}
    {od22 an22 : Option Addr} {sl22 : Array (Option Value)} {oc22 kV22 dc22 pm22 cd22 ct22 : Value}
    {od23 an23 : Option Addr} {sl23 : Array (Option Value)} {oc23 kV23 dc23 pm23 cd23 ct23 : Value}
    {od24 an24 : Option Addr} {sl24 : Array (Option Value)} {oc24 kV24 dc24 pm24 cd24 ct24 : Value}
    {od25 an25 : Option Addr} {sl25 : Array (Option Value)} {oc25 kV25 dc25 pm25 cd25 ct25 : Value}
    {od26 an26 : Option Addr} {sl26 : Array (Option Value)} {oc26 kV26 dc26 pm26 cd26 ct26 : Value}
    {od27 an27 : Option Addr} {sl27 : Array (Option Value)} {oc27 kV27 dc27 pm27 cd27 ct27 : Value}
    {od28 an28 : Option Addr} {sl28 : Array (Option Value)} {oc28 kV28 dc28 pm28 cd28 ct28 : Value}
    {od29 an29 : Option Addr} {sl29 : Array (Option Value)} {oc29 kV29 dc29 pm29 cd29 ct29 : Value}
    {od30 an30 : Option Addr} {sl30 : Array (Option Value)} {oc30 kV30 dc30 pm30 cd30 ct30 : Value}
    {q0 : Tok}
    {nmRowError qqRowError : Str} {NRowError : Addr} {bsRowError bmRowError : List Value} {snRowError : List Str} {sbRowError : List Value} {abRowError : Bool} {coRowError : Option Bool} {ddRowError : Option Addr} {maRowError mbRowError mcRowError mdRowError meRowError : Option Value}
    {nmInvalidRow qqInvalidRow : Str} {NInvalidRow : Addr} {bsInvalidRow bmInvalidRow : List Value} {snInvalidRow : List Str} {sbInvalidRow : List Value} {abInvalidRow : Bool} {coInvalidRow : Option Bool} {ddInvalidRow : Option Addr} {maInvalidRow mbInvalidRow mcInvalidRow mdInvalidRow meInvalidRow : Option Value}
    {odIInvalidRow anIInvalidRow : Option Addr} {slIInvalidRow : Array (Option Value)} {ocIInvalidRow kVIInvalidRow dcIInvalidRow pmIInvalidRow cdIInvalidRow ctIInvalidRow : Value}
    (a0 : PySem.W.nsIn K mainGlobals "is_integer" = some (some (.ref f0)))
    (l0 : K.lookup f0 = some ⟨oc0, od0, .func (PySem.W.fnOf "is_integer" "is_integer" (defArgs s_is_integer) (defBody s_is_integer) (defScope s_is_integer) .none kV0 dc0 pm0 an0 cd0 ct0), sl0⟩)
    (c0 : PySem.W.codeIn K cd0 "is_integer" = true)
    (k0 : PySem.W.keepIn K (.ref f0) = true)
    (a1 : PySem.W.nsIn K mainGlobals "is_sequence" = some (some (.ref f1)))
    (l1 : K.lookup f1 = some ⟨oc1, od1, .func (PySem.W.fnOf "is_sequence" "is_sequence" (defArgs s_is_sequence) (defBody s_is_sequence) (defScope s_is_sequence) .none kV1 dc1 pm1 an1 cd1 ct1), sl1⟩)
    (c1 : PySem.W.codeIn K cd1 "is_sequence" = true)
    (k1 : PySem.W.keepIn K (.ref f1) = true)
    (a2 : PySem.W.nsIn K mainGlobals "are_integers" = some (some (.ref f2)))
    (l2 : K.lookup f2 = some ⟨oc2, od2, .func (PySem.W.fnOf "are_integers" "are_integers" (defArgs s_are_integers) (defBody s_are_integers) (defScope s_are_integers) .none kV2 dc2 pm2 an2 cd2 ct2), sl2⟩)
    (c2 : PySem.W.codeIn K cd2 "are_integers" = true)
    (k2 : PySem.W.keepIn K (.ref f2) = true)
    (a3 : PySem.W.nsIn K mainGlobals "power_of" = some (some (.ref f3)))
    (l3 : K.lookup f3 = some ⟨oc3, od3, .func (PySem.W.fnOf "power_of" "power_of" (defArgs s_power_of) (defBody s_power_of) (defScope s_power_of) .none kV3 dc3 pm3 an3 cd3 ct3), sl3⟩)
    (c3 : PySem.W.codeIn K cd3 "power_of" = true)
    (k3 : PySem.W.keepIn K (.ref f3) = true)
    (a4 : PySem.W.nsIn K mainGlobals "factors_of" = some (some (.ref f4)))
    (l4 : K.lookup f4 = some ⟨oc4, od4, .func (PySem.W.fnOf "factors_of" "factors_of" (defArgs s_factors_of) (defBody s_factors_of) (defScope s_factors_of) .none kV4 dc4 pm4 an4 cd4 ct4), sl4⟩)
    (c4 : PySem.W.codeIn K cd4 "factors_of" = true)
    (k4 : PySem.W.keepIn K (.ref f4) = true)
    (a5 : PySem.W.nsIn K mainGlobals "is_row" = some (some (.ref f5)))
    (l5 : K.lookup f5 = some ⟨oc5, od5, .func (PySem.W.fnOf "is_row" "is_row" (defArgs s_is_row) (defBody s_is_row) (defScope s_is_row) .none kV5 dc5 pm5 an5 cd5 ct5), sl5⟩)
    (c5 : PySem.W.codeIn K cd5 "is_row" = true)
    (k5 : PySem.W.keepIn K (.ref f5) = true)
    (a6 : PySem.W.nsIn K mainGlobals "check_row" = some (some (.ref f6)))
    (l6 : K.lookup f6 = some ⟨oc6, od6, .func (PySem.W.fnOf "check_row" "check_row" (defArgs s_check_row) (defBody s_check_row) (defScope s_check_row) .none kV6 dc6 pm6 an6 cd6 ct6), sl6⟩)
    (c6 : PySem.W.codeIn K cd6 "check_row" = true)
    (k6 : PySem.W.keepIn K (.ref f6) = true)
    (a7 : PySem.W.nsIn K mainGlobals "by_primes" = some (some (.ref f7)))
    (l7 : K.lookup f7 = some ⟨oc7, od7, .func (PySem.W.fnOf "by_primes" "by_primes" (defArgs s_by_primes) (defBody s_by_primes) (defScope s_by_primes) .none kV7 dc7 pm7 an7 cd7 ct7), sl7⟩)
    (c7 : PySem.W.codeIn K cd7 "by_primes" = true)
    (k7 : PySem.W.keepIn K (.ref f7) = true)
    (a8 : PySem.W.nsIn K mainGlobals "_law_cell" = some (some (.ref f8)))
    (l8 : K.lookup f8 = some ⟨oc8, od8, .func (PySem.W.fnOf "_law_cell" "_law_cell" (defArgs s_cell) (defBody s_cell) (defScope s_cell) .none kV8 dc8 pm8 an8 cd8 ct8), sl8⟩)
    (c8 : PySem.W.codeIn K cd8 "_law_cell" = true)
    (k8 : PySem.W.keepIn K (.ref f8) = true)
    (a9 : PySem.W.nsIn K mainGlobals "_law_box" = some (some (.ref f9)))
    (l9 : K.lookup f9 = some ⟨oc9, od9, .func (PySem.W.fnOf "_law_box" "_law_box" (defArgs s_box) (defBody s_box) (defScope s_box) .none kV9 dc9 pm9 an9 cd9 ct9), sl9⟩)
    (c9 : PySem.W.codeIn K cd9 "_law_box" = true)
    (k9 : PySem.W.keepIn K (.ref f9) = true)
    (a10 : PySem.W.nsIn K mainGlobals "_law_take" = some (some (.ref f10)))
    (l10 : K.lookup f10 = some ⟨oc10, od10, .func (PySem.W.fnOf "_law_take" "_law_take" (defArgs s_take) (defBody s_take) (defScope s_take) .none kV10 dc10 pm10 an10 cd10 ct10), sl10⟩)
    (c10 : PySem.W.codeIn K cd10 "_law_take" = true)
    (k10 : PySem.W.keepIn K (.ref f10) = true)
    (a11 : PySem.W.nsIn K mainGlobals "_law_pick" = some (some (.ref f11)))
    (l11 : K.lookup f11 = some ⟨oc11, od11, .func (PySem.W.fnOf "_law_pick" "_law_pick" (defArgs s_pick) (defBody s_pick) (defScope s_pick) .none kV11 dc11 pm11 an11 cd11 ct11), sl11⟩)
    (c11 : PySem.W.codeIn K cd11 "_law_pick" = true)
    (k11 : PySem.W.keepIn K (.ref f11) = true)
    (a12 : PySem.W.nsIn K mainGlobals "_law_same" = some (some (.ref f12)))
    (l12 : K.lookup f12 = some ⟨oc12, od12, .func (PySem.W.fnOf "_law_same" "_law_same" (defArgs s_same) (defBody s_same) (defScope s_same) .none kV12 dc12 pm12 an12 cd12 ct12), sl12⟩)
    (c12 : PySem.W.codeIn K cd12 "_law_same" = true)
    (k12 : PySem.W.keepIn K (.ref f12) = true)
    (a13 : PySem.W.nsIn K mainGlobals "_law_copy" = some (some (.ref f13)))
    (l13 : K.lookup f13 = some ⟨oc13, od13, .func (PySem.W.fnOf "_law_copy" "_law_copy" (defArgs s_copy) (defBody s_copy) (defScope s_copy) .none kV13 dc13 pm13 an13 cd13 ct13), sl13⟩)
    (c13 : PySem.W.codeIn K cd13 "_law_copy" = true)
    (k13 : PySem.W.keepIn K (.ref f13) = true)
    (a14 : PySem.W.nsIn K mainGlobals "_law_very" = some (some (.ref f14)))
    (l14 : K.lookup f14 = some ⟨oc14, od14, .func (PySem.W.fnOf "_law_very" "_law_very" (defArgs s_very) (defBody s_very) (defScope s_very) .none kV14 dc14 pm14 an14 cd14 ct14), sl14⟩)
    (c14 : PySem.W.codeIn K cd14 "_law_very" = true)
    (k14 : PySem.W.keepIn K (.ref f14) = true)
    (a15 : PySem.W.nsIn K mainGlobals "_law_mu" = some (some (.ref f15)))
    (l15 : K.lookup f15 = some ⟨oc15, od15, .func (PySem.W.fnOf "_law_mu" "_law_mu" (defArgs s_mu) (defBody s_mu) (defScope s_mu) .none kV15 dc15 pm15 an15 cd15 ct15), sl15⟩)
    (c15 : PySem.W.codeIn K cd15 "_law_mu" = true)
    (k15 : PySem.W.keepIn K (.ref f15) = true)
    (a16 : PySem.W.nsIn K mainGlobals "_law_sum" = some (some (.ref f16)))
    (l16 : K.lookup f16 = some ⟨oc16, od16, .func (PySem.W.fnOf "_law_sum" "_law_sum" (defArgs s_sum) (defBody s_sum) (defScope s_sum) .none kV16 dc16 pm16 an16 cd16 ct16), sl16⟩)
    (c16 : PySem.W.codeIn K cd16 "_law_sum" = true)
    (k16 : PySem.W.keepIn K (.ref f16) = true)
    (a17 : PySem.W.nsIn K mainGlobals "_law_row" = some (some (.ref f17)))
    (l17 : K.lookup f17 = some ⟨oc17, od17, .func (PySem.W.fnOf "_law_row" "_law_row" (defArgs s_row) (defBody s_row) (defScope s_row) .none kV17 dc17 pm17 an17 cd17 ct17), sl17⟩)
    (c17 : PySem.W.codeIn K cd17 "_law_row" = true)
    (k17 : PySem.W.keepIn K (.ref f17) = true)
    (a18 : PySem.W.nsIn K mainGlobals "_law_primes" = some (some (.ref f18)))
    (l18 : K.lookup f18 = some ⟨oc18, od18, .func (PySem.W.fnOf "_law_primes" "_law_primes" (defArgs s_primes) (defBody s_primes) (defScope s_primes) .none kV18 dc18 pm18 an18 cd18 ct18), sl18⟩)
    (c18 : PySem.W.codeIn K cd18 "_law_primes" = true)
    (k18 : PySem.W.keepIn K (.ref f18) = true)
    (a19 : PySem.W.nsIn K mainGlobals "_law_to" = some (some (.ref f19)))
    (l19 : K.lookup f19 = some ⟨oc19, od19, .func (PySem.W.fnOf "_law_to" "_law_to" (defArgs s_to) (defBody s_to) (defScope s_to) .none kV19 dc19 pm19 an19 cd19 ct19), sl19⟩)
    (c19 : PySem.W.codeIn K cd19 "_law_to" = true)
    (k19 : PySem.W.keepIn K (.ref f19) = true)
    (a20 : PySem.W.nsIn K mainGlobals "_law_bars" = some (some (.ref f20)))
    (l20 : K.lookup f20 = some ⟨oc20, od20, .func (PySem.W.fnOf "_law_bars" "_law_bars" (defArgs s_bars) (defBody s_bars) (defScope s_bars) .none kV20 dc20 pm20 an20 cd20 ct20), sl20⟩)
    (c20 : PySem.W.codeIn K cd20 "_law_bars" = true)
    (k20 : PySem.W.keepIn K (.ref f20) = true)
    (a21 : PySem.W.nsIn K mainGlobals "_law_first" = some (some (.ref f21)))
    (l21 : K.lookup f21 = some ⟨oc21, od21, .func (PySem.W.fnOf "_law_first" "_law_first" (defArgs s_first) (defBody s_first) (defScope s_first) .none kV21 dc21 pm21 an21 cd21 ct21), sl21⟩)
    (c21 : PySem.W.codeIn K cd21 "_law_first" = true)
    (k21 : PySem.W.keepIn K (.ref f21) = true)
    (a22 : PySem.W.nsIn K mainGlobals "_law_bent" = some (some (.ref f22)))
    (l22 : K.lookup f22 = some ⟨oc22, od22, .func (PySem.W.fnOf "_law_bent" "_law_bent" (defArgs s_bent) (defBody s_bent) (defScope s_bent) .none kV22 dc22 pm22 an22 cd22 ct22), sl22⟩)
    (c22 : PySem.W.codeIn K cd22 "_law_bent" = true)
    (k22 : PySem.W.keepIn K (.ref f22) = true)
    (a23 : PySem.W.nsIn K mainGlobals "_law_net" = some (some (.ref f23)))
    (l23 : K.lookup f23 = some ⟨oc23, od23, .func (PySem.W.fnOf "_law_net" "_law_net" (defArgs s_net) (defBody s_net) (defScope s_net) .none kV23 dc23 pm23 an23 cd23 ct23), sl23⟩)
    (c23 : PySem.W.codeIn K cd23 "_law_net" = true)
    (k23 : PySem.W.keepIn K (.ref f23) = true)
    (a24 : PySem.W.nsIn K mainGlobals "_law_some_row" = some (some (.ref f24)))
    (l24 : K.lookup f24 = some ⟨oc24, od24, .func (PySem.W.fnOf "_law_some_row" "_law_some_row" (defArgs s_some_row) (defBody s_some_row) (defScope s_some_row) .none kV24 dc24 pm24 an24 cd24 ct24), sl24⟩)
    (c24 : PySem.W.codeIn K cd24 "_law_some_row" = true)
    (k24 : PySem.W.keepIn K (.ref f24) = true)
    (a25 : PySem.W.nsIn K mainGlobals "_law_no_row" = some (some (.ref f25)))
    (l25 : K.lookup f25 = some ⟨oc25, od25, .func (PySem.W.fnOf "_law_no_row" "_law_no_row" (defArgs s_no_row) (defBody s_no_row) (defScope s_no_row) .none kV25 dc25 pm25 an25 cd25 ct25), sl25⟩)
    (c25 : PySem.W.codeIn K cd25 "_law_no_row" = true)
    (k25 : PySem.W.keepIn K (.ref f25) = true)
    (a26 : PySem.W.nsIn K mainGlobals "_law_due" = some (some (.ref f26)))
    (l26 : K.lookup f26 = some ⟨oc26, od26, .func (PySem.W.fnOf "_law_due" "_law_due" (defArgs s_due) (defBody s_due) (defScope s_due) .none kV26 dc26 pm26 an26 cd26 ct26), sl26⟩)
    (c26 : PySem.W.codeIn K cd26 "_law_due" = true)
    (k26 : PySem.W.keepIn K (.ref f26) = true)
    (a27 : PySem.W.nsIn K mainGlobals "_law_told" = some (some (.ref f27)))
    (l27 : K.lookup f27 = some ⟨oc27, od27, .func (PySem.W.fnOf "_law_told" "_law_told" (defArgs s_told) (defBody s_told) (defScope s_told) .none kV27 dc27 pm27 an27 cd27 ct27), sl27⟩)
    (c27 : PySem.W.codeIn K cd27 "_law_told" = true)
    (k27 : PySem.W.keepIn K (.ref f27) = true)
    (a28 : PySem.W.nsIn K mainGlobals "_law_row_right" = some (some (.ref f28)))
    (l28 : K.lookup f28 = some ⟨oc28, od28, .func (PySem.W.fnOf "_law_row_right" "_law_row_right" (defArgs s_row_right) (defBody s_row_right) (defScope s_row_right) .none kV28 dc28 pm28 an28 cd28 ct28), sl28⟩)
    (c28 : PySem.W.codeIn K cd28 "_law_row_right" = true)
    (k28 : PySem.W.keepIn K (.ref f28) = true)
    (a29 : PySem.W.nsIn K mainGlobals "_law_refused_right" = some (some (.ref f29)))
    (l29 : K.lookup f29 = some ⟨oc29, od29, .func (PySem.W.fnOf "_law_refused_right" "_law_refused_right" (defArgs s_refused_right) (defBody s_refused_right) (defScope s_refused_right) .none kV29 dc29 pm29 an29 cd29 ct29), sl29⟩)
    (c29 : PySem.W.codeIn K cd29 "_law_refused_right" = true)
    (k29 : PySem.W.keepIn K (.ref f29) = true)
    (a30 : PySem.W.nsIn K mainGlobals "law" = some (some (.ref f30)))
    (l30 : K.lookup f30 = some ⟨oc30, od30, .func (PySem.W.fnOf "law" "law" (defArgs s_law) (defBody s_law) (defScope s_law) .none kV30 dc30 pm30 an30 cd30 ct30), sl30⟩)
    (c30 : PySem.W.codeIn K cd30 "law" = true)
    (k30 : PySem.W.keepIn K (.ref f30) = true)
    (z0 : PySem.W.nsIn K mainGlobals "abs" = some none)
    (z1 : PySem.W.nsIn K mainGlobals "all" = some none)
    (z2 : PySem.W.nsIn K mainGlobals "bool" = some none)
    (z3 : PySem.W.nsIn K mainGlobals "dict" = some none)
    (z4 : PySem.W.nsIn K mainGlobals "enumerate" = some none)
    (z5 : PySem.W.nsIn K mainGlobals "int" = some none)
    (z6 : PySem.W.nsIn K mainGlobals "isinstance" = some none)
    (z7 : PySem.W.nsIn K mainGlobals "len" = some none)
    (z8 : PySem.W.nsIn K mainGlobals "list" = some none)
    (z9 : PySem.W.nsIn K mainGlobals "max" = some none)
    (z10 : PySem.W.nsIn K mainGlobals "min" = some none)
    (z11 : PySem.W.nsIn K mainGlobals "range" = some none)
    (z12 : PySem.W.nsIn K mainGlobals "str" = some none)
    (z13 : PySem.W.nsIn K mainGlobals "sum" = some none)
    (z14 : PySem.W.nsIn K mainGlobals "tuple" = some none)
    (v0 : PySem.W.nsIn K mainGlobals "MOST_TERMS" = some (some (.int 60 q0)))
    (gRowError : PySem.W.nsIn K mainGlobals "RowError" = some (some (.ref CRowError)))
    (xRowError : K.lookup CRowError = some (excClassObj nmRowError qqRowError CRowError NRowError bsRowError bmRowError true snRowError sbRowError abRowError coRowError ddRowError maRowError mbRowError mcRowError mdRowError meRowError "ValueError.__new__"))
    (yRowError : PySem.HandSPX.refsVE bmRowError = true)
    (saRowError : PySem.W.findIn K (.ref CRowError) "__setattr__" = some (some (.builtin "object.__setattr__")))
    (gaRowError : PySem.W.findIn K (.ref CRowError) "__getattribute__" = some (some (.builtin "BaseException.__getattribute__")))
    (ggRowError : PySem.W.findIn K (.ref CRowError) "__getattr__" = some none)
    (keRowError : PySem.W.keepIn K (.ref CRowError) = true)
    (exRowError : PySem.W.subIn K (.ref CRowError) (.type "BaseException") = some true)
    (tyRowError : PySem.W.typeIn K (.ref CRowError) = some (.type "type"))
    (hdRowError : PySem.W.hasDictIn K CRowError = true)
    (icRowError : PySem.W.isClsIn K CRowError = true)
    (gInvalidRow : PySem.W.nsIn K mainGlobals "InvalidRow" = some (some (.ref CInvalidRow)))
    (xInvalidRow : K.lookup CInvalidRow = some (excClassObj nmInvalidRow qqInvalidRow CInvalidRow NInvalidRow bsInvalidRow bmInvalidRow true snInvalidRow sbInvalidRow abInvalidRow coInvalidRow ddInvalidRow maInvalidRow mbInvalidRow mcInvalidRow mdInvalidRow meInvalidRow "ValueError.__new__"))
    (yInvalidRow : PySem.HandSPX.refsVE bmInvalidRow = true)
    (saInvalidRow : PySem.W.findIn K (.ref CInvalidRow) "__setattr__" = some (some (.builtin "object.__setattr__")))
    (gaInvalidRow : PySem.W.findIn K (.ref CInvalidRow) "__getattribute__" = some (some (.builtin "BaseException.__getattribute__")))
    (ggInvalidRow : PySem.W.findIn K (.ref CInvalidRow) "__getattr__" = some none)
    (keInvalidRow : PySem.W.keepIn K (.ref CInvalidRow) = true)
    (exInvalidRow : PySem.W.subIn K (.ref CInvalidRow) (.type "BaseException") = some true)
    (tyInvalidRow : PySem.W.typeIn K (.ref CInvalidRow) = some (.type "type"))
    (hdInvalidRow : PySem.W.hasDictIn K CInvalidRow = true)
    (icInvalidRow : PySem.W.isClsIn K CInvalidRow = true)
    (inInvalidRow : PySem.W.findIn K (.ref CInvalidRow) "__init__" = some (some (.ref fIInvalidRow)))
    (itInvalidRow : PySem.W.typeIn K (.ref fIInvalidRow) = some (.type "function"))
    (ilInvalidRow : K.lookup fIInvalidRow = some ⟨ocIInvalidRow, odIInvalidRow, .func (PySem.W.fnOf "__init__" "InvalidRow.__init__" (defArgs (inClass s_InvalidRow 0)) (defBody (inClass s_InvalidRow 0)) (defScope (inClass s_InvalidRow 0)) .none kVIInvalidRow dcIInvalidRow pmIInvalidRow anIInvalidRow cdIInvalidRow ctIInvalidRow), slIInvalidRow⟩)
    (idInvalidRow : PySem.W.codeIn K cdIInvalidRow "InvalidRow.__init__" = true)
    (ikInvalidRow : PySem.W.keepIn K (.ref fIInvalidRow) = true)
    (noInvalidRowgiven : PySem.W.findIn K (.ref CInvalidRow) "given" = some none)
    (rr1 : PySem.W.readsIn K CRowError (.type "type") = true)
    (rr2 : PySem.W.specialIn K (.ref CRowError) "__getattribute__" = some (some (.builtin "type.__getattribute__")))
    (rr3 : PySem.W.findCls K (.ref CRowError) (.type "type") "__init__" = some (.val (.builtin "ValueError.__init__")))
    (sInvalidRow_RowError : PySem.W.subIn K (.ref CInvalidRow) (.ref CRowError) = some true)
    (sInvalidRow_InvalidRow : PySem.W.subIn K (.ref CInvalidRow) (.ref CInvalidRow) = some true) :
    ∃ fd : FuncData, (∀ (s : Shared) (v : Value), BindsTo s fd ⟨[v], []⟩ [("script", v)]) ∧ ∀ base : Heap, K.In base → base.Ns mainGlobals mg → FnOk P w K mg base (L2N.CX P w) 16 fa fd ["script"] (spLaw K) := by
  have e := hfa.symm.trans (PySem.W.mg_of X G a30)
  cases e
  have T : Txt K mg ⟨CRowError, CInvalidRow⟩ :=
    { h_is_integer := ⟨_, _, fun_mk l0 c0 k0, PySem.W.mg_of X G a0⟩,
      h_is_sequence := ⟨_, _, fun_mk l1 c1 k1, PySem.W.mg_of X G a1⟩,
      h_are_integers := ⟨_, _, fun_mk l2 c2 k2, PySem.W.mg_of X G a2⟩,
      h_power_of := ⟨_, _, fun_mk l3 c3 k3, PySem.W.mg_of X G a3⟩,
      h_factors_of := ⟨_, _, fun_mk l4 c4 k4, PySem.W.mg_of X G a4⟩,
      h_is_row := ⟨_, _, fun_mk l5 c5 k5, PySem.W.mg_of X G a5⟩,
      h_check_row := ⟨_, _, fun_mk l6 c6 k6, PySem.W.mg_of X G a6⟩,
      h_by_primes := ⟨_, _, fun_mk l7 c7 k7, PySem.W.mg_of X G a7⟩,
      h_cell := ⟨_, _, fun_mk l8 c8 k8, PySem.W.mg_of X G a8⟩,
      h_box := ⟨_, _, fun_mk l9 c9 k9, PySem.W.mg_of X G a9⟩,
      h_take := ⟨_, _, fun_mk l10 c10 k10, PySem.W.mg_of X G a10⟩,
      h_pick := ⟨_, _, fun_mk l11 c11 k11, PySem.W.mg_of X G a11⟩,
      h_same := ⟨_, _, fun_mk l12 c12 k12, PySem.W.mg_of X G a12⟩,
      h_copy := ⟨_, _, fun_mk l13 c13 k13, PySem.W.mg_of X G a13⟩,
      h_very := ⟨_, _, fun_mk l14 c14 k14, PySem.W.mg_of X G a14⟩,
      h_mu := ⟨_, _, fun_mk l15 c15 k15, PySem.W.mg_of X G a15⟩,
      h_sum := ⟨_, _, fun_mk l16 c16 k16, PySem.W.mg_of X G a16⟩,
      h_row := ⟨_, _, fun_mk l17 c17 k17, PySem.W.mg_of X G a17⟩,
      h_primes := ⟨_, _, fun_mk l18 c18 k18, PySem.W.mg_of X G a18⟩,
      h_to := ⟨_, _, fun_mk l19 c19 k19, PySem.W.mg_of X G a19⟩,
      h_bars := ⟨_, _, fun_mk l20 c20 k20, PySem.W.mg_of X G a20⟩,
      h_first := ⟨_, _, fun_mk l21 c21 k21, PySem.W.mg_of X G a21⟩,
      h_bent := ⟨_, _, fun_mk l22 c22 k22, PySem.W.mg_of X G a22⟩,
      h_net := ⟨_, _, fun_mk l23 c23 k23, PySem.W.mg_of X G a23⟩,
      h_some_row := ⟨_, _, fun_mk l24 c24 k24, PySem.W.mg_of X G a24⟩,
      h_no_row := ⟨_, _, fun_mk l25 c25 k25, PySem.W.mg_of X G a25⟩,
      h_due := ⟨_, _, fun_mk l26 c26 k26, PySem.W.mg_of X G a26⟩,
      h_told := ⟨_, _, fun_mk l27 c27 k27, PySem.W.mg_of X G a27⟩,
      h_row_right := ⟨_, _, fun_mk l28 c28 k28, PySem.W.mg_of X G a28⟩,
      h_refused_right := ⟨_, _, fun_mk l29 c29 k29, PySem.W.mg_of X G a29⟩,
      h_law := ⟨_, _, fun_mk l30 c30 k30, PySem.W.mg_of X G a30⟩,
      b_abs := PySem.W.mg_none_of X G z0,
      b_all := PySem.W.mg_none_of X G z1,
      b_bool := PySem.W.mg_none_of X G z2,
      b_dict := PySem.W.mg_none_of X G z3,
      b_enumerate := PySem.W.mg_none_of X G z4,
      b_int := PySem.W.mg_none_of X G z5,
      b_isinstance := PySem.W.mg_none_of X G z6,
      b_len := PySem.W.mg_none_of X G z7,
      b_list := PySem.W.mg_none_of X G z8,
      b_max := PySem.W.mg_none_of X G z9,
      b_min := PySem.W.mg_none_of X G z10,
      b_range := PySem.W.mg_none_of X G z11,
      b_str := PySem.W.mg_none_of X G z12,
      b_sum := PySem.W.mg_none_of X G z13,
      b_tuple := PySem.W.mg_none_of X G z14,
      c_MOST_TERMS := ⟨_, PySem.W.mg_of X G v0, ⟨_, rfl⟩⟩,
      er_RowError := ⟨PySem.W.mg_of X G gRowError, ⟨⟨_, _, _, _, _, _, _, _, _, _, _, _, _, _, _, xRowError, yRowError⟩, saRowError, exRowError, tyRowError, keRowError⟩, ⟨gaRowError, ggRowError, exRowError, hdRowError⟩, icRowError⟩,
      er_InvalidRow := ⟨PySem.W.mg_of X G gInvalidRow, ⟨⟨_, _, _, _, _, _, _, _, _, _, _, _, _, _, _, xInvalidRow, yInvalidRow⟩, saInvalidRow, exInvalidRow, tyInvalidRow, keInvalidRow⟩, ⟨gaInvalidRow, ggInvalidRow, exInvalidRow, hdInvalidRow⟩, icInvalidRow⟩,
      no_InvalidRow_given := noInvalidRowgiven,
      in_InvalidRow := ⟨_, _, inInvalidRow, itInvalidRow, fun_mk ilInvalidRow idInvalidRow ikInvalidRow⟩,
      rr := ⟨.type "type", ⟨rr1, rr2⟩, rr3⟩,
      t_InvalidRow_RowError := exm_of exRowError icRowError tyRowError sInvalidRow_RowError,
      t_InvalidRow_InvalidRow := exm_of exInvalidRow icInvalidRow tyInvalidRow sInvalidRow_InvalidRow }
  have F := fun_mk (st := s_law) l30 c30 k30
  refine ⟨PySem.W.fnOf "law" "law" (defArgs s_law) (defBody s_law) (defScope s_law) .none kV30 dc30 pm30 an30 cd30 ct30, fun s v => .of_eq rfl, fun base _ _ => ?_⟩
  · obtain ⟨f, fd, F', hm, g, _⟩ := d_law (P := P) (w := w) (base := base) T
    have e := hfa.symm.trans hm
    cases e
    have e := fun_one F F'
    subst e
    exact g
end Cr
open PySem PySem.W PyProof.Rows L2
set_option maxHeartbeats 0 in
theorem PySem.Challenge.cw_comerounds_k06_by_primes_holds : PySem.Challenge.rw_comerounds_k06_by_primes.Holds := by
  w_on; o_law; k_head; (case hw => w_witness2)
  k_fill
  refine L2.walk_of (l := PySem.Challenge.rw_comerounds_k06_by_primes) (n := 63) (k := 16) (x := "script") (CX := fun w => L2N.CX PySem.Challenge.rw_comerounds_k06_by_primes.prog w) (sp := fun w => Cr.spLaw _) rfl (by decide) rfl ⟨rfl, by decide, by decide⟩ (fun w h Y => PySem.W.kIn_of Y) ?F (fun _ _ a ns hl _ hS => ⟨a, ns, rfl, hS, fun _ => rfl⟩) (fun _ _ _ _ _ h => Cr.passL h)
  case F =>
    intro w mg fa h KX G hmg
    refine' Cr.all_mk KX G hmg ?a0 ?l0 ?c0 ?k0 ?a1 ?l1 ?c1 ?k1 ?a2 ?l2 ?c2 ?k2 ?a3 ?l3 ?c3 ?k3 ?a4 ?l4 ?c4 ?k4 ?a5 ?l5 ?c5 ?k5 ?a6 ?l6 ?c6 ?k6 ?a7 ?l7 ?c7 ?k7 ?a8 ?l8 ?c8 ?k8 ?a9 ?l9 ?c9 ?k9 ?a10 ?l10 ?c10 ?k10 ?a11 ?l11 ?c11 ?k11 ?a12 ?l12 ?c12 ?k12 ?a13 ?l13 ?c13 ?k13 ?a14 ?l14 ?c14 ?k14 ?a15 ?l15 ?c15 ?k15 ?a16 ?l16 ?c16 ?k16 ?a17 ?l17 ?c17 ?k17 ?a18 ?l18 ?c18 ?k18 ?a19 ?l19 ?c19 ?k19 ?a20 ?l20 ?c20 ?k20 ?a21 ?l21 ?c21 ?k21 ?a22 ?l22 ?c22 ?k22 ?a23 ?l23 ?c23 ?k23 ?a24 ?l24 ?c24 ?k24 ?a25 ?l25 ?c25 ?k25 ?a26 ?l26 ?c26 ?k26 ?a27 ?l27 ?c27 ?k27 ?a28 ?l28 ?c28 ?k28 ?a29 ?l29 ?c29 ?k29 ?a30 ?l30 ?c30 ?k30 ?z0 ?z1 ?z2 ?z3 ?z4 ?z5 ?z6 ?z7 ?z8 ?z9 ?z10 ?z11 ?z12 ?z13 ?z14 ?v0 ?gRowError ?xRowError ?yRowError ?saRowError ?gaRowError ?ggRowError ?keRowError ?exRowError ?tyRowError ?hdRowError ?icRowError ?gInvalidRow ?xInvalidRow ?yInvalidRow ?saInvalidRow ?gaInvalidRow ?ggInvalidRow ?keInvalidRow ?exInvalidRow ?tyInvalidRow ?hdInvalidRow ?icInvalidRow ?inInvalidRow ?itInvalidRow ?ilInvalidRow ?idInvalidRow ?ikInvalidRow ?noInvalidRowgiven ?rr1 ?rr2 ?rr3 ?sInvalidRow_RowError ?sInvalidRow_InvalidRow
    (case a0 => k_is)
    (case l0 => k_is)
    (case c0 => k_is)
    (case k0 => k_is)
    (case a1 => k_is)
    (case l1 => k_is)
    (case c1 => k_is)
    (case k1 => k_is)
    (case a2 => k_is)
    (case l2 => k_is)
    (case c2 => k_is)
    (case k2 => k_is)
    (case a3 => k_is)
    (case l3 => k_is)
    (case c3 => k_is)
    (case k3 => k_is)
    (case a4 => k_is)
    (case l4 => k_is)
    (case c4 => k_is)
    (case k4 => k_is)
    (case a5 => k_is)
    (case l5 => k_is)
    (case c5 => k_is)
    (case k5 => k_is)
    (case a6 => k_is)
    (case l6 => k_is)
    (case c6 => k_is)
    (case k6 => k_is)
    (case a7 => k_is)
    (case l7 => k_is)
    (case c7 => k_is)
    (case k7 => k_is)
    (case a8 => k_is)
    (case l8 => k_is)
    (case c8 => k_is)
    (case k8 => k_is)
    (case a9 => k_is)
    (case l9 => k_is)
    (case c9 => k_is)
    (case k9 => k_is)
    (case a10 => k_is)
    (case l10 => k_is)
    (case c10 => k_is)
    (case k10 => k_is)
    (case a11 => k_is)
    (case l11 => k_is)
    (case c11 => k_is)
    (case k11 => k_is)
    (case a12 => k_is)
    (case l12 => k_is)
    (case c12 => k_is)
    (case k12 => k_is)
    (case a13 => k_is)
    (case l13 => k_is)
    (case c13 => k_is)
    (case k13 => k_is)
    (case a14 => k_is)
    (case l14 => k_is)
    (case c14 => k_is)
    (case k14 => k_is)
    (case a15 => k_is)
    (case l15 => k_is)
    (case c15 => k_is)
    (case k15 => k_is)
    (case a16 => k_is)
    (case l16 => k_is)
    (case c16 => k_is)
    (case k16 => k_is)
    (case a17 => k_is)
    (case l17 => k_is)
    (case c17 => k_is)
    (case k17 => k_is)
    (case a18 => k_is)
    (case l18 => k_is)
    (case c18 => k_is)
    (case k18 => k_is)
    (case a19 => k_is)
    (case l19 => k_is)
    (case c19 => k_is)
    (case k19 => k_is)
    (case a20 => k_is)
    (case l20 => k_is)
    (case c20 => k_is)
    (case k20 => k_is)
    (case a21 => k_is)
    (case l21 => k_is)
    (case c21 => k_is)
    (case k21 => k_is)
    (case a22 => k_is)
    (case l22 => k_is)
    (case c22 => k_is)
    (case k22 => k_is)
    (case a23 => k_is)
    (case l23 => k_is)
    (case c23 => k_is)
    (case k23 => k_is)
    (case a24 => k_is)
    (case l24 => k_is)
    (case c24 => k_is)
    (case k24 => k_is)
    (case a25 => k_is)
    (case l25 => k_is)
    (case c25 => k_is)
    (case k25 => k_is)
    (case a26 => k_is)
    (case l26 => k_is)
    (case c26 => k_is)
    (case k26 => k_is)
    (case a27 => k_is)
    (case l27 => k_is)
    (case c27 => k_is)
    (case k27 => k_is)
    (case a28 => k_is)
    (case l28 => k_is)
    (case c28 => k_is)
    (case k28 => k_is)
    (case a29 => k_is)
    (case l29 => k_is)
    (case c29 => k_is)
    (case k29 => k_is)
    (case a30 => k_is)
    (case l30 => k_is)
    (case c30 => k_is)
    (case k30 => k_is)
    (case z0 => k_is)
    (case z1 => k_is)
    (case z2 => k_is)
    (case z3 => k_is)
    (case z4 => k_is)
    (case z5 => k_is)
    (case z6 => k_is)
    (case z7 => k_is)
    (case z8 => k_is)
    (case z9 => k_is)
    (case z10 => k_is)
    (case z11 => k_is)
    (case z12 => k_is)
    (case z13 => k_is)
    (case z14 => k_is)
    (case v0 => k_is)
    (case gRowError => k_is)
    (case xRowError => k_is)
    (case yRowError => first | rfl | k_is)
    (case saRowError => k_is)
    (case gaRowError => k_is)
    (case ggRowError => k_is)
    (case keRowError => k_is)
    (case exRowError => k_is)
    (case tyRowError => k_is)
    (case hdRowError => k_is)
    (case icRowError => k_is)
    (case gInvalidRow => k_is)
    (case xInvalidRow => k_is)
    (case yInvalidRow => first | rfl | k_is)
    (case saInvalidRow => k_is)
    (case gaInvalidRow => k_is)
    (case ggInvalidRow => k_is)
    (case keInvalidRow => k_is)
    (case exInvalidRow => k_is)
    (case tyInvalidRow => k_is)
    (case hdInvalidRow => k_is)
    (case icInvalidRow => k_is)
    (case inInvalidRow => k_is)
    (case itInvalidRow => k_is)
    (case ilInvalidRow => k_is)
    (case idInvalidRow => k_is)
    (case ikInvalidRow => k_is)
    (case noInvalidRowgiven => k_is)
    (case rr1 => k_is)
    (case rr2 => k_is)
    (case rr3 => k_is)
    (case sInvalidRow_RowError => first | rfl | k_is)
    (case sInvalidRow_InvalidRow => first | rfl | k_is)
namespace Cr

end Cr
#print axioms PySem.Challenge.cw_comerounds_k06_by_primes_holds
