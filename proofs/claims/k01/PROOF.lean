import PyProof.Rows.All
import Wide.All
import OpenK.AllK
import Wide.FinOn
import KE.KStateDown
import HandS.ForMost
import HandS.Exc
import HandS.WordsExc
import HandS.Defaults
import HandS.IsInst
import HandS.Wide
import HandS.Flow
import HandS.Walk
import HandS.Head0
import HandS.Head1
import HandS.Head2
import HandS.HeadEnd
import HandS.HeadHook1
import HandS.HeadHook2
import HandS.HeadHook3
import HandS.HeadHook4
import HandS.HotCalls
import HandS.ExcField
import HandS.ExcInit
import KE.KTryMore
import HandS.Lambda
import HandS.EndTab
import HandS.HeadWalk
import PySem.Challenge.RW_framesure_k01_fractions_computed
set_option Elab.async false
set_option linter.all false
set_option maxRecDepth 100000
set_option maxHeartbeats 8000000
namespace Fs
open PySem PySem.Spec PyProof.Rows L2
abbrev Frag := PySem.W.Frag
/-! ### heaps -/
theorem same_new {H : Hp} {p : Addr} (h : H p = none) (o : HO) : Same H (upd H p o) := fun b u q => by
  rw [upd_ne (ne_of_none q h)]
  exact q
theorem Same.tup {K : Frag} {H H' : Hp} {a : Addr} {xs : List V} (e : Same H H') (h : SqT K H a xs) : SqT K H' a xs := by
  rcases h with (h | ⟨o, h⟩) | h
  · exact .inl (.inl (e _ _ h))
  · exact .inl (.inr ⟨o, e _ _ h⟩)
  · exact .inr h
/-- readings that ask more -/
theorem pe_of {X : Cx} {e : Expr} {t t' : TE} (h : PE X e t) (k : ∀ σ H Q, t' σ H Q → t σ H Q) : PE X e t' := ⟨fun pins s σ H Q I q => h.run pins s σ H Q I (k σ H Q q)⟩
/-- a list of readings, made to grow with what is wanted -/
def upA (t : TA) : TA := fun σ H K => ∃ K0 : List V → Hp → Prop, t σ H K0 ∧ ∀ vs H1, K0 vs H1 → K vs H1
theorem pa_up {X : Cx} {es : List Expr} {t : TA} (h : PA X es t) : PA X es (upA t) := ⟨fun pos pins s σ H Q I ⟨K0, q, k⟩ => thn (h.run pos pins s σ H K0 I q) fun us s1 ⟨vs, H1, I1, r, z⟩ => ⟨vs, H1, I1, r, k _ _ z⟩⟩
/-- a new list, the heap behind it a letter -/
def tLstN (t : TA) : TE := fun σ H Q => t σ H fun xs H1 => xs.length ≤ sizeLine ∧ ∀ p H', H1 p = none → Same H1 H' → H' p = some (.lst xs) → Q (.ref p) H'
theorem pe_lstN {X : Cx} {es : List Expr} {t : TA} {pos : Pos} (h : PA X es t) : PE X (.List es pos) (tLstN t) :=
  pe_of (pe_lst (pa_up h)) fun σ H Q q => ⟨_, q, fun xs H1 z => ⟨z.1, fun p np => z.2 p _ np (same_new np _) upd_same⟩⟩
/-- a new tuple -/
def tTupN (t : TA) : TE := fun σ H Q => t σ H fun xs H1 => xs.length ≤ sizeLine ∧ ∀ p H', H1 p = none → Same H1 H' → H' p = some (.tup xs) → Q (.ref p) H'
theorem pe_tupN {X : Cx} {es : List Expr} {t : TA} {x1 : Nat} {pos : Pos} (h : PA X es t) : PE X (.Tuple es x1 pos) (tTupN t) :=
  pe_of (pe_tup (pa_up h)) fun σ H Q q => ⟨_, q, fun xs H1 z => ⟨z.1, fun p np => z.2 p _ np (same_new np _) upd_same⟩⟩
/-- what holds between a statement and the rest -/
theorem seq_cut {t u : TS} {D : Ends} {σ : L2.St} {H : Hp} (M : L2.St → Hp → Prop) (ht : ∀ N : L2.St → Hp → Prop, (∀ σ' H', M σ' H' → N σ' H') → t { D with nx := N } σ H) (hu : ∀ σ' H', M σ' H' → u D σ' H') : tSeq t u D σ H := ht (u D) hu
theorem atI_i {α : Type} {xs : List α} {i : Int} (h0 : 0 ≤ i) (h : i.toNat < xs.length) : atI xs i = some xs[i.toNat] := by
  have q := atI_nat (xs := xs) (j := i.toNat) (List.getElem?_eq_getElem h)
  rw [Int.toNat_of_nonneg h0] at q
  exact q
/-! ### a global def -/
/-- the def x of the module's top, as it stands, with no defaults -/
structure Gd (P : Program) (w : World) (K : Frag) (mg : Str → Option Value) (base : Heap) (CX : CXT) (k : Nat) (x : Str) (ps : List Str) (sp : Sp) : Prop where
  ex : ∃ f fd, mg x = some (.ref f) ∧ PySem.W.keepIn K (.ref f) = true ∧ Binds K fd ps [] ∧ FnOk P w K mg base CX k f fd ps sp
theorem Gd.mono {P : Program} {w : World} {K : Frag} {mg : Str → Option Value} {base : Heap} {CX : CXT} {j k : Nat} {x : Str} {ps : List Str} {sp : Sp} (G : Gd P w K mg base CX j x ps sp) (h : j ≤ k) : Gd P w K mg base CX k x ps sp := by
  obtain ⟨f, fd, a, b, c, F⟩ := G.ex
  exact ⟨f, fd, a, b, c, F.mono h⟩
theorem Gd.imp {P : Program} {w : World} {K : Frag} {mg : Str → Option Value} {base : Heap} {CX : CXT} {k : Nat} {x : Str} {ps : List Str} {sp sp' : Sp} (G : Gd P w K mg base CX k x ps sp) (h : ∀ vs H Q E, sp' vs H Q E → sp vs H Q E) : Gd P w K mg base CX k x ps sp' := by
  obtain ⟨f, fd, a, b, c, F⟩ := G.ex
  exact ⟨f, fd, a, b, c, F.imp h⟩
/-- the call of such a def -/
theorem pe_g {X : Cx} {CX : CXT} {E : XK} {k : Nat} {x : Str} {ps : List Str} {sp : Sp} {e : Expr} {es : List Expr} {p pos : Pos} {t : TA} (G : Gd X.prog X.w X.K X.mg X.base CX k x ps sp) (hr : Room k X.A) (hx : Passes CX X E) (ha : PA X (e :: es) t)
    (hg : Gl X x := by rfl) (hdb : (x == ("__debug__" : Str)) = false := by decide) (he : starEach (e :: es) X.env = (false, eval e X.env) :: starEach es X.env := by rfl) (hpl : (backTo pos (starEach es X.env)).any (·.1) = false := by rfl) :
    PE X (.Call (.Name x p) (e :: es) [] pos) (tCall sp [] E t) := by
  obtain ⟨f, fd, a, b, c, F⟩ := G.ex
  exact pe_call F hr hg a b c .nil hx ha hdb he hpl
/-- a def of the top keeps its promise wherever it stands: no defaults (dfl, kwd: those it has) -/
def Fo (P : Program) (w : World) (K : Frag) (mg : Str → Option Value) (base : Heap) (CX : CXT) (k : Nat) (x : Str) (st : Stmt) (dfl : List V) (kwd : List (Str × V)) (ps : List Str) (sp : Sp) : Prop :=
  ∀ f fd, FunD K x x (defArgs st) (defBody st) (defScope st) dfl kwd f fd → FnOk P w K mg base CX k f fd ps sp
/-- what stands of a def at the top -/
def Gsd (K : Frag) (mg : Str → Option Value) (x : Str) (st : Stmt) (dfl : List V) (kwd : List (Str × V)) : Prop := ∃ f fd, mg x = some (.ref f) ∧ FunD K x x (defArgs st) (defBody st) (defScope st) dfl kwd f fd
abbrev Gs (K : Frag) (mg : Str → Option Value) (x : Str) (st : Stmt) : Prop := Gsd K mg x st [] []
section
variable {P : Program} {w : World} {K : Frag} {mg : Str → Option Value} {base : Heap} {CX : CXT} {x : Str} {st : Stmt} {dfl : List V} {kwd : List (Str × V)} {N ps : List Str} {k : Nat} {sp : Sp}
theorem fo_ok (S : FnScope N ps (defScope st)) (len : ∀ vs H Q E, sp vs H Q E → vs.length = ps.length)
    (hbody : ∀ (f : Addr) (cdv : Value) (A : Around) (outer : List Env) (s : Shared) (H : Hp) (vs : List V) (Q : VK) (E : XK), Room k (A.deeper (envOfC x (defScope st) s.heap.objs.size f cdv)) → sp vs H Q E →
      ∃ t, PSs (cxOf CX0 P w K mg base N x (defScope st) f cdv A outer s H E).nox (defBody st) t ∧ t { nx := fun _ H' => Q .non H', rt := Q } (start N vs) H) : Fo P w K mg base CX0 (k + 1) x st dfl kwd ps sp := fun f fd F => by
  refine F.ok S len fun cdv A outer s H vs Q E hr h => ?_
  obtain ⟨t, h1, h2⟩ := hbody f cdv A outer s H vs Q E hr h
  exact ⟨t, h1.nox, h2⟩
/-- the same of a def that may raise -/
theorem fo_okX (S : FnScope N ps (defScope st)) (len : ∀ vs H Q E, sp vs H Q E → vs.length = ps.length)
    (hbody : ∀ (f : Addr) (cdv : Value) (A : Around) (outer : List Env) (s : Shared) (H : Hp) (vs : List V) (Q : VK) (E : XK), Room k (A.deeper (envOfC x (defScope st) s.heap.objs.size f cdv)) → sp vs H Q E →
      ∃ t, PSs (cxOf (L2.CX P w) P w K mg base N x (defScope st) f cdv A outer s H E) (defBody st) t ∧ t { nx := fun _ H' => Q .non H', rt := Q } (start N vs) H) : Fo P w K mg base (L2.CX P w) (k + 1) x st dfl kwd ps sp := fun f fd F =>
  F.ok S len (hbody f)
/-- called by position, all parameters given -/
theorem Fo.gd (F : Fo P w K mg base CX k x st [] [] ps sp) (G : Gs K mg x st)
    (hb : ∀ (kV doc pm : Value) (an : Option Addr) (cdv ct : Value) (us : List Value), us.length = ps.length → bindArgs (PySem.W.fnOf x x (defArgs st) (defBody st) (defScope st) .none kV doc pm an cdv ct) ⟨us, []⟩ = pure (ps.zip us)) : Gd P w K mg base CX k x ps sp := by
  obtain ⟨f, fd, a, D⟩ := G
  exact ⟨f, fd, a, D.kp, D.bindsN hb, F f fd D⟩
theorem Gsd.ok (G : Gs K mg x st) (S : FnScope N ps (defScope st)) (len : ∀ vs H Q E, sp vs H Q E → vs.length = ps.length)
    (hb : ∀ (kV doc pm : Value) (an : Option Addr) (cdv ct : Value) (us : List Value), us.length = ps.length → bindArgs (PySem.W.fnOf x x (defArgs st) (defBody st) (defScope st) .none kV doc pm an cdv ct) ⟨us, []⟩ = pure (ps.zip us))
    (hbody : ∀ (f : Addr) (cdv : Value) (A : Around) (outer : List Env) (s : Shared) (H : Hp) (vs : List V) (Q : VK) (E : XK), Room k (A.deeper (envOfC x (defScope st) s.heap.objs.size f cdv)) → sp vs H Q E →
      ∃ t, PSs (cxOf CX0 P w K mg base N x (defScope st) f cdv A outer s H E).nox (defBody st) t ∧ t { nx := fun _ H' => Q .non H', rt := Q } (start N vs) H) : Gd P w K mg base CX0 (k + 1) x ps sp := (fo_ok S len hbody).gd G hb
theorem Gsd.okX (G : Gs K mg x st) (S : FnScope N ps (defScope st)) (len : ∀ vs H Q E, sp vs H Q E → vs.length = ps.length)
    (hb : ∀ (kV doc pm : Value) (an : Option Addr) (cdv ct : Value) (us : List Value), us.length = ps.length → bindArgs (PySem.W.fnOf x x (defArgs st) (defBody st) (defScope st) .none kV doc pm an cdv ct) ⟨us, []⟩ = pure (ps.zip us))
    (hbody : ∀ (f : Addr) (cdv : Value) (A : Around) (outer : List Env) (s : Shared) (H : Hp) (vs : List V) (Q : VK) (E : XK), Room k (A.deeper (envOfC x (defScope st) s.heap.objs.size f cdv)) → sp vs H Q E →
      ∃ t, PSs (cxOf (L2.CX P w) P w K mg base N x (defScope st) f cdv A outer s H E) (defBody st) t ∧ t { nx := fun _ H' => Q .non H', rt := Q } (start N vs) H) : Gd P w K mg base (L2.CX P w) (k + 1) x ps sp := (fo_okX S len hbody).gd G hb
end
/-- a def called with n values by position and the keywords ks -/
structure Gk (P : Program) (w : World) (K : Frag) (mg : Str → Option Value) (base : Heap) (CX : CXT) (k : Nat) (x : Str) (n : Nat) (ks : List Str) (gV : List V → List V → List V) (ps : List Str) (sp : Sp) : Prop where
  ex : ∃ f fd g, mg x = some (.ref f) ∧ PySem.W.keepIn K (.ref f) = true ∧ KBn K fd ps n ks g gV ∧ FnOk P w K mg base CX k f fd ps sp
section
variable {P : Program} {w : World} {K : Frag} {mg : Str → Option Value} {base : Heap} {CX : CXT} {x : Str} {st : Stmt} {dfl : List V} {kwd : List (Str × V)} {N ps : List Str} {k : Nat} {sp : Sp}
theorem Gk.mono {n : Nat} {ks : List Str} {gV : List V → List V → List V} {j : Nat} (G : Gk P w K mg base CX j x n ks gV ps sp) (h : j ≤ k) : Gk P w K mg base CX k x n ks gV ps sp := by
  obtain ⟨f, fd, g, a, b, c, F⟩ := G.ex
  exact ⟨f, fd, g, a, b, c, F.mono h⟩
/-- no defaults: every parameter is written, by position or by name -/
theorem Fo.gk (F : Fo P w K mg base CX k x st [] [] ps sp) (G : Gs K mg x st) (n : Nat) (ks : List Str) (g : {α : Type} → List α → List α → List α)
    (hrel : ∀ {vs zs : List V} {us ws : List Value}, Vals vs us → Vals zs ws → Vals (g vs zs) (g us ws))
    (hb : ∀ (kV doc pm : Value) (an : Option Addr) (cdv ct : Value) (us ws : List Value), us.length = n → ws.length = ks.length → bindArgs (PySem.W.fnOf x x (defArgs st) (defBody st) (defScope st) .none kV doc pm an cdv ct) ⟨us, ks.zip ws⟩ = pure (ps.zip (g us ws))) :
    Gk P w K mg base CX k x n ks (fun vs zs => g vs zs) ps sp := by
  obtain ⟨f, fd, a, D⟩ := G
  refine ⟨f, fd, fun us ws => g us ws, a, D.kp, ?_, F f fd D⟩
  obtain ⟨oc, od, dV, kV, doc, pm, an, cdv, ct, osl, rfl, lk, hcd, hD, hK⟩ := D.ex
  rcases hD with ⟨_, rfl⟩ | ⟨e, _⟩
  · exact ⟨fun s us ws _ l1 l2 => BindsTo.of_eq (hb kV doc pm an cdv ct us ws l1 l2), fun r1 r2 => hrel r1 r2⟩
  · exact absurd rfl e
end
/-- a def called by position, the values dv of its defaults filling up -/
structure Gdd (P : Program) (w : World) (K : Frag) (mg : Str → Option Value) (base : Heap) (CX : CXT) (k : Nat) (x : Str) (ps : List Str) (dv : List V) (sp : Sp) : Prop where
  ex : ∃ f fd ds, mg x = some (.ref f) ∧ PySem.W.keepIn K (.ref f) = true ∧ Vals dv ds ∧ Binds K fd ps ds ∧ FnOk P w K mg base CX k f fd ps sp
section
variable {P : Program} {w : World} {K : Frag} {mg : Str → Option Value} {base : Heap} {CX : CXT} {x : Str} {st : Stmt} {dfl dv : List V} {N ps : List Str} {k : Nat} {sp : Sp}
theorem Gdd.gd (G : Gdd P w K mg base CX k x ps [] sp) : Gd P w K mg base CX k x ps sp := by
  obtain ⟨f, fd, ds, a, b, c, d, e⟩ := G.ex
  cases c
  exact ⟨f, fd, a, b, d, e⟩
/-- n values are written, the defaults behind the first j fill up -/
theorem Fo.gdd (F : Fo P w K mg base CX k x st dfl [] ps sp) (G : Gsd K mg x st dfl []) (n j : Nat) (hd : dfl ≠ []) (hn : n + (dfl.length - j) = ps.length) (hv : dfl.drop j = dv)
    (h : ∀ (T : Addr) (kV doc pm : Value) (an : Option Addr) (cdv ct : Value) (us its : List Value), us.length = n → its.length = dfl.length →
      ∃ k, bindArgs (PySem.W.fnOf x x (defArgs st) (defBody st) (defScope st) (.ref T) kV doc pm an cdv ct) ⟨us, []⟩ = seqItems? (.ref T) >>= k ∧ k (some its.toArray) = pure (ps.zip (us ++ its.drop j))) : Gdd P w K mg base CX k x ps dv sp := by
  obtain ⟨f, fd, a, D⟩ := G
  obtain ⟨ds, v, b⟩ := D.binds1 n j hd hn h
  subst hv
  exact ⟨f, fd, ds, a, D.kp, v, b, F f fd D⟩
/-- with keywords: g puts the positional values, the defaults' values and the keywords' values in order -/
theorem Fo.gkd (F : Fo P w K mg base CX k x st dfl [] ps sp) (G : Gsd K mg x st dfl []) (n : Nat) (ks : List Str) (g : {α : Type} → List α → List α → List α → List α) (hd : dfl ≠ [])
    (hrel : ∀ {vs ds zs : List V} {us its ws : List Value}, Vals vs us → Vals ds its → Vals zs ws → Vals (g vs ds zs) (g us its ws))
    (h : ∀ (T : Addr) (kV doc pm : Value) (an : Option Addr) (cdv ct : Value) (us its ws : List Value), us.length = n → its.length = dfl.length → ws.length = ks.length →
      ∃ k, bindArgs (PySem.W.fnOf x x (defArgs st) (defBody st) (defScope st) (.ref T) kV doc pm an cdv ct) ⟨us, ks.zip ws⟩ = seqItems? (.ref T) >>= k ∧ k (some its.toArray) = pure (ps.zip (g us its ws))) :
    Gk P w K mg base CX k x n ks (fun vs zs => g vs dfl zs) ps sp := by
  obtain ⟨f, fd, a, D⟩ := G
  have FN := F f fd D
  have kp := D.kp
  obtain ⟨oc, od, dV, kV, doc, pm, an, cdv, ct, osl, rfl, lk, hcd, hD, hK⟩ := D.ex
  rcases hD with ⟨e, _⟩ | ⟨_, T, o, its, m, rfl, lT, oT, rT⟩
  · exact absurd e hd
  refine ⟨f, _, fun us ws => g us its ws, a, kp, ⟨fun s us ws X l1 l2 => ?_, fun r1 r2 => hrel r1 rT r2⟩, FN⟩
  obtain ⟨k, e1, e2⟩ := h T kV doc pm an cdv ct us its ws l1 rT.length.symm l2
  exact BindsTo.of_looks fun M => by
    rw [e1]
    exact looks_items X lT oT (.of_pure e2)
end
theorem pe_gd {X : Cx} {CX : CXT} {E : XK} {k : Nat} {x : Str} {ps : List Str} {dv : List V} {sp : Sp} {e : Expr} {es : List Expr} {p pos : Pos} {t : TA} (G : Gdd X.prog X.w X.K X.mg X.base CX k x ps dv sp) (hr : Room k X.A) (hx : Passes CX X E) (ha : PA X (e :: es) t)
    (hg : Gl X x := by rfl) (hdb : (x == ("__debug__" : Str)) = false := by decide) (he : starEach (e :: es) X.env = (false, eval e X.env) :: starEach es X.env := by rfl) (hpl : (backTo pos (starEach es X.env)).any (·.1) = false := by rfl) :
    PE X (.Call (.Name x p) (e :: es) [] pos) (tCall sp dv E t) := by
  obtain ⟨f, fd, ds, a, b, c, d, F⟩ := G.ex
  exact pe_call F hr hg a b d c hx ha hdb he hpl
/-- what a def lets out, on to the caller's own way -/
theorem passE {X : Cx} {E : XK} (tk : Takes X (fun cls d _ H => E cls d H)) : Passes (L2.CX X.prog X.w) X E := passes_call tk fun _ _ _ _ h => h
section
variable {X : Cx} {CX : CXT} {E : XK} {k n : Nat} {x : Str} {ps ks : List Str} {sp : Sp} {e : Expr} {es : List Expr} {kws : List Keyword} {p pos : Pos} {t tk : TA} {gV : List V → List V → List V}
theorem pe_gk (G : Gk X.prog X.w X.K X.mg X.base CX k x n ks gV ps sp) (hr : Room k X.A) (hx : Passes CX X E) (ha : PA X (e :: es) t) (hkw : PK X kws tk) (hg : Gl X x := by rfl)
    (hall : (backToKw pos (keywordEach kws X.env)).all (·.1.isSome) = true := by rfl) (hks : (backToKw pos (keywordEach kws X.env)).filterMap (·.1) = ks := by rfl)
    (hdb : (x == ("__debug__" : Str)) = false := by decide) (he : starEach (e :: es) X.env = (false, eval e X.env) :: starEach es X.env := by rfl)
    (hpl : ((backTo pos (starEach (e :: es) X.env)).any (·.1) || (backToKw pos (keywordEach kws X.env)).any (·.1.isNone)) = false := by rfl) :
    PE X (.Call (.Name x p) (e :: es) kws pos) (tCallN n ks.length sp gV E t tk) := by
  obtain ⟨f, fd, g, a, b, c, F⟩ := G.ex
  exact pe_callN F hr hg a b c hx ha hkw hall hks hdb he hpl
theorem pe_gk0 (G : Gk X.prog X.w X.K X.mg X.base CX k x 0 ks gV ps sp) (hr : Room k X.A) (hx : Passes CX X E) (hkw : PK X kws tk) (hg : Gl X x := by rfl)
    (hall : (backToKw pos (keywordEach kws X.env)).all (·.1.isSome) = true := by rfl) (hks : (backToKw pos (keywordEach kws X.env)).filterMap (·.1) = ks := by rfl)
    (hdb : (x == ("__debug__" : Str)) = false := by decide)
    (hpl : ((backTo pos (starEach [] X.env)).any (·.1) || (backToKw pos (keywordEach kws X.env)).any (·.1.isNone)) = false := by rfl) :
    PE X (.Call (.Name x p) [] kws pos) (tCallN 0 ks.length sp gV E tNil tk) := by
  obtain ⟨f, fd, g, a, b, c, F⟩ := G.ex
  refine ⟨fun pins s σ H Q I h => ?_⟩
  refine wpAny_Call_Name_kw (ld_glob I hg a ?_ hdb)
  refine PySem.W.callWith_KW0 (h₀ := X.base) I.ok.mod.kin b hall ?_ hpl
  refine thn (hkw.run pos pins s σ H _ I h) fun ws s2 ⟨zs, H2, I2, rz, l1, l2, q2⟩ => ⟨I2.kIn, ?_⟩
  rw [hks]
  exact run_fnN (us := []) (vs := []) F hr c hx I2 .nil rz rfl l2 q2
end
/-! ### data -/
mutual
theorem Dp.to {K : Frag} {H H' : Hp} (e : Same H H') : ∀ {v : V} {d : PyData}, Dp K H v d → Dp K H' v d
  | _, _, .non => .non
  | _, _, .bl b => .bl b
  | _, _, .int i => .int i
  | _, _, .str x => .str x
  | _, _, .lst h a => .lst (e.seq h) (DpAll.to e a)
  | _, _, .tup h a => .tup (Same.tup e h) (DpAll.to e a)
theorem DpAll.to {K : Frag} {H H' : Hp} (e : Same H H') : ∀ {vs : List V} {ds : List PyData}, DpAll K H vs ds → DpAll K H' vs ds
  | _, _, .nil => .nil
  | _, _, .cons h t => .cons (Dp.to e h) (DpAll.to e t)
end
theorem DpAll.len {K : Frag} {H : Hp} : ∀ {vs : List V} {ds : List PyData}, DpAll K H vs ds → vs.length = ds.length
  | _, _, .nil => rfl
  | _, _, .cons _ t => congrArg Nat.succ (DpAll.len t)
theorem DpAll.at {K : Frag} {H : Hp} : ∀ {vs : List V} {ds : List PyData} {i : Nat} {d : PyData}, DpAll K H vs ds → ds[i]? = some d → ∃ v, vs[i]? = some v ∧ Dp K H v d
  | _, _, _, _, .nil, e => by simp at e
  | _, _, 0, d, .cons (v := v) h _, e => ⟨v, rfl, by simp at e; subst e; exact h⟩
  | _, _, i + 1, d, .cons _ t, e => by
    obtain ⟨v, h1, h2⟩ := DpAll.at (i := i) (d := d) t (by simpa using e)
    exact ⟨v, by simpa using h1, h2⟩
/-! ### a heap without its bag -/
def Hx (p : Addr) (H : Hp) : Hp := fun b => if b = p then none else H b
theorem Hx.sub {p : Addr} {H : Hp} : Same (Hx p H) H := fun b o e => by
  unfold Hx at e
  split at e
  · cases e
  · exact e
theorem Hx.ne {p b : Addr} {H : Hp} (h : b ≠ p) : Hx p H b = H b := by
  unfold Hx
  rw [if_neg h]
theorem Hx.self {p : Addr} {H : Hp} : Hx p H p = none := by
  unfold Hx
  rw [if_pos rfl]
/-- all but p is as it was -/
abbrev SameX (p : Addr) (H H' : Hp) : Prop := Same (Hx p H) (Hx p H')
theorem SameX.of {p : Addr} {H H' : Hp} (h : ∀ b o, b ≠ p → H b = some o → H' b = some o) : SameX p H H' := fun b o e => by
  by_cases hb : b = p
  · subst hb
    rw [Hx.self] at e
    cases e
  · rw [Hx.ne hb] at e ⊢
    exact h b o hb e
theorem SameX.at {p b : Addr} {H H' : Hp} {o : HO} (h : SameX p H H') (hb : b ≠ p) (e : H b = some o) : H' b = some o := by
  have q := h b o (by rw [Hx.ne hb]; exact e)
  rw [Hx.ne hb] at q
  exact q
theorem SameX.same {p : Addr} {H H' : Hp} (h : Same H H') : SameX p H H' := .of fun b o _ e => h b o e
/-- the bag of the draws -/
structure BagAt (H : Hp) (p l : Addr) : Prop where
  ex : ∃ (i rest seed : Int) (ns : List Int), H p = some (.lst [.ref l, .int i, .int rest, .int seed]) ∧ H l = some (.lst (ns.map V.int)) ∧ 0 ≤ i ∧ 0 ≤ rest ∧ 0 ≤ seed ∧ seed < 2147483647
theorem BagAt.to {H H' : Hp} {p l : Addr} (B : BagAt H p l) (h : Same H H') : BagAt H' p l := by
  obtain ⟨i, r, s, ns, a, b, c⟩ := B.ex
  exact ⟨i, r, s, ns, h _ _ a, h _ _ b, c⟩
def spBag (K : Frag) : Sp := fun vs H Q _ => ∃ (a : Addr) (ns : List Int), vs = [.ref a] ∧ SqL K H a (ns.map V.int) ∧ ∀ p l H', H p = none → Same H H' → BagAt H' p l → Q (.ref p) H'
def spPull : Sp := fun vs H Q _ => ∃ (p l : Addr) (n : Int), vs = [.ref p, .int n] ∧ BagAt H p l ∧ 0 < n ∧ n < 2 ^ 100 ∧ ∀ (r : Int) H', 0 ≤ r → r < n → SameX p H H' → BagAt H' p l → Q (.int r) H'
/-- a list or a tuple -/
def SqA (K : Frag) (H : Hp) (a : Addr) (xs : List V) : Prop := SqL K H a xs ∨ SqT K H a xs
theorem SqA.to {K : Frag} {H H' : Hp} {a : Addr} {xs : List V} (e : Same H H') (h : SqA K H a xs) : SqA K H' a xs := h.elim (fun h => .inl (e.seq h)) fun h => .inr (Same.tup e h)
def spOf (K : Frag) : Sp := fun vs H Q _ => ∃ (p l a : Addr) (xs : List V), vs = [.ref p, .ref a] ∧ BagAt H p l ∧ SqA K (Hx p H) a xs ∧ xs ≠ [] ∧ (xs.length : Int) < 2 ^ 100 ∧ ∀ x ∈ xs, ∀ H', SameX p H H' → BagAt H' p l → Q x H'
end Fs
set_option Elab.async false
set_option linter.all false
set_option maxRecDepth 100000
set_option maxHeartbeats 8000000
namespace Fs
open PySem PySem.Spec PyProof.Rows L2
/-! ### types of data -/
inductive Tg | list | tuple | dict | bool | int | str
def Tg.nm : Tg → String
  | .list => "list" | .tuple => "tuple" | .dict => "dict" | .bool => "bool" | .int => "int" | .str => "str"
def tyD : PyData → String
  | .none => "NoneType" | .bool _ => "bool" | .int _ => "int" | .str _ => "str" | .list _ => "list" | .tuple _ => "tuple" | .dict _ => "dict"
def isT : Tg → PyData → Bool
  | .list, .list _ => true
  | .tuple, .tuple _ => true
  | .dict, .dict _ => true
  | .bool, .bool _ => true
  | .int, .bool _ => true
  | .int, .int _ => true
  | .str, .str _ => true
  | _, _ => false
theorem isT_kit (t : Tg) (d : PyData) : kitB (tyD d) t.nm = some (isT t d) := by
  cases t <;> cases d <;> simp only [tyD, Tg.nm, isT] <;> decide +kernel
theorem SqL.ty {K : Frag} {H : Hp} {a : Addr} {xs : List V} (h : SqL K H a xs) : TyX K H (.ref a) (.type "list") := by
  rcases h with (h | ⟨o, h⟩) | ⟨o, its, n, h1, h2, _⟩
  · exact .base (.lst h)
  · exact .base (.frz h)
  · exact .kList h1 h2
theorem SqT.ty {K : Frag} {H : Hp} {a : Addr} {xs : List V} (h : SqT K H a xs) : TyX K H (.ref a) (.type "tuple") := by
  rcases h with (h | ⟨o, h⟩) | ⟨o, its, n, h1, h2, _⟩
  · exact .base (.tup h)
  · exact .fTuple h
  · exact .kTuple h1 h2
theorem Dp.ty {K : Frag} {H : Hp} {v : V} {d : PyData} (h : Dp K H v d) : TyX K H v (.type (tyD d)) := by
  cases h with
  | non => exact .base .non
  | bl b => exact .base (.bl b)
  | int i => exact .base (.int i)
  | str x => exact .base (.str x)
  | lst h _ => exact SqL.ty h
  | tup h _ => exact SqT.ty h
section
variable {X : Cx}
/-- isinstance(x, T) of data -/
def rIsD (K : Frag) : List V → Hp → VK → Prop := fun xs H Q => ∃ (x : V) (t : Tg) (d : PyData), xs = [x, .ty t.nm] ∧ Dp K H x d ∧ Q (.bl (isT t d)) H
theorem call_isD : CallR X (.builtin "isinstance") (rIsD X.K) := by
  intro pins s σ H xs us Q I r h
  obtain ⟨x, t, d, rfl, hd, q⟩ := h
  exact call_isi pins s σ H _ us Q I r ⟨x, _, _, _, _, rfl, .ty _, Dp.ty hd, kit_ty (isT_kit t d), q⟩
/-- isinstance(x, (S, T)) -/
def rIsD2 (K : Frag) : List V → Hp → VK → Prop := fun xs H Q => ∃ (x : V) (p : Addr) (t u : Tg) (d : PyData), xs = [x, .ref p] ∧ H p = some (.tup [.ty t.nm, .ty u.nm]) ∧ Dp K H x d ∧ Q (.bl (isT t d || isT u d)) H
theorem call_isD2 : CallR X (.builtin "isinstance") (rIsD2 X.K) := by
  intro pins s σ H xs us Q I r h
  obtain ⟨x, p, t, u, d, rfl, hp, hd, q⟩ := h
  refine call_isiT pins s σ H _ us Q I r ⟨x, p, _, _, [.type t.nm, .type u.nm], isT t d || isT u d, rfl, hp, .cons (.ty _) (.cons (.ty _) .nil), Dp.ty hd, ?_, q⟩
  refine kitAny_cons (kit_ty (isT_kit t d)) (fun e => ?_) (fun e => by rw [e]; rfl)
  rw [e, Bool.false_or]
  refine kitAny_cons (kit_ty (isT_kit u d)) (fun e => ?_) (fun e => e)
  rw [e]
  rfl
/-- an item of a list or a tuple -/
def rIxA (K : Frag) : R2 := fun x y H Q => ∃ (a : Addr) (xs : List V) (i : Int) (v : V), x = .ref a ∧ y = .int i ∧ SqA K H a xs ∧ atI xs i = some v ∧ Q v H
theorem ix_any : IxR X (rIxA X.K) := by
  intro value slice pins s σ H x y v u Q I rx ry h
  obtain ⟨a, xs, i, z, rfl, rfl, hs, e, q⟩ := h
  rcases hs with hs | hs
  · exact ix_list value slice pins s σ H _ _ v u Q I rx ry ⟨a, xs, i, z, rfl, rfl, hs, e, q⟩
  · exact ix_tup value slice pins s σ H _ _ v u Q I rx ry ⟨a, xs, i, z, rfl, rfl, hs, e, q⟩
end
theorem ix_anyK {X : Cx} (K : Frag) (hK : X.K = K := by rfl) : IxR X (rIxA K) := by
  subst hK
  exact ix_any
theorem call_isDK {X : Cx} (K : Frag) (hK : X.K = K := by rfl) : CallR X (.builtin "isinstance") (rIsD K) := by
  subst hK
  exact call_isD
/-! ### what a datum is made of -/
/-- the items of a list or a tuple -/
def itemsD : PyData → List PyData
  | .list ds => ds
  | .tuple ds => ds
  | _ => []
theorem depth_at : ∀ {ds : List PyData} {i : Nat} {d : PyData}, ds[i]? = some d → d.depth ≤ PyData.depthAll ds
  | [], _, _, h => by simp at h
  | x :: xs, 0, d, h => by
    simp at h
    subst h
    show x.depth ≤ max x.depth (PyData.depthAll xs)
    omega
  | x :: xs, i + 1, d, h => by
    have ih := depth_at (ds := xs) (i := i) (d := d) (by simpa using h)
    show d.depth ≤ max x.depth (PyData.depthAll xs)
    omega
theorem replicate_more {α : Type} (i : Nat) (x : α) : List.replicate i x ++ [x] = List.replicate (i + 1) x := by
  rw [List.replicate_succ', ]
/-- a list that grows at D, new beside H -/
theorem same_grow {H H' : Hp} {D : Addr} {o : HO} (s : Same H H') (nD : H D = none) : Same H (upd H' D o) := fun c u e => by
  rw [upd_ne (ne_of_none e nD)]
  exact s c u e
theorem all_true (n : Nat) : (List.replicate n true).all id = true := by
  induction n with
  | zero => rfl
  | succ n ih => rw [List.replicate_succ, List.all_cons, ih]; rfl
/-- not deeper than n levels, nowhere wider than a million -/
def Fit : Nat → PyData → Prop
  | 0, _ => False
  | n + 1, d => (itemsD d).length ≤ 1000000 ∧ ∀ e ∈ itemsD d, Fit n e
theorem Fit.mono : ∀ {n m : Nat} {d : PyData}, Fit n d → n ≤ m → Fit m d
  | 0, _, _, h, _ => h.elim
  | n + 1, 0, _, _, h => by omega
  | n + 1, m + 1, d, h, l => ⟨h.1, fun e he => Fit.mono (h.2 e he) (by omega)⟩
/-- both stand for the same datum -/
def spSame (K : Frag) (n : Nat) : Sp := fun vs H Q _ => ∃ (x y : V) (d : PyData), vs = [x, y] ∧ Dp K H x d ∧ Dp K H y d ∧ Fit n d ∧ ∀ H', Same H H' → Q (.bl true) H'
/-- a sequence's items -/
theorem Dp.seq {K : Frag} {H : Hp} {v : V} {d : PyData} (h : Dp K H v d) (e : (isT .list d || isT .tuple d) = true) : ∃ a xs, v = .ref a ∧ SqA K H a xs ∧ DpAll K H xs (itemsD d) := by
  cases h with
  | lst hs ha => exact ⟨_, _, rfl, .inl hs, ha⟩
  | tup hs ha => exact ⟨_, _, rfl, .inr hs, ha⟩
  | non => cases e
  | bl b => cases e
  | int i => cases e
  | str x => cases e
theorem tYes_of {A B : Hp → Prop} {σ : L2.St} {H : Hp} (h : A H) : tYes σ H fun b H3 => if b = true then A H3 else B H3 := h
theorem ite_of {c : Bool} {A B : Prop} (e : c = true) (h : A) : if c = true then A else B := by
  rw [if_pos e]
  exact h
theorem ite_no {c : Bool} {A B : Prop} (e : c = false) (h : B) : if c = true then A else B := by
  rw [e]
  exact iteF h
/-- a comprehension without tests whose element computes f i and leaves what stood -/
theorem lc_pure {J : It} {n : Nat} {G : Hp → Prop} {Y : Nat → Hp → V → Hp → Prop} (w : Walk J n G Y) {g : TG} {te : TE} {vs : List Nat} {σ : L2.St} {H1 : Hp} {D : Addr} {Qd : Hp → Prop} (f : Nat → V) (nD : H1 D = none) (hn : n ≤ 1000000) (hG : ∀ H, Same H1 H → G H)
    (hY : ∀ i H x H', i < n → Y i H x H' → Same H H')
    (hs : ∀ i x H H' (Kt : V → Hp → Prop), i < n → Same H1 H → Y i H x H' → (∀ H4, Same H' H4 → Kt (f i) H4) → g x (wipe σ vs) H' fun σ2 H2 => wipe σ2 vs = wipe σ vs ∧ te σ2 H2 Kt)
    (hg : ∀ x σ H (A B : L2.St → Hp → Prop), (∀ σ H, A σ H → B σ H) → g x σ H A → g x σ H B)
    (hd : ∀ H, Same H1 H → H D = some (.lst ((List.range n).map f)) → Qd H) :
    ∃ W : Nat → Nat → Hp → Prop, (∃ m, W 0 m (upd H1 D (.lst []))) ∧ ∀ i m H, W i m H →
      (J.stop i H ∧ Qd H) ∨ (J.go i H ∧ ∃ Nx : Hp → Prop, (∀ H', Nx H' → ∃ m', m' < m ∧ W (i + 1) m' H') ∧ ∀ x H', J.yld i H x H' → g x (wipe σ vs) H' fun σ2 H2 => wipe σ2 vs = wipe σ vs ∧ tYes σ2 H2 fun b H3 =>
        if b = true then te σ2 H3 fun y H4 => ∃ acc, H4 D = some (.lst acc) ∧ acc.length < sizeLine ∧ Nx (upd H4 D (.lst (acc ++ [y]))) else Nx H3) := by
  refine lc_it w (fun i H => Same H1 H ∧ H D = some (.lst ((List.range i).map f))) ⟨same_new nD _, upd_same⟩ (fun i H _ ⟨s, _⟩ => hG H s) (fun i x H H' hi ⟨s, hD⟩ y => ?_) (fun H ⟨s, hD⟩ => hd H s hD)
  have z := hs i x H H' (fun y H4 => ∃ acc, H4 D = some (.lst acc) ∧ acc.length < sizeLine ∧ Same H1 (upd H4 D (.lst (acc ++ [y]))) ∧ (upd H4 D (.lst (acc ++ [y]))) D = some (.lst ((List.range (i + 1)).map f))) hi s y (fun H4 s4 => ?_)
  · refine hg _ _ _ _ _ (fun σ2 H2 h => ?_) z
    exact ⟨h.1, tYes_of h.2⟩
  · refine ⟨_, s4 _ _ (hY i H x H' hi y _ _ hD), ?_, same_grow (s.trans ((hY i H x H' hi y).trans s4)) nD, ?_⟩
    · rw [List.length_map, List.length_range, sizeLine_eq]
      omega
    · rw [upd_same, List.range_succ, List.map_append]
      rfl
/-- targets that let more through -/
theorem gName_mono (i : Nat) : ∀ x σ H (A B : L2.St → Hp → Prop), (∀ σ H, A σ H → B σ H) → gName i x σ H A → gName i x σ H B := fun _ _ _ _ _ k h => k _ _ h
theorem YAt_same {xs : List V} {n : Nat} : ∀ i H x H', i < n → YAt xs i H x H' → Same H H' := fun _ _ _ _ _ h => by
  rw [h.1]
  exact Same.refl _
theorem YFn_same {f : Nat → V} {n : Nat} : ∀ i H x H', i < n → YFn f i H x H' → Same H H' := fun _ _ _ _ _ h => by
  rw [h.1]
  exact Same.refl _
theorem bls {n : Nat} {f : Nat → Bool} : ((List.range n).map f).map V.bl = (List.range n).map fun i => V.bl (f i) := by
  rw [List.map_map]
  rfl
/-! ### what never changes: tuples -/
def Imm (H H' : Hp) : Prop := ∀ b xs, Rd H b (.tup xs) → Rd H' b (.tup xs)
theorem Imm.refl (H : Hp) : Imm H H := fun _ _ h => h
theorem Imm.trans {H H1 H2 : Hp} (a : Imm H H1) (b : Imm H1 H2) : Imm H H2 := fun c o h => b c o (a c o h)
theorem Imm.same {H H' : Hp} (s : Same H H') : Imm H H' := fun b xs h => by
  rcases h with h | ⟨o, h⟩
  · exact .inl (s _ _ h)
  · exact .inr ⟨o, s _ _ h⟩
theorem Imm.upd {H : Hp} {D : Addr} {acc : List V} {o : HO} (h : H D = some (.lst acc)) : Imm H (L2.upd H D o) := fun b xs e => by
  have ne : b ≠ D := fun z => by
    subst z
    rcases e with e | ⟨o, e⟩ <;> rw [h] at e <;> cases e
  unfold L2.Rd at e ⊢
  rw [upd_ne ne]
  exact e
theorem Imm.bag {p l : Addr} {H H' : Hp} (s : SameX p H H') (B : BagAt H p l) : Imm H H' := fun b xs e => by
  obtain ⟨i, r, sd, ns, hp, _⟩ := B.ex
  have ne : b ≠ p := fun z => by
    subst z
    rcases e with e | ⟨o, e⟩ <;> rw [hp] at e <;> cases e
  rcases e with e | ⟨o, e⟩
  · exact .inl (s.at ne e)
  · exact .inr ⟨o, s.at ne e⟩
mutual
/-- no list within -/
def noL : PyData → Bool
  | .list _ => false
  | .tuple ds => noLs ds
  | .dict _ => false
  | _ => true
def noLs : List PyData → Bool
  | [] => true
  | d :: ds => noL d && noLs ds
end
theorem Imm.tup {K : Frag} {H H' : Hp} {a : Addr} {xs : List V} (e : Imm H H') (h : SqT K H a xs) : SqT K H' a xs := by
  rcases h with h | h
  · exact .inl (e _ _ h)
  · exact .inr h
mutual
theorem Dp.imm {K : Frag} {H H' : Hp} (e : Imm H H') : ∀ {v : V} {d : PyData}, noL d = true → Dp K H v d → Dp K H' v d
  | _, _, _, .non => .non
  | _, _, _, .bl b => .bl b
  | _, _, _, .int i => .int i
  | _, _, _, .str x => .str x
  | _, _, n, .lst h a => by cases n
  | _, _, n, .tup h a => .tup (Imm.tup e h) (DpAll.imm e n a)
theorem DpAll.imm {K : Frag} {H H' : Hp} (e : Imm H H') : ∀ {vs : List V} {ds : List PyData}, noLs ds = true → DpAll K H vs ds → DpAll K H' vs ds
  | _, _, _, .nil => .nil
  | _, _, n, .cons h t => by
    have n' := Bool.and_eq_true_iff.mp n
    exact .cons (Dp.imm e n'.1 h) (DpAll.imm e n'.2 t)
end
theorem BagAt.ne {H : Hp} {p l D : Addr} (B : BagAt H p l) (h : H D = none) : D ≠ p := fun z => by
  obtain ⟨i, r, sd, ns, hp, _⟩ := B.ex
  rw [z, hp] at h
  cases h
theorem BagAt.neL {H : Hp} {p l D : Addr} (B : BagAt H p l) (h : H D = none) : BagAt (upd H D (.lst [])) p l := B.to (same_new h _)
/-- a comprehension without tests that draws: its element i is some v with R i v -/
theorem lc_draw {J : It} {n : Nat} {G : Hp → Prop} {Y : Nat → Hp → V → Hp → Prop} (w : Walk J n G Y) {g : TG} {te : TE} {vs : List Nat} {σ : L2.St} {H1 : Hp} {D p l : Addr} {Qd : Hp → Prop} (R : Nat → V → Hp → Prop) (B : BagAt H1 p l) (nD : H1 D = none) (hn : n ≤ 1000000)
    (hR : ∀ i v H H', Imm H H' → R i v H → R i v H') (hG : ∀ H, SameX p H1 H → G H) (hY : ∀ i H x H', i < n → Y i H x H' → Same H H')
    (hs : ∀ i x H H' (Kt : V → Hp → Prop), i < n → SameX p H1 H' → BagAt H' p l → Y i H x H' → (∀ v H4, SameX p H' H4 → BagAt H4 p l → R i v H4 → Kt v H4) → g x (wipe σ vs) H' fun σ2 H2 => wipe σ2 vs = wipe σ vs ∧ te σ2 H2 Kt)
    (hg : ∀ x σ H (A B : L2.St → Hp → Prop), (∀ σ H, A σ H → B σ H) → g x σ H A → g x σ H B)
    (hd : ∀ H ys, SameX p H1 H → BagAt H p l → H D = some (.lst ys) → ys.length = n → (∀ i v, ys[i]? = some v → R i v H) → Qd H) :
    ∃ W : Nat → Nat → Hp → Prop, (∃ m, W 0 m (upd H1 D (.lst []))) ∧ ∀ i m H, W i m H →
      (J.stop i H ∧ Qd H) ∨ (J.go i H ∧ ∃ Nx : Hp → Prop, (∀ H', Nx H' → ∃ m', m' < m ∧ W (i + 1) m' H') ∧ ∀ x H', J.yld i H x H' → g x (wipe σ vs) H' fun σ2 H2 => wipe σ2 vs = wipe σ vs ∧ tYes σ2 H2 fun b H3 =>
        if b = true then te σ2 H3 fun y H4 => ∃ acc, H4 D = some (.lst acc) ∧ acc.length < sizeLine ∧ Nx (upd H4 D (.lst (acc ++ [y]))) else Nx H3) := by
  have nDp := B.ne nD
  refine lc_it w (fun i H => SameX p H1 H ∧ BagAt H p l ∧ ∃ ys, H D = some (.lst ys) ∧ ys.length = i ∧ ∀ j v, ys[j]? = some v → R j v H) ⟨SameX.same (same_new nD _), B.neL nD, [], upd_same, rfl, fun j v e => by simp at e⟩ (fun i H _ ⟨s, _⟩ => hG H s) (fun i x H H' hi ⟨s, BH, ys, hD, hl, hr⟩ y => ?_) (fun H ⟨s, BH, ys, hD, hl, hr⟩ => hd H ys s BH hD hl hr)
  have sy := hY i H x H' hi y
  have z := hs i x H H' (fun y H4 => ∃ acc, H4 D = some (.lst acc) ∧ acc.length < sizeLine ∧ SameX p H1 (upd H4 D (.lst (acc ++ [y]))) ∧ BagAt (upd H4 D (.lst (acc ++ [y]))) p l ∧ ∃ ys, (upd H4 D (.lst (acc ++ [y]))) D = some (.lst ys) ∧ ys.length = i + 1 ∧ ∀ j v, ys[j]? = some v → R j v (upd H4 D (.lst (acc ++ [y])))) hi (s.trans (SameX.same sy)) (BH.to sy) y (fun v H4 s4 B4 r4 => ?_)
  · refine hg _ _ _ _ _ (fun σ2 H2 h => ?_) z
    exact ⟨h.1, tYes_of h.2⟩
  · have h4 : H4 D = some (.lst ys) := s4.at nDp (sy _ _ hD)
    refine ⟨ys, h4, by rw [hl, sizeLine_eq]; omega, SameX.of fun b o hb e => ?_, ?_, ys ++ [v], upd_same, by rw [List.length_append, hl]; rfl, fun j u e => ?_⟩
    · rw [upd_ne (ne_of_none e nD)]
      exact s4.at hb ((SameX.same sy).at hb (s.at hb e))
    · obtain ⟨a, b, c, ns, hp, hls, k⟩ := B4.ex
      obtain ⟨a', b', c', ns', hp', hl', _⟩ := B.ex
      refine ⟨a, b, c, ns, ?_, ?_, k⟩
      · rw [upd_ne (fun z => nDp z.symm)]
        exact hp
      · rw [upd_ne (ne_of_none hl' nD)]
        exact hls
    · have I1 : Imm H (upd H4 D (.lst (ys ++ [v]))) := (Imm.same sy).trans ((Imm.bag s4 (BH.to sy)).trans (Imm.upd h4))
      by_cases hj : j < ys.length
      · rw [List.getElem?_append_left hj] at e
        exact hR _ _ _ _ I1 (hr _ _ e)
      · have ej : j = ys.length := by
          have := (List.getElem?_eq_some_iff.mp e).1
          rw [List.length_append, List.length_singleton] at this
          omega
        subst ej
        rw [List.getElem?_append_right (Nat.le_refl _), Nat.sub_self] at e
        have e2 : v = u := Option.some.inj e
        subst e2
        rw [hl]
        exact hR _ _ _ _ (Imm.upd h4) r4
theorem at_z {K : Frag} {H : Hp} {a : Addr} {xs : List V} (h : H a = some (.lst xs)) : SqL K H a xs := .inl (.inl h)
theorem cutN (xs : List V) (n : Nat) : cutV xs none (some (n : Int)) = xs.take n := by
  unfold cutV
  rw [HT.sIx_none, HT.sIx_nat]
  show List.take (min n xs.length - 0) xs = _
  rw [Nat.sub_zero]
  by_cases h : n ≤ xs.length
  · rw [Nat.min_eq_left h]
  · rw [Nat.min_eq_right (by omega), List.take_of_length_le (Nat.le_refl _), List.take_of_length_le (by omega)]
/-- law's promise: True -/
def spLaw (K : Frag) : Sp := fun vs H Q _ => ∃ (a : Addr) (ns : List Int), vs = [.ref a] ∧ SqL K H a (ns.map V.int) ∧ ns.length ≤ 63 ∧ ∀ H', Q (.bl true) H'
abbrev dD (x : Str) (st : Stmt) : He.DefD := ⟨(x, none), x, x, defArgs st, defBody st, defScope st, [], []⟩
theorem gs_of {fa : List He.Fa} {fn : List He.DefD} {K : Frag} {h : Heap} {mg : Str → Option Value} (X : K.In h) (G : h.Ns mainGlobals mg) (c : He.SaysD fa fn K) (i j : Nat) (x : Str) (st : Stmt) (hi : fn[i]? = some (dD x st)) (hj : fa[j]? = some (.glo x)) : Gs K mg x st := by
  obtain ⟨fd, F⟩ := c.def_ i hi
  exact ⟨_, fd, He.glo_ok X G (c.fact j hj), F⟩
theorem free_of {fa : List He.Fa} {fn : List He.DefD} {K : Frag} {h : Heap} {mg : Str → Option Value} (X : K.In h) (G : h.Ns mainGlobals mg) (c : He.SaysD fa fn K) (j : Nat) (x : Str) (hj : fa[j]? = some (.free x)) : mg x = none := He.free_ok X G (c.fact j hj)
end Fs
set_option Elab.async false
set_option linter.all false
set_option maxRecDepth 100000
set_option maxHeartbeats 8000000
namespace Fs
open PySem PySem.Spec PyProof.Rows L2
def top (i : Nat) : Stmt := PySem.Challenge.pw_framesure_k01_fractions_computed.main.body.getD i (.Pass ⟨0, 0, 0, 0⟩)
end Fs
set_option Elab.async false
set_option linter.all false
set_option maxRecDepth 100000
set_option maxHeartbeats 8000000
namespace Fs
open PySem PySem.Spec PyProof.Rows L2
/-! ### fields of an exception that is pinned -/
def tXp (K : Frag) (a : Addr) (cls : Value) (d : Option Addr) (n : Str) (te : TE) : TE := fun σ H Q => te σ H fun x H1 => x = .ref a ∧ ∃ (C dd : Addr) (fs : List (Str × V)) (v : V), cls = .ref C ∧ d = some dd ∧ XfC K C ∧ PySem.W.findIn K (.ref C) n = some none ∧ H1 dd = some (.xd fs) ∧ fs.lookup n = some v ∧ Q v H1
theorem pe_xp {X : Cx} {p : Addr × Obj} {cls : Value} {d : Option Addr} {n : Str} {e : Expr} {te : TE} {pos : Pos} (hp : p ∈ X.pn) (hz : Zc cls d p.2) (hf : ∃ vs, p.2.data = .fields vs) (he : PE X e te)
    (hb : attributeBase e n X.env (eval e X.env) = eval e X.env := by rfl) : PE X (.Attribute e n pos) (tXp X.K p.1 cls d n te) := by
  constructor
  intro pins s σ H Q I h
  refine attr_of hb (thn (he.run pins s σ H _ I h) ?_)
  rintro u s1 ⟨x, H1, I1, rx, rfl, C, dd, fs, v, rfl, rfl, T, no, hd, hv, q⟩
  cases (show u = Value.ref p.1 from rx)
  have at_p := (I1.pin p (List.mem_append_left _ hp)).1
  obtain ⟨vs, dv⟩ := hf
  obtain ⟨mA, hns, hr⟩ := (show ObjOk X.prog X.w H1 s1.heap dd (.xd fs) from I1.hok dd _ hd)
  obtain ⟨od, ho, hlk⟩ := lookIn_ns hns
  obtain ⟨u, hu, ru⟩ := RelO.some_of (v := v) (o := mA n) (by have z := hr n; rw [hv] at z; exact z)
  have inst : PySem.W.InstAt s1.heap p.1 p.2 C (some od) := ⟨at_p, hz.1, (by unfold PySem.W.notCls; rw [dv] <;> rfl), (by rw [hz.2]; exact ho)⟩
  exact HandSPX.exc_get I1.kIn inst T.ga T.gg T.exC (PySem.W.findObj_own T.hdC no rfl (by rw [hlk, hu])) (handed_of ru) ⟨v, H1, I1.tok _, ru, q⟩
/-! ### a def called while p stands pinned -/
/-- the promise of a def that is called within a suite, p the exception that is handled -/
def FnP (P : Program) (w : World) (K : Frag) (mg : Str → Option Value) (base : Heap) (p : Addr × Obj) (k : Nat) (f : Addr) (sp : List V → Hp → VK → Prop) : Prop :=
  ∀ (A : Around) (outer : List Env) (s : Shared) (H : Hp) (us : List Value) (vs : List V) (Q : VK), L2H.RoomH k A → L2H.PinOk outer H s p → Env0 P w K mg base A outer s H → Vals vs us → sp vs H Q →
    codeAny (model P w) A (.call (.ref f) ⟨us, []⟩) (CR CX0 outer P w H s Q E0) s
section
variable {P : Program} {w : World} {K : Frag} {mg : Str → Option Value} {base : Heap}
theorem fnP_of {x qual : Str} {st : Stmt} {N ps : List Str} {k : Nat} {p : Addr × Obj} {f : Addr} {fd : FuncData} {sp : List V → Hp → VK → Prop} (D : FunD K x qual (defArgs st) (defBody st) (defScope st) [] [] f fd) (S : FnScope N ps (defScope st)) (len : ∀ vs H Q, sp vs H Q → vs.length = ps.length) (hb : Binds K fd ps [])
    (body : ∀ (cdv : Value) (A : Around) (outer : List Env) (s : Shared) (H : Hp) (vs : List V) (Q : VK), sp vs H Q →
      ∃ t, PSs (L2H.cxH CX0 P w K mg base N qual (defScope st) f cdv A outer s H E0 p) (defBody st) t ∧ t { nx := fun _ H' => Q .non H', rt := Q } (start N vs) H) : FnP P w K mg base p (k + 1) f sp := by
  intro A outer s H us vs Q room pin e0 r h
  have nvs := len _ _ _ h
  have KX : K.In s.heap := e0.mod.kin.keeps fun b o e => (e0.bs b o e).1
  have bt : BindsTo s fd ⟨us, []⟩ (ps.zip us) := by
    have z := hb s us KX (by rw [List.append_nil, ← r.length]; exact nvs)
    rw [List.append_nil] at z
    exact z
  obtain ⟨oc, od, dV, kV, doc, pm, an, cdv, ct, osl, rfl, lk, hcd, _, _⟩ := D.ex
  refine codeAny_call_function room.depth (KX _ _ lk) rfl S.co S.gen rfl (PySem.W.codeRec_of KX hcd) (bt _ _ _ _ (wpAny_newFunctionEnv_cells S.kind ?_ ?_))
  · intro y hy
    rcases S.par y.1 (List.of_mem_zip hy).1 with q | q
    · exact .inl q
    · exact .inr ⟨q, PySem.W.cellsFrom_some _ _ _ (.inl q)⟩
  · intro env he s1 x
    subst he
    refine ⟨(e0.mod.nolimit.keeps fun b o e => (e0.bs b o e).1).keeps x.toInCall.keep, codeAny_func ?_⟩
    obtain ⟨t, ht, hq⟩ := body cdv A outer s H vs Q h
    refine wpAny_mono (ht.run [] s1 _ H _ (L2H.inv_startH S pin e0 nvs r x) hq) ?_ fun e s' z => z
    intro fl s' z
    cases fl with
    | ret u =>
      obtain ⟨v, σ', H', J, rv, qv⟩ := z
      exact ⟨v, H', J.os, J.bare, J.base, J.hok, rv, qv⟩
    | next =>
      obtain ⟨σ', H', J, qv⟩ := z
      exact ⟨.non, H', J.os, J.bare, J.base, J.hok, rfl, qv⟩
    | brk =>
      obtain ⟨_, _, _, no⟩ := z
      exact no.elim
    | cont =>
      obtain ⟨_, _, _, no⟩ := z
      exact no.elim
end
/-- its call, in a context that bears p -/
def tCallP (sp : List V → Hp → VK → Prop) (t : TA) : TE := fun σ H Q => t σ H fun vs H1 => sp vs H1 Q
theorem pe_callP {X : Cx} {k : Nat} {f : Addr} {x : Str} {sp : List V → Hp → VK → Prop} {p : Addr × Obj} {t : TA} {e : Expr} {es : List Expr} {q pos : Pos} (F : FnP X.prog X.w X.K X.mg X.base p k f sp) (hp : p ∈ X.pn) (room : L2H.RoomH k X.A) (hm : X.mg x = some (.ref f)) (hk : PySem.W.keepIn X.K (.ref f) = true)
    (ha : PA X (e :: es) t) (hg : Gl X x := by rfl) (hdb : (x == ("__debug__" : Str)) = false := by decide) (he : starEach (e :: es) X.env = (false, eval e X.env) :: starEach es X.env := by rfl) (hpl : (backTo pos (starEach es X.env)).any (·.1) = false := by rfl) :
    PE X (.Call (.Name x q) (e :: es) [] pos) (tCallP sp t) := by
  constructor
  intro pins s σ H Q I h
  refine wpAny_Call_Name_kw (ld_glob I hg hm (PySem.W.callWith_K (h₀ := X.base) I.ok.mod.kin hk (thn (ha.run pos pins s σ H _ I h) ?_) he hpl) hdb)
  rintro us s1 ⟨vs, H1, I1, r, hq⟩
  refine ⟨I1.kIn, ?_⟩
  obtain ⟨g1, g2, g3, g4, g5⟩ := I1.pin p (List.mem_append_left _ hp)
  have pin : L2H.PinOk X.stack H1 s1 p := ⟨g1, g2, fun m => (List.mem_cons.mp (I1.stkSub p.1 m)).elim g3 g4, g5⟩
  refine wpAny_call (codeAny_mono (F X.A X.stack s1 H1 us vs Q room pin I1.env0 r hq) ?_)
  intro z s2 hz
  cases z with
  | error e => exact (show False from hz).elim
  | ok fl =>
    cases fl with
    | ret u => exact I1.after hz
    | next => exact (show False from hz).elim
    | brk => exact (show False from hz).elim
    | cont => exact (show False from hz).elim
/-! ### except (A, B, C) as n -/
/-- what the clause wishes: the exception is of one of the classes -/
def w3 (K : Frag) (m : Nat) (cs : List Value) (i : Nat) (ts : Addr → Value → Option Addr → TS) (D : Ends) : WX := fun cls d σ H =>
  PySem.W.exmAny K cls cs = some true ∧ ∀ a, H a = none → σ.length = m → ts a cls d { nx := fun σ' H' => D.nx (σ'.set i none) H', rt := D.rt, bk := fun σ' H' => D.bk (σ'.set i none) H', ct := fun σ' H' => D.ct (σ'.set i none) H' } (σ.set i (some (.ref a))) H
theorem flying_more {B : Heap} {l : List Env} {a : Addr} {Z : Obj → Prop} {h h' : Heap} (k : ∀ b o, h.get? b = some o → h'.get? b = some o) (x : HandSPX.FlyingZ B l a Z h) : HandSPX.FlyingZ B l a Z h' := by
  obtain ⟨x1, x2, x3, oe, vs, T, oT, ts, y1, y2, y3, y4, y5, y6, y7, y8⟩ := x
  exact ⟨fun b o e => k b o (x1 b o e), x2, Heap.FunFrames.of_keeps (fun b o e _ => ⟨o, k b o e, rfl⟩) x3, oe, vs, T, oT, ts, k _ _ y1, y2, y3, y4, y5, y6, k _ _ y7, y8⟩
section
variable {X : Cx} {x1 x2 x3 n : Str} {C1 C2 C3 : Addr} {i : Nat} {body suite : List Stmt} {b₀ : Stmt} {p1 p2 p3 np pos pos' : Pos} {k : Nat} {tb : WX → TS} {ts : Addr → Value → Option Addr → TS}
theorem ps_try3 (hs : X.stack = X.env :: X.outer) (hf : X.env.frame = some X.env.locals) (hN : X.N.Nodup) (hi : X.N[i]? = some n) (hln : X.env.kindOf n = some .local) (g1 : Gl X x1) (m1 : X.mg x1 = some (.ref C1)) (g2 : Gl X x2) (m2 : X.mg x2 = some (.ref C2)) (g3 : Gl X x3) (m3 : X.mg x3 = some (.ref C3))
    (d1 : (x1 == ("__debug__" : Str)) = false) (d2 : (x2 == ("__debug__" : Str)) = false) (d3 : (x3 == ("__debug__" : Str)) = false)
    (hb : ∀ (W : WX) (pn : List (Addr × Obj)) (xe : Value → Shared → Prop), Takes (X.tr pn xe) W → PassesOwn (model X.prog X.w) X.A X.env xe → PSs (X.tr pn xe) body (tb W))
    (hsu : ∀ (a : Addr) (oe : Obj) (cls : Value) (d : Option Addr) (pn : List (Addr × Obj)), Zc cls d oe → (∃ vs, oe.data = .fields vs) → PSs (X.suite a ((a, oe) :: pn)) (b₀ :: suite) (ts a cls d)) :
    PS X (.Try body [.ExceptHandler (some (.Tuple [.Name x1 p1, .Name x2 p2, .Name x3 p3] k np)) (some n) (b₀ :: suite) pos'] [] [] pos) (fun D σ H => tb (w3 X.K X.N.length [.ref C1, .ref C2, .ref C3] i ts D) D σ H) := by
  constructor
  intro pins s σ H D I h
  have ok := I.ok
  have frames : X.A.frames = some (X.env :: X.outer) := by rw [ok.frames, hs]
  refine wpAny_Try_except (wpAny_mono ((hb (w3 X.K X.N.length [.ref C1, .ref C2, .ref C3] i ts D) (X.pn ++ pins) _ ?take PassesOwn.looking).run [] s σ H D (I.toTry _) h) ?thru fun e s1 he => he)
  case thru =>
    intro f s1 z
    cases f with
    | next =>
      obtain ⟨σ', H', J, q⟩ := z
      exact wpAny_execs_nil ⟨σ', H', J.ofTry ok, q⟩
    | brk =>
      obtain ⟨σ', H', J, q⟩ := z
      exact ⟨σ', H', J.ofTry ok, q⟩
    | cont =>
      obtain ⟨σ', H', J, q⟩ := z
      exact ⟨σ', H', J.ofTry ok, q⟩
    | ret u =>
      obtain ⟨v, σ', H', J, r, q⟩ := z
      exact ⟨v, σ', H', J.ofTry ok, r, q⟩
  case take =>
    rintro u s' ⟨a, B, sI, pins', σ', H', cls, d, rfl, J', nb, up, sky, na, os, ag, hx, yes⟩
    have J : Inv X pins σ' H' sI := J'.ofTry ok
    rw [hs] at sky
    refine Sky.land Zc.steady frames hf sky fun h3 fl3 up3 => ?_
    have J3 : Inv X pins σ' H' { s' with heap := h3 } := J.landed nb fl3.1 (up.trans up3) os ag
    obtain ⟨oe3, vs3, he3, hz3, hd3⟩ := fl3.there
    have far : ∀ b ∈ frs (X.env :: X.outer), b ≠ a := by
      intro b hb e
      subst e
      obtain ⟨_, o', e', nf⟩ := fl3.2.2.1.mem hb
      rw [he3] at e'
      cases e'
      exact nf _ hd3
    have nL : a ≠ X.env.locals := fun z => far X.env.locals (List.mem_filterMap.mpr ⟨X.env, List.mem_cons_self, hf⟩) z.symm
    have nF : a ∉ X.fs := fun m => by
      obtain ⟨e, he, q⟩ := List.mem_filterMap.mp m
      exact far a (List.mem_filterMap.mpr ⟨e, List.mem_cons_of_mem _ he, q⟩) rfl
    have S3 := J3.suite he3 hd3 na nL nF
    refine wpAny_handleBy_cons (codeAny_handlers_test ?_) (fun q => by cases q)
    -- the tuple of the classes
    have one : ∀ {x : Str} {C : Addr} {q : Pos} {Q : Value → Shared → Prop} {E : Value → Shared → Prop}, Gl X x → X.mg x = some (.ref C) → (x == ("__debug__" : Str)) = false → Q (.ref C) { s' with heap := h3 } → wpAny (model X.prog X.w) (X.A.mark (some (.ref a))) (eval (.Name x q) X.env) Q E { s' with heap := h3 } :=
      fun g m d q => ld_glob (X := X.suite a ((a, oe3) :: (X.pn ++ pins))) S3 g m q d
    refine wpAny_Tuple_spliced ?_
    rw [show starEach [.Name x1 p1, .Name x2 p2, .Name x3 p3] X.env = (false, eval (.Name x1 p1) X.env) :: starEach [.Name x2 p2, .Name x3 p3] X.env from rfl]
    show wpAny _ _ (spliced ((false, eval (.Name x1 p1) X.env) :: backTo np (starEach [.Name x2 p2, .Name x3 p3] X.env))) _ _ _
    refine Calls.spliced_cons (one g1 m1 d1 ?_)
    rw [show starEach [.Name x2 p2, .Name x3 p3] X.env = (false, eval (.Name x2 p2) X.env) :: starEach [.Name x3 p3] X.env from rfl]
    show wpAny _ _ (spliced ((false, eval (.Name x2 p2) X.env) :: backTo np (starEach [.Name x3 p3] X.env))) _ _ _
    refine Calls.spliced_cons (one g2 m2 d2 ?_)
    rw [show starEach [.Name x3 p3] X.env = (false, eval (.Name x3 p3) X.env) :: starEach [] X.env from rfl]
    show wpAny _ _ (spliced ((false, eval (.Name x3 p3) X.env) :: backTo np (starEach [] X.env))) _ _ _
    refine Calls.spliced_cons (one g3 m3 d3 ?_)
    refine Calls.spliced_nil ⟨(by show 3 ≤ sizeLine; decide), ?_⟩
    -- it matches
    have keep : ∀ b o, h3.get? b = some o → (h3.push ({ cls := .type "tuple", data := .seq [Value.ref C1, .ref C2, .ref C3].toArray } : Obj)).get? b = some o := fun b o e => Heap.get?_push_of_some _ e
    have tup : (h3.push ({ cls := .type "tuple", data := .seq [Value.ref C1, .ref C2, .ref C3].toArray } : Obj)).get? h3.objs.size = some { cls := .type "tuple", data := .seq [Value.ref C1, .ref C2, .ref C3].toArray } := Heap.get?_push_size _ rfl
    have fl5 := flying_more keep fl3
    have up5 := up3.trans (Heap.UpToSlots.of_keeps keep)
    generalize h3.push ({ cls := .type "tuple", data := .seq [Value.ref C1, .ref C2, .ref C3].toArray } : Obj) = h5 at keep tup fl5 up5
    have J5 : Inv X pins σ' H' { s' with heap := h5 } := J.landed nb fl5.1 (up.trans up5) os ag
    have LT : PySem.W.Looks (model X.prog X.w) h5 (typeOf (.ref a)) cls := fun A Q E s k q => wpAny_typeOf_ref (k _ _ (keep _ _ he3)) (by rw [hz3.1]; exact q)
    refine (PySem.W.exm_tup3 J5.kIn LT tup hx).here ?_
    refine codeAny_handlers_suite_as (HandSPX.lands_againZ fl5 fun h6 fl6 up6 => ?_)
    have J6 : Inv X pins σ' H' { s' with heap := h6 } := J.landed nb fl6.1 ((up.trans up5).trans up6) os ag
    obtain ⟨oe6, vs6, he6, hz6, hd6⟩ := fl6.there
    have S6 := J6.suite he6 hd6 na nL nF
    refine store_ok (X := X.suite a ((a, oe6) :: (X.pn ++ pins))) (v := .ref a) S6 hN hi (.inl hln) rfl (fun s7 S7 => ?_) (.inr hln)
    refine wpAny_mono ((hsu a oe6 cls d (X.pn ++ pins) hz6 ⟨_, hd6⟩).run [] s7 _ H' _ S7 (yes a na J.len)) ?_ fun _ _ z => z.elim
    intro f s8 z
    cases f with
    | next =>
      obtain ⟨σ8, H8, S8, q⟩ := z
      exact gone_ok (S8.unsuite ok) hN hi hln fun s9 J9 => ⟨_, _, J9, q⟩
    | brk =>
      obtain ⟨σ8, H8, S8, q⟩ := z
      exact gone_ok (S8.unsuite ok) hN hi hln fun s9 J9 => ⟨_, _, J9, q⟩
    | cont =>
      obtain ⟨σ8, H8, S8, q⟩ := z
      exact gone_ok (S8.unsuite ok) hN hi hln fun s9 J9 => ⟨_, _, J9, q⟩
    | ret u =>
      obtain ⟨v, σ8, H8, S8, rv, q⟩ := z
      exact gone_ok (S8.unsuite ok) hN hi hln fun s9 J9 => ⟨_, _, _, J9, rv, q⟩
end
end Fs
set_option Elab.async false
set_option linter.all false
set_option maxRecDepth 100000
set_option maxHeartbeats 8000000
namespace Fs
open PySem PySem.Spec PyProof.Rows L2
abbrev s__law_field : Stmt := top 22
abbrev N__law_field : List Str := ["_law_e"]
abbrev P__law_field : List Str := ["_law_e"]
abbrev s__law_try : Stmt := top 23
abbrev N__law_try : List Str := ["_law_ask", "_law_e"]
abbrev P__law_try : List Str := ["_law_ask"]
theorem sc__law_field : FnScope N__law_field P__law_field (defScope s__law_field) := ⟨rfl, rfl, rfl, by decide +kernel, rfl, by decide +kernel, by decide +kernel⟩
theorem sc__law_try : FnScope N__law_try P__law_try (defScope s__law_try) := ⟨rfl, rfl, rfl, by decide +kernel, rfl, by decide +kernel, by decide +kernel⟩
def namesE : List Str := ["code", "most", "name", "index", "at", "claim", "word", "cause", "limit", "line"]
/-- what the class at C must have -/
structure ExK (K : Frag) (C : Addr) : Prop where
  xf : XfC K C
  no : ∀ n ∈ namesE, PySem.W.findIn K (.ref C) n = some none
/-- the field that the laws read off an error, by its code -/
def fldE (code : Str) : Option Str :=
  if inV (.str code) ([("TooMany" : Str), "Full"].map V.str) = true then some "most"
  else if inV (.str code) ([("InvalidSizes" : Str), "UnknownThing", "InvalidName", "DuplicateName", "WrongKind", "UnknownName"].map V.str) = true then some "name"
  else if decide (V.str code = V.str "InvalidFact") = true then some "index"
  else if decide (V.str code = V.str "InvalidText") = true then some "at"
  else if inV (.str code) ([("InUse" : Str), "UnknownClaim"].map V.str) = true then some "claim"
  else if decide (V.str code = V.str "InvalidCommand") = true then some "word"
  else if decide (V.str code = V.str "InvalidLimit") = true then some "limit"
  else if decide (V.str code = V.str "ParseError") = true then some "line"
  else none
def FldV (code : Str) (fs : List (Str × V)) (v : V) : Prop := match fldE code with
  | some f => fs.lookup f = some v
  | none => v = .non
/-- an error of the class at C, its dict at dd -/
structure ErrAt (K : Frag) (H : Hp) (C dd : Addr) (fs : List (Str × V)) (code : Str) (v : V) : Prop where
  ex : ExK K C
  at_ : H dd = some (.xd fs)
  cod : fs.lookup ("code" : Str) = some (.str code)
  nst : decide (V.str code = V.str "Stopped") = false
  val : FldV code fs v
theorem ErrAt.to {K : Frag} {H H' : Hp} {C dd : Addr} {fs : List (Str × V)} {code : Str} {v : V} (e : ErrAt K H C dd fs code v) (s : Same H H') : ErrAt K H' C dd fs code v := ⟨e.ex, s _ _ e.at_, e.cod, e.nst, e.val⟩
def spField (K : Frag) (a : Addr) (cls : Value) (d : Option Addr) : List V → Hp → VK → Prop := fun vs H Q => ∃ (C dd : Addr) (fs : List (Str × V)) (code : Str) (v : V), vs = [.ref a] ∧ cls = .ref C ∧ d = some dd ∧ ErrAt K H C dd fs code v ∧ ∀ H', Same H H' → Q v H'
section
variable {P : Program} {w : World} {K : Frag} {mg : Str → Option Value} {base : Heap}
theorem fp__law_field {f : Addr} {fd : FuncData} (D : FunD K "_law_field" "_law_field" (defArgs s__law_field) (defBody s__law_field) (defScope s__law_field) [] [] f fd) {p : Addr × Obj} {cls : Value} {d : Option Addr} (hz : Zc cls d p.2) (hf : ∃ vs, p.2.data = .fields vs) :
    FnP P w K mg base p 1 f (spField K p.1 cls d) := by
  refine fnP_of D sc__law_field (fun vs H Q h => ?_) (D.bindsN fun _ _ _ _ _ _ us hl => match us, hl with | [_], _ => rfl) (fun cdv A outer s H vs Q h => ?_)
  · obtain ⟨C, dd, fs, code, v, rfl, _⟩ := h
    rfl
  obtain ⟨C, dd, fs, code, v, rfl, rfl, rfl, T, q⟩ := h
  have hp : p ∈ (L2H.cxH CX0 P w K mg base N__law_field "_law_field" (defScope s__law_field) f cdv A outer s H E0 p).pn := List.mem_cons_self
  refine ⟨_, (pss_cons (ps_if (pt_cmpR op_in_seq (pe_xp hp hz hf (pv 0)) (pe_lstN (pa_cons pe_str (pa_cons pe_str pa_nil))) (by rfl)) (pss_one (ps_ret (pe_xp hp hz hf (pv 0)))) pss_nil)
    (pss_cons (ps_if (pt_cmpR op_in_seq (pe_xp hp hz hf (pv 0)) (pe_lstN (pa_cons pe_str (pa_cons pe_str (pa_cons pe_str (pa_cons pe_str (pa_cons pe_str (pa_cons pe_str pa_nil))))))) (by rfl)) (pss_one (ps_ret (pe_xp hp hz hf (pv 0)))) pss_nil)
    (pss_cons (ps_if (pt_cmpR op_eq (pe_xp hp hz hf (pv 0)) pe_str (nomark _)) (pss_one (ps_ret (pe_xp hp hz hf (pv 0)))) pss_nil)
    (pss_cons (ps_if (pt_cmpR op_eq (pe_xp hp hz hf (pv 0)) pe_str (nomark _)) (pss_one (ps_ret (pe_xp hp hz hf (pv 0)))) pss_nil)
    (pss_cons (ps_if (pt_cmpR op_in_seq (pe_xp hp hz hf (pv 0)) (pe_lstN (pa_cons pe_str (pa_cons pe_str pa_nil))) (by rfl)) (pss_one (ps_ret (pe_xp hp hz hf (pv 0)))) pss_nil)
    (pss_cons (ps_if (pt_cmpR op_eq (pe_xp hp hz hf (pv 0)) pe_str (nomark _)) (pss_one (ps_ret (pe_xp hp hz hf (pv 0)))) pss_nil)
    (pss_cons (ps_if (pt_cmpR op_eq (pe_xp hp hz hf (pv 0)) pe_str (nomark _)) pss_never pss_nil)
    (pss_cons (ps_if (pt_cmpR op_eq (pe_xp hp hz hf (pv 0)) pe_str (nomark _)) (pss_one (ps_ret (pe_xp hp hz hf (pv 0)))) pss_nil)
    (pss_one (ps_ret (pe_ifExp (pt_cmpR op_eq (pe_xp hp hz hf (pv 0)) pe_str (nomark _)) (pe_xp hp hz hf (pv 0)) pe_non))))))))))), ?_⟩
  have no := T.ex.no
  have hv := T.val
  unfold FldV fldE at hv
  have nc := no "code" (by simp [namesE])
  -- a test by membership
  refine ⟨_, rfl, rfl, C, dd, fs, _, rfl, rfl, T.ex.xf, nc, T.at_, T.cod, (by show 2 ≤ sizeLine; decide), fun l H1 nl s1 hl => ⟨l, _, rfl, .inl (at_z hl), rfl, rfl, _, rfl, ?_⟩⟩
  have T1 := T.to s1
  by_cases c1 : inV (.str code) ([("TooMany" : Str), "Full"].map V.str) = true
  · rw [if_pos c1] at hv
    exact ite_of c1 ⟨_, rfl, rfl, C, dd, fs, _, rfl, rfl, T.ex.xf, no _ (by simp [namesE]), T1.at_, hv, q _ s1⟩
  rw [if_neg c1] at hv
  refine ite_no (Bool.eq_false_iff.mpr c1) ?_
  refine ⟨_, rfl, rfl, C, dd, fs, _, rfl, rfl, T.ex.xf, nc, T1.at_, T1.cod, (by show 6 ≤ sizeLine; decide), fun l2 H2 nl2 s2 hl2 => ⟨l2, _, rfl, .inl (at_z hl2), rfl, rfl, _, rfl, ?_⟩⟩
  have T2 := T1.to s2
  by_cases c2 : inV (.str code) ([("InvalidSizes" : Str), "UnknownThing", "InvalidName", "DuplicateName", "WrongKind", "UnknownName"].map V.str) = true
  · rw [if_pos c2] at hv
    exact ite_of c2 ⟨_, rfl, rfl, C, dd, fs, _, rfl, rfl, T.ex.xf, no _ (by simp [namesE]), T2.at_, hv, q _ (s1.trans s2)⟩
  rw [if_neg c2] at hv
  refine ite_no (Bool.eq_false_iff.mpr c2) ?_
  refine ⟨_, rfl, rfl, C, dd, fs, _, rfl, rfl, T.ex.xf, nc, T2.at_, T2.cod, rfl, _, rfl, ?_⟩
  by_cases c3 : decide (V.str code = V.str "InvalidFact") = true
  · rw [if_pos c3] at hv
    exact ite_of c3 ⟨_, rfl, rfl, C, dd, fs, _, rfl, rfl, T.ex.xf, no _ (by simp [namesE]), T2.at_, hv, q _ (s1.trans s2)⟩
  rw [if_neg c3] at hv
  refine ite_no (Bool.eq_false_iff.mpr c3) ?_
  refine ⟨_, rfl, rfl, C, dd, fs, _, rfl, rfl, T.ex.xf, nc, T2.at_, T2.cod, rfl, _, rfl, ?_⟩
  by_cases c4 : decide (V.str code = V.str "InvalidText") = true
  · rw [if_pos c4] at hv
    exact ite_of c4 ⟨_, rfl, rfl, C, dd, fs, _, rfl, rfl, T.ex.xf, no _ (by simp [namesE]), T2.at_, hv, q _ (s1.trans s2)⟩
  rw [if_neg c4] at hv
  refine ite_no (Bool.eq_false_iff.mpr c4) ?_
  refine ⟨_, rfl, rfl, C, dd, fs, _, rfl, rfl, T.ex.xf, nc, T2.at_, T2.cod, (by show 2 ≤ sizeLine; decide), fun l3 H3 nl3 s3 hl3 => ⟨l3, _, rfl, .inl (at_z hl3), rfl, rfl, _, rfl, ?_⟩⟩
  have T3 := T2.to s3
  have s13 := s1.trans (s2.trans s3)
  by_cases c5 : inV (.str code) ([("InUse" : Str), "UnknownClaim"].map V.str) = true
  · rw [if_pos c5] at hv
    exact ite_of c5 ⟨_, rfl, rfl, C, dd, fs, _, rfl, rfl, T.ex.xf, no _ (by simp [namesE]), T3.at_, hv, q _ s13⟩
  rw [if_neg c5] at hv
  refine ite_no (Bool.eq_false_iff.mpr c5) ?_
  refine ⟨_, rfl, rfl, C, dd, fs, _, rfl, rfl, T.ex.xf, nc, T3.at_, T3.cod, rfl, _, rfl, ?_⟩
  by_cases c6 : decide (V.str code = V.str "InvalidCommand") = true
  · rw [if_pos c6] at hv
    exact ite_of c6 ⟨_, rfl, rfl, C, dd, fs, _, rfl, rfl, T.ex.xf, no _ (by simp [namesE]), T3.at_, hv, q _ s13⟩
  rw [if_neg c6] at hv
  refine ite_no (Bool.eq_false_iff.mpr c6) ?_
  refine ⟨_, rfl, rfl, C, dd, fs, _, rfl, rfl, T.ex.xf, nc, T3.at_, T3.cod, rfl, _, rfl, ite_no T.nst ?_⟩
  refine ⟨_, rfl, rfl, C, dd, fs, _, rfl, rfl, T.ex.xf, nc, T3.at_, T3.cod, rfl, _, rfl, ?_⟩
  by_cases c7 : decide (V.str code = V.str "InvalidLimit") = true
  · rw [if_pos c7] at hv
    exact ite_of c7 ⟨_, rfl, rfl, C, dd, fs, _, rfl, rfl, T.ex.xf, no _ (by simp [namesE]), T3.at_, hv, q _ s13⟩
  rw [if_neg c7] at hv
  refine ite_no (Bool.eq_false_iff.mpr c7) ?_
  refine ⟨_, rfl, rfl, C, dd, fs, _, rfl, rfl, T.ex.xf, nc, T3.at_, T3.cod, rfl, _, rfl, ?_⟩
  by_cases c8 : decide (V.str code = V.str "ParseError") = true
  · rw [if_pos c8] at hv
    exact ite_of c8 ⟨_, rfl, rfl, C, dd, fs, _, rfl, rfl, T.ex.xf, no _ (by simp [namesE]), T3.at_, hv, q _ s13⟩
  rw [if_neg c8] at hv
  subst hv
  exact ite_no (Bool.eq_false_iff.mpr c8) (q _ s13)
end
/-! ### _law_try(lambda: ..) -/
/-- the answer of _law_try as a pair that is new -/
def Pair2 (H : Hp) (x y : V) (Q : VK) : Prop := [x, y].length ≤ sizeLine ∧ ∀ p H', H p = none → Same H H' → H' p = some (.tup [x, y]) → Q (.ref p) H'
/-- the laws' try of a lambda -/
def TTry (K : Frag) (c1 c2 c3 : Addr) : (XK → Hp → VK → Prop) → Hp → VK → Prop := fun tl H Q =>
  tl (fun cls d H' => ∃ (C dd : Addr) (fs : List (Str × V)) (code : Str) (v : V), cls = .ref C ∧ d = some dd ∧ PySem.W.exmAny K cls [.ref c1, .ref c2, .ref c3] = some true ∧ ErrAt K H' C dd fs code v ∧ ∀ H2, Same H' H2 → Pair2 H2 (.str code) v Q) H (fun v H' => Pair2 H' (.str "value") v Q)
section
variable {X : Cx}
theorem gives_try {c1 c2 c3 g fF : Addr} {fdF : FuncData} {cdg : Value} {q : Str} (m1 : X.mg "FrameError" = some (.ref c1)) (m2 : X.mg "Missing" = some (.ref c2)) (m3 : X.mg "NothingLeft" = some (.ref c3)) (mF : X.mg "_law_field" = some (.ref fF)) (kF : PySem.W.keepIn X.K (.ref fF) = true)
    (DF : FunD X.K "_law_field" "_law_field" (defArgs s__law_field) (defBody s__law_field) (defScope s__law_field) [] [] fF fdF) (room : ∀ l : Addr, L2H.RoomH 1 (X.A.deeper (envOfC "_law_try" (defScope s__law_try) l g cdg))) :
    LamX.GivesTo X N__law_try "_law_try" (defScope s__law_try) g cdg (defBody s__law_try) "_law_ask" q (TTry X.K c1 c2 c3) := by
  intro f c' s H Q tl act hc h
  refine ⟨_, pss_one (ps_try3 (C1 := c1) (C2 := c2) (C3 := c3) (i := 1) (tb := fun W D σ H1 => ∃ Ech : XK, (∀ cls d σ' H', Ech cls d H' → W cls d σ' H') ∧ σ[0]? = some (some (.ref f)) ∧ H1 c' = some (LamX.CodeO c' q) ∧ tl Ech H1 (fun v H' => Pair2 H' (.str "value") v D.rt))
    (ts := fun a cls d => tRet (tTupN (tCons (tXp X.K a cls d "code" (tVar 1)) (tCons (tCallP (spField X.K a cls d) (tCons (tVar 1) tNil)) tNil))))
    rfl rfl sc__law_try.nd rfl rfl rfl m1 rfl m2 rfl m3 (by decide) (by decide) (by decide) ?body ?suite), ?_⟩
  case body =>
    intro W pn xe tk pass
    constructor
    intro pins s' σ H1 D I hh
    obtain ⟨Ech, hW, h0, h1, h2⟩ := hh
    refine (pss_one (ps_ret (pe_tupN (pa_cons pe_str (pa_cons (act W pn xe Ech _ _ tk hW) pa_nil))))).run pins s' σ H1 D I ?_
    exact ⟨h0, h1, h2⟩
  case suite =>
    intro a oe cls d pn hz hf
    exact pss_one (ps_ret (pe_tupN (pa_cons (pe_xp (p := (a, oe)) List.mem_cons_self hz hf (pv 1)) (pa_cons (pe_callP (fp__law_field DF hz hf) List.mem_cons_self ⟨(room s.heap.objs.size).dp, (room s.heap.objs.size).un⟩ mF kF (pa_cons (pv 1) pa_nil)) pa_nil))))
  refine ⟨fun cls d H' => ∃ (C dd : Addr) (fs : List (Str × V)) (code : Str) (v : V), cls = .ref C ∧ d = some dd ∧ PySem.W.exmAny X.K cls [.ref c1, .ref c2, .ref c3] = some true ∧ ErrAt X.K H' C dd fs code v ∧ ∀ H2, Same H' H2 → Pair2 H2 (.str code) v Q, ?_, rfl, hc, h⟩
  rintro cls d σ' H' ⟨C, dd, fs, code, v, rfl, rfl, hx, T, k⟩
  refine ⟨hx, fun a na hl => ?_⟩
  have hl2 : σ'.length = 2 := hl
  have slot : (σ'.set 1 (some (V.ref a)))[1]? = some (some (V.ref a)) := List.getElem?_set_self (by omega)
  exact ⟨_, slot, rfl, C, dd, fs, _, rfl, rfl, T.ex.xf, T.ex.no _ (by simp [namesE]), T.at_, T.cod, _, slot, C, dd, fs, code, v, rfl, rfl, rfl, T, fun H2 s2 => k H2 s2⟩
end
end Fs
set_option Elab.async false
set_option linter.all false
set_option maxRecDepth 100000
set_option maxHeartbeats 8000000
namespace Fs
open PySem PySem.Spec PyProof.Rows L2
/-- the call of the class, its __init__ keeping sp: an exception is made -/
def rMk (C : Addr) (sp : Sp) : List V → Hp → XK → Prop := fun vs H1 Q => vs.length ≤ 1000 ∧ ∀ a, H1 a = none → sp (.ref a :: vs) (upd H1 a (exo a C none))
  (fun v H2 => v = .non ∧ ∃ (d : Addr) (fs : List (Str × V)), H2 a = some (exo a C (some d)) ∧ H2 d = some (exd d fs) ∧ H1 d = none ∧ Q (.ref C) (some d) (upd (L2.del H2 a) d (.xd fs))) E0
/-- a class that is made so: where it stands, its __init__ -/
structure OexM (P : Program) (w : World) (K : Frag) (mg : Str → Option Value) (base : Heap) (k : Nat) (C : Addr) (sp : Sp) : Prop where
  cls : OexC K C
  ini : ∃ fI fd ps, PySem.W.findIn K (.ref C) "__init__" = some (some (.ref fI)) ∧ PySem.W.typeIn K (.ref fI) = some (.type "function") ∧ FnOk P w K mg base CX0 k fI fd ps sp ∧ Binds K fd ps []
section
variable {X : Cx} {pins : List (Addr × Obj)} {σ : L2.St} {H1 : Hp} {s1 : Shared} {C : Addr} {k : Nat} {sp : Sp}
theorem made_call {us : List Value} {vs : List V} {Q : XK} (M : OexM X.prog X.w X.K X.mg X.base k C sp) (room : Room (k + 1) X.A) (I : Inv X pins σ H1 s1) (r : Vals vs us) (h : rMk C sp vs H1 Q) :
    wpAny (model X.prog X.w) X.A (call (.ref C) us) (MkP X pins σ Q) X.xe s1 := by
  obtain ⟨fI, fd, ps, iC, tI, F, bind⟩ := M.ini
  obtain ⟨nm, q, N, bs, bm, sn, sub, ab, col, dd, k0, k1, k2, k3, k5, hC, hbm⟩ := M.cls.cls
  obtain ⟨small, want⟩ := h
  obtain ⟨hp, g, dr, tk, os⟩ := s1
  have le1 : hp.objs.size ≤ hp.objs.size + 1 := Nat.le_succ _
  have hq := want (hp.objs.size + 1) (I.hok.fresh le1)
  have more : ∀ b o, hp.get? b = some o → ((hp.push (PySem.W.kdv_tup us)).push (PySem.HandSPX.excO C hp.objs.size)).get? b = some o := fun b o e => Heap.get?_push_of_some _ (Heap.get?_push_of_some _ e)
  have new : ((hp.push (PySem.W.kdv_tup us)).push (PySem.HandSPX.excO C hp.objs.size)).get? (hp.objs.size + 1) = some (PySem.HandSPX.excO C hp.objs.size) := by heap_get
  have J : Inv X pins σ (upd H1 (hp.objs.size + 1) (exo (hp.objs.size + 1) C none)) ⟨(hp.push (PySem.W.kdv_tup us)).push (PySem.HandSPX.excO C hp.objs.size), g, dr, tk, os⟩ :=
    I.laid (t' := tk) (a := hp.objs.size + 1) (h' := (hp.push (PySem.W.kdv_tup us)).push (PySem.HandSPX.excO C hp.objs.size)) more le1 (exo_ok new)
  have rv : Vals (V.ref (hp.objs.size + 1) :: vs) (Value.ref (hp.objs.size + 1) :: us) := .cons rfl r
  have nps : (Value.ref (hp.objs.size + 1) :: us).length = ps.length := by
    rw [← rv.length]
    exact F.len _ _ _ _ hq
  have bt : BindsTo (⟨(hp.push (PySem.W.kdv_tup us)).push (PySem.HandSPX.excO C hp.objs.size), g, dr, tk, os⟩ : Shared) fd ⟨Value.ref (hp.objs.size + 1) :: us, []⟩ (ps.zip (Value.ref (hp.objs.size + 1) :: us)) := by
    have z := bind ⟨(hp.push (PySem.W.kdv_tup us)).push (PySem.HandSPX.excO C hp.objs.size), g, dr, tk, os⟩ (Value.ref (hp.objs.size + 1) :: us) J.kIn (by rw [List.append_nil]; exact nps)
    rw [List.append_nil] at z
    exact z
  have uz : us.length ≤ sizeLine := by
    rw [← Paired.length r, sizeLine_eq]
    omega
  refine wpAny_call (PySem.HandSPX.call_own _root_.PySem.F.excBase_ValueError (fun Y => PySem.HandSPX.refsVE_contains Y bm hbm) (I.kIn _ _ hC) (PySem.W.looks_findIn I.kIn iC) (fun self => PySem.W.bind_fn I.kIn self tI) uz
    (codeAny_mono (F.run _ X.stack _ _ ⟨Value.ref (hp.objs.size + 1) :: us, []⟩ (Value.ref (hp.objs.size + 1) :: us) _ _ E0 (room.make C us []) (J.env0.make C us []) bt rv hq) ?_))
  intro z s2 hz
  cases z with
  | error er => exact (show False from hz).elim
  | ok fl =>
    cases fl with
    | ret u =>
      obtain ⟨v, H2, os2, bare2, un2, hok2, rv2, ev, d, fs, ea, ed, nd, q2⟩ := hz
      subst ev
      obtain ⟨h2, g2, d2, t2, os'⟩ := s2
      exact ⟨rv2, mk_end (raises_own M.cls.exC M.cls.tyC) I le1 more un2 hok2 os2 bare2 ea ed nd q2⟩
    | next => exact (show False from hz).elim
    | brk => exact (show False from hz).elim
    | cont => exact (show False from hz).elim
/-- C() and C(e, ..) -/
theorem pmk_o0 {x : Str} {p pos : Pos} (M : OexM X.prog X.w X.K X.mg X.base k C sp) (room : Room (k + 1) X.A) (hm : X.mg x = some (.ref C)) (hg : Gl X x := by rfl) (hdb : (x == ("__debug__" : Str)) = false := by decide) :
    PMk X (.Call (.Name x p) [] [] pos) (fun σ H Q => rMk C sp [] H Q) := by
  intro pins s σ H Q I h
  exact wpAny_Call_Name_kw (ld_glob I hg hm (PySem.W.callWith_K0 I.kIn M.cls.kC (made_call (us := []) M room I .nil h)) hdb)
theorem pmk_o {x : Str} {e : Expr} {es : List Expr} {ta : TA} {p pos : Pos} (M : OexM X.prog X.w X.K X.mg X.base k C sp) (room : Room (k + 1) X.A) (hm : X.mg x = some (.ref C)) (ha : PA X (e :: es) ta) (hg : Gl X x := by rfl) (hdb : (x == ("__debug__" : Str)) = false := by decide)
    (he : starEach (e :: es) X.env = (false, eval e X.env) :: starEach es X.env := by rfl) (hpl : (backTo pos (starEach es X.env)).any (·.1) = false := by rfl) :
    PMk X (.Call (.Name x p) (e :: es) [] pos) (fun σ H Q => ta σ H fun vs H1 => rMk C sp vs H1 Q) := by
  intro pins s σ H Q I h
  refine wpAny_Call_Name_kw (ld_glob I hg hm (PySem.W.callWith_K (h₀ := X.base) I.ok.mod.kin M.cls.kC (thn (ha.run pos pins s σ H _ I h) ?_) he hpl) hdb)
  rintro us s1 ⟨vs, H1, I1, r, q⟩
  exact ⟨I1.kIn, made_call M room I1 r q⟩
end
/-! ### __init__: self.code = "..", self.a = a -/
/-- what __init__ leaves of the new exception: a dict that holds fs -/
def spIni (C : Addr) (n : Nat) (fs : List V → List (Str × V)) : Sp := fun vs H Q _ => ∃ (a : Addr) (ws : List V), vs = .ref a :: ws ∧ ws.length = n ∧ H a = some (exo a C none) ∧
  ∀ d H', H d = none → d ≠ a → H' a = some (exo a C (some d)) → H' d = some (exd d (fs ws)) → (∀ b o, b ≠ a → H b = some o → H' b = some o) → Q .non H'
/-- the reading of a raise of C -/
theorem mk_ini {C : Addr} {n : Nat} {fs : List V → List (Str × V)} {vs : List V} {H : Hp} {Q : XK} (hn : vs.length = n) (h1 : n ≤ 1000) (h : ∀ d H', H d = none → H' d = some (.xd (fs vs)) → Same H H' → Q (.ref C) (some d) H') : rMk C (spIni C n fs) vs H Q := by
  refine ⟨by omega, fun a na => ⟨a, vs, rfl, hn, upd_same, fun d H' nd da ea ed keep => ⟨rfl, d, fs vs, ea, ed, ?_, ?_⟩⟩⟩
  · rw [upd_ne da] at nd
    exact nd
  · rw [upd_ne da] at nd
    refine h d _ nd upd_same fun b o e => ?_
    have ba : b ≠ a := ne_of_none e na
    rw [upd_ne (ne_of_none e nd), L2.del_ne ba]
    exact keep b o ba (by rw [upd_ne ba]; exact e)
end Fs
set_option Elab.async false
set_option linter.all false
set_option maxRecDepth 100000
set_option maxHeartbeats 8000000
namespace Fs
open PySem PySem.Spec PyProof.Rows L2
/-! ### own error classes -/
def oexB (K : Frag) (C : Addr) : Bool := match K.lookup C with
  | some o => (match o.cls, o.data, o.slots.toList with
    | .type t, .cls d, [_, _, _, _, some (.builtin b), _] => (match d.mro with
      | .ref c :: bm => decide (t = "type") && decide (b = "ValueError.__new__") && decide (c = C) && d.hasDict && !d.hasDel && PySem.HandSPX.refsVE bm
      | _ => false)
    | _, _, _ => false)
  | none => false
theorem oexB_ok {K : Frag} {C : Addr} (h : oexB K C = true) : ∃ nm q N bs bm sn sub ab col dd k0 k1 k2 k3 k5, K.lookup C = some (excClassObj nm q C N bs bm true sn sub ab col dd k0 k1 k2 k3 k5 "ValueError.__new__") ∧ PySem.HandSPX.refsVE bm = true := by
  unfold oexB at h
  split at h
  · rename_i o ho
    split at h
    · rename_i t d k0 k1 k2 k3 b k5 e1 e2 e3
      split at h
      · rename_i c bm e4
        simp only [Bool.and_eq_true, decide_eq_true_eq, Bool.not_eq_true'] at h
        obtain ⟨⟨⟨⟨⟨rfl, rfl⟩, rfl⟩, h4⟩, h5⟩, h6⟩ := h
        obtain ⟨oc, od, dt, sl⟩ := o
        obtain ⟨nm, bs, mro, ns, qn, hd, sn, sub, ab, col, del⟩ := d
        obtain ⟨sl⟩ := sl
        dsimp only at e1 e2 e3 e4 h4 h5
        subst e1 e2 e3 e4 h4 h5
        exact ⟨nm, qn, ns, bs, bm, sn, sub, ab, col, od, k0, k1, k2, k3, k5, ho, h6⟩
      · cases h
    · cases h
  · cases h
/-- all that is asked of an own error class with an __init__ -/
def errB (K : Frag) (C : Addr) : Bool := oexB K C && (decide (PySem.W.findIn K (.ref C) "__setattr__" = some (some (.builtin "object.__setattr__"))) && (decide (PySem.W.subIn K (.ref C) (.type "BaseException") = some true) &&
  (decide (PySem.W.typeIn K (.ref C) = some (.type "type")) && (PySem.W.keepIn K (.ref C) && (xfB K C && (namesE.all fun n => decide (PySem.W.findIn K (.ref C) n = some none)))))))
structure ErrC (K : Frag) (C : Addr) : Prop where
  ox : OexC K C
  ex : ExK K C
theorem errB_ok {K : Frag} {C : Addr} (h : errB K C = true) : ErrC K C := by
  unfold errB at h
  simp only [Bool.and_eq_true, decide_eq_true_eq, List.all_eq_true] at h
  obtain ⟨h1, h2, h3, h4, h5, h6, h7⟩ := h
  exact ⟨⟨oexB_ok h1, h2, h3, h4, h5⟩, ⟨xfB_ok h6, h7⟩⟩
/-- the __init__ of the class x -/
def iniB (K : Frag) (x : Str) : Bool := decide (PySem.W.findIn K (.ref (He.ga K x)) "__init__" = some (some (.ref (He.fAd K (x, some "__init__"))))) && decide (PySem.W.typeIn K (.ref (He.fAd K (x, some "__init__"))) = some (.type "function"))
def errsB (K : Frag) (xs : List Str) : Bool := xs.all fun x => errB K (He.ga K x) && iniB K x
abbrev dI (x q : Str) (st : Stmt) : He.DefD := ⟨(x, some "__init__"), "__init__", q, defArgs st, defBody st, defScope st, [], []⟩
theorem errsB_at {K : Frag} {xs : List Str} (h : errsB K xs = true) (x : Str) (hx : x ∈ xs) : ErrC K (He.ga K x) ∧ PySem.W.findIn K (.ref (He.ga K x)) "__init__" = some (some (.ref (He.fAd K (x, some "__init__")))) ∧ PySem.W.typeIn K (.ref (He.fAd K (x, some "__init__"))) = some (.type "function") := by
  have z := List.all_eq_true.mp h x hx
  obtain ⟨z1, z2⟩ := Bool.and_eq_true_iff.mp z
  obtain ⟨z3, z4⟩ := Bool.and_eq_true_iff.mp z2
  exact ⟨errB_ok z1, of_decide_eq_true z3, of_decide_eq_true z4⟩
/-- caught by except (FrameError, Missing, NothingLeft) -/
def caughtB (K : Frag) (xs : List Str) : Bool := xs.all fun x => decide (PySem.W.exmAny K (.ref (He.ga K x)) [.ref (He.ga K "FrameError"), .ref (He.ga K "Missing"), .ref (He.ga K "NothingLeft")] = some true)
theorem caughtB_at {K : Frag} {xs : List Str} (h : caughtB K xs = true) (x : Str) (hx : x ∈ xs) : PySem.W.exmAny K (.ref (He.ga K x)) [.ref (He.ga K "FrameError"), .ref (He.ga K "Missing"), .ref (He.ga K "NothingLeft")] = some true := of_decide_eq_true (List.all_eq_true.mp h x hx)
/-! ### the errors, class by class -/
section
variable {P : Program} {w : World} {K : Frag} {mg : Str → Option Value} {base : Heap}
theorem new_dict {H : Hp} {a C d : Addr} {f : Str} {y : V} (h : ∀ b o, b ≠ a → H b = some o → True) (hd : d ≠ a) : (upd (upd H d (exd d [(f, y)])) a (exo a C (some d))) d = some (exd d [(f, y)]) := by
  rw [upd_ne hd, upd_same]
abbrev s_InvalidRatio___init__ : Stmt := inClass (top 2) 0
abbrev N_InvalidRatio___init__ : List Str := ["self"]
abbrev P_InvalidRatio___init__ : List Str := ["self"]
theorem sc_InvalidRatio : FnScope N_InvalidRatio___init__ P_InvalidRatio___init__ (defScope s_InvalidRatio___init__) := ⟨rfl, rfl, rfl, by decide +kernel, rfl, by decide +kernel, by decide +kernel⟩
theorem ini_InvalidRatio {C : Addr} {q : Str} {f : Addr} {fd : FuncData} (D : FunD K "__init__" q (defArgs s_InvalidRatio___init__) (defBody s_InvalidRatio___init__) (defScope s_InvalidRatio___init__) [] [] f fd) (T : ErrC K C) : FnOk P w K mg base CX0 1 f fd ["self"] (spIni C 0 fun _ => [("code", .str "InvalidRatio")]) := by
  refine D.ok sc_InvalidRatio (fun vs H Q E h => ?_) (fun cdv A outer s H vs Q E hr h => ?_)
  · obtain ⟨a, ws, rfl, hl, _⟩ := h
    rw [List.length_cons, hl]
    rfl
  obtain ⟨a, ws, rfl, hl, ha, q⟩ := h
  cases ws with
  | cons x xs => cases hl
  | nil =>
    refine ⟨_, PSs.nox (pss_one (ps_ost (pv 0) pe_str)), ?_⟩
    refine ⟨_, rfl, a, C, rfl, T.ox, T.ex.no _ (by simp [namesE]), .inl ⟨ha, fun d nd da => ?_⟩⟩
    refine q d _ nd da upd_same (by rw [upd_ne da, upd_same]) fun b o hb e => ?_
    rw [upd_ne hb, upd_ne (ne_of_none e nd)]
    exact e
end
end Fs
set_option Elab.async false
set_option linter.all false
set_option maxRecDepth 100000
set_option maxHeartbeats 8000000
namespace Fs
open PySem PySem.Spec PyProof.Rows L2
/-! ### ints of a bounded width -/
def Bd (n : Nat) (x : Int) : Prop := x.natAbs < 2 ^ n
theorem Bd.mono {m n : Nat} {x : Int} (h : Bd m x) (l : m ≤ n) : Bd n x := Nat.lt_of_lt_of_le h (Nat.pow_le_pow_right (by decide) l)
theorem Bd.le {n : Nat} {x y : Int} (h : Bd n x) (l : y.natAbs ≤ x.natAbs) : Bd n y := Nat.lt_of_le_of_lt l h
theorem Bd.mul {m n : Nat} {x y : Int} (h : Bd m x) (k : Bd n y) : Bd (m + n) (x * y) := by
  unfold Bd at *
  rw [Int.natAbs_mul, Nat.pow_add]
  exact Nat.mul_lt_mul'' h k
theorem Bd.add {n : Nat} {x y : Int} (h : Bd n x) (k : Bd n y) : Bd (n + 1) (x + y) := by
  unfold Bd at *
  rw [Nat.pow_succ]
  omega
theorem Bd.neg {n : Nat} {x : Int} (h : Bd n x) : Bd n (-x) := h.le (by omega)
theorem Bd.sub {n : Nat} {x y : Int} (h : Bd n x) (k : Bd n y) : Bd (n + 1) (x - y) := by
  have z := h.add k.neg
  rw [← Int.sub_eq_add_neg] at z
  exact z
theorem Bd.mulOk {m n : Nat} {x y : Int} (h : Bd m x) (k : Bd n y) (l : m + n ≤ 900000) : CMulW x y := wide_mul (a := m + 1) (b := n + 1) (h.mono (Nat.le_succ _)) (k.mono (Nat.le_succ _)) (by omega) (by omega) (by omega)
/-- // by a divisor of either sign -/
def CDvW (_ j : Int) : Prop := j ≠ 0 ∧ j.natAbs.log2 < 9000
theorem op_fdivS {X : Cx} : OpR X (binaryOp .FloorDiv) (rI CDvW fun i j => .int (i.fdiv j)) := opI fun _ _ _ _ _ _ _ hc q => floordiv_int hc.1 q (.inl (PyProof.noPylong_of_log2 hc.2))
theorem Bd.dvOk {n : Nat} {x y : Int} (h : Bd n y) (h0 : y ≠ 0) (l : n ≤ 8000) : CDvW x y := ⟨h0, Nat.lt_of_lt_of_le (PySem.Flt.log2_lt_of (by omega) (h.mono (Nat.le_succ n))) (by omega)⟩
/-! ### lowest terms -/
def gcdZ (a b : Int) : Int := ((Nat.gcd a.natAbs b.natAbs : Nat) : Int)
def lowF (t b : Int) : Int := if b < 0 then -(gcdZ t b) else gcdZ t b
def low (t b : Int) : Int × Int := (t.fdiv (lowF t b), b.fdiv (lowF t b))
theorem gcdZ_pos {t b : Int} (h : b ≠ 0) : 0 < gcdZ t b := by
  have z : 0 < Nat.gcd t.natAbs b.natAbs := Nat.gcd_pos_of_pos_right _ (by omega)
  unfold gcdZ
  omega
theorem lowF_ne {t b : Int} (h : b ≠ 0) : lowF t b ≠ 0 := by
  have z := gcdZ_pos (t := t) h
  unfold lowF
  split <;> omega
theorem gcdZ_bd {n : Nat} {t b : Int} (h : b ≠ 0) (k : Bd n b) : Bd n (gcdZ t b) := by
  refine k.le ?_
  have z : Nat.gcd t.natAbs b.natAbs ≤ b.natAbs := Nat.le_of_dvd (by omega) (Nat.gcd_dvd_right _ _)
  unfold gcdZ
  omega
theorem lowF_bd {n : Nat} {t b : Int} (h : b ≠ 0) (k : Bd n b) : Bd n (lowF t b) := by
  have z := gcdZ_bd (t := t) h k
  unfold lowF
  split
  · exact z.neg
  · exact z
/-- a fraction in lowest terms -/
structure Low (r : Int × Int) : Prop where
  pos : 0 < r.2
  one : Nat.gcd r.1.natAbs r.2.natAbs = 1
theorem low_eq {t b : Int} (h : b ≠ 0) : ∃ u v : Int, t = lowF t b * u ∧ b = lowF t b * v ∧ low t b = (u, v) ∧ 0 < v ∧ Nat.gcd u.natAbs v.natAbs = 1 := by
  have gp := gcdZ_pos (t := t) h
  have d1 : gcdZ t b ∣ t := Int.natAbs_dvd_natAbs.mp (by unfold gcdZ; rw [Int.natAbs_natCast]; exact Nat.gcd_dvd_left _ _)
  have d2 : gcdZ t b ∣ b := Int.natAbs_dvd_natAbs.mp (by unfold gcdZ; rw [Int.natAbs_natCast]; exact Nat.gcd_dvd_right _ _)
  have f1 : lowF t b ∣ t := by
    unfold lowF
    split
    · exact Int.neg_dvd.mpr d1
    · exact d1
  have f2 : lowF t b ∣ b := by
    unfold lowF
    split
    · exact Int.neg_dvd.mpr d2
    · exact d2
  obtain ⟨u, hu⟩ := f1
  obtain ⟨v, hv⟩ := f2
  have fn := lowF_ne (t := t) h
  have na : (lowF t b).natAbs = Nat.gcd t.natAbs b.natAbs := by
    unfold lowF gcdZ
    split <;> omega
  have gpos : 0 < Nat.gcd t.natAbs b.natAbs := Nat.gcd_pos_of_pos_right _ (by omega)
  refine ⟨u, v, hu, hv, ?_, ?_, ?_⟩
  · unfold low
    have e1 : t.fdiv (lowF t b) = u := by
      conv => lhs; arg 1; rw [hu]
      exact Int.mul_fdiv_cancel_left _ fn
    have e2 : b.fdiv (lowF t b) = v := by
      conv => lhs; arg 1; rw [hv]
      exact Int.mul_fdiv_cancel_left _ fn
    rw [e1, e2]
  · by_cases hb : b < 0
    · have ef : lowF t b = -(gcdZ t b) := if_pos hb
      rw [ef] at hv
      refine Int.lt_of_not_ge fun z => ?_
      have : 0 ≤ -(gcdZ t b) * v := Int.mul_nonneg_of_nonpos_of_nonpos (by omega) z
      omega
    · have ef : lowF t b = gcdZ t b := if_neg hb
      rw [ef] at hv
      refine Int.lt_of_not_ge fun z => ?_
      have : gcdZ t b * v ≤ 0 := Int.mul_nonpos_of_nonneg_of_nonpos (by omega) z
      omega
  · have e1 : t.natAbs = Nat.gcd t.natAbs b.natAbs * u.natAbs := by
      rw [← na, ← Int.natAbs_mul, ← hu]
    have e2 : b.natAbs = Nat.gcd t.natAbs b.natAbs * v.natAbs := by
      rw [← na, ← Int.natAbs_mul, ← hv]
    have e3 : Nat.gcd t.natAbs b.natAbs = Nat.gcd t.natAbs b.natAbs * Nat.gcd u.natAbs v.natAbs := by
      have z : Nat.gcd t.natAbs b.natAbs = Nat.gcd (Nat.gcd t.natAbs b.natAbs * u.natAbs) (Nat.gcd t.natAbs b.natAbs * v.natAbs) := congr (congrArg Nat.gcd e1) e2
      rw [Nat.gcd_mul_left] at z
      exact z
    exact Nat.eq_of_mul_eq_mul_left gpos (by rw [← e3, Nat.mul_one])
theorem low_Low {t b : Int} (h : b ≠ 0) : Low (low t b) := by
  obtain ⟨u, v, _, _, e, p, o⟩ := low_eq (t := t) h
  rw [e]
  exact ⟨p, o⟩
theorem low_bd {n : Nat} {t b : Int} (h : b ≠ 0) (h1 : Bd n t) (h2 : Bd n b) : Bd n (low t b).1 ∧ Bd n (low t b).2 := by
  obtain ⟨u, v, e1, e2, e, p, o⟩ := low_eq (t := t) h
  rw [e]
  have f1 : 0 < (lowF t b).natAbs := by
    have := lowF_ne (t := t) h
    omega
  have k : ∀ x y : Int, x = lowF t b * y → y.natAbs ≤ x.natAbs := fun x y z => by
    have : x.natAbs = (lowF t b).natAbs * y.natAbs := by rw [← Int.natAbs_mul, ← z]
    rw [this]
    exact Nat.le_mul_of_pos_left _ f1
  exact ⟨h1.le (k _ _ e1), h2.le (k _ _ e2)⟩
theorem low_of {r : Int × Int} (h : Low r) : low r.1 r.2 = r := by
  have e : lowF r.1 r.2 = 1 := by
    have p := h.pos
    unfold lowF gcdZ
    rw [h.one, if_neg (by omega)]
    rfl
  unfold low
  rw [e, Int.fdiv_one, Int.fdiv_one]
/-- equal values, equal lowest terms -/
theorem low_same {t b t' b' : Int} (h : b ≠ 0) (h' : b' ≠ 0) (e : t * b' = t' * b) : low t b = low t' b' := by
  obtain ⟨u, v, e1, e2, e3, p, o⟩ := low_eq (t := t) h
  obtain ⟨u', v', f1, f2, f3, p', o'⟩ := low_eq (t := t') h'
  rw [e3, f3]
  have g1 := lowF_ne (t := t) h
  have g2 := lowF_ne (t := t') h'
  have z : u * v' = u' * v := by
    have q : lowF t b * lowF t' b' * (u * v') = lowF t b * lowF t' b' * (u' * v) := by
      calc lowF t b * lowF t' b' * (u * v') = (lowF t b * u) * (lowF t' b' * v') := by ac_rfl
        _ = t * b' := by rw [← e1, ← f2]
        _ = t' * b := e
        _ = (lowF t' b' * u') * (lowF t b * v) := by rw [← f1, ← e2]
        _ = lowF t b * lowF t' b' * (u' * v) := by ac_rfl
    exact Int.eq_of_mul_eq_mul_left (Int.mul_ne_zero g1 g2) q
  have zn : u.natAbs * v'.natAbs = u'.natAbs * v.natAbs := by rw [← Int.natAbs_mul, ← Int.natAbs_mul, z]
  have d1 : v.natAbs ∣ v'.natAbs := (Nat.Coprime.symm o).dvd_of_dvd_mul_left (by rw [zn]; exact Nat.dvd_mul_left _ _)
  have d2 : v'.natAbs ∣ v.natAbs := (Nat.Coprime.symm o').dvd_of_dvd_mul_left (by rw [← zn]; exact Nat.dvd_mul_left _ _)
  have ev : v = v' := by
    have := Nat.dvd_antisymm d1 d2
    omega
  subst ev
  have eu : u = u' := Int.eq_of_mul_eq_mul_right (by omega) z
  rw [eu]
/-- the datum of a fraction -/
def dR (r : Int × Int) : PyData := .tuple [.int r.1, .int r.2]
theorem Dp.rat {K : Frag} {H : Hp} {v : V} {r : Int × Int} (h : Dp K H v (dR r)) : ∃ a, v = .ref a ∧ SqT K H a [.int r.1, .int r.2] := by
  cases h with
  | tup hs ha =>
    cases ha with
    | cons h1 t =>
      cases t with
      | cons h2 t2 =>
        cases t2 with
        | nil =>
          cases h1 with
          | int _ =>
            cases h2 with
            | int _ => exact ⟨_, rfl, hs⟩
theorem Dp.ratOf {K : Frag} {H : Hp} {a : Addr} {r : Int × Int} (h : SqT K H a [.int r.1, .int r.2]) : Dp K H (.ref a) (dR r) := .tup h (.cons (.int _) (.cons (.int _) .nil))
theorem fit_rat (r : Int × Int) : Fit 2 (dR r) := ⟨(by show 2 ≤ 1000000; decide), fun e he => by
  have z : e = .int r.1 ∨ e = .int r.2 := by simpa [itemsD, dR] using he
  rcases z with rfl | rfl <;> exact ⟨(by show 0 ≤ 1000000; decide), fun _ h => by simp [itemsD] at h⟩⟩
def BdR (n : Nat) (r : Int × Int) : Prop := Bd n r.1 ∧ Bd n r.2
/-! ### the defs -/
section
variable {P : Program} {w : World} {K : Frag} {mg : Str → Option Value} {base : Heap}
/-- the greatest common divisor -/
def spGcd : Sp := fun vs H Q _ => ∃ a b : Int, vs = [.int a, .int b] ∧ Q (.int (gcdZ a b)) H
theorem gcd_step (m n : Nat) : Nat.gcd n (m % n) = Nat.gcd m n := by
  rw [Nat.gcd_comm m n, Nat.gcd_rec n m, Nat.gcd_comm]
theorem abs_nat (a : Int) : (if a < 0 then -a else a) = ((a.natAbs : Nat) : Int) := by
  split <;> omega
abbrev s_common_factor : Stmt := top 8
abbrev N_common_factor : List Str := ["one", "other"]
abbrev P_common_factor : List Str := ["one", "other"]
theorem sc_common_factor : FnScope N_common_factor P_common_factor (defScope s_common_factor) := ⟨rfl, rfl, rfl, by decide +kernel, rfl, by decide +kernel, by decide +kernel⟩
theorem ok_common_factor (G : Gs K mg "common_factor" s_common_factor) (m_abs : mg "abs" = none) : Gd P w K mg base CX0 1 "common_factor" P_common_factor spGcd := by
  refine G.ok sc_common_factor (fun vs H Q E h => ?_) (fun _ _ _ _ _ _ us hl => match us, hl with | [_, _], _ => rfl) (fun f cdv A outer s H vs Q E hr h => ?_)
  · obtain ⟨a, b, rfl, _⟩ := h
    rfl
  obtain ⟨a, b, rfl, q⟩ := h
  refine ⟨_, (pss_cons (ps_par (i := 0) (j := 1) (by rfl) sc_common_factor.nd rfl rfl (by decide) rfl rfl (pa_cons (pe_callB call_abs (by rfl) m_abs (by decide +kernel) (pa_cons (pv 0) pa_nil)) (pa_cons (pe_callB call_abs (by rfl) m_abs (by decide +kernel) (pa_cons (pv 1) pa_nil)) pa_nil)) (by rfl))
    (pss_cons (ps_while PassesOwn.never (pt_cmpR op_ne (pv 1) pe_int (nomark _))
      (pss_one (ps_par (i := 0) (j := 1) (by rfl) sc_common_factor.nd rfl rfl (by decide) rfl rfl (pa_cons (pv 1) (pa_cons (pe_op op_mod (pv 0) (pv 1)) pa_nil)) (by rfl))))
    (pss_one (ps_ret (pv 0))))), ?_⟩
  refine ⟨_, rfl, a, rfl, _, rfl, b, rfl, _, _, rfl, ?_⟩
  refine ⟨fun k σ H' => ∃ m n : Nat, k = n ∧ σ = [some (.int m), some (.int n)] ∧ H' = H ∧ Nat.gcd m n = Nat.gcd a.natAbs b.natAbs, ⟨_, a.natAbs, b.natAbs, rfl, by rw [abs_nat, abs_nat]; rfl, rfl, rfl⟩, ?_⟩
  rintro n σ H' ⟨m, _, rfl, rfl, rfl, g⟩
  refine ⟨_, rfl, rfl, _, rfl, ?_⟩
  by_cases hn : n = 0
  · subst hn
    refine iteF ?_
    refine ⟨_, rfl, ?_⟩
    have e : m = Nat.gcd a.natAbs b.natAbs := by rw [← g, Nat.gcd_zero_right]
    rw [e]
    exact q
  · have hd : (!decide (V.int (n : Int) = V.int 0)) = true := by
      rw [decide_eq_false]
      · rfl
      · intro z
        have z2 : (n : Int) = 0 := V.int.inj z
        omega
    refine ite_of hd ⟨_, fun σ' H' z => z, ?_⟩
    refine ⟨_, rfl, _, rfl, _, rfl, m, n, rfl, rfl, (by omega), _, _, rfl, m % n, Nat.mod_lt _ (by omega), n, m % n, rfl, ?_, rfl, ?_⟩
    · rfl
    · rw [gcd_step, g]
abbrev s_ratio : Stmt := top 9
abbrev N_ratio : List Str := ["top", "bottom", "factor"]
abbrev P_ratio : List Str := ["top", "bottom"]
theorem sc_ratio : FnScope N_ratio P_ratio (defScope s_ratio) := ⟨rfl, rfl, rfl, by decide +kernel, rfl, by decide +kernel, by decide +kernel⟩
/-- ratio(t, b), C the class InvalidRatio -/
def spRatio (K : Frag) (C : Addr) : Sp := fun vs H Q E => ∃ (n : Nat) (t b : Int), vs = [.int t, .int b] ∧ Bd n t ∧ Bd n b ∧ n ≤ 8000 ∧ (b = 0 → ∀ d H', H d = none → H' d = some (.xd [("code", .str "InvalidRatio")]) → Same H H' → E (.ref C) (some d) H') ∧ (b ≠ 0 → ∀ v H', Same H H' → Dp K H' v (dR (low t b)) → Q v H')
theorem fo_ratio {C : Addr} (gG : Gd P w K mg base CX0 1 "common_factor" P_common_factor spGcd) (M : OexM P w K mg base 1 C (spIni C 0 fun _ => [("code", .str "InvalidRatio")])) (cI : mg "InvalidRatio" = some (.ref C)) : Fo P w K mg base (L2.CX P w) 3 "ratio" s_ratio [.int 1] [] P_ratio (spRatio K C) := by
  refine fo_okX sc_ratio (fun vs H Q E h => ?_) (fun f cdv A outer s H vs Q E hr h => ?_)
  · obtain ⟨n, t, b, rfl, _⟩ := h
    rfl
  obtain ⟨n, t, b, rfl, bt, bb, hn, hE, hQ⟩ := h
  refine ⟨_, (pss_cons (ps_if (pt_cmpR op_eq (pv 1) pe_int (nomark _))
      (pss_one (ps_raise rfl (takes_of rfl rfl rfl rfl) (pmk_o0 M (hr.mono (by omega)) cI)))
      pss_nil)
    (pss_cons (ps_set (i := 2) sc_ratio.nd rfl (.inl rfl) (pe_g gG (hr.mono (by omega)) pass0 (pa_cons (pv 0) (pa_cons (pv 1) pa_nil))))
    (pss_cons (ps_if (pt_cmpR op_lt (pv 1) pe_int (nomark _))
      (pss_one (ps_set (i := 2) sc_ratio.nd rfl (.inl rfl) (pe_un un_neg (pv 2))))
      pss_nil)
    (pss_one (ps_ret (pe_tupN (pa_cons (pe_op op_fdivS (pv 0) (pv 2)) (pa_cons (pe_op op_fdivS (pv 1) (pv 2)) pa_nil)))))))), ?_⟩
  refine ⟨_, rfl, rfl, _, rfl, ?_⟩
  by_cases hb : b = 0
  · subst hb
    exact iteT (mk_ini rfl (by omega) fun d H' nd hd s => hE rfl d H' nd hd s)
  refine ite_no (decide_eq_false fun z => hb (V.int.inj z)) ?_
  refine ⟨_, rfl, _, rfl, t, b, rfl, ?_⟩
  have fin : ∀ f : Int, f = lowF t b → tRet (tTupN (tCons (tOp (rI CDvW fun i j => .int (i.fdiv j)) (tVar 0) (tVar 2)) (tCons (tOp (rI CDvW fun i j => .int (i.fdiv j)) (tVar 1) (tVar 2)) tNil))) { nx := fun _ H' => Q .non H', rt := Q } [some (.int t), some (.int b), some (.int f)] H := by
    rintro f rfl
    have ok := (lowF_bd (t := t) hb bb).dvOk (x := t) (lowF_ne hb) hn
    have ok2 := (lowF_bd (t := t) hb bb).dvOk (x := b) (lowF_ne hb) hn
    refine ⟨_, rfl, _, rfl, t, lowF t b, rfl, rfl, ok, _, rfl, _, rfl, b, lowF t b, rfl, rfl, ok2, (by show 2 ≤ sizeLine; decide), fun p H' np s hp => hQ hb _ _ s (Dp.ratOf (r := low t b) (.inl (.inl hp)))⟩
  refine ⟨_, rfl, _, _, rfl, rfl, _, rfl, ?_⟩
  by_cases h0 : b < 0
  · refine ite_of (decide_eq_true h0) ⟨_, rfl, _, rfl, fin _ ?_⟩
    exact (if_pos h0).symm
  · refine ite_no (decide_eq_false h0) (fin _ ?_)
    exact (if_neg h0).symm
end
end Fs
set_option Elab.async false
set_option linter.all false
set_option maxRecDepth 100000
set_option maxHeartbeats 8000000
namespace Fs
open PySem PySem.Spec PyProof.Rows L2
section
variable {P : Program} {w : World} {K : Frag} {mg : Str → Option Value} {base : Heap}
/-- two fractions, bounded -/
structure Two (K : Frag) (H : Hp) (x y : V) (n : Nat) (r s : Int × Int) : Prop where
  dx : Dp K H x (dR r)
  dy : Dp K H y (dR s)
  bx : BdR n r
  by_ : BdR n s
  n9 : n + n + 1 ≤ 8000
def spTwo (K : Frag) (f : Int × Int → Int × Int → Int × Int) : Sp := fun vs H Q _ => ∃ (x y : V) (n : Nat) (r s : Int × Int), vs = [x, y] ∧ Two K H x y n r s ∧ r.2 ≠ 0 ∧ s.2 ≠ 0 ∧ ∀ v H', Same H H' → Dp K H' v (dR (f r s)) → Q v H'
def plusR (r s : Int × Int) : Int × Int := low (r.1 * s.2 + s.1 * r.2) (r.2 * s.2)
def minusR (r s : Int × Int) : Int × Int := low (r.1 * s.2 - s.1 * r.2) (r.2 * s.2)
def timesR (r s : Int × Int) : Int × Int := low (r.1 * s.1) (r.2 * s.2)
def overR (r s : Int × Int) : Int × Int := low (r.1 * s.2) (r.2 * s.1)
def lessR (r s : Int × Int) : Bool := decide (r.1 * s.2 < s.1 * r.2)
/-- r[i] of a fraction -/
theorem ix_rat {a : Addr} {r : Int × Int} {H : Hp} {Q : VK} (h : SqT K H a [.int r.1, .int r.2]) (q : Q (.int r.1) H) : ∃ (b : Addr) (xs : List V) (i : Int) (v : V), V.ref a = .ref b ∧ V.int 0 = .int i ∧ SqT K H b xs ∧ atI xs i = some v ∧ Q v H := ⟨a, _, 0, _, rfl, rfl, h, rfl, q⟩
abbrev s_plus : Stmt := top 10
abbrev N_plus : List Str := ["one", "other"]
abbrev P_plus : List Str := ["one", "other"]
theorem sc_plus : FnScope N_plus P_plus (defScope s_plus) := ⟨rfl, rfl, rfl, by decide +kernel, rfl, by decide +kernel, by decide +kernel⟩
theorem ok_plus {C : Addr} (G : Gs K mg "plus" s_plus) (g_ratio : Gd P w K mg base (L2.CX P w) 3 "ratio" P_ratio (spRatio K C)) : Gd P w K mg base CX0 4 "plus" P_plus (spTwo K plusR) := by
  refine G.ok sc_plus (fun vs H Q E h => ?_) (fun _ _ _ _ _ _ us hl => match us, hl with | [_, _], _ => rfl) (fun f cdv A outer s H vs Q E hr h => ?_)
  · obtain ⟨_, _, _, _, _, rfl, _⟩ := h
    rfl
  obtain ⟨_, _, n, r, s', rfl, T, nr, ns, q⟩ := h
  obtain ⟨a, rfl, ha⟩ := Dp.rat T.dx
  obtain ⟨b, rfl, hb⟩ := Dp.rat T.dy
  refine ⟨_, (pss_one (ps_ret (pe_g g_ratio (hr.mono (by omega)) passL (pa_cons (pe_op op_add (pe_op op_mulW (pe_ix ix_tup (pv 0) pe_int (fun _ _ => rfl)) (pe_ix ix_tup (pv 1) pe_int (fun _ _ => rfl))) (pe_op op_mulW (pe_ix ix_tup (pv 1) pe_int (fun _ _ => rfl)) (pe_ix ix_tup (pv 0) pe_int (fun _ _ => rfl)))) (pa_cons (pe_op op_mulW (pe_ix ix_tup (pv 0) pe_int (fun _ _ => rfl)) (pe_ix ix_tup (pv 1) pe_int (fun _ _ => rfl))) pa_nil))))), ?_⟩
  have n9 := T.n9
  refine ⟨_, rfl, a, _, 0, _, rfl, rfl, ha, rfl, _, rfl, b, _, 1, _, rfl, rfl, hb, rfl, _, _, rfl, rfl, T.bx.1.mulOk T.by_.2 (by omega), ?_⟩
  refine ⟨_, rfl, b, _, 0, _, rfl, rfl, hb, rfl, _, rfl, a, _, 1, _, rfl, rfl, ha, rfl, _, _, rfl, rfl, T.by_.1.mulOk T.bx.2 (by omega), ?_⟩
  refine ⟨_, _, rfl, rfl, ?_⟩
  refine ⟨_, rfl, a, _, 1, _, rfl, rfl, ha, rfl, _, rfl, b, _, 1, _, rfl, rfl, hb, rfl, _, _, rfl, rfl, T.bx.2.mulOk T.by_.2 (by omega), ?_⟩
  exact ⟨n + n + 1, _, _, rfl, (T.bx.1.mul T.by_.2).add (T.by_.1.mul T.bx.2), (T.bx.2.mul T.by_.2).mono (by omega), n9, fun z => absurd z (Int.mul_ne_zero nr ns), fun _ v H' s d => q v H' s d⟩
abbrev s_minus : Stmt := top 11
abbrev N_minus : List Str := ["one", "other"]
abbrev P_minus : List Str := ["one", "other"]
theorem sc_minus : FnScope N_minus P_minus (defScope s_minus) := ⟨rfl, rfl, rfl, by decide +kernel, rfl, by decide +kernel, by decide +kernel⟩
theorem ok_minus {C : Addr} (G : Gs K mg "minus" s_minus) (g_ratio : Gd P w K mg base (L2.CX P w) 3 "ratio" P_ratio (spRatio K C)) : Gd P w K mg base CX0 4 "minus" P_minus (spTwo K minusR) := by
  refine G.ok sc_minus (fun vs H Q E h => ?_) (fun _ _ _ _ _ _ us hl => match us, hl with | [_, _], _ => rfl) (fun f cdv A outer s H vs Q E hr h => ?_)
  · obtain ⟨_, _, _, _, _, rfl, _⟩ := h
    rfl
  obtain ⟨_, _, n, r, s', rfl, T, nr, ns, q⟩ := h
  obtain ⟨a, rfl, ha⟩ := Dp.rat T.dx
  obtain ⟨b, rfl, hb⟩ := Dp.rat T.dy
  refine ⟨_, (pss_one (ps_ret (pe_g g_ratio (hr.mono (by omega)) passL (pa_cons (pe_op op_sub (pe_op op_mulW (pe_ix ix_tup (pv 0) pe_int (fun _ _ => rfl)) (pe_ix ix_tup (pv 1) pe_int (fun _ _ => rfl))) (pe_op op_mulW (pe_ix ix_tup (pv 1) pe_int (fun _ _ => rfl)) (pe_ix ix_tup (pv 0) pe_int (fun _ _ => rfl)))) (pa_cons (pe_op op_mulW (pe_ix ix_tup (pv 0) pe_int (fun _ _ => rfl)) (pe_ix ix_tup (pv 1) pe_int (fun _ _ => rfl))) pa_nil))))), ?_⟩
  have n9 := T.n9
  refine ⟨_, rfl, a, _, 0, _, rfl, rfl, ha, rfl, _, rfl, b, _, 1, _, rfl, rfl, hb, rfl, _, _, rfl, rfl, T.bx.1.mulOk T.by_.2 (by omega), ?_⟩
  refine ⟨_, rfl, b, _, 0, _, rfl, rfl, hb, rfl, _, rfl, a, _, 1, _, rfl, rfl, ha, rfl, _, _, rfl, rfl, T.by_.1.mulOk T.bx.2 (by omega), ?_⟩
  refine ⟨_, _, rfl, rfl, ?_⟩
  refine ⟨_, rfl, a, _, 1, _, rfl, rfl, ha, rfl, _, rfl, b, _, 1, _, rfl, rfl, hb, rfl, _, _, rfl, rfl, T.bx.2.mulOk T.by_.2 (by omega), ?_⟩
  exact ⟨n + n + 1, _, _, rfl, (T.bx.1.mul T.by_.2).sub (T.by_.1.mul T.bx.2), (T.bx.2.mul T.by_.2).mono (by omega), n9, fun z => absurd z (Int.mul_ne_zero nr ns), fun _ v H' s d => q v H' s d⟩
abbrev s_times : Stmt := top 12
abbrev N_times : List Str := ["one", "other"]
abbrev P_times : List Str := ["one", "other"]
theorem sc_times : FnScope N_times P_times (defScope s_times) := ⟨rfl, rfl, rfl, by decide +kernel, rfl, by decide +kernel, by decide +kernel⟩
theorem ok_times {C : Addr} (G : Gs K mg "times" s_times) (g_ratio : Gd P w K mg base (L2.CX P w) 3 "ratio" P_ratio (spRatio K C)) : Gd P w K mg base CX0 4 "times" P_times (spTwo K timesR) := by
  refine G.ok sc_times (fun vs H Q E h => ?_) (fun _ _ _ _ _ _ us hl => match us, hl with | [_, _], _ => rfl) (fun f cdv A outer s H vs Q E hr h => ?_)
  · obtain ⟨_, _, _, _, _, rfl, _⟩ := h
    rfl
  obtain ⟨_, _, n, r, s', rfl, T, nr, ns, q⟩ := h
  obtain ⟨a, rfl, ha⟩ := Dp.rat T.dx
  obtain ⟨b, rfl, hb⟩ := Dp.rat T.dy
  refine ⟨_, (pss_one (ps_ret (pe_g g_ratio (hr.mono (by omega)) passL (pa_cons (pe_op op_mulW (pe_ix ix_tup (pv 0) pe_int (fun _ _ => rfl)) (pe_ix ix_tup (pv 1) pe_int (fun _ _ => rfl))) (pa_cons (pe_op op_mulW (pe_ix ix_tup (pv 0) pe_int (fun _ _ => rfl)) (pe_ix ix_tup (pv 1) pe_int (fun _ _ => rfl))) pa_nil))))), ?_⟩
  have n9 := T.n9
  refine ⟨_, rfl, a, _, 0, _, rfl, rfl, ha, rfl, _, rfl, b, _, 0, _, rfl, rfl, hb, rfl, _, _, rfl, rfl, T.bx.1.mulOk T.by_.1 (by omega), ?_⟩
  refine ⟨_, rfl, a, _, 1, _, rfl, rfl, ha, rfl, _, rfl, b, _, 1, _, rfl, rfl, hb, rfl, _, _, rfl, rfl, T.bx.2.mulOk T.by_.2 (by omega), ?_⟩
  exact ⟨n + n, _, _, rfl, T.bx.1.mul T.by_.1, T.bx.2.mul T.by_.2, by omega, fun z => absurd z (Int.mul_ne_zero nr ns), fun _ v H' s d => q v H' s d⟩
abbrev s_over : Stmt := top 13
abbrev N_over : List Str := ["one", "other"]
abbrev P_over : List Str := ["one", "other"]
theorem sc_over : FnScope N_over P_over (defScope s_over) := ⟨rfl, rfl, rfl, by decide +kernel, rfl, by decide +kernel, by decide +kernel⟩
/-- over(r, s), C the class InvalidRatio -/
def spOver (K : Frag) (C : Addr) : Sp := fun vs H Q E => ∃ (x y : V) (n : Nat) (r s : Int × Int), vs = [x, y] ∧ Two K H x y n r s ∧ r.2 ≠ 0 ∧ (s.1 = 0 → ∀ d H', H d = none → H' d = some (.xd [("code", .str "InvalidRatio")]) → Same H H' → E (.ref C) (some d) H') ∧ (s.1 ≠ 0 → ∀ v H', Same H H' → Dp K H' v (dR (overR r s)) → Q v H')
theorem ok_over {C : Addr} (G : Gs K mg "over" s_over) (g_ratio : Gd P w K mg base (L2.CX P w) 3 "ratio" P_ratio (spRatio K C)) : Gd P w K mg base (L2.CX P w) 4 "over" P_over (spOver K C) := by
  refine G.okX sc_over (fun vs H Q E h => ?_) (fun _ _ _ _ _ _ us hl => match us, hl with | [_, _], _ => rfl) (fun f cdv A outer s H vs Q E hr h => ?_)
  · obtain ⟨_, _, _, _, _, rfl, _⟩ := h
    rfl
  obtain ⟨_, _, n, r, s', rfl, T, nr, hE, q⟩ := h
  obtain ⟨a, rfl, ha⟩ := Dp.rat T.dx
  obtain ⟨b, rfl, hb⟩ := Dp.rat T.dy
  refine ⟨_, (pss_one (ps_ret (pe_g g_ratio (hr.mono (by omega)) (passE (takes_of rfl rfl rfl rfl)) (pa_cons (pe_op op_mulW (pe_ix ix_tup (pv 0) pe_int (fun _ _ => rfl)) (pe_ix ix_tup (pv 1) pe_int (fun _ _ => rfl))) (pa_cons (pe_op op_mulW (pe_ix ix_tup (pv 0) pe_int (fun _ _ => rfl)) (pe_ix ix_tup (pv 1) pe_int (fun _ _ => rfl))) pa_nil))))), ?_⟩
  have n9 := T.n9
  refine ⟨_, rfl, a, _, 0, _, rfl, rfl, ha, rfl, _, rfl, b, _, 1, _, rfl, rfl, hb, rfl, _, _, rfl, rfl, T.bx.1.mulOk T.by_.2 (by omega), ?_⟩
  refine ⟨_, rfl, a, _, 1, _, rfl, rfl, ha, rfl, _, rfl, b, _, 0, _, rfl, rfl, hb, rfl, _, _, rfl, rfl, T.bx.2.mulOk T.by_.1 (by omega), ?_⟩
  refine ⟨n + n, _, _, rfl, T.bx.1.mul T.by_.2, T.bx.2.mul T.by_.1, by omega, fun z => ?_, fun z v H' s d => q (fun e => z (by rw [e, Int.mul_zero])) v H' s d⟩
  exact hE ((Int.mul_eq_zero.mp z).resolve_left nr)
def spLess (K : Frag) : Sp := fun vs H Q _ => ∃ (x y : V) (n : Nat) (r s : Int × Int), vs = [x, y] ∧ Two K H x y n r s ∧ Q (.bl (lessR r s)) H
abbrev s_is_less : Stmt := top 14
abbrev N_is_less : List Str := ["one", "other"]
abbrev P_is_less : List Str := ["one", "other"]
theorem sc_is_less : FnScope N_is_less P_is_less (defScope s_is_less) := ⟨rfl, rfl, rfl, by decide +kernel, rfl, by decide +kernel, by decide +kernel⟩
theorem ok_is_less (G : Gs K mg "is_less" s_is_less) : Gd P w K mg base CX0 1 "is_less" P_is_less (spLess K) := by
  refine G.ok sc_is_less (fun vs H Q E h => ?_) (fun _ _ _ _ _ _ us hl => match us, hl with | [_, _], _ => rfl) (fun f cdv A outer s H vs Q E hr h => ?_)
  · obtain ⟨_, _, _, _, _, rfl, _⟩ := h
    rfl
  obtain ⟨_, _, n, r, s', rfl, T, q⟩ := h
  obtain ⟨a, rfl, ha⟩ := Dp.rat T.dx
  obtain ⟨b, rfl, hb⟩ := Dp.rat T.dy
  refine ⟨_, (pss_one (ps_ret (pe_cmpR op_lt (pe_op op_mulW (pe_ix ix_tup (pv 0) pe_int (fun _ _ => rfl)) (pe_ix ix_tup (pv 1) pe_int (fun _ _ => rfl))) (pe_op op_mulW (pe_ix ix_tup (pv 1) pe_int (fun _ _ => rfl)) (pe_ix ix_tup (pv 0) pe_int (fun _ _ => rfl))) (nomark _)))), ?_⟩
  have n9 := T.n9
  refine ⟨_, rfl, a, _, 0, _, rfl, rfl, ha, rfl, _, rfl, b, _, 1, _, rfl, rfl, hb, rfl, _, _, rfl, rfl, T.bx.1.mulOk T.by_.2 (by omega), ?_⟩
  refine ⟨_, rfl, b, _, 0, _, rfl, rfl, hb, rfl, _, rfl, a, _, 1, _, rfl, rfl, ha, rfl, _, _, rfl, rfl, T.by_.1.mulOk T.bx.2 (by omega), ?_⟩
  exact ⟨_, _, rfl, rfl, q⟩
abbrev s_is_whole : Stmt := top 15
abbrev N_is_whole : List Str := ["value"]
abbrev P_is_whole : List Str := ["value"]
theorem sc_is_whole : FnScope N_is_whole P_is_whole (defScope s_is_whole) := ⟨rfl, rfl, rfl, by decide +kernel, rfl, by decide +kernel, by decide +kernel⟩
def wholeD : PyData → Bool
  | .int _ => true
  | _ => false
def spWhole (K : Frag) : Sp := fun vs H Q _ => ∃ (x : V) (d : PyData), vs = [x] ∧ Dp K H x d ∧ Q (.bl (wholeD d)) H
theorem ok_is_whole (G : Gs K mg "is_whole" s_is_whole) (m_isinstance : mg "isinstance" = none) (m_int : mg "int" = none) (m_bool : mg "bool" = none) : Gd P w K mg base CX0 1 "is_whole" P_is_whole (spWhole K) := by
  refine G.ok sc_is_whole (fun vs H Q E h => ?_) (fun _ _ _ _ _ _ us hl => match us, hl with | [_], _ => rfl) (fun f cdv A outer s H vs Q E hr h => ?_)
  · obtain ⟨_, _, rfl, _⟩ := h
    rfl
  obtain ⟨x, d, rfl, hd, q⟩ := h
  refine ⟨_, (pss_one (ps_ret (pe_and (pe_callB call_isD (by rfl) m_isinstance (by decide +kernel) (pa_cons (pv 0) (pa_cons (pe_bltn (v := .ty "int") (by rfl) m_int (by decide +kernel) rfl) pa_nil))) (pe_one (pe_not (pe_callB call_isD (by rfl) m_isinstance (by decide +kernel) (pa_cons (pv 0) (pa_cons (pe_bltn (v := .ty "bool") (by rfl) m_bool (by decide +kernel) rfl) pa_nil)))))))), ?_⟩
  refine ⟨_, rfl, _, .int, d, rfl, hd, ?_⟩
  have e : wholeD d = (isT .int d && !isT .bool d) := by cases d <;> rfl
  rw [e] at q
  cases hi : isT .int d with
  | false =>
    rw [hi] at q
    exact ⟨_, rfl, iteF q⟩
  | true =>
    rw [hi] at q
    exact ⟨_, rfl, iteT ⟨_, rfl, _, .bool, d, rfl, hd, _, rfl, q⟩⟩
end
end Fs
set_option Elab.async false
set_option linter.all false
set_option maxRecDepth 100000
set_option maxHeartbeats 8000000
namespace Fs
open PySem PySem.Spec PyProof.Rows L2
section
variable {P : Program} {w : World} {K : Frag} {mg : Str → Option Value} {base : Heap}
def ratD : PyData → Bool
  | .tuple [.int a, .int b] => decide (0 < b) && decide (gcdZ a b = 1)
  | _ => false
def spIsRatio (K : Frag) : Sp := fun vs H Q _ => ∃ (x : V) (d : PyData), vs = [x] ∧ Dp K H x d ∧ Q (.bl (ratD d)) H
theorem ratD_len {ds : List PyData} (h : ds.length ≠ 2) : ratD (.tuple ds) = false := by
  match ds, h with
  | [], _ => rfl
  | [x], _ => cases x <;> rfl
  | [_, _], h => exact absurd rfl h
  | x :: y :: _ :: _, _ => cases x <;> cases y <;> rfl
theorem ratD_two {x y : PyData} (h : (wholeD x && wholeD y) = false) : ratD (.tuple [x, y]) = false := by
  cases x with
  | int a =>
    cases y with
    | int b => cases h
    | _ => rfl
  | _ => rfl
theorem low_iff {r : Int × Int} : Low r ↔ ratD (dR r) = true := by
  constructor
  · intro h
    show (decide (0 < r.2) && decide (gcdZ r.1 r.2 = 1)) = true
    unfold gcdZ
    rw [h.one, decide_eq_true h.pos]
    rfl
  · intro h
    have h2 : (decide (0 < r.2) && decide (gcdZ r.1 r.2 = 1)) = true := h
    simp only [Bool.and_eq_true, decide_eq_true_eq] at h2
    refine ⟨h2.1, ?_⟩
    have := h2.2
    unfold gcdZ at this
    omega
theorem two_of {α : Type} {ds : List α} (h : ds.length = 2) : ∃ x y, ds = [x, y] := by
  match ds, h with
  | [x, y], _ => exact ⟨x, y, rfl⟩
theorem DpAll.two {K : Frag} {H : Hp} {xs : List V} {d1 d2 : PyData} (h : DpAll K H xs [d1, d2]) : ∃ v1 v2, xs = [v1, v2] ∧ Dp K H v1 d1 ∧ Dp K H v2 d2 := by
  cases h with
  | cons h1 t =>
    cases t with
    | cons h2 t2 =>
      cases t2
      exact ⟨_, _, rfl, h1, h2⟩
abbrev s_is_ratio : Stmt := top 16
abbrev N_is_ratio : List Str := ["value"]
abbrev P_is_ratio : List Str := ["value"]
theorem sc_is_ratio : FnScope N_is_ratio P_is_ratio (defScope s_is_ratio) := ⟨rfl, rfl, rfl, by decide +kernel, rfl, by decide +kernel, by decide +kernel⟩
theorem ok_is_ratio (G : Gs K mg "is_ratio" s_is_ratio) (g_is_whole : Gd P w K mg base CX0 1 "is_whole" P_is_whole (spWhole K)) (g_common_factor : Gd P w K mg base CX0 1 "common_factor" P_common_factor spGcd) (m_isinstance : mg "isinstance" = none) (m_tuple : mg "tuple" = none) (m_len : mg "len" = none) : Gd P w K mg base CX0 2 "is_ratio" P_is_ratio (spIsRatio K) := by
  refine G.ok sc_is_ratio (fun vs H Q E h => ?_) (fun _ _ _ _ _ _ us hl => match us, hl with | [_], _ => rfl) (fun f cdv A outer s H vs Q E hr h => ?_)
  · obtain ⟨_, _, rfl, _⟩ := h
    rfl
  obtain ⟨x, d, rfl, hd, q⟩ := h
  refine ⟨_, (pss_cons (ps_if (PW.pt (pw_or (pt_not (pt_val (pe_callB call_isD (by rfl) m_isinstance (by decide +kernel) (pa_cons (pv 0) (pa_cons (pe_bltn (v := .ty "tuple") (by rfl) m_tuple (by decide +kernel) rfl) pa_nil))))) (pw_or (pt_cmpR op_ne (pe_callB call_len_seq (by rfl) m_len PySem.boot_len (pa_cons (pv 0) pa_nil)) pe_int (nomark _)) (pw_or (pt_not (pt_truth (pe_g g_is_whole (hr.mono (by omega)) pass0 (pa_cons (pe_ix ix_any (pv 0) pe_int (fun _ _ => rfl)) pa_nil)) (by intro _; rfl))) (pw_or1 (pt_not (pt_truth (pe_g g_is_whole (hr.mono (by omega)) pass0 (pa_cons (pe_ix ix_any (pv 0) pe_int (fun _ _ => rfl)) pa_nil)) (by intro _; rfl))))))))
      (pss_one (ps_ret pe_bl))
      pss_nil)
    (pss_one (ps_ret (pe_and (pe_cmpR op_gt (pe_ix ix_any (pv 0) pe_int (fun _ _ => rfl)) pe_int (nomark _)) (pe_one (pe_cmpR op_eq (pe_g g_common_factor (hr.mono (by omega)) pass0 (pa_cons (pe_ix ix_any (pv 0) pe_int (fun _ _ => rfl)) (pa_cons (pe_ix ix_any (pv 0) pe_int (fun _ _ => rfl)) pa_nil))) pe_int (nomark _))))))), ?_⟩
  cases hd with
  | tup hs ha =>
    rename_i a xs ds
    have hl := DpAll.len ha
    refine ⟨_, rfl, _, .tuple, _, rfl, .tup hs ha, _, rfl, iteF ?_⟩
    refine ⟨_, rfl, a, xs, rfl, .inr hs, rfl, _, rfl, ?_⟩
    by_cases h2 : ds.length = 2
    case neg =>
      rw [ratD_len h2] at q
      refine ite_of (by rw [decide_eq_false]; rfl; intro z; have := V.int.inj z; omega) ?_
      exact iteT q
    refine ite_no (by rw [decide_eq_true]; rfl; rw [hl, h2]; rfl) ?_
    obtain ⟨d1, d2, rfl⟩ := two_of h2
    obtain ⟨v1, v2, rfl, e1, e2⟩ := DpAll.two ha
    refine ⟨_, rfl, a, _, 0, _, rfl, rfl, .inr hs, rfl, v1, d1, rfl, e1, _, rfl, ?_⟩
    cases w1 : wholeD d1 with
    | false =>
      rw [ratD_two (by rw [w1]; rfl)] at q
      exact iteT (iteT q)
    | true =>
      refine iteF ⟨_, rfl, a, _, 1, _, rfl, rfl, .inr hs, rfl, v2, d2, rfl, e2, _, rfl, ?_⟩
      cases w2 : wholeD d2 with
      | false =>
        rw [ratD_two (by rw [w1, w2]; rfl)] at q
        exact iteT q
      | true =>
        refine iteF ?_
        cases e1 with
        | int i =>
          cases e2 with
          | int j =>
            refine ⟨_, rfl, a, _, 1, _, rfl, rfl, .inr hs, rfl, _, _, rfl, rfl, _, rfl, ?_⟩
            have e : ratD (.tuple [.int i, .int j]) = (decide (0 < j) && decide (gcdZ i j = 1)) := rfl
            rw [e] at q
            cases c : decide ((0 : Int) < j) with
            | false =>
              rw [c] at q
              exact iteF q
            | true =>
              rw [c] at q
              refine iteT ⟨_, rfl, a, _, 0, _, rfl, rfl, .inr hs, rfl, _, rfl, a, _, 1, _, rfl, rfl, .inr hs, rfl, i, j, rfl, rfl, ?_⟩
              have e5 : decide (V.int (gcdZ i j) = V.int 1) = decide (gcdZ i j = 1) := by
                by_cases z : gcdZ i j = 1
                · rw [z]
                  rfl
                · rw [decide_eq_false z, decide_eq_false]
                  exact fun y => z (V.int.inj y)
              rw [e5]
              exact q
          | _ => cases w2
        | _ => cases w1
  | non => exact ⟨_, rfl, _, .tuple, _, rfl, .non, _, rfl, iteT (iteT q)⟩
  | bl b => exact ⟨_, rfl, _, .tuple, _, rfl, .bl b, _, rfl, iteT (iteT q)⟩
  | int b => exact ⟨_, rfl, _, .tuple, _, rfl, .int b, _, rfl, iteT (iteT q)⟩
  | str b => exact ⟨_, rfl, _, .tuple, _, rfl, .str b, _, rfl, iteT (iteT q)⟩
  | lst h a => exact ⟨_, rfl, _, .tuple, _, rfl, .lst h a, _, rfl, iteT (iteT q)⟩
end
end Fs
set_option Elab.async false
set_option linter.all false
set_option maxRecDepth 100000
set_option maxHeartbeats 8000000
namespace Fs
open PySem PySem.Spec PyProof.Rows L2
section
variable {P : Program} {w : World} {K : Frag} {mg : Str → Option Value} {base : Heap}
abbrev s__law_low : Stmt := top 24
abbrev N__law_low : List Str := ["_law_top_z", "_law_bottom_z", "_law_one", "_law_other"]
abbrev P__law_low : List Str := ["_law_top_z", "_law_bottom_z"]
theorem sc__law_low : FnScope N__law_low P__law_low (defScope s__law_low) := ⟨rfl, rfl, rfl, by decide +kernel, rfl, by decide +kernel, by decide +kernel⟩
def spLow (K : Frag) : Sp := fun vs H Q _ => ∃ (n : Nat) (t b : Int), vs = [.int t, .int b] ∧ Bd n t ∧ Bd n b ∧ n ≤ 8000 ∧ b ≠ 0 ∧ ∀ v H', Same H H' → Dp K H' v (dR (low t b)) → Q v H'
theorem ok__law_low (G : Gs K mg "_law_low" s__law_low) (m_abs : mg "abs" = none) : Gd P w K mg base CX0 1 "_law_low" P__law_low (spLow K) := by
  refine G.ok sc__law_low (fun vs H Q E h => ?_) (fun _ _ _ _ _ _ us hl => match us, hl with | [_, _], _ => rfl) (fun f cdv A outer s H vs Q E hr h => ?_)
  · obtain ⟨_, _, _, rfl, _⟩ := h
    rfl
  obtain ⟨n, t, b, rfl, bt, bb, hn, hb, hQ⟩ := h
  refine ⟨_, (pss_cons (ps_par (i := 2) (j := 3) (by rfl) sc__law_low.nd rfl rfl (by decide) rfl rfl (pa_cons (pe_callB call_abs (by rfl) m_abs (by decide +kernel) (pa_cons (pv 0) pa_nil)) (pa_cons (pe_callB call_abs (by rfl) m_abs (by decide +kernel) (pa_cons (pv 1) pa_nil)) pa_nil)) (by rfl))
    (pss_cons (ps_while PassesOwn.never (pt_cmpR op_ne (pv 3) pe_int (nomark _))
      (pss_one (ps_par (i := 2) (j := 3) (by rfl) sc__law_low.nd rfl rfl (by decide) rfl rfl (pa_cons (pv 3) (pa_cons (pe_op op_mod (pv 2) (pv 3)) pa_nil)) (by rfl))))
    (pss_cons (ps_if (pt_cmpR op_lt (pv 1) pe_int (nomark _))
      (pss_one (ps_set (i := 2) sc__law_low.nd rfl (.inl rfl) (pe_op op_sub pe_int (pv 2))))
      pss_nil)
    (pss_one (ps_ret (pe_tupN (pa_cons (pe_op op_fdivS (pv 0) (pv 2)) (pa_cons (pe_op op_fdivS (pv 1) (pv 2)) pa_nil)))))))), ?_⟩
  have fin : ∀ (f : Int) (o : Option V), f = lowF t b → tRet (tTupN (tCons (tOp (rI CDvW fun i j => .int (i.fdiv j)) (tVar 0) (tVar 2)) (tCons (tOp (rI CDvW fun i j => .int (i.fdiv j)) (tVar 1) (tVar 2)) tNil))) { nx := fun _ H' => Q .non H', rt := Q } [some (.int t), some (.int b), some (.int f), o] H := by
    rintro f o rfl
    have ok := (lowF_bd (t := t) hb bb).dvOk (x := t) (lowF_ne hb) hn
    have ok2 := (lowF_bd (t := t) hb bb).dvOk (x := b) (lowF_ne hb) hn
    refine ⟨_, rfl, _, rfl, t, lowF t b, rfl, rfl, ok, _, rfl, _, rfl, b, lowF t b, rfl, rfl, ok2, (by show 2 ≤ sizeLine; decide), fun p H' np s hp => hQ _ _ s (Dp.ratOf (r := low t b) (.inl (.inl hp)))⟩
  refine ⟨_, rfl, t, rfl, _, rfl, b, rfl, _, _, rfl, ?_⟩
  refine ⟨fun k σ H' => ∃ m n : Nat, k = n ∧ σ = [some (.int t), some (.int b), some (.int m), some (.int n)] ∧ H' = H ∧ Nat.gcd m n = Nat.gcd t.natAbs b.natAbs, ⟨_, t.natAbs, b.natAbs, rfl, by rw [abs_nat, abs_nat]; rfl, rfl, rfl⟩, ?_⟩
  rintro n σ H' ⟨m, _, rfl, rfl, rfl, g⟩
  refine ⟨_, rfl, rfl, _, rfl, ?_⟩
  by_cases hn : n = 0
  · subst hn
    refine iteF ?_
    have e : (m : Int) = gcdZ t b := by
      unfold gcdZ
      rw [← g, Nat.gcd_zero_right]
    refine ⟨_, rfl, _, _, rfl, rfl, _, rfl, ?_⟩
    by_cases h0 : b < 0
    · refine ite_of (decide_eq_true h0) ⟨_, rfl, _, _, rfl, rfl, fin _ _ ?_⟩
      unfold lowF
      rw [if_pos h0, e]
      omega
    · refine ite_no (decide_eq_false h0) (fin _ _ ?_)
      unfold lowF
      rw [if_neg h0, e]
  · have hd : (!decide (V.int (n : Int) = V.int 0)) = true := by
      rw [decide_eq_false]
      · rfl
      · intro z
        have z2 : (n : Int) = 0 := V.int.inj z
        omega
    refine ite_of hd ⟨_, fun σ' H' z => z, ?_⟩
    refine ⟨_, rfl, _, rfl, _, rfl, m, n, rfl, rfl, (by omega), _, _, rfl, m % n, Nat.mod_lt _ (by omega), n, m % n, rfl, ?_, rfl, ?_⟩
    · rfl
    · rw [gcd_step, g]
abbrev s__law_plus : Stmt := top 25
abbrev N__law_plus : List Str := ["_law_one", "_law_other"]
abbrev P__law_plus : List Str := ["_law_one", "_law_other"]
theorem sc__law_plus : FnScope N__law_plus P__law_plus (defScope s__law_plus) := ⟨rfl, rfl, rfl, by decide +kernel, rfl, by decide +kernel, by decide +kernel⟩
theorem ok__law_plus (G : Gs K mg "_law_plus" s__law_plus) (g__law_low : Gd P w K mg base CX0 1 "_law_low" P__law_low (spLow K)) : Gd P w K mg base CX0 2 "_law_plus" P__law_plus (spTwo K plusR) := by
  refine G.ok sc__law_plus (fun vs H Q E h => ?_) (fun _ _ _ _ _ _ us hl => match us, hl with | [_, _], _ => rfl) (fun f cdv A outer s H vs Q E hr h => ?_)
  · obtain ⟨_, _, _, _, _, rfl, _⟩ := h
    rfl
  obtain ⟨_, _, n, r, s', rfl, T, nr, ns, q⟩ := h
  obtain ⟨a, rfl, ha⟩ := Dp.rat T.dx
  obtain ⟨b, rfl, hb⟩ := Dp.rat T.dy
  refine ⟨_, (pss_one (ps_ret (pe_g g__law_low (hr.mono (by omega)) pass0 (pa_cons (pe_op op_add (pe_op op_mulW (pe_ix ix_tup (pv 0) pe_int (fun _ _ => rfl)) (pe_ix ix_tup (pv 1) pe_int (fun _ _ => rfl))) (pe_op op_mulW (pe_ix ix_tup (pv 1) pe_int (fun _ _ => rfl)) (pe_ix ix_tup (pv 0) pe_int (fun _ _ => rfl)))) (pa_cons (pe_op op_mulW (pe_ix ix_tup (pv 0) pe_int (fun _ _ => rfl)) (pe_ix ix_tup (pv 1) pe_int (fun _ _ => rfl))) pa_nil))))), ?_⟩
  have n9 := T.n9
  refine ⟨_, rfl, a, _, 0, _, rfl, rfl, ha, rfl, _, rfl, b, _, 1, _, rfl, rfl, hb, rfl, _, _, rfl, rfl, T.bx.1.mulOk T.by_.2 (by omega), ?_⟩
  refine ⟨_, rfl, b, _, 0, _, rfl, rfl, hb, rfl, _, rfl, a, _, 1, _, rfl, rfl, ha, rfl, _, _, rfl, rfl, T.by_.1.mulOk T.bx.2 (by omega), ?_⟩
  refine ⟨_, _, rfl, rfl, ?_⟩
  refine ⟨_, rfl, a, _, 1, _, rfl, rfl, ha, rfl, _, rfl, b, _, 1, _, rfl, rfl, hb, rfl, _, _, rfl, rfl, T.bx.2.mulOk T.by_.2 (by omega), ?_⟩
  exact ⟨n + n + 1, _, _, rfl, (T.bx.1.mul T.by_.2).add (T.by_.1.mul T.bx.2), (T.bx.2.mul T.by_.2).mono (by omega), n9, Int.mul_ne_zero nr ns, fun v H' s d => q v H' s d⟩
abbrev s__law_minus : Stmt := top 26
abbrev N__law_minus : List Str := ["_law_one", "_law_other"]
abbrev P__law_minus : List Str := ["_law_one", "_law_other"]
theorem sc__law_minus : FnScope N__law_minus P__law_minus (defScope s__law_minus) := ⟨rfl, rfl, rfl, by decide +kernel, rfl, by decide +kernel, by decide +kernel⟩
theorem ok__law_minus (G : Gs K mg "_law_minus" s__law_minus) (g__law_low : Gd P w K mg base CX0 1 "_law_low" P__law_low (spLow K)) : Gd P w K mg base CX0 2 "_law_minus" P__law_minus (spTwo K minusR) := by
  refine G.ok sc__law_minus (fun vs H Q E h => ?_) (fun _ _ _ _ _ _ us hl => match us, hl with | [_, _], _ => rfl) (fun f cdv A outer s H vs Q E hr h => ?_)
  · obtain ⟨_, _, _, _, _, rfl, _⟩ := h
    rfl
  obtain ⟨_, _, n, r, s', rfl, T, nr, ns, q⟩ := h
  obtain ⟨a, rfl, ha⟩ := Dp.rat T.dx
  obtain ⟨b, rfl, hb⟩ := Dp.rat T.dy
  refine ⟨_, (pss_one (ps_ret (pe_g g__law_low (hr.mono (by omega)) pass0 (pa_cons (pe_op op_sub (pe_op op_mulW (pe_ix ix_tup (pv 0) pe_int (fun _ _ => rfl)) (pe_ix ix_tup (pv 1) pe_int (fun _ _ => rfl))) (pe_op op_mulW (pe_ix ix_tup (pv 1) pe_int (fun _ _ => rfl)) (pe_ix ix_tup (pv 0) pe_int (fun _ _ => rfl)))) (pa_cons (pe_op op_mulW (pe_ix ix_tup (pv 0) pe_int (fun _ _ => rfl)) (pe_ix ix_tup (pv 1) pe_int (fun _ _ => rfl))) pa_nil))))), ?_⟩
  have n9 := T.n9
  refine ⟨_, rfl, a, _, 0, _, rfl, rfl, ha, rfl, _, rfl, b, _, 1, _, rfl, rfl, hb, rfl, _, _, rfl, rfl, T.bx.1.mulOk T.by_.2 (by omega), ?_⟩
  refine ⟨_, rfl, b, _, 0, _, rfl, rfl, hb, rfl, _, rfl, a, _, 1, _, rfl, rfl, ha, rfl, _, _, rfl, rfl, T.by_.1.mulOk T.bx.2 (by omega), ?_⟩
  refine ⟨_, _, rfl, rfl, ?_⟩
  refine ⟨_, rfl, a, _, 1, _, rfl, rfl, ha, rfl, _, rfl, b, _, 1, _, rfl, rfl, hb, rfl, _, _, rfl, rfl, T.bx.2.mulOk T.by_.2 (by omega), ?_⟩
  exact ⟨n + n + 1, _, _, rfl, (T.bx.1.mul T.by_.2).sub (T.by_.1.mul T.bx.2), (T.bx.2.mul T.by_.2).mono (by omega), n9, Int.mul_ne_zero nr ns, fun v H' s d => q v H' s d⟩
abbrev s__law_times : Stmt := top 27
abbrev N__law_times : List Str := ["_law_one", "_law_other"]
abbrev P__law_times : List Str := ["_law_one", "_law_other"]
theorem sc__law_times : FnScope N__law_times P__law_times (defScope s__law_times) := ⟨rfl, rfl, rfl, by decide +kernel, rfl, by decide +kernel, by decide +kernel⟩
theorem ok__law_times (G : Gs K mg "_law_times" s__law_times) (g__law_low : Gd P w K mg base CX0 1 "_law_low" P__law_low (spLow K)) : Gd P w K mg base CX0 2 "_law_times" P__law_times (spTwo K timesR) := by
  refine G.ok sc__law_times (fun vs H Q E h => ?_) (fun _ _ _ _ _ _ us hl => match us, hl with | [_, _], _ => rfl) (fun f cdv A outer s H vs Q E hr h => ?_)
  · obtain ⟨_, _, _, _, _, rfl, _⟩ := h
    rfl
  obtain ⟨_, _, n, r, s', rfl, T, nr, ns, q⟩ := h
  obtain ⟨a, rfl, ha⟩ := Dp.rat T.dx
  obtain ⟨b, rfl, hb⟩ := Dp.rat T.dy
  refine ⟨_, (pss_one (ps_ret (pe_g g__law_low (hr.mono (by omega)) pass0 (pa_cons (pe_op op_mulW (pe_ix ix_tup (pv 0) pe_int (fun _ _ => rfl)) (pe_ix ix_tup (pv 1) pe_int (fun _ _ => rfl))) (pa_cons (pe_op op_mulW (pe_ix ix_tup (pv 0) pe_int (fun _ _ => rfl)) (pe_ix ix_tup (pv 1) pe_int (fun _ _ => rfl))) pa_nil))))), ?_⟩
  have n9 := T.n9
  refine ⟨_, rfl, a, _, 0, _, rfl, rfl, ha, rfl, _, rfl, b, _, 0, _, rfl, rfl, hb, rfl, _, _, rfl, rfl, T.bx.1.mulOk T.by_.1 (by omega), ?_⟩
  refine ⟨_, rfl, a, _, 1, _, rfl, rfl, ha, rfl, _, rfl, b, _, 1, _, rfl, rfl, hb, rfl, _, _, rfl, rfl, T.bx.2.mulOk T.by_.2 (by omega), ?_⟩
  exact ⟨n + n, _, _, rfl, T.bx.1.mul T.by_.1, T.bx.2.mul T.by_.2, by omega, Int.mul_ne_zero nr ns, fun v H' s d => q v H' s d⟩
abbrev s__law_less : Stmt := top 28
abbrev N__law_less : List Str := ["_law_one", "_law_other"]
abbrev P__law_less : List Str := ["_law_one", "_law_other"]
theorem sc__law_less : FnScope N__law_less P__law_less (defScope s__law_less) := ⟨rfl, rfl, rfl, by decide +kernel, rfl, by decide +kernel, by decide +kernel⟩
theorem ok__law_less (G : Gs K mg "_law_less" s__law_less) : Gd P w K mg base CX0 1 "_law_less" P__law_less (spLess K) := by
  refine G.ok sc__law_less (fun vs H Q E h => ?_) (fun _ _ _ _ _ _ us hl => match us, hl with | [_, _], _ => rfl) (fun f cdv A outer s H vs Q E hr h => ?_)
  · obtain ⟨_, _, _, _, _, rfl, _⟩ := h
    rfl
  obtain ⟨_, _, n, r, s', rfl, T, q⟩ := h
  obtain ⟨a, rfl, ha⟩ := Dp.rat T.dx
  obtain ⟨b, rfl, hb⟩ := Dp.rat T.dy
  refine ⟨_, (pss_one (ps_ret (pe_cmpR op_lt (pe_op op_mulW (pe_ix ix_tup (pv 0) pe_int (fun _ _ => rfl)) (pe_ix ix_tup (pv 1) pe_int (fun _ _ => rfl))) (pe_op op_mulW (pe_ix ix_tup (pv 1) pe_int (fun _ _ => rfl)) (pe_ix ix_tup (pv 0) pe_int (fun _ _ => rfl))) (nomark _)))), ?_⟩
  have n9 := T.n9
  refine ⟨_, rfl, a, _, 0, _, rfl, rfl, ha, rfl, _, rfl, b, _, 1, _, rfl, rfl, hb, rfl, _, _, rfl, rfl, T.bx.1.mulOk T.by_.2 (by omega), ?_⟩
  refine ⟨_, rfl, b, _, 0, _, rfl, rfl, hb, rfl, _, rfl, a, _, 1, _, rfl, rfl, ha, rfl, _, _, rfl, rfl, T.by_.1.mulOk T.bx.2 (by omega), ?_⟩
  exact ⟨_, _, rfl, rfl, q⟩
end
end Fs
set_option Elab.async false
set_option linter.all false
set_option maxRecDepth 100000
set_option maxHeartbeats 8000000
namespace Fs
open PySem PySem.Spec PyProof.Rows L2
abbrev s__law_bag : Stmt := top 18
abbrev N__law_bag : List Str := ["_law_script", "_law_salt", "_law_cell"]
abbrev P__law_bag : List Str := ["_law_script"]
abbrev s__law_pull : Stmt := top 19
abbrev N__law_pull : List Str := ["_law_bag_here", "_law_amount", "_law_cell", "_law_got", "_law_seed"]
abbrev P__law_pull : List Str := ["_law_bag_here", "_law_amount"]
theorem sc__law_bag : FnScope N__law_bag P__law_bag (defScope s__law_bag) := ⟨rfl, rfl, rfl, by decide +kernel, rfl, by decide +kernel, by decide +kernel⟩
section
variable {P : Program} {w : World} {K : Frag} {mg : Str → Option Value} {base : Heap}
theorem ok__law_bag (G : Gs K mg "_law_bag" s__law_bag) (mint : mg "int" = none) (mlist : mg "list" = none) : Gd P w K mg base CX0 1 "_law_bag" P__law_bag (spBag K) := by
  refine G.ok sc__law_bag (fun vs H Q E h => ?_) (fun _ _ _ _ _ _ us hl => match us, hl with | [_], _ => rfl) (fun f cdv A outer s H vs Q E hr h => ?_)
  · obtain ⟨a, ns, rfl, _⟩ := h
    rfl
  obtain ⟨a, ns, rfl, hS, q⟩ := h
  refine ⟨_, pss_cons (ps_set (i := 1) sc__law_bag.nd rfl (.inl rfl) pe_int)
    (pss_cons (ps_for PassesOwn.never rfl (pi_list (pe_slice sl_list (pv 0) po_none (po_some pe_int))) (pg_name (i := 2) sc__law_bag.nd rfl (.inl rfl))
      (pss_one (ps_set (i := 1) sc__law_bag.nd rfl (.inl rfl) (pe_op op_mod (pe_op op_add (pe_op op_add (pe_op op_mul (pv 1) pe_int) (pe_op op_mod (pe_callTy call_int1 (by rfl) mint (by decide +kernel) (pa_cons (pv 2) pa_nil)) pe_int)) pe_int) pe_int))))
    (pss_one (ps_ret (pe_lst (pa_cons (pe_callTy call_list_of (by rfl) mlist (by decide +kernel) (pa_cons (pe_slice sl_list (pv 0) po_none (po_some pe_int)) pa_nil)) (pa_cons pe_int (pa_cons pe_int (pa_cons (pv 1) pa_nil)))))))), ?_⟩
  refine ⟨_, rfl, _, rfl, a, _, rfl, hS, fun c nc => ?_⟩
  have e63 : cutV (ns.map V.int) none (some 63) = (ns.take 63).map V.int := by
    rw [show (63 : Int) = ((63 : Nat) : Int) from rfl, cutN, List.map_take]
  rw [e63]
  refine ⟨c, rfl, ⟨_, at_z upd_same⟩, for_list (K := K) (a := c) (xs := (ns.take 63).map V.int)
    (fun i σ H' => ∃ (salt : Int) (v : Option V), σ = [some (.ref a), some (.int salt), v] ∧ 0 ≤ salt ∧ salt < 2147483647 ∧ Same (upd H c (.lst ((ns.take 63).map V.int))) H')
    ⟨3841, none, rfl, by decide, by decide, Same.refl _⟩ (fun i σ H' _ ⟨_, _, _, _, _, s1⟩ => at_z (s1 _ _ upd_same)) ?_ ?_⟩
  · rintro i x σ H' hi ⟨salt, v, rfl, h0, h1, s1⟩
    obtain ⟨z, hz, rfl⟩ : ∃ z, (ns.take 63)[i]? = some z ∧ x = V.int z := by
      rw [List.getElem?_map] at hi
      cases e : (ns.take 63)[i]? with
      | none =>
        rw [e] at hi
        cases hi
      | some z =>
        rw [e] at hi
        exact ⟨z, rfl, (Option.some.inj hi).symm⟩
    refine ⟨_, rfl, _, _, rfl, rfl, .inl ⟨by omega, by omega⟩, _, rfl, .inl ⟨_, rfl, _, _, rfl, rfl, (by show (0 : Int) < _; decide), _, _, rfl, rfl, _, _, rfl, rfl, _, _, rfl, rfl, (by show (0 : Int) < _; decide), _, _, rfl, ?_, ?_, s1⟩⟩
    · omega
    · omega
  · rintro σ H' ⟨salt, v, rfl, h0, h1, s1⟩
    refine ⟨_, rfl, _, rfl, a, _, rfl, (same_new nc _ |>.trans s1).seq hS, fun d nd => ?_⟩
    refine ⟨d, _, rfl, .inl (at_z upd_same), fun l nl => ?_⟩
    refine ⟨_, rfl, (by show 4 ≤ sizeLine; decide), fun p np => ?_⟩
    have s2 : Same H' (upd (upd (upd H' d (.lst (cutV (ns.map V.int) none (some 63)))) l (.lst (cutV (ns.map V.int) none (some 63)))) p (.lst [.ref l, .int 0, .int 0, .int salt])) := (same_new nd _).trans ((same_new nl _).trans (same_new np _))
    have s3 := (same_new nc (.lst ((ns.take 63).map V.int))).trans (s1.trans s2)
    refine q p l _ ?_ s3 ⟨0, 0, salt, ns.take 63, upd_same, ?_, by decide, by decide, h0, h1⟩
    · have z := ((same_new nc _).trans (s1.trans ((same_new nd _).trans (same_new nl _)))).free np
      exact z
    · rw [← e63, upd_ne (ne_of_none upd_same np), upd_same]
theorem sc__law_pull : FnScope N__law_pull P__law_pull (defScope s__law_pull) := ⟨rfl, rfl, rfl, by decide +kernel, rfl, by decide +kernel, by decide +kernel⟩
theorem ok__law_pull (G : Gs K mg "_law_pull" s__law_pull) (mint : mg "int" = none) (mlen : mg "len" = none) : Gd P w K mg base CX0 1 "_law_pull" P__law_pull spPull := by
  refine G.ok sc__law_pull (fun vs H Q E h => ?_) (fun _ _ _ _ _ _ us hl => match us, hl with | [_, _], _ => rfl) (fun f cdv A outer s H vs Q E hr h => ?_)
  · obtain ⟨p, l, n, rfl, _⟩ := h
    rfl
  obtain ⟨p, l, n, rfl, B, n0, n1, q⟩ := h
  refine ⟨_, pss_cons (ps_if (PW.pt (pw_and (pt_cmpR op_eq (pe_ix ix_list (pv 0) pe_int (fun _ _ => rfl)) pe_int (nomark _)) (pw_and1 (pt_cmpR op_lt (pe_ix ix_list (pv 0) pe_int (fun _ _ => rfl)) (pe_callB call_len_seq (by rfl) mlen PySem.boot_len (pa_cons (pe_ix ix_list (pv 0) pe_int (fun _ _ => rfl)) pa_nil)) (nomark _)))))
      (pss_cons (ps_set (i := 2) sc__law_pull.nd rfl (.inl rfl) (pe_ix ix_list (pe_ix ix_list (pv 0) pe_int (fun _ _ => rfl)) (pe_ix ix_list (pv 0) pe_int (fun _ _ => rfl)) (fun _ _ => rfl)))
      (pss_cons (ps_asg (pe_op op_add (pe_ix ix_list (pv 0) pe_int (fun _ _ => rfl)) pe_int) (pg_sub (pv 0) pe_int set_list))
      (pss_one (ps_if (pt_cmpR op_ge (pv 2) (pe_op op_pow pe_int pe_int) (nomark _))
        (pss_one (ps_asg (pv 2) (pg_sub (pv 0) pe_int set_list)))
        (pss_one (ps_asg (pe_op op_mod (pe_op op_add (pe_op op_add (pe_op op_mul (pe_ix ix_list (pv 0) pe_int (fun _ _ => rfl)) pe_int) (pe_op op_mul (pe_op op_mod (pe_callTy call_int1 (by rfl) mint (by decide +kernel) (pa_cons (pv 2) pa_nil)) pe_int) pe_int)) pe_int) pe_int) (pg_sub (pv 0) pe_int set_list)))))))
      pss_nil)
    (pss_cons (ps_if (pt_cmpR op_gt (pe_ix ix_list (pv 0) pe_int (fun _ _ => rfl)) pe_int (nomark _))
      (pss_cons (ps_set (i := 3) sc__law_pull.nd rfl (.inl rfl) (pe_op op_mod (pe_callTy call_int1 (by rfl) mint (by decide +kernel) (pa_cons (pe_ix ix_list (pv 0) pe_int (fun _ _ => rfl)) pa_nil)) (pv 1)))
      (pss_cons (ps_asg (pe_op op_fdivW (pe_ix ix_list (pv 0) pe_int (fun _ _ => rfl)) (pv 1)) (pg_sub (pv 0) pe_int set_list))
      (pss_one (ps_ret (pv 3))))) pss_nil)
    (pss_cons (ps_set (i := 4) sc__law_pull.nd rfl (.inl rfl) (pe_ix ix_list (pv 0) pe_int (fun _ _ => rfl)))
    (pss_cons (ps_asg (pe_op op_mod (pe_op op_add (pe_op op_add (pe_op op_mul (pv 4) (pv 4)) (pe_op op_mul (pv 4) pe_int)) pe_int) pe_int) (pg_sub (pv 0) pe_int set_list))
    (pss_one (ps_ret (pe_op op_mod (pe_op op_add (pe_op op_fdiv (pe_ix ix_list (pv 0) pe_int (fun _ _ => rfl)) pe_int) (pe_op op_mul (pe_op op_mod (pe_callTy call_int1 (by rfl) mint (by decide +kernel) (pa_cons (pe_ix ix_list (pv 0) pe_int (fun _ _ => rfl)) pa_nil)) pe_int) pe_int)) (pv 1))))))), ?_⟩
  obtain ⟨i, rest, seed, ns, hp, hl, hi, hrest, hs0, hs1⟩ := B.ex
  have npl : l ≠ p := ne_of hl hp (fun z => by
    injection z with z
    have z2 := congrArg List.length z
    cases ns with
    | nil => simp at z
    | cons x r =>
      rw [List.map_cons] at z
      injection z with z _
      cases z)
  have a0 : ∀ {x y z u : V}, atI [x, y, z, u] 0 = some x := rfl
  have a1 : ∀ {x y z u : V}, atI [x, y, z, u] 1 = some y := rfl
  have a2 : ∀ {x y z u : V}, atI [x, y, z, u] 2 = some z := rfl
  have a3 : ∀ {x y z u : V}, atI [x, y, z, u] 3 = some u := rfl
  refine seq_cut (fun σ' H' => ∃ (i rest seed : Int) (v : Option V), σ' = [some (.ref p), some (.int n), v, none, none] ∧ SameX p H H' ∧ H' p = some (.lst [.ref l, .int i, .int rest, .int seed]) ∧ 0 ≤ i ∧ 0 ≤ rest ∧ 0 ≤ seed ∧ seed < 2147483647) (fun N hN => ?_) ?_
  · have done : N (start ["_law_bag_here", "_law_amount", "_law_cell", "_law_got", "_law_seed"] [V.ref p, V.int n]) H := hN _ _ ⟨i, rest, seed, none, rfl, Same.refl _, hp, hi, hrest, hs0, hs1⟩
    refine ⟨_, rfl, p, _, _, _, rfl, rfl, at_z hp, a2, rfl, _, rfl, ?_⟩
    by_cases c : V.int rest = V.int 0
    · rw [decide_eq_true c]
      refine iteT ?_
      refine ⟨_, rfl, p, _, _, _, rfl, rfl, at_z hp, a1, _, rfl, p, _, _, _, rfl, rfl, at_z hp, a0, l, _, rfl, .inl (at_z hl), _, _, rfl, rfl, _, rfl, ?_⟩
      by_cases c2 : i < ((ns.map V.int).length : Int)
      · rw [decide_eq_true c2]
        refine iteT ?_
        rw [List.length_map] at c2
        have hk : i.toNat < ns.length := by omega
        have ek : i = ((i.toNat : Nat) : Int) := by omega
        have ai : atI (ns.map V.int) i = some (.int ns[i.toNat]) := by
          have z := atI_i (xs := ns.map V.int) hi (by rw [List.length_map]; exact hk)
          rw [List.getElem_map] at z
          exact z
        -- the cell, the place
        refine ⟨_, rfl, p, _, _, _, rfl, rfl, at_z hp, a0, _, rfl, p, _, _, _, rfl, rfl, at_z hp, a1, l, _, _, _, rfl, rfl, at_z hl, ai, ?_⟩
        refine ⟨_, rfl, p, _, _, _, rfl, rfl, at_z hp, a1, _, _, rfl, rfl, _, rfl, p, _, _, _, rfl, rfl, hp, rfl, ?_⟩
        -- if cell >= 10 ** 18
        refine ⟨_, rfl, _, _, rfl, rfl, ⟨by decide, by decide, by decide⟩, _, _, rfl, rfl, _, rfl, ?_⟩
        refine ite2 (fun c3 => ?_) (fun c3 => ?_)
        · have c3' := of_decide_eq_true c3
          refine ⟨_, rfl, _, rfl, p, _, _, _, rfl, rfl, upd_same, rfl, ?_⟩
          refine hN _ _ ⟨i + 1, ns[i.toNat], seed, some (.int ns[i.toNat]), rfl, .of fun b o hb e => ?_, upd_same, by omega, ?_, hs0, hs1⟩
          · rw [upd_ne hb, upd_ne hb]
            exact e
          · exact Int.le_trans (by decide) c3'
        · refine ⟨_, rfl, p, _, _, _, rfl, rfl, at_z upd_same, a3, _, _, rfl, rfl, .inl ⟨by omega, by omega⟩, _, rfl, .inl ⟨_, rfl, _, _, rfl, rfl, (by show (0 : Int) < _; decide), _, _, rfl, rfl, .inr ⟨by decide, by decide⟩, _, _, rfl, rfl, _, _, rfl, rfl, _, _, rfl, rfl, (by show (0 : Int) < _; decide), _, rfl, p, _, _, _, rfl, rfl, upd_same, rfl, ?_⟩⟩
          refine hN _ _ ⟨i + 1, rest, _, some (.int ns[i.toNat]), rfl, .of fun b o hb e => ?_, upd_same, by omega, hrest, Int.emod_nonneg _ (by decide), Int.emod_lt_of_pos _ (by decide)⟩
          rw [upd_ne hb, upd_ne hb]
          exact e
      · rw [decide_eq_false c2]
        exact iteF done
    · rw [decide_eq_false c]
      exact iteF done
  · rintro σ' H' ⟨i, rest, seed, v, rfl, sx, hp, hi, hrest, hs0, hs1⟩
    have hl' := sx.at npl hl
    have fin : ∀ (i rest seed : Int) (H2 : Hp), (∀ b o, b ≠ p → H' b = some o → H2 b = some o) → H2 p = some (.lst [.ref l, .int i, .int rest, .int seed]) → 0 ≤ i → 0 ≤ rest → 0 ≤ seed → seed < 2147483647 → SameX p H H2 ∧ BagAt H2 p l := fun i rest seed H2 k e h0 h1 h2 h3 =>
      ⟨sx.trans (SameX.of k), ⟨i, rest, seed, ns, e, k _ _ npl hl', h0, h1, h2, h3⟩⟩
    refine ⟨_, rfl, p, _, _, _, rfl, rfl, at_z hp, a2, _, _, rfl, rfl, _, rfl, ?_⟩
    refine ite2 (fun c => ?_) (fun c => ?_)
    · refine ⟨_, rfl, p, _, _, _, rfl, rfl, at_z hp, a2, .inl ⟨_, rfl, _, rfl, _, _, rfl, rfl, n0, ?_⟩⟩
      refine ⟨_, rfl, p, _, _, _, rfl, rfl, at_z hp, a2, _, rfl, _, _, rfl, rfl, wide_div n0 (b := 100) (by omega) (by decide) (by decide), _, rfl, p, _, _, _, rfl, rfl, hp, rfl, _, rfl, ?_⟩
      obtain ⟨x1, x2⟩ := fin i (rest / n) seed (upd H' p (.lst [.ref l, .int i, .int (rest / n), .int seed])) (fun b o hb e => by rw [upd_ne hb]; exact e) upd_same hi (Int.ediv_nonneg hrest (by omega)) hs0 hs1
      exact q _ _ (Int.emod_nonneg _ (by omega)) (Int.emod_lt_of_pos _ n0) x1 x2
    · refine ⟨_, rfl, p, _, _, _, rfl, rfl, at_z hp, a3, ?_⟩
      refine ⟨_, rfl, _, rfl, _, _, rfl, rfl, .inl ⟨by omega, by omega⟩, _, rfl, _, _, rfl, rfl, .inr ⟨by decide, by decide⟩, _, _, rfl, rfl, _, _, rfl, rfl, _, _, rfl, rfl, (by show (0 : Int) < _; decide), _, rfl, p, _, _, _, rfl, rfl, hp, rfl, ?_⟩
      refine ⟨_, rfl, p, _, _, _, rfl, rfl, at_z upd_same, a3, _, _, rfl, rfl, ⟨by decide, by decide⟩, _, rfl, p, _, _, _, rfl, rfl, at_z upd_same, a3, .inl ⟨_, rfl, _, _, rfl, rfl, (by show (0 : Int) < _; decide), _, _, rfl, rfl, .inr ⟨by decide, by decide⟩, _, _, rfl, rfl, _, rfl, _, _, rfl, rfl, n0, ?_⟩⟩
      obtain ⟨x1, x2⟩ := fin i rest ((seed * seed + seed * 48271 + 1013904223) % 2147483647) (upd H' p (.lst [.ref l, .int i, .int rest, .int ((seed * seed + seed * 48271 + 1013904223) % 2147483647)])) (fun b o hb e => by rw [upd_ne hb]; exact e) upd_same hi hrest (Int.emod_nonneg _ (by decide)) (Int.emod_lt_of_pos _ (by decide))
      exact q _ _ (Int.emod_nonneg _ (by omega)) (Int.emod_lt_of_pos _ n0) x1 x2
end
end Fs
set_option Elab.async false
set_option linter.all false
set_option maxRecDepth 100000
set_option maxHeartbeats 8000000
namespace Fs
open PySem PySem.Spec PyProof.Rows L2
abbrev s__law_of : Stmt := top 20
abbrev N__law_of : List Str := ["_law_bag_here", "_law_things"]
abbrev P__law_of : List Str := ["_law_bag_here", "_law_things"]
section
variable {P : Program} {w : World} {K : Frag} {mg : Str → Option Value} {base : Heap}
theorem sc__law_of : FnScope N__law_of P__law_of (defScope s__law_of) := ⟨rfl, rfl, rfl, by decide +kernel, rfl, by decide +kernel, by decide +kernel⟩
theorem ok__law_of (G : Gs K mg "_law_of" s__law_of) (PU : Gd P w K mg base CX0 1 "_law_pull" P__law_pull spPull) (mlen : mg "len" = none) : Gd P w K mg base CX0 2 "_law_of" P__law_of (spOf K) := by
  refine G.ok sc__law_of (fun vs H Q E h => ?_) (fun _ _ _ _ _ _ us hl => match us, hl with | [_, _], _ => rfl) (fun f cdv A outer s H vs Q E hr h => ?_)
  · obtain ⟨p, l, a, xs, rfl, _⟩ := h
    rfl
  obtain ⟨p, l, a, xs, rfl, B, S, n0, nl, q⟩ := h
  refine ⟨_, pss_one (ps_ret (pe_ix (IxR.or ix_list ix_tup) (pv 1) (pe_g PU hr pass0 (pa_cons (pv 0) (pa_cons (pe_callB call_len_seq (by rfl) mlen PySem.boot_len (pa_cons (pv 1) pa_nil)) pa_nil))) (fun _ _ => rfl))), ?_⟩
  refine ⟨_, rfl, _, rfl, _, rfl, a, xs, rfl, S.to Hx.sub, p, l, xs.length, rfl, B, ?_, nl, fun r H' h0 h1 sx B' => ?_⟩
  · cases xs with
    | nil => exact absurd rfl n0
    | cons x r => show (0 : Int) < ((r.length + 1 : Nat) : Int); omega
  · have hk : r.toNat < xs.length := by omega
    have ek : r = ((r.toNat : Nat) : Int) := by omega
    have ai : atI xs r = some xs[r.toNat] := atI_i h0 hk
    rcases (S.to sx).to Hx.sub with S' | S'
    · exact .inl ⟨a, xs, r, _, rfl, rfl, S', ai, q _ (List.getElem_mem hk) _ sx B'⟩
    · exact .inr ⟨a, xs, r, _, rfl, rfl, S', ai, q _ (List.getElem_mem hk) _ sx B'⟩
end
end Fs
set_option Elab.async false
set_option linter.all false
set_option maxRecDepth 100000
set_option maxHeartbeats 8000000
namespace Fs
open PySem PySem.Spec PyProof.Rows L2
abbrev s__law_same : Stmt := top 21
abbrev N__law_same : List Str := ["_law_found", "_law_due", "_law_k", "_law_key"]
abbrev P__law_same : List Str := ["_law_found", "_law_due"]
abbrev O__law_same_0 : List (Str × Nat) := [("_law_k", 2)]
abbrev O__law_same_1 : List (Str × Nat) := [("_law_key", 3)]
theorem sc__law_same : FnScope N__law_same P__law_same (defScope s__law_same) := ⟨rfl, rfl, rfl, by decide +kernel, rfl, by decide +kernel, by decide +kernel⟩
section
variable {P : Program} {w : World} {K : Frag} {mg : Str → Option Value} {base : Heap}
theorem ok__law_same (G : Gs K mg "_law_same" s__law_same) (m_isinstance : mg "isinstance" = none) (m_tuple : mg "tuple" = none) (m_list : mg "list" = none) (m_all : mg "all" = none) (m_range : mg "range" = none) (m_len : mg "len" = none) (m_dict : mg "dict" = none) (m_int : mg "int" = none) (m_bool : mg "bool" = none) (m_str : mg "str" = none) :
    ∀ n : Nat, Gd P w K mg base CX0 (n + 1) "_law_same" P__law_same (spSame K n) := by
  intro n
  induction n with
  | zero =>
    refine G.ok sc__law_same (fun vs H Q E h => ?_) (fun _ _ _ _ _ _ us hl => match us, hl with | [_, _], _ => rfl) (fun f cdv A outer s H vs Q E hr h => ?_)
    · obtain ⟨x, y, d, rfl, _⟩ := h
      rfl
    · obtain ⟨x, y, d, rfl, _, _, h, _⟩ := h
      exact h.elim
  | succ n g__law_same =>
  refine G.ok sc__law_same (fun vs H Q E h => ?_) (fun _ _ _ _ _ _ us hl => match us, hl with | [_, _], _ => rfl) (fun f cdv A outer s H vs Q E hr h => ?_)
  · obtain ⟨x, y, d, rfl, _⟩ := h
    rfl
  obtain ⟨x, y, d, rfl, hx, hy, hf, q⟩ := h
  refine ⟨_, (pss_cons (ps_if (pt_val (pe_callB call_isD2 (by rfl) m_isinstance (by decide +kernel) (pa_cons (pv 1) (pa_cons (pe_tup (pa_cons (pe_bltn (v := .ty "list") (by rfl) m_list (by decide +kernel) rfl) (pa_cons (pe_bltn (v := .ty "tuple") (by rfl) m_tuple (by decide +kernel) rfl) pa_nil))) pa_nil))))
      (pss_cons (ps_if (PW.pt (pw_or (pt_cmpR op_ne (pe_callB call_isD (by rfl) m_isinstance (by decide +kernel) (pa_cons (pv 0) (pa_cons (pe_bltn (v := .ty "list") (by rfl) m_list (by decide +kernel) rfl) pa_nil))) (pe_callB call_isD (by rfl) m_isinstance (by decide +kernel) (pa_cons (pv 1) (pa_cons (pe_bltn (v := .ty "list") (by rfl) m_list (by decide +kernel) rfl) pa_nil))) (nomark _)) (pw_or1 (pt_cmpR op_ne (pe_callB call_isD (by rfl) m_isinstance (by decide +kernel) (pa_cons (pv 0) (pa_cons (pe_bltn (v := .ty "tuple") (by rfl) m_tuple (by decide +kernel) rfl) pa_nil))) (pe_callB call_isD (by rfl) m_isinstance (by decide +kernel) (pa_cons (pv 1) (pa_cons (pe_bltn (v := .ty "tuple") (by rfl) m_tuple (by decide +kernel) rfl) pa_nil))) (nomark _)))))
        (pss_one (ps_ret pe_bl))
        pss_nil)
      (pss_one (ps_ret (pe_and (pe_cmpR op_eq (pe_callB call_len_seq (by rfl) m_len PySem.boot_len (pa_cons (pv 0) pa_nil)) (pe_callB call_len_seq (by rfl) m_len PySem.boot_len (pa_cons (pv 1) pa_nil)) (nomark _)) (pe_one (pe_callB (cr_all rfl) (by rfl) m_all (by decide +kernel) (pa_cons (pe_lc (own := [("_law_k", 2)]) (g := gName 2) (tt := tYes) rfl sc__law_same.nd (pi_range1 (by rfl) m_range (pa_cons (pe_callB call_len_seq (by rfl) m_len PySem.boot_len (pa_cons (pv 1) pa_nil)) pa_nil)) (blkOk_by (own := [("_law_k", 2)]) (N := N__law_same) (sc := defScope s__law_same) (by decide +kernel)) (fun _ _ _ _ _ => (pg_name (i := 2) sc__law_same.nd rfl (.inl rfl))) (fun _ _ _ _ _ => pts_nil) (fun _ _ _ _ _ => (pe_g g__law_same (hr.mono (by omega)) pass0 (pa_cons (pe_ix (ix_anyK K) (pv 0) (pv 2) (fun _ _ => rfl)) (pa_cons (pe_ix (ix_anyK K) (pv 1) (pv 2) (fun _ _ => rfl)) pa_nil))))) pa_nil)))))))
      pss_nil)
    (pss_cons (ps_if (pt_val (pe_callB call_isD (by rfl) m_isinstance (by decide +kernel) (pa_cons (pv 1) (pa_cons (pe_bltn (v := .ty "dict") (by rfl) m_dict (by decide +kernel) rfl) pa_nil))))
      pss_never
      pss_nil)
    (pss_cons (ps_if (PW.pt (pw_or (pt_cmpR op_isN (pv 1) pe_non (nomark _)) (pw_or1 (pt_cmpR op_isN (pv 0) pe_non (nomark _)))))
      (pss_one (ps_ret (pe_and (pe_cmpR op_isN (pv 0) pe_non (nomark _)) (pe_one (pe_cmpR op_isN (pv 1) pe_non (nomark _))))))
      pss_nil)
    (pss_cons (ps_if (PW.pt (pw_or (pt_cmpR op_ne (pe_callB call_isD (by rfl) m_isinstance (by decide +kernel) (pa_cons (pv 1) (pa_cons (pe_bltn (v := .ty "bool") (by rfl) m_bool (by decide +kernel) rfl) pa_nil))) (pe_callB call_isD (by rfl) m_isinstance (by decide +kernel) (pa_cons (pv 0) (pa_cons (pe_bltn (v := .ty "bool") (by rfl) m_bool (by decide +kernel) rfl) pa_nil))) (nomark _)) (pw_or1 (pt_cmpR op_ne (pe_callB call_isD (by rfl) m_isinstance (by decide +kernel) (pa_cons (pv 1) (pa_cons (pe_bltn (v := .ty "int") (by rfl) m_int (by decide +kernel) rfl) pa_nil))) (pe_callB call_isD (by rfl) m_isinstance (by decide +kernel) (pa_cons (pv 0) (pa_cons (pe_bltn (v := .ty "int") (by rfl) m_int (by decide +kernel) rfl) pa_nil))) (nomark _)))))
      (pss_one (ps_ret pe_bl))
      pss_nil)
    (pss_one (ps_ret (pe_and (pe_cmpR op_eq (pe_callB call_isD (by rfl) m_isinstance (by decide +kernel) (pa_cons (pv 1) (pa_cons (pe_bltn (v := .ty "str") (by rfl) m_str (by decide +kernel) rfl) pa_nil))) (pe_callB call_isD (by rfl) m_isinstance (by decide +kernel) (pa_cons (pv 0) (pa_cons (pe_bltn (v := .ty "str") (by rfl) m_str (by decide +kernel) rfl) pa_nil))) (nomark _)) (pe_one (pe_cmpR op_eq (pv 0) (pv 1) (nomark _)))))))))), ?_⟩
  refine ⟨_, rfl, (by show 2 ≤ sizeLine; decide), fun p np => ⟨y, p, .list, .tuple, d, rfl, upd_same, Dp.to (same_new np _) hy, _, rfl, ?_⟩⟩
  have s1 : Same H (upd H p (.tup [.ty "list", .ty "tuple"])) := same_new np _
  generalize upd H p (.tup [.ty "list", .ty "tuple"]) = H1 at s1 ⊢
  have hx1 := Dp.to s1 hx
  have hy1 := Dp.to s1 hy
  cases e : (isT .list d || isT .tuple d) with
  | true =>
    refine iteT ?_
    obtain ⟨a, xs, rfl, Sx, ax⟩ := Dp.seq hx1 e
    obtain ⟨b, ys, rfl, Sy, ay⟩ := Dp.seq hy1 e
    refine ⟨_, rfl, _, .list, d, rfl, hx1, _, rfl, _, .list, d, rfl, hy1, rfl, _, rfl, iteNS rfl ?_⟩
    refine ⟨_, rfl, _, .tuple, d, rfl, hx1, _, rfl, _, .tuple, d, rfl, hy1, rfl, _, rfl, iteNS rfl ?_⟩
    refine ⟨_, rfl, a, xs, rfl, Sx, _, rfl, b, ys, rfl, Sy, rfl, _, rfl, ite_of (decide_eq_true (by rw [DpAll.len ax, DpAll.len ay])) ?_⟩
    have ll := DpAll.len ay
    refine ⟨_, rfl, b, ys, rfl, Sy, _, rfl, by omega, by have := hf.1; omega, fun D nD => lc_range (fun i H' => Same H1 H' ∧ H' D = some (.lst (List.replicate i (.bl true)))) ⟨same_new nD _, upd_same⟩ (fun i H' hi ⟨s2, hD⟩ => ?_) (fun H' ⟨s2, hD⟩ => ?_)⟩
    · have hi' : i < (itemsD d).length := by omega
      obtain ⟨v, gv, dv⟩ := DpAll.at (DpAll.to s2 ax) (List.getElem?_eq_getElem hi')
      obtain ⟨u, gu, du⟩ := DpAll.at (DpAll.to s2 ay) (List.getElem?_eq_getElem hi')
      refine ⟨rfl, tYes_of ?_⟩
      refine ⟨_, rfl, _, rfl, a, xs, _, v, rfl, rfl, Sx.to s2, (by rw [Int.zero_add]; exact atI_nat gv), _, rfl, _, rfl, b, ys, _, u, rfl, rfl, Sy.to s2, (by rw [Int.zero_add]; exact atI_nat gu), ?_⟩
      refine ⟨v, u, _, rfl, dv, du, hf.2 _ (List.getElem_mem hi'), fun H4 s4 => ⟨_, s4 _ _ hD, ?_, same_grow (s2.trans s4) nD, ?_⟩⟩
      · rw [List.length_replicate]
        have := hf.1
        rw [sizeLine_eq]
        omega
      · rw [upd_same, replicate_more]
    · refine ⟨D, List.replicate ys.length true, rfl, .inl (.inl ?_), ?_⟩
      · rw [List.map_replicate]
        exact hD
      · rw [all_true]
        exact q _ (s1.trans s2)
  | false =>
    refine iteF ?_
    cases hy1 with
    | lst _ _ => cases e
    | tup _ _ => cases e
    | non =>
      cases hx1
      refine ⟨_, rfl, _, .dict, _, rfl, .non, _, rfl, iteF ?_⟩
      refine ⟨_, rfl, rfl, _, rfl, iteT ?_⟩
      refine iteT ?_
      exact ⟨_, rfl, rfl, _, rfl, iteT ⟨_, rfl, rfl, q _ s1⟩⟩
    | bl k =>
      cases hx1
      refine ⟨_, rfl, _, .dict, _, rfl, .bl k, _, rfl, iteF ?_⟩
      refine ⟨_, rfl, rfl, _, rfl, iteF ⟨_, rfl, rfl, _, rfl, iteF ?_⟩⟩
      refine ⟨_, rfl, _, .bool, _, rfl, .bl k, _, rfl, _, .bool, _, rfl, .bl k, rfl, _, rfl, iteNS rfl ?_⟩
      refine ⟨_, rfl, _, .int, _, rfl, .bl k, _, rfl, _, .int, _, rfl, .bl k, rfl, _, rfl, iteNS rfl ?_⟩
      refine ⟨_, rfl, _, .str, _, rfl, .bl k, _, rfl, _, .str, _, rfl, .bl k, rfl, _, rfl, iteT ⟨_, rfl, _, rfl, rfl, ?_⟩⟩
      rw [decide_eq_true rfl]
      exact q _ s1
    | int k =>
      cases hx1
      refine ⟨_, rfl, _, .dict, _, rfl, .int k, _, rfl, iteF ?_⟩
      refine ⟨_, rfl, rfl, _, rfl, iteF ⟨_, rfl, rfl, _, rfl, iteF ?_⟩⟩
      refine ⟨_, rfl, _, .bool, _, rfl, .int k, _, rfl, _, .bool, _, rfl, .int k, rfl, _, rfl, iteNS rfl ?_⟩
      refine ⟨_, rfl, _, .int, _, rfl, .int k, _, rfl, _, .int, _, rfl, .int k, rfl, _, rfl, iteNS rfl ?_⟩
      refine ⟨_, rfl, _, .str, _, rfl, .int k, _, rfl, _, .str, _, rfl, .int k, rfl, _, rfl, iteT ⟨_, rfl, _, rfl, rfl, ?_⟩⟩
      rw [decide_eq_true rfl]
      exact q _ s1
    | str k =>
      cases hx1
      refine ⟨_, rfl, _, .dict, _, rfl, .str k, _, rfl, iteF ?_⟩
      refine ⟨_, rfl, rfl, _, rfl, iteF ⟨_, rfl, rfl, _, rfl, iteF ?_⟩⟩
      refine ⟨_, rfl, _, .bool, _, rfl, .str k, _, rfl, _, .bool, _, rfl, .str k, rfl, _, rfl, iteNS rfl ?_⟩
      refine ⟨_, rfl, _, .int, _, rfl, .str k, _, rfl, _, .int, _, rfl, .str k, rfl, _, rfl, iteNS rfl ?_⟩
      refine ⟨_, rfl, _, .str, _, rfl, .str k, _, rfl, _, .str, _, rfl, .str k, rfl, _, rfl, iteT ⟨_, rfl, _, rfl, rfl, ?_⟩⟩
      rw [decide_eq_true rfl]
      exact q _ s1
end
end Fs
set_option Elab.async false
set_option linter.all false
set_option maxRecDepth 100000
set_option maxHeartbeats 8000000
namespace Fs
open PySem PySem.Spec PyProof.Rows L2
section
variable {P : Program} {w : World} {K : Frag} {mg : Str → Option Value} {base : Heap}
theorem Imm.hx {H : Hp} {p l : Addr} (B : BagAt H p l) : Imm H (Hx p H) := fun b xs e => by
  obtain ⟨i, r, sd, ns, hp, _⟩ := B.ex
  have ne : b ≠ p := fun z => by
    subst z
    rcases e with e | ⟨o, e⟩ <;> rw [hp] at e <;> cases e
  unfold L2.Rd at e ⊢
  rw [Hx.ne ne]
  exact e
theorem noL_rat (r : Int × Int) : noL (dR r) = true := rfl
abbrev s__law_is_low : Stmt := top 29
abbrev N__law_is_low : List Str := ["_law_value", "_law_one"]
abbrev P__law_is_low : List Str := ["_law_value"]
abbrev O__law_is_low_0 : List (Str × Nat) := [("_law_one", 1)]
theorem sc__law_is_low : FnScope N__law_is_low P__law_is_low (defScope s__law_is_low) := ⟨rfl, rfl, rfl, by decide +kernel, rfl, by decide +kernel, by decide +kernel⟩
/-- the same answer as is_ratio; heap may have grown -/
def spIsLow (K : Frag) : Sp := fun vs H Q _ => ∃ (x : V) (d : PyData), vs = [x] ∧ Dp K H x d ∧ (∀ a b : Int, d = .tuple [.int a, .int b] → Bd 8000 a ∧ Bd 8000 b) ∧ ∀ H', Same H H' → Q (.bl (ratD d)) H'
theorem low_one {a b : Int} (h : 0 < b) : PyData.eqv (dR (low a b)) (dR (a, b)) = decide (gcdZ a b = 1) := by
  have hb : b ≠ 0 := by omega
  have e : PyData.eqv (dR (low a b)) (dR (a, b)) = ((low a b).1 == a && ((low a b).2 == b && true)) := rfl
  rw [e]
  by_cases g : gcdZ a b = 1
  · have L : Low (a, b) := ⟨h, by unfold gcdZ at g; show Nat.gcd a.natAbs b.natAbs = 1; omega⟩
    have z := low_of L
    dsimp only at z
    rw [z, decide_eq_true g]
    simp
  · rw [decide_eq_false g]
    obtain ⟨u, v, e1, e2, e3, p, o⟩ := low_eq (t := a) hb
    rw [e3]
    have nv : v ≠ b := fun z => by
      have ef : lowF a b = gcdZ a b := if_neg (by omega)
      rw [ef, z] at e2
      have q : gcdZ a b * b = 1 * b := by rw [← e2, Int.one_mul]
      exact g (Int.eq_of_mul_eq_mul_right hb q)
    have : (v == b) = false := by simpa using nv
    simp [this]
theorem ok__law_is_low (G : Gs K mg "_law_is_low" s__law_is_low) (g__law_low : Gd P w K mg base CX0 1 "_law_low" P__law_low (spLow K)) (m_isinstance : mg "isinstance" = none) (m_tuple : mg "tuple" = none) (m_len : mg "len" = none) (m_any : mg "any" = none) (m_int : mg "int" = none) (m_bool : mg "bool" = none) : Gd P w K mg base CX0 2 "_law_is_low" P__law_is_low (spIsLow K) := by
  refine G.ok sc__law_is_low (fun vs H Q E h => ?_) (fun _ _ _ _ _ _ us hl => match us, hl with | [_], _ => rfl) (fun f cdv A outer s H vs Q E hr h => ?_)
  · obtain ⟨_, _, rfl, _⟩ := h
    rfl
  obtain ⟨x, d, rfl, hd, hbd, q⟩ := h
  refine ⟨_, (pss_cons (ps_if (PW.pt (pw_or (pt_not (pt_val (pe_callB call_isD (by rfl) m_isinstance (by decide +kernel) (pa_cons (pv 0) (pa_cons (pe_bltn (v := .ty "tuple") (by rfl) m_tuple (by decide +kernel) rfl) pa_nil))))) (pw_or1 (pt_cmpR op_ne (pe_callB call_len_seq (by rfl) m_len PySem.boot_len (pa_cons (pv 0) pa_nil)) pe_int (nomark _)))))
      (pss_one (ps_ret pe_bl))
      pss_nil)
    (pss_cons (ps_if (pt_val (pe_callB (cr_any rfl) (by rfl) m_any (by decide +kernel) (pa_cons (pe_lc (own := O__law_is_low_0) (g := gName 1) (tt := tYes) rfl sc__law_is_low.nd (pi_tup (pv 0)) (blkOk_by (own := O__law_is_low_0) (N := N__law_is_low) (sc := defScope s__law_is_low) (by decide +kernel)) (fun _ _ _ _ _ => (pg_name (i := 1) sc__law_is_low.nd rfl (.inl rfl))) (fun _ _ _ _ _ => pts_nil) (fun _ _ _ _ _ => (pe_or (pe_callB (call_isDK K) (by rfl) m_isinstance (by decide +kernel) (pa_cons (pv 1) (pa_cons (pe_bltn (v := .ty "bool") (by rfl) m_bool (by decide +kernel) rfl) pa_nil))) (pe_one (pe_not (pe_callB (call_isDK K) (by rfl) m_isinstance (by decide +kernel) (pa_cons (pv 1) (pa_cons (pe_bltn (v := .ty "int") (by rfl) m_int (by decide +kernel) rfl) pa_nil)))))))) pa_nil)))
      (pss_one (ps_ret pe_bl))
      pss_nil)
    (pss_one (ps_ret (pe_and (pe_cmpR op_gt (pe_ix ix_any (pv 0) pe_int (fun _ _ => rfl)) pe_int (nomark _)) (pe_one (pe_cmpR (op_eqD hr.units) (pe_g g__law_low (hr.mono (by omega)) pass0 (pa_cons (pe_ix ix_any (pv 0) pe_int (fun _ _ => rfl)) (pa_cons (pe_ix ix_any (pv 0) pe_int (fun _ _ => rfl)) pa_nil))) (pv 0) (nomark _)))))))), ?_⟩
  cases hd with
  | tup hs ha =>
    rename_i a xs ds
    have hl := DpAll.len ha
    refine ⟨_, rfl, _, .tuple, _, rfl, .tup hs ha, _, rfl, iteF ?_⟩
    refine ⟨_, rfl, a, xs, rfl, .inr hs, rfl, _, rfl, ?_⟩
    by_cases h2 : ds.length = 2
    case neg =>
      have q := q H (Same.refl _)
      rw [ratD_len h2] at q
      refine ite_of (by rw [decide_eq_false]; rfl; intro z; have := V.int.inj z; omega) ?_
      exact q
    refine ite_no (by rw [decide_eq_true]; rfl; rw [hl, h2]; rfl) ?_
    obtain ⟨d1, d2, rfl⟩ := two_of h2
    obtain ⟨v1, v2, rfl, e1, e2⟩ := DpAll.two ha
    refine ⟨_, rfl, a, rfl, ⟨_, hs⟩, fun D nD => lc_pure walk_tup (fun i => .bl (!wholeD (([d1, d2] : List PyData).getD i .none))) nD (by show 2 ≤ 1000000; decide) (fun H' s => Same.tup s hs) YAt_same (fun i x H1 H' Kt hi s y k => ?_) (gName_mono 1) (fun H' s hD => ?_)⟩
    · obtain ⟨rfl, hx⟩ := y
      have key : ∃ d', ([d1, d2] : List PyData).getD i .none = d' ∧ Dp K H' x d' := by
        match i, hi, hx with
        | 0, _, hx => cases hx; exact ⟨d1, rfl, Dp.to s e1⟩
        | 1, _, hx => cases hx; exact ⟨d2, rfl, Dp.to s e2⟩
      obtain ⟨d', ed, hd'⟩ := key
      rw [ed] at k
      have ew : (!wholeD d') = (isT .bool d' || !isT .int d') := by cases d' <;> rfl
      rw [ew] at k
      refine ⟨rfl, _, rfl, _, .bool, d', rfl, hd', _, rfl, ?_⟩
      cases c : isT .bool d' with
      | true =>
        rw [c] at k
        exact iteT (k _ (Same.refl _))
      | false =>
        rw [c] at k
        exact iteF ⟨_, rfl, _, .int, d', rfl, hd', _, rfl, k _ (Same.refl _)⟩
    · refine ⟨D, [!wholeD d1, !wholeD d2], rfl, .inl (.inl hD), _, rfl, ?_⟩
      have q := fun H2 s2 => q H2 (s.trans s2)
      cases w1 : wholeD d1 with
      | false =>
        have q := q H' (Same.refl _)
        rw [ratD_two (by rw [w1]; rfl)] at q
        exact iteT q
      | true =>
        cases w2 : wholeD d2 with
        | false =>
          have q := q H' (Same.refl _)
          rw [ratD_two (by rw [w1, w2]; rfl)] at q
          exact iteT q
        | true =>
          refine iteF ?_
          cases e1 with
          | int i =>
            cases e2 with
            | int j =>
              have hs' := Same.tup s hs
              refine ⟨_, rfl, a, _, 1, _, rfl, rfl, .inr hs', rfl, _, _, rfl, rfl, _, rfl, ?_⟩
              have e : ratD (.tuple [.int i, .int j]) = (decide (0 < j) && decide (gcdZ i j = 1)) := rfl
              rw [e] at q
              cases c : decide ((0 : Int) < j) with
              | false =>
                rw [c] at q
                exact iteF (q _ (Same.refl _))
              | true =>
                rw [c] at q
                have hj : 0 < j := of_decide_eq_true c
                obtain ⟨b1, b2⟩ := hbd i j rfl
                refine iteT ⟨_, rfl, a, _, 0, _, rfl, rfl, .inr hs', rfl, _, rfl, a, _, 1, _, rfl, rfl, .inr hs', rfl, 8000, i, j, rfl, b1, b2, Nat.le_refl _, by omega, fun v H3 s3 hv => ?_⟩
                refine ⟨_, rfl, _, dR (i, j), hv, Dp.ratOf (r := (i, j)) (Same.tup s3 hs'), rfl, rfl, ?_⟩
                rw [low_one hj]
                exact q _ s3
            | _ => cases w2
          | _ => cases w1
  | non => exact ⟨_, rfl, _, .tuple, _, rfl, .non, _, rfl, iteT (q _ (Same.refl _))⟩
  | bl b => exact ⟨_, rfl, _, .tuple, _, rfl, .bl b, _, rfl, iteT (q _ (Same.refl _))⟩
  | int b => exact ⟨_, rfl, _, .tuple, _, rfl, .int b, _, rfl, iteT (q _ (Same.refl _))⟩
  | str b => exact ⟨_, rfl, _, .tuple, _, rfl, .str b, _, rfl, iteT (q _ (Same.refl _))⟩
  | lst h a => exact ⟨_, rfl, _, .tuple, _, rfl, .lst h a, _, rfl, iteT (q _ (Same.refl _))⟩
end
end Fs
set_option Elab.async false
set_option linter.all false
set_option maxRecDepth 100000
set_option maxHeartbeats 8000000
namespace Fs
open PySem PySem.Spec PyProof.Rows L2
section
variable {X : Cx}
theorem pe_try {c P c1 c2 c3 : Addr} {k : Nat} {params : Arguments} {body : Expr} {scope : Scope} {t : XK → TE} {p lpos pos : Pos} (Gt : Gs X.K X.mg "_law_try" s__law_try) (Gf : Gs X.K X.mg "_law_field" s__law_field)
    (m1 : X.mg "FrameError" = some (.ref c1)) (m2 : X.mg "Missing" = some (.ref c2)) (m3 : X.mg "NothingLeft" = some (.ref c3)) (TB : LamX.TabB X.base X.mg c P) (hcode : X.env.code = .ref c) (hr : Room (k + 3) X.A)
    (hbody : ∀ (A : Around) (outer : List Env) (s : Shared) (H : Hp) (E : XK) (f c' : Addr), Room (k + 1) (A.deeper (LamX.lamEnv X scope s.heap.objs.size f c')) → PE (LamX.lamCx X A outer s H E scope f c') body (t E))
    (hg : Gl X "_law_try" := by rfl) (L : LamX.LamS X.env.scope scope := by exact LamX.lamS_by (by rfl)) (hdef : defaultsOf params X.env = ([], []) := by rfl)
    (hbind : ∀ (q : Str) (cl : List (Str × Addr)) (pm cv ctv : Value), bindArgs (PySem.W.kla_fn "<lambda>" q params body scope cl pm cv ctv) ⟨[], []⟩ = pure [] := by intros; rfl) :
    PE X (.Call (.Name "_law_try" p) [.Lambda params body scope lpos] [] pos) (LamX.tLam [(P, X.env.qual ++ "<lambda>")] (TTry X.K c1 c2 c3) t) := by
  obtain ⟨g, fd, mT, D⟩ := Gt
  obtain ⟨fF, fdF, mF, DF⟩ := Gf
  have hb := D.bindsN (ps := P__law_try) fun _ _ _ _ _ _ us hl => match us, hl with | [_], _ => rfl
  obtain ⟨oc, od, dV, kV, doc, pm, an, cdv, ct, osl, rfl, lk, hcd, _, _⟩ := D.ex
  refine LamX.pe_lamcall (T := [(P, X.env.qual ++ "<lambda>")]) (TT := TTry X.K c1 c2 c3) (k := k + 1) (a := "_law_ask") (Ng := N__law_try) hg mT D.kp lk hcd hb sc__law_try rfl (by first | exact .inl rfl | exact rfl | decide +kernel) ?_ TB hcode List.mem_cons_self (fun q hq _ => ?_) hr L hdef hbind hbody
  · exact gives_try m1 m2 m3 mF DF.kp DF fun l => (L2H.roomH_of ((hr.mono (by omega : k + 1 + 1 ≤ k + 3)).deeper _)).mono (by omega)
  · rcases List.mem_cons.mp hq with e | e
    · rw [e]
    · cases e
end
/-- THE RULE for a def whose code object is told -/
theorem FunD_okC {P : Program} {w : World} {K : Frag} {mg : Str → Option Value} {base : Heap} {x qual : Str} {params : Arguments} {body : List Stmt} {scope : Scope} {dvs : List V} {kws : List (Str × V)} {f : Addr} {fd : FuncData} {CX : CXT} {N ps : List Str} {k : Nat} {sp : Sp} {d : He.Defn}
    (F : FunD K x qual params body scope dvs kws f fd) (hd : He.fAd K d = f) (S : FnScope N ps scope) (len : ∀ vs H Q E, sp vs H Q E → vs.length = ps.length)
    (hbody : ∀ (A : Around) (outer : List Env) (s : Shared) (H : Hp) (vs : List V) (Q : VK) (E : XK), Room k (A.deeper (envOfC qual scope s.heap.objs.size f (.ref (He.cT K d).1))) → sp vs H Q E →
      ∃ t, PSs (cxOf CX P w K mg base N qual scope f (.ref (He.cT K d).1) A outer s H E) body t ∧ t { nx := fun _ H' => Q .non H', rt := Q } (L2.start N vs) H) : FnOk P w K mg base CX (k + 1) f fd ps sp := by
  obtain ⟨oc, od, dV, kV, doc, pm, an, cdv, ct, osl, rfl, lk, hcd, _, _⟩ := F.ex
  obtain ⟨c, rfl⟩ := He.codeIn_ref hcd
  have e : (He.cT K d).1 = c := He.codeOf_eq (by rw [hd]; exact lk) rfl
  rw [e] at hbody
  exact fn_of lk hcd S len fun A outer s H vs Q E hr hsp => hbody A outer s H vs Q E hr hsp
theorem FunD_okC0 {P : Program} {w : World} {K : Frag} {mg : Str → Option Value} {base : Heap} {x qual : Str} {params : Arguments} {body : List Stmt} {scope : Scope} {dvs : List V} {kws : List (Str × V)} {f : Addr} {fd : FuncData} {N ps : List Str} {k : Nat} {sp : Sp} {d : He.Defn}
    (F : FunD K x qual params body scope dvs kws f fd) (hd : He.fAd K d = f) (S : FnScope N ps scope) (len : ∀ vs H Q E, sp vs H Q E → vs.length = ps.length)
    (hbody : ∀ (A : Around) (outer : List Env) (s : Shared) (H : Hp) (vs : List V) (Q : VK) (E : XK), Room k (A.deeper (envOfC qual scope s.heap.objs.size f (.ref (He.cT K d).1))) → sp vs H Q E →
      ∃ t, PSs (cxOf CX0 P w K mg base N qual scope f (.ref (He.cT K d).1) A outer s H E).nox body t ∧ t { nx := fun _ H' => Q .non H', rt := Q } (L2.start N vs) H) : FnOk P w K mg base CX0 (k + 1) f fd ps sp := by
  refine FunD_okC F hd S len fun A outer s H vs Q E hr h => ?_
  obtain ⟨t, h1, h2⟩ := hbody A outer s H vs Q E hr h
  exact ⟨t, h1.nox, h2⟩
/-- law's promise where it makes lambdas: its table, empty -/
def spLawT (K : Frag) (P : Addr) : Sp := fun vs H Q _ => ∃ (a : Addr) (ns : List Int), vs = [.ref a] ∧ SqL K H a (ns.map V.int) ∧ ns.length ≤ 63 ∧ H P = some (.tbl #[]) ∧ ∀ H', Q (.bl true) H'
theorem Imm.extN {H H' : Hp} (e : LamX.ExtN H H') : Imm H H' := fun b xs h => by
  rcases h with h | ⟨o, h⟩
  · exact .inl (e _ _ h fun ps z => by cases z)
  · exact .inr ⟨o, e _ _ h fun ps z => by cases z⟩
theorem BagAt.extN {H H' : Hp} {p l : Addr} (B : BagAt H p l) (e : LamX.ExtN H H') : BagAt H' p l := by
  obtain ⟨i, r, s, ns, a, b, c⟩ := B.ex
  exact ⟨i, r, s, ns, e _ _ a (fun ps z => by cases z), e _ _ b (fun ps z => by cases z), c⟩
theorem Tabs_same {T : List (Addr × Str)} {H H' : Hp} (t : LamX.Tabs T H) (s : Same H H') : LamX.Tabs T H' := t.ext s
theorem Tabs_sx {T : List (Addr × Str)} {H H' : Hp} {p l : Addr} (t : LamX.Tabs T H) (B : BagAt H p l) (s : SameX p H H') : LamX.Tabs T H' := fun q hq => by
  obtain ⟨ps, h1, h2, h3⟩ := t q hq
  obtain ⟨i, r, sd, ns, hp, _⟩ := B.ex
  have nt : q.1 ≠ p := fun z => by
    rw [z, hp] at h1
    cases h1
  refine ⟨ps, s.at nt h1, h2, fun pos cv hc => ?_⟩
  obtain ⟨c, e1, e2⟩ := h3 pos cv hc
  have nc : c ≠ p := fun z => by
    rw [z, hp] at e2
    have z2 := Option.some.inj e2
    unfold LamX.CodeO at z2
    cases z2
  exact ⟨c, e1, s.at nc e2⟩
/-- what stands at a law's level: the bag, the tables -/
structure Lv (T : List (Addr × Str)) (H : Hp) (p l : Addr) : Prop where
  bag : BagAt H p l
  tab : LamX.Tabs T H
theorem Lv.to {T : List (Addr × Str)} {H H' : Hp} {p l : Addr} (L : Lv T H p l) (s : Same H H') : Lv T H' p l := ⟨L.bag.to s, Tabs_same L.tab s⟩
theorem Lv.sx {T : List (Addr × Str)} {H H' : Hp} {p l : Addr} (L : Lv T H p l) (s : SameX p H H') (B : BagAt H' p l) : Lv T H' p l := ⟨B, Tabs_sx L.tab L.bag s⟩
theorem Lv.extN {T : List (Addr × Str)} {H H' : Hp} {p l : Addr} (L : Lv T H p l) (s : LamX.ExtN H H') (t : LamX.Tabs T H') : Lv T H' p l := ⟨L.bag.extN s, t⟩
theorem imm_sx {T : List (Addr × Str)} {H H' : Hp} {p l : Addr} (L : Lv T H p l) (s : SameX p H H') : Imm H H' := Imm.bag s L.bag
/-- the tables at the law's begin -/
theorem tabs_nil {H : Hp} {P : Addr} {q : Str} (h : H P = some (.tbl #[])) : LamX.Tabs [(P, q)] H := fun x hx => by
  rcases List.mem_cons.mp hx with e | e
  · rw [e]
    exact LamX.TabS.nil h
  · cases e
/-- _law_try's pair, as a datum -/
theorem pair_dp {K : Frag} {H : Hp} {x : Str} {v : V} {d : PyData} {Q : VK} (hd : Dp K H v d) (q : ∀ u H', Same H H' → Dp K H' u (.tuple [.str x, d]) → Q u H') : Pair2 H (.str x) v Q :=
  ⟨(by show 2 ≤ sizeLine; decide), fun p H' np s hp => q _ _ s (.tup (.inl (.inl hp)) (.cons (.str x) (.cons (Dp.to s hd) .nil)))⟩
/-- the continuation named once -/
theorem ttry_gen {K : Frag} {c1 c2 c3 : Addr} {tl : XK → Hp → VK → Prop} {H : Hp} {Q : VK} (d : PyData) (h : ∀ Q2 : VK, (∀ u H', Same H H' → Dp K H' u d → Q2 u H') → TTry K c1 c2 c3 tl H Q2) (hq : ∀ u H', Same H H' → Dp K H' u d → Q u H') : TTry K c1 c2 c3 tl H Q := h Q hq
theorem atLV {K : Frag} {H : Hp} {a : Addr} {xs : List V} {ds : List PyData} (h : H a = some (.lst xs)) (d : DpAll K H xs ds) : Dp K H (.ref a) (.list ds) := .lst (at_z h) d
theorem atTV {K : Frag} {H : Hp} {a : Addr} {xs : List V} {ds : List PyData} (h : H a = some (.tup xs)) (d : DpAll K H xs ds) : Dp K H (.ref a) (.tuple ds) := .tup (.inl (.inl h)) d
theorem iteB {c : Bool} {A B : Prop} (h1 : c = true → A) (h2 : c = false → B) : if c = true then A else B := by
  cases c with
  | true => exact iteT (h1 rfl)
  | false => exact iteF (h2 rfl)
theorem gName_go {i : Nat} {v : V} {σ : L2.St} {H : Hp} {Q : L2.St → Hp → Prop} (h : Q (σ.set i (some v)) H) : gName i v σ H Q := h
end Fs
set_option Elab.async false
set_option linter.all false
set_option maxRecDepth 100000
set_option maxHeartbeats 8000000
namespace Fs
open PySem PySem.Spec PyProof.Rows L2
abbrev s__law_ratio : Stmt := top 30
abbrev N__law_ratio : List Str := ["_law_bag_here", "_law_size"]
abbrev P__law_ratio : List Str := ["_law_bag_here"]
theorem sc__law_ratio : FnScope N__law_ratio P__law_ratio (defScope s__law_ratio) := ⟨rfl, rfl, rfl, by decide +kernel, rfl, by decide +kernel, by decide +kernel⟩
section
variable {P : Program} {w : World} {K : Frag} {mg : Str → Option Value} {base : Heap}
theorem bd50 {z : Int} (h1 : -(2 ^ 45) < z) (h2 : z < 2 ^ 45) : Bd 50 z := by
  unfold Bd
  omega
/-- a drawn fraction -/
def spDraw (K : Frag) : Sp := fun vs H Q _ => ∃ p l : Addr, vs = [.ref p] ∧ BagAt H p l ∧ ∀ (v : V) (r : Int × Int) H', SameX p H H' → BagAt H' p l → Low r → BdR 50 r → Dp K H' v (dR r) → Q v H'
theorem ok__law_ratio (G : Gs K mg "_law_ratio" s__law_ratio) (g__law_low : Gd P w K mg base CX0 1 "_law_low" P__law_low (spLow K)) (g__law_pull : Gd P w K mg base CX0 1 "_law_pull" P__law_pull spPull) (g__law_of : Gd P w K mg base CX0 2 "_law_of" P__law_of (spOf K)) : Gd P w K mg base CX0 3 "_law_ratio" P__law_ratio (spDraw K) := by
  refine G.ok sc__law_ratio (fun vs H Q E h => ?_) (fun _ _ _ _ _ _ us hl => match us, hl with | [_], _ => rfl) (fun f cdv A outer s H vs Q E hr h => ?_)
  · obtain ⟨_, _, rfl, _⟩ := h
    rfl
  obtain ⟨p, l, rfl, B, q⟩ := h
  refine ⟨_, (pss_cons (ps_set (i := 1) sc__law_ratio.nd rfl (.inl rfl) (pe_g g__law_of (hr.mono (by omega)) pass0 (pa_cons (pv 0) (pa_cons (pe_lstN (pa_cons pe_int (pa_cons pe_int (pa_cons pe_int (pa_cons (pe_op op_sub (pe_op op_pow pe_int pe_int) pe_int) pa_nil))))) pa_nil))))
    (pss_one (ps_ret (pe_g g__law_low (hr.mono (by omega)) pass0 (pa_cons (pe_op op_sub (pe_g g__law_pull (hr.mono (by omega)) pass0 (pa_cons (pv 0) (pa_cons (pe_op op_add (pe_op op_mulW pe_int (pv 1)) pe_int) pa_nil))) (pv 1)) (pa_cons (pe_op op_add pe_int (pe_g g__law_pull (hr.mono (by omega)) pass0 (pa_cons (pv 0) (pa_cons (pe_g g__law_of (hr.mono (by omega)) pass0 (pa_cons (pv 0) (pa_cons (pe_lstN (pa_cons pe_int (pa_cons pe_int (pa_cons (pv 1) pa_nil)))) pa_nil))) pa_nil)))) pa_nil)))))), ?_⟩
  refine ⟨_, rfl, _, _, rfl, rfl, ⟨by decide, by decide, by decide⟩, _, _, rfl, rfl, (by show 4 ≤ sizeLine; decide), fun a1 H1 n1 s1 h1 => ?_⟩
  have B1 := B.to s1
  refine ⟨p, l, a1, _, rfl, B1, .inl (at_z (by rw [Hx.ne (B.ne n1)]; exact h1)), (by simp), (by decide), fun x hx H2 sx2 B2 => ?_⟩
  have key : ∃ z : Int, x = .int z ∧ 1 ≤ z ∧ z < 1000000000000 := by
    have hx' : x = .int 4 ∨ x = .int 12 ∨ x = .int 1000 ∨ x = .int (10 ^ 12 - 1) := by simpa using hx
    rcases hx' with rfl | rfl | rfl | rfl
    · exact ⟨_, rfl, by decide, by decide⟩
    · exact ⟨_, rfl, by decide, by decide⟩
    · exact ⟨_, rfl, by decide, by decide⟩
    · exact ⟨_, rfl, by decide, by decide⟩
  obtain ⟨z, rfl, z1, z2⟩ := key
  have zb : Bd 50 z := bd50 (by omega) (by omega)
  refine ⟨_, rfl, _, rfl, _, _, rfl, rfl, Bd.mulOk (m := 50) (n := 50) (bd50 (by decide) (by decide)) zb (by omega), _, _, rfl, rfl, p, l, _, rfl, B2, by omega, by omega, fun r1 H3 r1a r1b sx3 B3 => ?_⟩
  refine ⟨_, rfl, _, _, rfl, rfl, ?_⟩
  refine ⟨_, rfl, _, rfl, _, rfl, (by show 3 ≤ sizeLine; decide), fun a2 H4 n4 s4 h4 => ?_⟩
  have B4 := B3.to s4
  refine ⟨p, l, a2, _, rfl, B4, .inl (at_z (by rw [Hx.ne (B3.ne n4)]; exact h4)), (by simp), (by show (3 : Int) < 2 ^ 100; decide), fun y hy H5 sx5 B5 => ?_⟩
  have key2 : ∃ z2 : Int, y = .int z2 ∧ 1 ≤ z2 ∧ z2 < 1000000000000 := by
    have hy' : y = .int 1 ∨ y = .int 6 ∨ y = .int z := by simpa using hy
    rcases hy' with rfl | rfl | rfl
    · exact ⟨_, rfl, by decide, by decide⟩
    · exact ⟨_, rfl, by decide, by decide⟩
    · exact ⟨_, rfl, z1, z2⟩
  obtain ⟨y, rfl, y1, y2⟩ := key2
  refine ⟨p, l, _, rfl, B5, by omega, by omega, fun r2 H6 r2a r2b sx6 B6 => ?_⟩
  refine ⟨_, _, rfl, rfl, 50, _, _, rfl, bd50 (by omega) (by omega), bd50 (by omega) (by omega), by omega, by omega, fun v H7 s7 hv => ?_⟩
  have b1 : Bd 50 (r1 - z) := bd50 (by omega) (by omega)
  have b2 : Bd 50 (1 + r2) := bd50 (by omega) (by omega)
  exact q v _ H7 (((SameX.same s1).trans sx2).trans (sx3.trans ((SameX.same s4).trans (sx5.trans (sx6.trans (SameX.same s7)))))) (B6.to s7) (low_Low (by omega)) (low_bd (by omega) b1 b2) hv
theorem fit3_pair {x : PyData} {n : Nat} (z : Str) (h : Fit (n + 1) x) : Fit (n + 2) (.tuple [.str z, x]) := ⟨(by show 2 ≤ 1000000; decide), fun e he => by
  have q : e = .str z ∨ e = x := by simpa [itemsD] using he
  rcases q with rfl | rfl
  · exact ⟨(by show 0 ≤ 1000000; decide), fun _ h => by simp [itemsD] at h⟩
  · exact h⟩
theorem fit_flat {d : PyData} (h : itemsD d = []) (n : Nat) : Fit (n + 1) d := ⟨by rw [h]; show 0 ≤ 1000000; decide, fun e he => by rw [h] at he; cases he⟩
/-- what a law awaits of an InvalidRatio or a value -/
def dueD (b : Bool) (r : Int × Int) : PyData := if b = true then .tuple [.str "InvalidRatio", .none] else .tuple [.str "value", dR r]
theorem dueD_t {r : Int × Int} : dueD true r = .tuple [.str "InvalidRatio", .none] := rfl
theorem dueD_f {r : Int × Int} : dueD false r = .tuple [.str "value", dR r] := rfl
theorem fit_due (b : Bool) (r : Int × Int) : Fit 3 (dueD b r) := by
  cases b with
  | true => exact fit3_pair _ (fit_flat rfl 1)
  | false => exact fit3_pair _ (fit_rat r)
def toldD (r s : Int × Int) (t : Int) : PyData := .list [dR (plusR r s), dR (minusR r s), dR (timesR r s), .bool (lessR r s), dR (t, 1)]
theorem fit_told (r s : Int × Int) (t : Int) : Fit 3 (toldD r s t) := ⟨(by show 5 ≤ 1000000; decide), fun e he => by
  have q : e = dR (plusR r s) ∨ e = dR (minusR r s) ∨ e = dR (timesR r s) ∨ e = .bool (lessR r s) ∨ e = dR (t, 1) := by simpa [itemsD, toldD] using he
  rcases q with rfl | rfl | rfl | rfl | rfl
  · exact fit_rat _
  · exact fit_rat _
  · exact fit_rat _
  · exact fit_flat rfl 1
  · exact fit_rat _⟩
theorem low_by1 (t : Int) : low t 1 = (t, 1) := low_of (r := (t, 1)) ⟨(by show (0 : Int) < 1; decide), Nat.gcd_one_right _⟩
def gBT {α : Type} (_ _ ws : List α) : List α := match ws with | [b, t] => [t, b] | _ => []
abbrev tabK (K : Frag) : Addr := (He.cT K ("law", none)).2
abbrev s_law : Stmt := top 31
abbrev N_law : List Str := ["_law_script", "_law_bag_here", "_law_turn", "_law_one", "_law_other", "_law_bottom_z", "_law_top_z", "_law_due", "_law_told", "_law_odd"]
abbrev P_law : List Str := ["_law_script"]
theorem sc_law : FnScope N_law P_law (defScope s_law) := ⟨rfl, rfl, rfl, by decide +kernel, rfl, by decide +kernel, by decide +kernel⟩
theorem ok_law {fd : FuncData} {c1 c2 c3 CI aZ aO : Addr} (D : FunD K "law" "law" (defArgs s_law) (defBody s_law) (defScope s_law) [] [] (He.ga K "law") fd) (TB : LamX.TabB base mg (He.cT K ("law", none)).1 (tabK K))
    (Gt : Gs K mg "_law_try" s__law_try) (Gf : Gs K mg "_law_field" s__law_field) (m1 : mg "FrameError" = some (.ref c1)) (m2 : mg "Missing" = some (.ref c2)) (m3 : mg "NothingLeft" = some (.ref c3)) (T : ErrC K CI) (cx : PySem.W.exmAny K (.ref CI) [.ref c1, .ref c2, .ref c3] = some true)
    (g__law_bag : Gd P w K mg base CX0 1 "_law_bag" P__law_bag (spBag K)) (g__law_pull : Gd P w K mg base CX0 1 "_law_pull" P__law_pull spPull) (g__law_of : Gd P w K mg base CX0 2 "_law_of" P__law_of (spOf K)) (g__law_same : Gd P w K mg base CX0 4 "_law_same" P__law_same (spSame K 3))
    (g__law_ratio : Gd P w K mg base CX0 3 "_law_ratio" P__law_ratio (spDraw K)) (g__law_low : Gd P w K mg base CX0 1 "_law_low" P__law_low (spLow K)) (g__law_plus : Gd P w K mg base CX0 2 "_law_plus" P__law_plus (spTwo K plusR)) (g__law_minus : Gd P w K mg base CX0 2 "_law_minus" P__law_minus (spTwo K minusR)) (g__law_times : Gd P w K mg base CX0 2 "_law_times" P__law_times (spTwo K timesR)) (g__law_less : Gd P w K mg base CX0 1 "_law_less" P__law_less (spLess K)) (g__law_is_low : Gd P w K mg base CX0 2 "_law_is_low" P__law_is_low (spIsLow K))
    (k_ratio : Gk P w K mg base (L2.CX P w) 3 "ratio" 0 ["bottom", "top"] (fun vs zs => gBT vs [.int 1] zs) P_ratio (spRatio K CI)) (d_ratio : Gdd P w K mg base (L2.CX P w) 3 "ratio" P_ratio [.int 1] (spRatio K CI)) (g_plus : Gd P w K mg base CX0 4 "plus" P_plus (spTwo K plusR)) (g_minus : Gd P w K mg base CX0 4 "minus" P_minus (spTwo K minusR)) (g_times : Gd P w K mg base CX0 4 "times" P_times (spTwo K timesR)) (g_over : Gd P w K mg base (L2.CX P w) 4 "over" P_over (spOver K CI)) (g_is_less : Gd P w K mg base CX0 1 "is_less" P_is_less (spLess K)) (g_is_ratio : Gd P w K mg base CX0 2 "is_ratio" P_is_ratio (spIsRatio K))
    (m_range : mg "range" = none) (cZ : mg "ZERO" = some (.ref aZ)) (tZ : ∀ H, SqT K H aZ [.int 0, .int 1]) (cO : mg "ONE" = some (.ref aO)) (tO : ∀ H, SqT K H aO [.int 1, .int 1]) : FnOk P w K mg base CX0 8 (He.ga K "law") fd P_law (spLawT K (tabK K)) := by
  refine FunD_okC0 (d := ("law", none)) D rfl sc_law (fun vs H Q E h => ?_) (fun A outer s H vs Q E hr h => ?_)
  · obtain ⟨a, ns, rfl, _⟩ := h
    rfl
  obtain ⟨a, ns, rfl, hS, hl, hP, q⟩ := h
  refine ⟨_, (pss_cons (ps_set (i := 1) sc_law.nd rfl (.inl rfl) (pe_g g__law_bag (hr.mono (by omega)) pass0 (pa_cons (pv 0) pa_nil)))
    (pss_cons (ps_for PassesOwn.never rfl (pi_range1 (by rfl) m_range (pa_cons pe_int pa_nil)) (pg_name (i := 2) sc_law.nd rfl (.inl rfl))
      (pss_cons (ps_asg (pe_tupN (pa_cons (pe_g g__law_ratio (hr.mono (by omega)) pass0 (pa_cons (pv 1) pa_nil)) (pa_cons (pe_g g__law_ratio (hr.mono (by omega)) pass0 (pa_cons (pv 1) pa_nil)) pa_nil))) (pg_tup (by rfl) (pgs_cons (pg_name (i := 3) sc_law.nd rfl (.inr rfl)) (pgs_cons (pg_name (i := 4) sc_law.nd rfl (.inr rfl)) pgs_nil))))
      (pss_cons (ps_set (i := 5) sc_law.nd rfl (.inr rfl) (pe_g g__law_of (hr.mono (by omega)) pass0 (pa_cons (pv 1) (pa_cons (pe_lstN (pa_cons pe_int (pa_cons (pe_un un_neg pe_int) (pa_cons (pe_ix ix_tup (pv 4) pe_int (fun _ _ => rfl)) (pa_cons (pe_op op_sub pe_int (pe_ix ix_tup (pv 3) pe_int (fun _ _ => rfl))) (pa_cons (pe_g g__law_pull (hr.mono (by omega)) pass0 (pa_cons (pv 1) (pa_cons (pe_op op_pow pe_int pe_int) pa_nil))) pa_nil)))))) pa_nil))))
      (pss_cons (ps_set (i := 6) sc_law.nd rfl (.inr rfl) (pe_g g__law_of (hr.mono (by omega)) pass0 (pa_cons (pv 1) (pa_cons (pe_lstN (pa_cons pe_int (pa_cons (pe_ix ix_tup (pv 3) pe_int (fun _ _ => rfl)) (pa_cons (pe_ix ix_tup (pv 4) pe_int (fun _ _ => rfl)) (pa_cons (pe_op op_sub (pe_g g__law_pull (hr.mono (by omega)) pass0 (pa_cons (pv 1) (pa_cons (pe_op op_pow pe_int pe_int) pa_nil))) (pe_op op_pow pe_int pe_int)) pa_nil))))) pa_nil))))
      (pss_cons (ps_set (i := 7) sc_law.nd rfl (.inl rfl) (pe_ifExp (pt_cmpR op_eq (pv 5) pe_int (nomark _)) (pe_tupN (pa_cons pe_str (pa_cons pe_non pa_nil))) (pe_tupN (pa_cons pe_str (pa_cons (pe_ifExp (pt_cmpR op_ne (pv 5) pe_int (nomark _)) (pe_g g__law_low (hr.mono (by omega)) pass0 (pa_cons (pv 6) (pa_cons (pv 5) pa_nil))) pe_int) pa_nil)))))
      (pss_cons (ps_if (pt_not (pt_val (pe_g g__law_same (hr.mono (by omega)) pass0 (pa_cons (pe_try (k := 4) Gt Gf m1 m2 m3 TB rfl (hr.mono (by omega)) (fun A outer s H E f c' hr' => pe_gk0 k_ratio (hr'.mono (by omega)) (passE (takes_of rfl rfl rfl rfl)) (pk_cons (pv 5) (pk_cons (pv 6) pk_nil)))) (pa_cons (pv 7) pa_nil)))))
        (pss_one (ps_ret pe_bl))
        pss_nil)
      (pss_cons (ps_set (i := 8) sc_law.nd rfl (.inl rfl) (pe_lstN (pa_cons (pe_g g_plus (hr.mono (by omega)) pass0 (pa_cons (pv 3) (pa_cons (pv 4) pa_nil))) (pa_cons (pe_g g_minus (hr.mono (by omega)) pass0 (pa_cons (pv 3) (pa_cons (pv 4) pa_nil))) (pa_cons (pe_g g_times (hr.mono (by omega)) pass0 (pa_cons (pv 3) (pa_cons (pv 4) pa_nil))) (pa_cons (pe_g g_is_less (hr.mono (by omega)) pass0 (pa_cons (pv 3) (pa_cons (pv 4) pa_nil))) (pa_cons (pe_gd d_ratio (hr.mono (by omega)) passL (pa_cons (pv 6) pa_nil)) pa_nil)))))))
      (pss_cons (ps_set (i := 7) sc_law.nd rfl (.inl rfl) (pe_lstN (pa_cons (pe_g g__law_plus (hr.mono (by omega)) pass0 (pa_cons (pv 3) (pa_cons (pv 4) pa_nil))) (pa_cons (pe_g g__law_minus (hr.mono (by omega)) pass0 (pa_cons (pv 3) (pa_cons (pv 4) pa_nil))) (pa_cons (pe_g g__law_times (hr.mono (by omega)) pass0 (pa_cons (pv 3) (pa_cons (pv 4) pa_nil))) (pa_cons (pe_g g__law_less (hr.mono (by omega)) pass0 (pa_cons (pv 3) (pa_cons (pv 4) pa_nil))) (pa_cons (pe_tupN (pa_cons (pv 6) (pa_cons pe_int pa_nil))) pa_nil)))))))
      (pss_cons (ps_if (pt_not (pt_val (pe_g g__law_same (hr.mono (by omega)) pass0 (pa_cons (pv 8) (pa_cons (pv 7) pa_nil)))))
        (pss_one (ps_ret pe_bl))
        pss_nil)
      (pss_cons (ps_set (i := 7) sc_law.nd rfl (.inl rfl) (pe_tupN (pa_cons pe_str (pa_cons pe_non pa_nil))))
      (pss_cons (ps_if (pt_cmpR op_ne (pe_ix ix_tup (pv 4) pe_int (fun _ _ => rfl)) pe_int (nomark _))
        (pss_one (ps_set (i := 7) sc_law.nd rfl (.inl rfl) (pe_tupN (pa_cons pe_str (pa_cons (pe_g g__law_low (hr.mono (by omega)) pass0 (pa_cons (pe_op op_mulW (pe_ix ix_tup (pv 3) pe_int (fun _ _ => rfl)) (pe_ix ix_tup (pv 4) pe_int (fun _ _ => rfl))) (pa_cons (pe_op op_mulW (pe_ix ix_tup (pv 3) pe_int (fun _ _ => rfl)) (pe_ix ix_tup (pv 4) pe_int (fun _ _ => rfl))) pa_nil))) pa_nil)))))
        pss_nil)
      (pss_cons (ps_if (pt_not (pt_val (pe_g g__law_same (hr.mono (by omega)) pass0 (pa_cons (pe_try (k := 4) Gt Gf m1 m2 m3 TB rfl (hr.mono (by omega)) (fun A outer s H E f c' hr' => pe_g g_over (hr'.mono (by omega)) (passE (takes_of rfl rfl rfl rfl)) (pa_cons (pv 3) (pa_cons (pv 4) pa_nil)))) (pa_cons (pv 7) pa_nil)))))
        (pss_one (ps_ret pe_bl))
        pss_nil)
      (pss_cons (ps_set (i := 9) sc_law.nd rfl (.inl rfl) (pe_g g__law_of (hr.mono (by omega)) pass0 (pa_cons (pv 1) (pa_cons (pe_lstN (pa_cons pe_non (pa_cons pe_int (pa_cons (pe_tupN (pa_cons pe_int (pa_cons pe_int (pa_cons pe_int pa_nil)))) (pa_cons (pe_lstN (pa_cons pe_int (pa_cons pe_int pa_nil))) (pa_cons (pe_tupN (pa_cons pe_int (pa_cons pe_int pa_nil))) (pa_cons (pe_tupN (pa_cons pe_int (pa_cons pe_int pa_nil))) (pa_cons (pe_tupN (pa_cons pe_int (pa_cons (pe_un un_neg pe_int) pa_nil))) (pa_cons (pe_tupN (pa_cons pe_int (pa_cons pe_int pa_nil))) (pa_cons (pe_tupN (pa_cons pe_str (pa_cons pe_int pa_nil))) (pa_cons (pe_tupN (pa_cons pe_int (pa_cons pe_bl pa_nil))) (pa_cons (pv 3) (pa_cons (pe_tupN pa_nil) pa_nil))))))))))))) pa_nil))))
      (pss_one (ps_if (pt_not (pt_val (pe_g g__law_same (hr.mono (by omega)) pass0 (pa_cons (pe_g g_is_ratio (hr.mono (by omega)) pass0 (pa_cons (pv 9) pa_nil)) (pa_cons (pe_g g__law_is_low (hr.mono (by omega)) pass0 (pa_cons (pv 9) pa_nil)) pa_nil)))))
        (pss_one (ps_ret pe_bl))
        pss_nil)))))))))))))))
    (pss_one (ps_ret (pe_and (pe_cmpR (op_eqD hr.units) (pe_glob (v := .ref aZ) (by rfl) cZ rfl) (pe_tupN (pa_cons pe_int (pa_cons pe_int pa_nil))) (nomark _)) (pe_one (pe_cmpR (op_eqD hr.units) (pe_glob (v := .ref aO) (by rfl) cO rfl) (pe_tupN (pa_cons pe_int (pa_cons pe_int pa_nil))) (nomark _)))))))), ?_⟩
  refine ⟨_, rfl, a, ns, rfl, hS, fun p l H1 np s1 B1 => ?_⟩
  have L1 : Lv [(tabK K, "law.<locals>.<lambda>")] H1 p l := ⟨B1, tabs_nil (s1 _ _ hP)⟩
  refine ⟨8, rfl, by decide, by decide, for_range (lo := 0) (fun i σ H' => ∃ v2 v3 v4 v5 v6 v7 v8 v9, σ = [some (.ref a), some (.ref p), v2, v3, v4, v5, v6, v7, v8, v9] ∧ Lv [(tabK K, "law.<locals>.<lambda>")] H' p l) ⟨none, none, none, none, none, none, none, none, rfl, L1⟩ ?_ ?_⟩
  case refine_2 =>
    rintro σ H' ⟨v2, v3, v4, v5, v6, v7, v8, v9, rfl, L⟩
    refine ⟨(by show 2 ≤ sizeLine; decide), fun z H2 nz s2 hz => ⟨dR (0, 1), dR (0, 1), Dp.ratOf (r := (0, 1)) (tZ H2), Dp.ratOf (r := (0, 1)) (.inl (.inl hz)), rfl, rfl, _, rfl, iteT ?_⟩⟩
    refine ⟨(by show 2 ≤ sizeLine; decide), fun z2 H3 nz2 s3 hz2 => ⟨dR (1, 1), dR (1, 1), Dp.ratOf (r := (1, 1)) (tO H3), Dp.ratOf (r := (1, 1)) (.inl (.inl hz2)), rfl, rfl, q _⟩⟩
  rintro i σ H2 hi ⟨v2, v3, v4, v5, v6, v7, v8, v9, rfl, L2⟩
  -- two fractions
  refine ⟨_, rfl, p, l, rfl, L2.bag, fun u1 r1 H3 sx3 B3 lo1 bd1 d1 => ?_⟩
  refine ⟨_, rfl, p, l, rfl, B3, fun u2 r2 H4 sx4 B4 lo2 bd2 d2 => ?_⟩
  have L4 := (L2.sx sx3 B3).sx sx4 B4
  have d1 := Dp.imm (Imm.bag sx4 B3) (noL_rat r1) d1
  refine ⟨(by show 2 ≤ sizeLine; decide), fun t H5 nt s5 ht => ?_⟩
  have L5 := L4.to s5
  have d1 := Dp.to s5 d1
  have d2 := Dp.to s5 d2
  refine ⟨t, _, rfl, .inl (.inl ht), rfl, _, _, rfl, _, _, rfl, rfl, ?_⟩
  obtain ⟨t1, rfl, q1⟩ := Dp.rat d1
  obtain ⟨t2, rfl, q2⟩ := Dp.rat d2
  clear d1 d2 ht nt s5 sx3 sx4 L4 B3 B4 t
  -- bottom
  refine ⟨_, rfl, _, rfl, _, rfl, t2, _, 0, _, rfl, rfl, q2, rfl, _, rfl, t1, _, 1, _, rfl, rfl, q1, rfl, _, _, rfl, rfl, _, rfl, _, _, rfl, rfl, ⟨by decide, by decide, by decide⟩, p, l, _, rfl, L5.bag, by decide, by decide, fun z H6 z0 z1 sx6 B6 => ?_⟩
  have L6 := L5.sx sx6 B6
  have J6 : Imm H5 H6 := Imm.bag sx6 L5.bag
  refine ⟨(by show 5 ≤ sizeLine; decide), fun x H7 nx s7 hx => ?_⟩
  have L7 := L6.to s7
  refine ⟨p, l, x, _, rfl, L7.bag, .inl (at_z (by rw [Hx.ne (B6.ne nx)]; exact hx)), (by simp), (by show (5 : Int) < 2 ^ 100; decide), fun y hy H8 sx8 B8 => ?_⟩
  have L8 := L7.sx sx8 B8
  have J8 : Imm H5 H8 := J6.trans ((Imm.same s7).trans (Imm.bag sx8 L7.bag))
  have key : ∃ bz : Int, y = .int bz ∧ Bd 51 bz := by
    have hy' : y = .int 1 ∨ y = .int (-1) ∨ y = .int r2.1 ∨ y = .int (0 - r1.2) ∨ y = .int z := by simpa using hy
    rcases hy' with rfl | rfl | rfl | rfl | rfl
    · exact ⟨_, rfl, (bd50 (by decide) (by decide)).mono (by omega)⟩
    · exact ⟨_, rfl, (bd50 (by decide) (by decide)).mono (by omega)⟩
    · exact ⟨_, rfl, bd2.1.mono (by omega)⟩
    · exact ⟨_, rfl, ((bd50 (z := 0) (by decide) (by decide)).sub bd1.2)⟩
    · exact ⟨_, rfl, (bd50 (by omega) (by have : (10 : Int) ^ 12 < 2 ^ 45 := by decide
                                          exact Int.lt_trans z1 this)).mono (by omega)⟩
  obtain ⟨bz, rfl, bb⟩ := key
  clear hy hx nx s7 sx8 L7 L6 J6 B6 sx6
  -- top
  have q1 := Imm.tup J8 q1
  have q2 := Imm.tup J8 q2
  refine ⟨_, rfl, _, rfl, t1, _, 0, _, rfl, rfl, q1, rfl, _, rfl, t2, _, 1, _, rfl, rfl, q2, rfl, _, rfl, _, _, rfl, rfl, ⟨by decide, by decide, by decide⟩, p, l, _, rfl, L8.bag, by decide, by decide, fun z2 H9 y0 y1 sx9 B9 => ?_⟩
  refine ⟨_, _, rfl, rfl, ⟨by decide, by decide, by decide⟩, _, _, rfl, rfl, (by show 4 ≤ sizeLine; decide), fun x H10 nx s10 hx => ?_⟩
  have L9 := L8.sx sx9 B9
  have L10 := L9.to s10
  refine ⟨p, l, x, _, rfl, L10.bag, .inl (at_z (by rw [Hx.ne (B9.ne nx)]; exact hx)), (by simp), (by show (4 : Int) < 2 ^ 100; decide), fun y hy H11 sx11 B11 => ?_⟩
  have L11 := L10.sx sx11 B11
  have J11 : Imm H8 H11 := (Imm.bag sx9 L8.bag).trans ((Imm.same s10).trans (Imm.bag sx11 L10.bag))
  have key : ∃ tz : Int, y = .int tz ∧ Bd 51 tz := by
    have hy' : y = .int 0 ∨ y = .int r1.1 ∨ y = .int r2.2 ∨ y = .int (z2 - 10 ^ 11) := by simpa using hy
    rcases hy' with rfl | rfl | rfl | rfl
    · exact ⟨_, rfl, (bd50 (by decide) (by decide)).mono (by omega)⟩
    · exact ⟨_, rfl, bd1.1.mono (by omega)⟩
    · exact ⟨_, rfl, bd2.2.mono (by omega)⟩
    · have e1 : (10 : Int) ^ 12 < 2 ^ 44 := by decide
      have e2 : (10 : Int) ^ 11 < 2 ^ 44 := by decide
      have y1' : z2 < (10 : Int) ^ 12 := y1
      exact ⟨_, rfl, (bd50 (by omega) (by omega)).mono (by omega)⟩
  obtain ⟨tz, rfl, bt⟩ := key
  clear hy hx nx s10 sx11 L10 L9 B9 sx9 y0 y1 z0 z1
  have q1 := Imm.tup J11 q1
  have q2 := Imm.tup J11 q2
  clear J11 J8 L8 B8
  generalize hbb : decide (bz = 0) = zb
  have ezb : decide (V.int bz = V.int 0) = zb := by
    rw [← hbb]
    by_cases h : bz = 0
    · rw [h]
      rfl
    · rw [decide_eq_false h, decide_eq_false]
      exact fun z => h (V.int.inj z)
  -- due
  refine gName_go (i := 6) (v := .int tz) ?_
  with_reducible show tSeq _ _ _ _ _
  refine seq_cut (fun σ' H' => ∃ v2 u, σ' = [some (.ref a), some (.ref p), v2, some (.ref t1), some (.ref t2), some (.int bz), some (.int tz), some u, v8, v9] ∧ Same H11 H' ∧ Dp K H' u (dueD zb (low tz bz))) (fun N hN => ?_) ?_
  · refine ⟨_, rfl, rfl, _, rfl, ?_⟩
    cases zb with
    | true =>
      exact ite_of ezb ⟨(by show 2 ≤ sizeLine; decide), fun d H' nd sd hd => hN _ _ ⟨_, _, rfl, sd, atTV hd (.cons (.str _) (.cons .non .nil))⟩⟩
    | false =>
      have hb : bz ≠ 0 := of_decide_eq_false hbb
      refine ite_no ezb ⟨_, rfl, rfl, _, rfl, ?_⟩
      refine ite_of (congrArg not ezb) ⟨_, rfl, _, rfl, 51, tz, bz, rfl, bt, bb, by omega, hb, fun v H' sv hv => ⟨(by show 2 ≤ sizeLine; decide), fun d H2 nd sd hd => hN _ _ ⟨_, _, rfl, sv.trans sd, atTV hd (.cons (.str _) (.cons (Dp.to sd hv) .nil))⟩⟩⟩
  rintro σ H12 ⟨v2', u7, rfl, s12, hu7⟩
  have L12 := L11.to s12
  have q1 := Same.tup s12 q1
  have q2 := Same.tup s12 q2
  -- ratio by name
  refine ⟨L12.tab, fun H13 e13 T13 => ttry_gen (dueD zb (low tz bz)) (fun Q2 hq2 => ?_) (fun u H14 s14 hu => ?_)⟩
  · refine ⟨_, rfl, _, rfl, rfl, rfl, 51, tz, bz, rfl, bt, bb, by omega, fun hb d H' nd hd sd => ?_, fun hb v H' sv hv => ?_⟩
    · have ez : zb = true := by rw [← hbb]; exact decide_eq_true hb
      refine ⟨CI, d, _, "InvalidRatio", .non, rfl, rfl, cx, ⟨T.ex, hd, rfl, rfl, rfl⟩, fun H2 s2 => pair_dp (K := K) .non fun u H3 s3 hu => hq2 u H3 ((sd.trans s2).trans s3) ?_⟩
      rw [ez]
      exact hu
    · have ez : zb = false := by rw [← hbb]; exact decide_eq_false hb
      refine pair_dp (K := K) hv fun u H3 s3 hu => hq2 u H3 (sv.trans s3) ?_
      rw [ez]
      exact hu
  have L14 := (L12.extN e13 T13).to s14
  have J14 : Imm H12 H14 := (Imm.extN e13).trans (Imm.same s14)
  have hu7 : Dp K H14 u7 (dueD zb (low tz bz)) := Dp.imm J14 (by cases zb <;> rfl) hu7
  have q1 := Imm.tup J14 q1
  have q2 := Imm.tup J14 q2
  refine ⟨_, rfl, u, u7, _, rfl, hu, hu7, fit_due _ _, fun H15 s15 => ⟨_, rfl, iteF ?_⟩⟩
  have L15 := L14.to s15
  have q1 := Same.tup s15 q1
  have q2 := Same.tup s15 q2
  have e1 : Dp K H15 (.ref t1) (dR r1) := Dp.ratOf q1
  have e2 : Dp K H15 (.ref t2) (dR r2) := Dp.ratOf q2
  have p1 := lo1.pos
  have p2 := lo2.pos
  have n1 : r1.2 ≠ 0 := by omega
  have n2 : r2.2 ≠ 0 := by omega
  clear hu hu7 s14 s15 J14 e13 T13 L12 L14
  -- told
  refine ⟨_, rfl, _, rfl, _, _, 50, r1, r2, rfl, ⟨e1, e2, bd1, bd2, by omega⟩, n1, n2, fun w1 H16 s16 h1 => ?_⟩
  refine ⟨_, rfl, _, rfl, _, _, 50, r1, r2, rfl, ⟨Dp.to s16 e1, Dp.to s16 e2, bd1, bd2, by omega⟩, n1, n2, fun w2 H17 s17 h2 => ?_⟩
  have s17' := s16.trans s17
  refine ⟨_, rfl, _, rfl, _, _, 50, r1, r2, rfl, ⟨Dp.to s17' e1, Dp.to s17' e2, bd1, bd2, by omega⟩, n1, n2, fun w3 H18 s18 h3 => ?_⟩
  have s18' := s17'.trans s18
  refine ⟨_, rfl, _, rfl, _, _, 50, r1, r2, rfl, ⟨Dp.to s18' e1, Dp.to s18' e2, bd1, bd2, by omega⟩, ?_⟩
  refine ⟨_, rfl, 51, tz, 1, rfl, bt, (bd50 (by decide) (by decide)).mono (by omega), by omega, fun h => absurd h (by decide), fun _ w5 H19 s19 h5 => ?_⟩
  rw [low_by1] at h5
  refine ⟨(by show 5 ≤ sizeLine; decide), fun tl H20 n20 s20 htl => ?_⟩
  have g1 := Dp.to (s17.trans (s18.trans (s19.trans s20))) h1
  have g2 := Dp.to (s18.trans (s19.trans s20)) h2
  have g3 := Dp.to (s19.trans s20) h3
  have g5 := Dp.to s20 h5
  have told : Dp K H20 (.ref tl) (toldD r1 r2 tz) := atLV htl (.cons g1 (.cons g2 (.cons g3 (.cons (.bl _) (.cons g5 .nil)))))
  have s20' : Same H15 H20 := s18'.trans (s19.trans s20)
  have L20 := L15.to s20'
  have e1 := Dp.to s20' e1
  have e2 := Dp.to s20' e2
  have q1 := Same.tup s20' q1
  have q2 := Same.tup s20' q2
  clear g1 g2 g3 g5 h1 h2 h3 h5 htl n20 s20 s19 s18 s17 s16 s17' s18' s20' L15
  -- due
  refine ⟨_, rfl, _, rfl, _, _, 50, r1, r2, rfl, ⟨e1, e2, bd1, bd2, by omega⟩, n1, n2, fun w1 H21 s21 h1 => ?_⟩
  refine ⟨_, rfl, _, rfl, _, _, 50, r1, r2, rfl, ⟨Dp.to s21 e1, Dp.to s21 e2, bd1, bd2, by omega⟩, n1, n2, fun w2 H22 s22 h2 => ?_⟩
  have s22' := s21.trans s22
  refine ⟨_, rfl, _, rfl, _, _, 50, r1, r2, rfl, ⟨Dp.to s22' e1, Dp.to s22' e2, bd1, bd2, by omega⟩, n1, n2, fun w3 H23 s23 h3 => ?_⟩
  have s23' := s22'.trans s23
  refine ⟨_, rfl, _, rfl, _, _, 50, r1, r2, rfl, ⟨Dp.to s23' e1, Dp.to s23' e2, bd1, bd2, by omega⟩, ?_⟩
  refine ⟨_, rfl, (by show 2 ≤ sizeLine; decide), fun w5 H24 n24 s24 h5 => ?_⟩
  refine ⟨(by show 5 ≤ sizeLine; decide), fun dl H25 n25 s25 hdl => ?_⟩
  have g1 := Dp.to (s22.trans (s23.trans (s24.trans s25))) h1
  have g2 := Dp.to (s23.trans (s24.trans s25)) h2
  have g3 := Dp.to (s24.trans s25) h3
  have g5 : Dp K H25 (.ref w5) (dR (tz, 1)) := Dp.to s25 (Dp.ratOf (r := (tz, 1)) (.inl (.inl h5)))
  have due : Dp K H25 (.ref dl) (toldD r1 r2 tz) := atLV hdl (.cons g1 (.cons g2 (.cons g3 (.cons (.bl _) (.cons g5 .nil)))))
  have s25' : Same H20 H25 := s23'.trans (s24.trans s25)
  refine ⟨_, rfl, _, rfl, _, _, _, rfl, Dp.to s25' told, due, fit_told _ _ _, fun H26 s26 => ⟨_, rfl, iteF ?_⟩⟩
  have L26 := (L20.to s25').to s26
  have q1 := Same.tup s26 (Same.tup s25' q1)
  have q2 := Same.tup s26 (Same.tup s25' q2)
  clear g1 g2 g3 g5 h1 h2 h3 h5 hdl n25 n24 s25 s24 s23 s22 s21 s22' s23' s25' due told e1 e2 L20
  generalize hzo : decide (r2.1 = 0) = zo
  have ezo : decide (V.int r2.1 = V.int 0) = zo := by
    rw [← hzo]
    by_cases h : r2.1 = 0
    · rw [h]
      rfl
    · rw [decide_eq_false h, decide_eq_false]
      exact fun z => h (V.int.inj z)
  -- over
  refine ⟨(by show 2 ≤ sizeLine; decide), fun d7 H27 n27 s27 h7 => ?_⟩
  have L27 := L26.to s27
  have q1 := Same.tup s27 q1
  have q2 := Same.tup s27 q2
  refine gName_go (i := 7) (v := .ref d7) ?_
  with_reducible show tSeq _ _ _ _ _
  refine seq_cut (fun σ' H' => ∃ v2 v5 v6 v8 u, σ' = [some (.ref a), some (.ref p), v2, some (.ref t1), some (.ref t2), v5, v6, some u, v8, v9] ∧ Same H27 H' ∧ Dp K H' u (dueD zo (overR r1 r2))) (fun N hN => ?_) ?_
  · refine ⟨_, rfl, t2, _, 0, _, rfl, rfl, q2, rfl, rfl, _, rfl, ?_⟩
    cases zo with
    | true =>
      refine ite_no (congrArg not ezo) (hN _ _ ⟨_, _, _, _, _, rfl, Same.refl _, atTV h7 (.cons (.str _) (.cons .non .nil))⟩)
    | false =>
      have hb : r2.1 ≠ 0 := of_decide_eq_false hzo
      refine ite_of (congrArg not ezo) ?_
      refine ⟨_, rfl, t1, _, 0, _, rfl, rfl, q1, rfl, _, rfl, t2, _, 1, _, rfl, rfl, q2, rfl, _, _, rfl, rfl, bd1.1.mulOk bd2.2 (by omega), ?_⟩
      refine ⟨_, rfl, t1, _, 1, _, rfl, rfl, q1, rfl, _, rfl, t2, _, 0, _, rfl, rfl, q2, rfl, _, _, rfl, rfl, bd1.2.mulOk bd2.1 (by omega), ?_⟩
      refine ⟨100, _, _, rfl, bd1.1.mul bd2.2, bd1.2.mul bd2.1, by omega, Int.mul_ne_zero n1 hb, fun v H' sv hv => ⟨(by show 2 ≤ sizeLine; decide), fun d H2 nd sd hd => hN _ _ ⟨_, _, _, _, _, rfl, sv.trans sd, atTV hd (.cons (.str _) (.cons (Dp.to sd hv) .nil))⟩⟩⟩
  rintro σ H28 ⟨v2'', v5', v6', v8', u8, rfl, s28, hu8⟩
  have L28 := L27.to s28
  have q1 := Same.tup s28 q1
  have q2 := Same.tup s28 q2
  refine ⟨L28.tab, fun H29 e29 T29 => ttry_gen (dueD zo (overR r1 r2)) (fun Q2 hq2 => ?_) (fun u H30 s30 hu => ?_)⟩
  · have q1 := Imm.tup (Imm.extN e29) q1
    have q2 := Imm.tup (Imm.extN e29) q2
    refine ⟨_, rfl, _, rfl, _, _, 50, r1, r2, rfl, ⟨Dp.ratOf q1, Dp.ratOf q2, bd1, bd2, by omega⟩, n1, fun hb d H' nd hd sd => ?_, fun hb v H' sv hv => ?_⟩
    · have ez : zo = true := by rw [← hzo]; exact decide_eq_true hb
      refine ⟨CI, d, _, "InvalidRatio", .non, rfl, rfl, cx, ⟨T.ex, hd, rfl, rfl, rfl⟩, fun H2 s2 => pair_dp (K := K) .non fun u H3 s3 hu => hq2 u H3 ((sd.trans s2).trans s3) ?_⟩
      rw [ez]
      exact hu
    · have ez : zo = false := by rw [← hzo]; exact decide_eq_false hb
      refine pair_dp (K := K) hv fun u H3 s3 hu => hq2 u H3 (sv.trans s3) ?_
      rw [ez]
      exact hu
  have L30 := (L28.extN e29 T29).to s30
  have J30 : Imm H28 H30 := (Imm.extN e29).trans (Imm.same s30)
  have hu8 : Dp K H30 u8 (dueD zo (overR r1 r2)) := Dp.imm J30 (by cases zo <;> rfl) hu8
  have q1 := Imm.tup J30 q1
  refine ⟨_, rfl, u, u8, _, rfl, hu, hu8, fit_due _ _, fun H31 s31 => ⟨_, rfl, iteF ?_⟩⟩
  have L31 := L30.to s31
  have q1 := Same.tup s31 q1
  -- odd
  refine ⟨_, rfl, (by show 3 ≤ sizeLine; decide), fun x1 H32 m1 s32 k1 => ?_⟩
  refine ⟨(by show 2 ≤ sizeLine; decide), fun x2 H33 m2' s33 k2 => ?_⟩
  refine ⟨(by show 2 ≤ sizeLine; decide), fun x3 H34 m3' s34 k3 => ?_⟩
  refine ⟨(by show 2 ≤ sizeLine; decide), fun x4 H35 m4 s35 k4 => ?_⟩
  refine ⟨_, rfl, (by show 2 ≤ sizeLine; decide), fun x5 H36 m5 s36 k5 => ?_⟩
  refine ⟨(by show 2 ≤ sizeLine; decide), fun x6 H37 m6 s37 k6 => ?_⟩
  refine ⟨(by show 2 ≤ sizeLine; decide), fun x7 H38 m7 s38 k7 => ?_⟩
  refine ⟨(by show 2 ≤ sizeLine; decide), fun x8 H39 m8 s39 k8 => ?_⟩
  refine ⟨_, rfl, (by show 0 ≤ sizeLine; decide), fun x9 H40 m9 s40 k9 => ?_⟩
  refine ⟨(by show 12 ≤ sizeLine; decide), fun ol H41 m10 s41 hol => ?_⟩
  have a40 := s41
  have a39 := s40.trans a40
  have a38 := s39.trans a39
  have a37 := s38.trans a38
  have a36 := s37.trans a37
  have a35 := s36.trans a36
  have a34 := s35.trans a35
  have a33 := s34.trans a34
  have a32 := s33.trans a33
  have a31 := s32.trans a32
  have L41 := L31.to a31
  have L40 := L31.to (s32.trans (s33.trans (s34.trans (s35.trans (s36.trans (s37.trans (s38.trans (s39.trans s40))))))))
  have q1 := Same.tup a31 q1
  have n2' : x2 ≠ p := (L31.to s32).bag.ne m2'
  have imm : ∀ {v : V} {d : PyData}, noL d = true → Dp K H41 v d → Dp K (Hx p H41) v d := fun n h => Dp.imm (Imm.hx L41.bag) n h
  have hall : ∀ x ∈ [V.non, .int 3, .ref x1, .ref x2, .ref x3, .ref x4, .ref x5, .ref x6, .ref x7, .ref x8, .ref t1, .ref x9], ∃ d, Dp K (Hx p H41) x d ∧ ∀ a b : Int, d = .tuple [.int a, .int b] → Bd 8000 a ∧ Bd 8000 b := by
    intro x hx
    have hx' : x = .non ∨ x = .int 3 ∨ x = .ref x1 ∨ x = .ref x2 ∨ x = .ref x3 ∨ x = .ref x4 ∨ x = .ref x5 ∨ x = .ref x6 ∨ x = .ref x7 ∨ x = .ref x8 ∨ x = .ref t1 ∨ x = .ref x9 := by simpa using hx
    have bs : ∀ z : Int, -100 < z → z < 100 → Bd 8000 z := fun z h1 h2 => (bd50 (by omega) (by omega)).mono (by omega)
    rcases hx' with rfl | rfl | rfl | rfl | rfl | rfl | rfl | rfl | rfl | rfl | rfl | rfl
    · exact ⟨_, .non, fun a b e => by cases e⟩
    · exact ⟨_, .int 3, fun a b e => by cases e⟩
    · exact ⟨_, imm rfl (atTV (a32 _ _ k1) (.cons (.int 1) (.cons (.int 2) (.cons (.int 3) .nil)))), fun a b e => by cases e⟩
    · exact ⟨.list [.int 1, .int 2], atLV (by rw [Hx.ne n2']; exact a33 _ _ k2) (.cons (.int 1) (.cons (.int 2) .nil)), fun a b e => by cases e⟩
    · exact ⟨_, imm rfl (atTV (a34 _ _ k3) (.cons (.int 2) (.cons (.int 4) .nil))), fun a b e => by cases e; exact ⟨bs _ (by decide) (by decide), bs _ (by decide) (by decide)⟩⟩
    · exact ⟨_, imm rfl (atTV (a35 _ _ k4) (.cons (.int 1) (.cons (.int 0) .nil))), fun a b e => by cases e; exact ⟨bs _ (by decide) (by decide), bs _ (by decide) (by decide)⟩⟩
    · exact ⟨_, imm rfl (atTV (a36 _ _ k5) (.cons (.int 1) (.cons (.int (-2)) .nil))), fun a b e => by cases e; exact ⟨bs _ (by decide) (by decide), bs _ (by decide) (by decide)⟩⟩
    · exact ⟨_, imm rfl (atTV (a37 _ _ k6) (.cons (.int 0) (.cons (.int 2) .nil))), fun a b e => by cases e; exact ⟨bs _ (by decide) (by decide), bs _ (by decide) (by decide)⟩⟩
    · exact ⟨_, imm rfl (atTV (a38 _ _ k7) (.cons (.str "1") (.cons (.int 2) .nil))), fun a b e => by cases e⟩
    · exact ⟨_, imm rfl (atTV (a39 _ _ k8) (.cons (.int 1) (.cons (.bl true) .nil))), fun a b e => by cases e⟩
    · exact ⟨_, imm rfl (Dp.ratOf q1), fun a b e => by cases e; exact ⟨bd1.1.mono (by omega), bd1.2.mono (by omega)⟩⟩
    · exact ⟨_, imm rfl (atTV (a40 _ _ k9) .nil), fun a b e => by cases e⟩
  refine ⟨p, l, ol, _, rfl, L41.bag, .inl (at_z (by rw [Hx.ne (L40.bag.ne m10)]; exact hol)), (by simp), (by show (12 : Int) < 2 ^ 100; decide), fun x hx H42 sx42 B42 => ?_⟩
  obtain ⟨d, hd, hbd⟩ := hall x hx
  have hd := Dp.to Hx.sub (Dp.to sx42 hd)
  have L42 := L41.sx sx42 B42
  refine ⟨_, rfl, x, d, rfl, hd, _, rfl, x, d, rfl, hd, hbd, fun H43 s43 => ?_⟩
  refine ⟨_, _, .bool (ratD d), rfl, .bl _, .bl _, fit_flat rfl 2, fun H44 s44 => ⟨_, rfl, iteF ?_⟩⟩
  exact ⟨_, _, _, _, _, _, _, _, rfl, (L42.to s43).to s44⟩
end
end Fs
set_option Elab.async false
set_option linter.all false
set_option maxRecDepth 100000
set_option maxHeartbeats 0
namespace Fs
open PySem PySem.Spec PyProof.Rows L2
def fn : List He.DefD := [dD "common_factor" s_common_factor, dD "plus" s_plus, dD "minus" s_minus, dD "times" s_times, dD "over" s_over, dD "is_less" s_is_less, dD "is_whole" s_is_whole, dD "is_ratio" s_is_ratio, dD "_law_bag" s__law_bag, dD "_law_pull" s__law_pull, dD "_law_of" s__law_of, dD "_law_same" s__law_same, dD "_law_field" s__law_field, dD "_law_try" s__law_try, dD "_law_low" s__law_low, dD "_law_plus" s__law_plus, dD "_law_minus" s__law_minus, dD "_law_times" s__law_times, dD "_law_less" s__law_less, dD "_law_is_low" s__law_is_low, dD "_law_ratio" s__law_ratio, dD "law" s_law, ⟨("ratio", none), "ratio", "ratio", defArgs s_ratio, defBody s_ratio, defScope s_ratio, [.int 1], []⟩, dI "InvalidRatio" "InvalidRatio.__init__" s_InvalidRatio___init__]
def fa : List He.Fa := [.glo "common_factor", .glo "plus", .glo "minus", .glo "times", .glo "over", .glo "is_less", .glo "is_whole", .glo "is_ratio", .glo "_law_bag", .glo "_law_pull", .glo "_law_of", .glo "_law_same", .glo "_law_field", .glo "_law_try", .glo "_law_low", .glo "_law_plus", .glo "_law_minus", .glo "_law_times", .glo "_law_less", .glo "_law_is_low", .glo "_law_ratio", .glo "law", .glo "FrameError", .glo "Missing", .glo "NothingLeft", .glo "InvalidRatio", .glo "ZERO", .glo "ONE", .glo "ratio", .free "int", .free "list", .free "len", .free "isinstance", .free "tuple", .free "all", .free "range", .free "dict", .free "bool", .free "str", .free "abs", .free "any"]
def exB (K : Frag) : Bool := (errsB K ["InvalidRatio"]) && (caughtB K ["InvalidRatio"]) && (He.tupB K "ZERO" [.int 0, .int 1]) && (He.tupB K "ONE" [.int 1, .int 1])
abbrev R : PySem.W.OpenRow := PySem.W.OpenLaw.row PySem.Challenge.rw_framesure_k01_fractions_computed
def tf : List He.Defn := [("law", none)]
abbrev hk : PySem.W.Hook := He.hookX 6 fa fn [] tf exB
def ob (s : PySem.W.SharedT) : He.AlX := He.obsX 6 fa fn [] tf exB (HandSHeadRun.getT s)
theorem ob_eq (s : PySem.W.SharedT) : ob s = hk.obs s.abs := He.obsX_eq (HandSHeadRun.getT_eq s)
abbrev cTs (K : Frag) : List (Addr × Addr) := tf.map (He.cT K)
abbrev cT1 (K : Frag) : Addr := (He.cT K ("law", none)).2
theorem inT {K : Frag} {q : Addr × Addr} (hq : q ∈ cTs K) : ∃ p ∈ tf, He.cT K p = q := List.mem_map.mp hq
theorem cT1_mem (K : Frag) : He.cT K ("law", none) ∈ cTs K := List.mem_map.mpr ⟨("law", none), by decide, rfl⟩
def loose : List Str := (["FrameError", "InvalidRatio", "Missing", "NothingLeft", "ZERO", "ONE", "common_factor", "ratio", "plus", "minus", "times", "over", "is_less", "is_whole", "is_ratio", "_law_bag", "_law_pull", "_law_of", "_law_same", "_law_field", "_law_try", "_law_low", "_law_plus", "_law_minus", "_law_times", "_law_less", "_law_is_low", "_law_ratio"] : List Str)
theorem run (w : World) : HandSHeadRun.RunEq R (PySem.W.view R.prog [31]) hk ob 4000 loose w := by
  intro os
  kernel_rfl
theorem facts {P : Program} {w : World} {K : Frag} {h : Heap} {mg : Str → Option Value} {f : Addr} (X : K.In h) (G : h.Ns mainGlobals mg) (hfa : mg ("law" : Str) = some (.ref f)) (c : He.SaysX fa fn [] tf exB w h K) :
    ∃ fd : FuncData, (∀ (s : Shared) (v : Value), BindsTo s fd ⟨[v], []⟩ [("_law_script", v)]) ∧ ∀ base : Heap, K.In base → base.Ns mainGlobals mg → (∀ p ∈ tf.map (He.cT K), LamX.TabB base mg p.1 p.2) → FnOk P w K mg base CX0 8 f fd ["_law_script"] (spLawT K (He.cT K ("law", none)).2) := by
  have d := c.t.d
  obtain ⟨fd, FL⟩ := d.def_ 21 (d := dD "law" s_law) rfl
  have e := hfa.symm.trans (He.glo_ok X G (d.fact 21 (f := .glo "law") rfl))
  cases e
  have b := FunD.bindsA (ps := ["_law_script"]) FL fun _ _ _ _ _ _ us hl => match us, hl with | [_], _ => rfl
  refine ⟨fd, fun s v => b s [v] rfl, fun base _ _ TBs => ?_⟩
  have TB := TBs _ (List.mem_map.mpr ⟨("law", none), by decide, rfl⟩)
  have G_common_factor := gs_of X G d 0 0 "common_factor" s_common_factor rfl rfl
  have G_plus := gs_of X G d 1 1 "plus" s_plus rfl rfl
  have G_minus := gs_of X G d 2 2 "minus" s_minus rfl rfl
  have G_times := gs_of X G d 3 3 "times" s_times rfl rfl
  have G_over := gs_of X G d 4 4 "over" s_over rfl rfl
  have G_is_less := gs_of X G d 5 5 "is_less" s_is_less rfl rfl
  have G_is_whole := gs_of X G d 6 6 "is_whole" s_is_whole rfl rfl
  have G_is_ratio := gs_of X G d 7 7 "is_ratio" s_is_ratio rfl rfl
  have G__law_bag := gs_of X G d 8 8 "_law_bag" s__law_bag rfl rfl
  have G__law_pull := gs_of X G d 9 9 "_law_pull" s__law_pull rfl rfl
  have G__law_of := gs_of X G d 10 10 "_law_of" s__law_of rfl rfl
  have G__law_same := gs_of X G d 11 11 "_law_same" s__law_same rfl rfl
  have G__law_field := gs_of X G d 12 12 "_law_field" s__law_field rfl rfl
  have G__law_try := gs_of X G d 13 13 "_law_try" s__law_try rfl rfl
  have G__law_low := gs_of X G d 14 14 "_law_low" s__law_low rfl rfl
  have G__law_plus := gs_of X G d 15 15 "_law_plus" s__law_plus rfl rfl
  have G__law_minus := gs_of X G d 16 16 "_law_minus" s__law_minus rfl rfl
  have G__law_times := gs_of X G d 17 17 "_law_times" s__law_times rfl rfl
  have G__law_less := gs_of X G d 18 18 "_law_less" s__law_less rfl rfl
  have G__law_is_low := gs_of X G d 19 19 "_law_is_low" s__law_is_low rfl rfl
  have G__law_ratio := gs_of X G d 20 20 "_law_ratio" s__law_ratio rfl rfl
  have c_FrameError := He.glo_ok X G (d.fact 22 (f := .glo "FrameError") rfl)
  have c_Missing := He.glo_ok X G (d.fact 23 (f := .glo "Missing") rfl)
  have c_NothingLeft := He.glo_ok X G (d.fact 24 (f := .glo "NothingLeft") rfl)
  have c_InvalidRatio := He.glo_ok X G (d.fact 25 (f := .glo "InvalidRatio") rfl)
  have c_ZERO := He.glo_ok X G (d.fact 26 (f := .glo "ZERO") rfl)
  have c_ONE := He.glo_ok X G (d.fact 27 (f := .glo "ONE") rfl)
  have c_ratio := He.glo_ok X G (d.fact 28 (f := .glo "ratio") rfl)
  have m_int := free_of X G d 29 "int" rfl
  have m_list := free_of X G d 30 "list" rfl
  have m_len := free_of X G d 31 "len" rfl
  have m_isinstance := free_of X G d 32 "isinstance" rfl
  have m_tuple := free_of X G d 33 "tuple" rfl
  have m_all := free_of X G d 34 "all" rfl
  have m_range := free_of X G d 35 "range" rfl
  have m_dict := free_of X G d 36 "dict" rfl
  have m_bool := free_of X G d 37 "bool" rfl
  have m_str := free_of X G d 38 "str" rfl
  have m_abs := free_of X G d 39 "abs" rfl
  have m_any := free_of X G d 40 "any" rfl
  have more := c.more
  unfold exB at more
  simp only [Bool.and_eq_true] at more
  obtain ⟨⟨⟨x1, x2⟩, x3⟩, x4⟩ := more
  obtain ⟨TE, i1, i2⟩ := errsB_at x1 "InvalidRatio" (by simp)
  have cx := caughtB_at x2 "InvalidRatio" (by simp)
  have tZ := He.tupB_ok x3
  have tO := He.tupB_ok x4
  obtain ⟨fdR, FR⟩ := d.def_ 22 rfl
  obtain ⟨fdI, FI⟩ := d.def_ 23 rfl
  have gBag := ok__law_bag (P := P) (w := w) (base := base) G__law_bag m_int m_list
  have gPull := ok__law_pull (P := P) (w := w) (base := base) G__law_pull m_int m_len
  have gOf := ok__law_of G__law_of gPull m_len
  have gSame := ok__law_same (P := P) (w := w) (base := base) G__law_same m_isinstance m_tuple m_list m_all m_range m_len m_dict m_int m_bool m_str 3
  have gG := ok_common_factor (P := P) (w := w) (base := base) G_common_factor m_abs
  have M : OexM P w K mg base 1 (He.ga K "InvalidRatio") (spIni (He.ga K "InvalidRatio") 0 fun _ => [("code", .str "InvalidRatio")]) := ⟨TE.ox, _, _, ["self"], i1, i2, ini_InvalidRatio FI TE, FI.bindsN fun _ _ _ _ _ _ us hl => match us, hl with | [_], _ => rfl⟩
  have fR := fo_ratio (P := P) (w := w) (base := base) gG M c_InvalidRatio
  have GR : Gsd K mg "ratio" s_ratio [.int 1] [] := ⟨_, fdR, c_ratio, FR⟩
  have g2 := (fR.gdd (dv := []) GR 2 1 (by simp) rfl rfl (fun T kV doc pm an cdv ct us its l1 l2 => match us, its, l1, l2 with | [_, _], [_], _, _ => ⟨_, rfl, rfl⟩)).gd
  have d1 := fR.gdd (dv := [.int 1]) GR 1 0 (by simp) rfl rfl (fun T kV doc pm an cdv ct us its l1 l2 => match us, its, l1, l2 with | [_], [_], _, _ => ⟨_, rfl, rfl⟩)
  have k2 := fR.gkd GR 0 ["bottom", "top"] (fun us its ws => gBT us its ws) (by simp) (fun r1 r2 r3 => by
    unfold gBT
    cases r3 with
    | nil => exact .nil
    | cons a r => cases r with
      | nil => exact .nil
      | cons b r => cases r with
        | nil => exact .cons b (.cons a .nil)
        | cons _ _ => exact .nil) (fun T kV doc pm an cdv ct us its ws l1 l2 l3 => match us, its, ws, l1, l2, l3 with | [], [_], [_, _], _, _, _ => ⟨_, rfl, rfl⟩)
  have gW := ok_is_whole (P := P) (w := w) (base := base) G_is_whole m_isinstance m_int m_bool
  have gLow := ok__law_low (P := P) (w := w) (base := base) G__law_low m_abs
  exact ok_law FL TB G__law_try G__law_field c_FrameError c_Missing c_NothingLeft TE cx gBag gPull gOf gSame (ok__law_ratio G__law_ratio gLow gPull gOf) gLow (ok__law_plus G__law_plus gLow) (ok__law_minus G__law_minus gLow) (ok__law_times G__law_times gLow) (ok__law_less G__law_less) (ok__law_is_low G__law_is_low gLow m_isinstance m_tuple m_len m_any m_int m_bool) k2 d1 (ok_plus G_plus g2) (ok_minus G_minus g2) (ok_times G_times g2) (ok_over G_over g2) (ok_is_less G_is_less) (ok_is_ratio G_is_ratio gW gG m_isinstance m_tuple m_len) m_range c_ZERO tZ c_ONE tO
end Fs
open PySem PySem.W PySem.Calls PyProof.Rows
theorem PySem.Challenge.cw_framesure_k01_fractions_computed_holds : PySem.Challenge.rw_framesure_k01_fractions_computed.Holds := by
  w_on; o_law
  refine HandSHeadRun.head_any (r := OpenLaw.row PySem.Challenge.rw_framesure_k01_fractions_computed) (q := view (OpenLaw.row PySem.Challenge.rw_framesure_k01_fractions_computed).prog [31]) (H := Fs.hk) (ob := Fs.ob) (M := 4000) (loose := Fs.loose) (d := HandSHeadRun.topDef (OpenLaw.row PySem.Challenge.rw_framesure_k01_fractions_computed).prog 31) (kwd := []) Fs.ob_eq
    (by kernel_rfl) (fun s => by kernel_rfl) Fs.run (by kernel_rfl) (by kernel_rfl) (by kernel_rfl) (by rfl) (by first | assumption | decide +kernel) (by decide +kernel) ⟨rfl, rfl, rfl, rfl, rfl, by decide +kernel⟩ ?hw ?hc
  case hw => w_witness2
  case hc =>
    refine LamX.walk_ofTsE (l := PySem.Challenge.rw_framesure_k01_fractions_computed) (n := 63) (k := 8) (x := "_law_script") (CX := fun _ => L2.CX0) rfl (by decide) (by kernel_rfl) ⟨rfl, by decide, by decide⟩ ?F (fun _ _ _ _ _ z => z)
    intro w mg fa h Y G hmg0
    obtain ⟨K, KX, c⟩ := Y
    have hmg : mg ("law" : PySem.Str) = some (.ref fa) := by
      have e : (HandSHeadRun.topDef (OpenLaw.row PySem.Challenge.rw_framesure_k01_fractions_computed).prog 31).name = ("law" : PySem.Str) := by kernel_rfl
      rw [← e]
      exact hmg0
    obtain ⟨fd, hb, hF⟩ := Fs.facts (P := (PySem.Challenge.rw_framesure_k01_fractions_computed).prog) (w := w) KX G hmg c
    refine ⟨K, KX, fd, Fs.cTs K, Fs.spLawT K (Fs.cT1 K), fun q hq => ?_, fun q hq => ?_, fun q hq => ?_, hb, fun H a ns hl _ hT hS => ⟨a, ns, rfl, hS, hl, hT _ (Fs.cT1_mem K), fun _ => rfl⟩, hF⟩
    · obtain ⟨p, hp, rfl⟩ := Fs.inT hq
      exact c.empty p hp
    · obtain ⟨p, hp, rfl⟩ := Fs.inT hq
      exact c.out p hp
    · obtain ⟨p, hp, rfl⟩ := Fs.inT hq
      exact PySem.W.codeHd_of_K KX (c.hd p hp)
