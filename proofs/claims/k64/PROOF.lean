import PyProof.Rows.All
import Wide.All
import OpenK.AllK
import Wide.FinOn
import KE.KStateDown
import HandS.ForMost
import HandS.Exc
import HandS.WordsExc
import HandS.Defaults
import HandS.IsInst
import HandS.Wide
import HandS.Flow
import HandS.Walk
import HandS.Head0
import HandS.Head1
import HandS.Head2
import HandS.HeadEnd
import HandS.HeadHook1
import HandS.HeadHook2
import HandS.HeadHook3
import HandS.HeadHook4
import HandS.HotCalls
import HandS.ExcField
import HandS.ExcInit
import KE.KTryMore
import HandS.Lambda
import HandS.EndTab
import HandS.HeadWalk
import HandS.DictComp
import HandS.TupAny
import HandS.Deep
import HandS.Strs
import HandS.Small
import HandS.FStr
import HandS.RaiseMore
import HandS.Codes
import HandS.Star
import HandS.TryOnly
import HandS.More
import KE.KExcInit
import HandS.ExcIs
import KE.KExcIs
import PySem.Challenge.RW_framesure_k64_error_classes
set_option Elab.async false
set_option linter.all false
set_option maxRecDepth 100000
set_option maxHeartbeats 8000000
namespace Fs
open PySem PySem.Spec PyProof.Rows L2
abbrev Frag := PySem.W.Frag
/-! ### heaps -/
theorem same_new {H : Hp} {p : Addr} (h : H p = none) (o : HO) : Same H (upd H p o) := fun b u q => by
  rw [upd_ne (ne_of_none q h)]
  exact q
theorem Same.tup {K : Frag} {H H' : Hp} {a : Addr} {xs : List V} (e : Same H H') (h : SqT K H a xs) : SqT K H' a xs := by
  rcases h with (h | ⟨o, h⟩) | h
  · exact .inl (.inl (e _ _ h))
  · exact .inl (.inr ⟨o, e _ _ h⟩)
  · exact .inr h
/-- readings that ask more -/
theorem pe_of {X : Cx} {e : Expr} {t t' : TE} (h : PE X e t) (k : ∀ σ H Q, t' σ H Q → t σ H Q) : PE X e t' := ⟨fun pins s σ H Q I q => h.run pins s σ H Q I (k σ H Q q)⟩
/-- a list of readings, made to grow with what is wanted -/
def upA (t : TA) : TA := fun σ H K => ∃ K0 : List V → Hp → Prop, t σ H K0 ∧ ∀ vs H1, K0 vs H1 → K vs H1
theorem pa_up {X : Cx} {es : List Expr} {t : TA} (h : PA X es t) : PA X es (upA t) := ⟨fun pos pins s σ H Q I ⟨K0, q, k⟩ => thn (h.run pos pins s σ H K0 I q) fun us s1 ⟨vs, H1, I1, r, z⟩ => ⟨vs, H1, I1, r, k _ _ z⟩⟩
/-- a new list, the heap behind it a letter -/
def tLstN (t : TA) : TE := fun σ H Q => t σ H fun xs H1 => xs.length ≤ sizeLine ∧ ∀ p H', H1 p = none → Same H1 H' → H' p = some (.lst xs) → Q (.ref p) H'
theorem pe_lstN {X : Cx} {es : List Expr} {t : TA} {pos : Pos} (h : PA X es t) : PE X (.List es pos) (tLstN t) :=
  pe_of (pe_lst (pa_up h)) fun σ H Q q => ⟨_, q, fun xs H1 z => ⟨z.1, fun p np => z.2 p _ np (same_new np _) upd_same⟩⟩
/-- a new tuple -/
def tTupN (t : TA) : TE := fun σ H Q => t σ H fun xs H1 => xs.length ≤ sizeLine ∧ ∀ p H', H1 p = none → Same H1 H' → H' p = some (.tup xs) → Q (.ref p) H'
theorem pe_tupN {X : Cx} {es : List Expr} {t : TA} {x1 : Nat} {pos : Pos} (h : PA X es t) : PE X (.Tuple es x1 pos) (tTupN t) :=
  pe_of (pe_tup (pa_up h)) fun σ H Q q => ⟨_, q, fun xs H1 z => ⟨z.1, fun p np => z.2 p _ np (same_new np _) upd_same⟩⟩
/-- what holds between a statement and the rest -/
theorem seq_cut {t u : TS} {D : Ends} {σ : L2.St} {H : Hp} (M : L2.St → Hp → Prop) (ht : ∀ N : L2.St → Hp → Prop, (∀ σ' H', M σ' H' → N σ' H') → t { D with nx := N } σ H) (hu : ∀ σ' H', M σ' H' → u D σ' H') : tSeq t u D σ H := ht (u D) hu
theorem atI_i {α : Type} {xs : List α} {i : Int} (h0 : 0 ≤ i) (h : i.toNat < xs.length) : atI xs i = some xs[i.toNat] := by
  have q := atI_nat (xs := xs) (j := i.toNat) (List.getElem?_eq_getElem h)
  rw [Int.toNat_of_nonneg h0] at q
  exact q
/-! ### a global def -/
/-- the def x of the module's top, as it stands, with no defaults -/
structure Gd (P : Program) (w : World) (K : Frag) (mg : Str → Option Value) (base : Heap) (CX : CXT) (k : Nat) (x : Str) (ps : List Str) (sp : Sp) : Prop where
  ex : ∃ f fd, mg x = some (.ref f) ∧ PySem.W.keepIn K (.ref f) = true ∧ Binds K fd ps [] ∧ FnOk P w K mg base CX k f fd ps sp
theorem Gd.mono {P : Program} {w : World} {K : Frag} {mg : Str → Option Value} {base : Heap} {CX : CXT} {j k : Nat} {x : Str} {ps : List Str} {sp : Sp} (G : Gd P w K mg base CX j x ps sp) (h : j ≤ k) : Gd P w K mg base CX k x ps sp := by
  obtain ⟨f, fd, a, b, c, F⟩ := G.ex
  exact ⟨f, fd, a, b, c, F.mono h⟩
theorem Gd.imp {P : Program} {w : World} {K : Frag} {mg : Str → Option Value} {base : Heap} {CX : CXT} {k : Nat} {x : Str} {ps : List Str} {sp sp' : Sp} (G : Gd P w K mg base CX k x ps sp) (h : ∀ vs H Q E, sp' vs H Q E → sp vs H Q E) : Gd P w K mg base CX k x ps sp' := by
  obtain ⟨f, fd, a, b, c, F⟩ := G.ex
  exact ⟨f, fd, a, b, c, F.imp h⟩
/-- the call of such a def -/
theorem pe_g {X : Cx} {CX : CXT} {E : XK} {k : Nat} {x : Str} {ps : List Str} {sp : Sp} {e : Expr} {es : List Expr} {p pos : Pos} {t : TA} (G : Gd X.prog X.w X.K X.mg X.base CX k x ps sp) (hr : Room k X.A) (hx : Passes CX X E) (ha : PA X (e :: es) t)
    (hg : Gl X x := by rfl) (hdb : (x == ("__debug__" : Str)) = false := by decide) (he : starEach (e :: es) X.env = (false, eval e X.env) :: starEach es X.env := by rfl) (hpl : (backTo pos (starEach es X.env)).any (·.1) = false := by rfl) :
    PE X (.Call (.Name x p) (e :: es) [] pos) (tCall sp [] E t) := by
  obtain ⟨f, fd, a, b, c, F⟩ := G.ex
  exact pe_call F hr hg a b c .nil hx ha hdb he hpl
/-- a def of the top keeps its promise wherever it stands: no defaults (dfl, kwd: those it has) -/
def Fo (P : Program) (w : World) (K : Frag) (mg : Str → Option Value) (base : Heap) (CX : CXT) (k : Nat) (x : Str) (st : Stmt) (dfl : List V) (kwd : List (Str × V)) (ps : List Str) (sp : Sp) : Prop :=
  ∀ f fd, FunD K x x (defArgs st) (defBody st) (defScope st) dfl kwd f fd → FnOk P w K mg base CX k f fd ps sp
/-- what stands of a def at the top -/
def Gsd (K : Frag) (mg : Str → Option Value) (x : Str) (st : Stmt) (dfl : List V) (kwd : List (Str × V)) : Prop := ∃ f fd, mg x = some (.ref f) ∧ FunD K x x (defArgs st) (defBody st) (defScope st) dfl kwd f fd
abbrev Gs (K : Frag) (mg : Str → Option Value) (x : Str) (st : Stmt) : Prop := Gsd K mg x st [] []
section
variable {P : Program} {w : World} {K : Frag} {mg : Str → Option Value} {base : Heap} {CX : CXT} {x : Str} {st : Stmt} {dfl : List V} {kwd : List (Str × V)} {N ps : List Str} {k : Nat} {sp : Sp}
theorem fo_ok (S : FnScope N ps (defScope st)) (len : ∀ vs H Q E, sp vs H Q E → vs.length = ps.length)
    (hbody : ∀ (f : Addr) (cdv : Value) (A : Around) (outer : List Env) (s : Shared) (H : Hp) (vs : List V) (Q : VK) (E : XK), Room k (A.deeper (envOfC x (defScope st) s.heap.objs.size f cdv)) → sp vs H Q E →
      ∃ t, PSs (cxOf CX0 P w K mg base N x (defScope st) f cdv A outer s H E).nox (defBody st) t ∧ t { nx := fun _ H' => Q .non H', rt := Q } (start N vs) H) : Fo P w K mg base CX0 (k + 1) x st dfl kwd ps sp := fun f fd F => by
  refine F.ok S len fun cdv A outer s H vs Q E hr h => ?_
  obtain ⟨t, h1, h2⟩ := hbody f cdv A outer s H vs Q E hr h
  exact ⟨t, h1.nox, h2⟩
/-- the same of a def that may raise -/
theorem fo_okX (S : FnScope N ps (defScope st)) (len : ∀ vs H Q E, sp vs H Q E → vs.length = ps.length)
    (hbody : ∀ (f : Addr) (cdv : Value) (A : Around) (outer : List Env) (s : Shared) (H : Hp) (vs : List V) (Q : VK) (E : XK), Room k (A.deeper (envOfC x (defScope st) s.heap.objs.size f cdv)) → sp vs H Q E →
      ∃ t, PSs (cxOf (L2.CX P w) P w K mg base N x (defScope st) f cdv A outer s H E) (defBody st) t ∧ t { nx := fun _ H' => Q .non H', rt := Q } (start N vs) H) : Fo P w K mg base (L2.CX P w) (k + 1) x st dfl kwd ps sp := fun f fd F =>
  F.ok S len (hbody f)
/-- called by position, all parameters given -/
theorem Fo.gd (F : Fo P w K mg base CX k x st [] [] ps sp) (G : Gs K mg x st)
    (hb : ∀ (kV doc pm : Value) (an : Option Addr) (cdv ct : Value) (us : List Value), us.length = ps.length → bindArgs (PySem.W.fnOf x x (defArgs st) (defBody st) (defScope st) .none kV doc pm an cdv ct) ⟨us, []⟩ = pure (ps.zip us)) : Gd P w K mg base CX k x ps sp := by
  obtain ⟨f, fd, a, D⟩ := G
  exact ⟨f, fd, a, D.kp, D.bindsN hb, F f fd D⟩
theorem Gsd.ok (G : Gs K mg x st) (S : FnScope N ps (defScope st)) (len : ∀ vs H Q E, sp vs H Q E → vs.length = ps.length)
    (hb : ∀ (kV doc pm : Value) (an : Option Addr) (cdv ct : Value) (us : List Value), us.length = ps.length → bindArgs (PySem.W.fnOf x x (defArgs st) (defBody st) (defScope st) .none kV doc pm an cdv ct) ⟨us, []⟩ = pure (ps.zip us))
    (hbody : ∀ (f : Addr) (cdv : Value) (A : Around) (outer : List Env) (s : Shared) (H : Hp) (vs : List V) (Q : VK) (E : XK), Room k (A.deeper (envOfC x (defScope st) s.heap.objs.size f cdv)) → sp vs H Q E →
      ∃ t, PSs (cxOf CX0 P w K mg base N x (defScope st) f cdv A outer s H E).nox (defBody st) t ∧ t { nx := fun _ H' => Q .non H', rt := Q } (start N vs) H) : Gd P w K mg base CX0 (k + 1) x ps sp := (fo_ok S len hbody).gd G hb
theorem Gsd.okX (G : Gs K mg x st) (S : FnScope N ps (defScope st)) (len : ∀ vs H Q E, sp vs H Q E → vs.length = ps.length)
    (hb : ∀ (kV doc pm : Value) (an : Option Addr) (cdv ct : Value) (us : List Value), us.length = ps.length → bindArgs (PySem.W.fnOf x x (defArgs st) (defBody st) (defScope st) .none kV doc pm an cdv ct) ⟨us, []⟩ = pure (ps.zip us))
    (hbody : ∀ (f : Addr) (cdv : Value) (A : Around) (outer : List Env) (s : Shared) (H : Hp) (vs : List V) (Q : VK) (E : XK), Room k (A.deeper (envOfC x (defScope st) s.heap.objs.size f cdv)) → sp vs H Q E →
      ∃ t, PSs (cxOf (L2.CX P w) P w K mg base N x (defScope st) f cdv A outer s H E) (defBody st) t ∧ t { nx := fun _ H' => Q .non H', rt := Q } (start N vs) H) : Gd P w K mg base (L2.CX P w) (k + 1) x ps sp := (fo_okX S len hbody).gd G hb
end
/-- a def called with n values by position and the keywords ks -/
structure Gk (P : Program) (w : World) (K : Frag) (mg : Str → Option Value) (base : Heap) (CX : CXT) (k : Nat) (x : Str) (n : Nat) (ks : List Str) (gV : List V → List V → List V) (ps : List Str) (sp : Sp) : Prop where
  ex : ∃ f fd g, mg x = some (.ref f) ∧ PySem.W.keepIn K (.ref f) = true ∧ KBn K fd ps n ks g gV ∧ FnOk P w K mg base CX k f fd ps sp
section
variable {P : Program} {w : World} {K : Frag} {mg : Str → Option Value} {base : Heap} {CX : CXT} {x : Str} {st : Stmt} {dfl : List V} {kwd : List (Str × V)} {N ps : List Str} {k : Nat} {sp : Sp}
theorem Gk.mono {n : Nat} {ks : List Str} {gV : List V → List V → List V} {j : Nat} (G : Gk P w K mg base CX j x n ks gV ps sp) (h : j ≤ k) : Gk P w K mg base CX k x n ks gV ps sp := by
  obtain ⟨f, fd, g, a, b, c, F⟩ := G.ex
  exact ⟨f, fd, g, a, b, c, F.mono h⟩
/-- no defaults: every parameter is written, by position or by name -/
theorem Fo.gk (F : Fo P w K mg base CX k x st [] [] ps sp) (G : Gs K mg x st) (n : Nat) (ks : List Str) (g : {α : Type} → List α → List α → List α)
    (hrel : ∀ {vs zs : List V} {us ws : List Value}, Vals vs us → Vals zs ws → Vals (g vs zs) (g us ws))
    (hb : ∀ (kV doc pm : Value) (an : Option Addr) (cdv ct : Value) (us ws : List Value), us.length = n → ws.length = ks.length → bindArgs (PySem.W.fnOf x x (defArgs st) (defBody st) (defScope st) .none kV doc pm an cdv ct) ⟨us, ks.zip ws⟩ = pure (ps.zip (g us ws))) :
    Gk P w K mg base CX k x n ks (fun vs zs => g vs zs) ps sp := by
  obtain ⟨f, fd, a, D⟩ := G
  refine ⟨f, fd, fun us ws => g us ws, a, D.kp, ?_, F f fd D⟩
  obtain ⟨oc, od, dV, kV, doc, pm, an, cdv, ct, osl, rfl, lk, hcd, hD, hK⟩ := D.ex
  rcases hD with ⟨_, rfl⟩ | ⟨e, _⟩
  · exact ⟨fun s us ws _ l1 l2 => BindsTo.of_eq (hb kV doc pm an cdv ct us ws l1 l2), fun r1 r2 => hrel r1 r2⟩
  · exact absurd rfl e
end
/-- a def called by position, the values dv of its defaults filling up -/
structure Gdd (P : Program) (w : World) (K : Frag) (mg : Str → Option Value) (base : Heap) (CX : CXT) (k : Nat) (x : Str) (ps : List Str) (dv : List V) (sp : Sp) : Prop where
  ex : ∃ f fd ds, mg x = some (.ref f) ∧ PySem.W.keepIn K (.ref f) = true ∧ Vals dv ds ∧ Binds K fd ps ds ∧ FnOk P w K mg base CX k f fd ps sp
section
variable {P : Program} {w : World} {K : Frag} {mg : Str → Option Value} {base : Heap} {CX : CXT} {x : Str} {st : Stmt} {dfl dv : List V} {N ps : List Str} {k : Nat} {sp : Sp}
theorem Gdd.gd (G : Gdd P w K mg base CX k x ps [] sp) : Gd P w K mg base CX k x ps sp := by
  obtain ⟨f, fd, ds, a, b, c, d, e⟩ := G.ex
  cases c
  exact ⟨f, fd, a, b, d, e⟩
/-- n values are written, the defaults behind the first j fill up -/
theorem Fo.gdd (F : Fo P w K mg base CX k x st dfl [] ps sp) (G : Gsd K mg x st dfl []) (n j : Nat) (hd : dfl ≠ []) (hn : n + (dfl.length - j) = ps.length) (hv : dfl.drop j = dv)
    (h : ∀ (T : Addr) (kV doc pm : Value) (an : Option Addr) (cdv ct : Value) (us its : List Value), us.length = n → its.length = dfl.length →
      ∃ k, bindArgs (PySem.W.fnOf x x (defArgs st) (defBody st) (defScope st) (.ref T) kV doc pm an cdv ct) ⟨us, []⟩ = seqItems? (.ref T) >>= k ∧ k (some its.toArray) = pure (ps.zip (us ++ its.drop j))) : Gdd P w K mg base CX k x ps dv sp := by
  obtain ⟨f, fd, a, D⟩ := G
  obtain ⟨ds, v, b⟩ := D.binds1 n j hd hn h
  subst hv
  exact ⟨f, fd, ds, a, D.kp, v, b, F f fd D⟩
/-- with keywords: g puts the positional values, the defaults' values and the keywords' values in order -/
theorem Fo.gkd (F : Fo P w K mg base CX k x st dfl [] ps sp) (G : Gsd K mg x st dfl []) (n : Nat) (ks : List Str) (g : {α : Type} → List α → List α → List α → List α) (hd : dfl ≠ [])
    (hrel : ∀ {vs ds zs : List V} {us its ws : List Value}, Vals vs us → Vals ds its → Vals zs ws → Vals (g vs ds zs) (g us its ws))
    (h : ∀ (T : Addr) (kV doc pm : Value) (an : Option Addr) (cdv ct : Value) (us its ws : List Value), us.length = n → its.length = dfl.length → ws.length = ks.length →
      ∃ k, bindArgs (PySem.W.fnOf x x (defArgs st) (defBody st) (defScope st) (.ref T) kV doc pm an cdv ct) ⟨us, ks.zip ws⟩ = seqItems? (.ref T) >>= k ∧ k (some its.toArray) = pure (ps.zip (g us its ws))) :
    Gk P w K mg base CX k x n ks (fun vs zs => g vs dfl zs) ps sp := by
  obtain ⟨f, fd, a, D⟩ := G
  have FN := F f fd D
  have kp := D.kp
  obtain ⟨oc, od, dV, kV, doc, pm, an, cdv, ct, osl, rfl, lk, hcd, hD, hK⟩ := D.ex
  rcases hD with ⟨e, _⟩ | ⟨_, T, o, its, m, rfl, lT, oT, rT⟩
  · exact absurd e hd
  refine ⟨f, _, fun us ws => g us its ws, a, kp, ⟨fun s us ws X l1 l2 => ?_, fun r1 r2 => hrel r1 rT r2⟩, FN⟩
  obtain ⟨k, e1, e2⟩ := h T kV doc pm an cdv ct us its ws l1 rT.length.symm l2
  exact BindsTo.of_looks fun M => by
    rw [e1]
    exact looks_items X lT oT (.of_pure e2)
end
theorem pe_gd {X : Cx} {CX : CXT} {E : XK} {k : Nat} {x : Str} {ps : List Str} {dv : List V} {sp : Sp} {e : Expr} {es : List Expr} {p pos : Pos} {t : TA} (G : Gdd X.prog X.w X.K X.mg X.base CX k x ps dv sp) (hr : Room k X.A) (hx : Passes CX X E) (ha : PA X (e :: es) t)
    (hg : Gl X x := by rfl) (hdb : (x == ("__debug__" : Str)) = false := by decide) (he : starEach (e :: es) X.env = (false, eval e X.env) :: starEach es X.env := by rfl) (hpl : (backTo pos (starEach es X.env)).any (·.1) = false := by rfl) :
    PE X (.Call (.Name x p) (e :: es) [] pos) (tCall sp dv E t) := by
  obtain ⟨f, fd, ds, a, b, c, d, F⟩ := G.ex
  exact pe_call F hr hg a b d c hx ha hdb he hpl
/-- what a def lets out, on to the caller's own way -/
theorem passE {X : Cx} {E : XK} (tk : Takes X (fun cls d _ H => E cls d H)) : Passes (L2.CX X.prog X.w) X E := passes_call tk fun _ _ _ _ h => h
section
variable {X : Cx} {CX : CXT} {E : XK} {k n : Nat} {x : Str} {ps ks : List Str} {sp : Sp} {e : Expr} {es : List Expr} {kws : List Keyword} {p pos : Pos} {t tk : TA} {gV : List V → List V → List V}
theorem pe_gk (G : Gk X.prog X.w X.K X.mg X.base CX k x n ks gV ps sp) (hr : Room k X.A) (hx : Passes CX X E) (ha : PA X (e :: es) t) (hkw : PK X kws tk) (hg : Gl X x := by rfl)
    (hall : (backToKw pos (keywordEach kws X.env)).all (·.1.isSome) = true := by rfl) (hks : (backToKw pos (keywordEach kws X.env)).filterMap (·.1) = ks := by rfl)
    (hdb : (x == ("__debug__" : Str)) = false := by decide) (he : starEach (e :: es) X.env = (false, eval e X.env) :: starEach es X.env := by rfl)
    (hpl : ((backTo pos (starEach (e :: es) X.env)).any (·.1) || (backToKw pos (keywordEach kws X.env)).any (·.1.isNone)) = false := by rfl) :
    PE X (.Call (.Name x p) (e :: es) kws pos) (tCallN n ks.length sp gV E t tk) := by
  obtain ⟨f, fd, g, a, b, c, F⟩ := G.ex
  exact pe_callN F hr hg a b c hx ha hkw hall hks hdb he hpl
theorem pe_gk0 (G : Gk X.prog X.w X.K X.mg X.base CX k x 0 ks gV ps sp) (hr : Room k X.A) (hx : Passes CX X E) (hkw : PK X kws tk) (hg : Gl X x := by rfl)
    (hall : (backToKw pos (keywordEach kws X.env)).all (·.1.isSome) = true := by rfl) (hks : (backToKw pos (keywordEach kws X.env)).filterMap (·.1) = ks := by rfl)
    (hdb : (x == ("__debug__" : Str)) = false := by decide)
    (hpl : ((backTo pos (starEach [] X.env)).any (·.1) || (backToKw pos (keywordEach kws X.env)).any (·.1.isNone)) = false := by rfl) :
    PE X (.Call (.Name x p) [] kws pos) (tCallN 0 ks.length sp gV E tNil tk) := by
  obtain ⟨f, fd, g, a, b, c, F⟩ := G.ex
  refine ⟨fun pins s σ H Q I h => ?_⟩
  refine wpAny_Call_Name_kw (ld_glob I hg a ?_ hdb)
  refine PySem.W.callWith_KW0 (h₀ := X.base) I.ok.mod.kin b hall ?_ hpl
  refine thn (hkw.run pos pins s σ H _ I h) fun ws s2 ⟨zs, H2, I2, rz, l1, l2, q2⟩ => ⟨I2.kIn, ?_⟩
  rw [hks]
  exact run_fnN (us := []) (vs := []) F hr c hx I2 .nil rz rfl l2 q2
end
/-! ### data -/
mutual
theorem Dp.to {K : Frag} {H H' : Hp} (e : Same H H') : ∀ {v : V} {d : PyData}, Dp K H v d → Dp K H' v d
  | _, _, .non => .non
  | _, _, .bl b => .bl b
  | _, _, .int i => .int i
  | _, _, .str x => .str x
  | _, _, .lst h a => .lst (e.seq h) (DpAll.to e a)
  | _, _, .tup h a => .tup (Same.tup e h) (DpAll.to e a)
theorem DpAll.to {K : Frag} {H H' : Hp} (e : Same H H') : ∀ {vs : List V} {ds : List PyData}, DpAll K H vs ds → DpAll K H' vs ds
  | _, _, .nil => .nil
  | _, _, .cons h t => .cons (Dp.to e h) (DpAll.to e t)
end
theorem DpAll.len {K : Frag} {H : Hp} : ∀ {vs : List V} {ds : List PyData}, DpAll K H vs ds → vs.length = ds.length
  | _, _, .nil => rfl
  | _, _, .cons _ t => congrArg Nat.succ (DpAll.len t)
theorem DpAll.at {K : Frag} {H : Hp} : ∀ {vs : List V} {ds : List PyData} {i : Nat} {d : PyData}, DpAll K H vs ds → ds[i]? = some d → ∃ v, vs[i]? = some v ∧ Dp K H v d
  | _, _, _, _, .nil, e => by simp at e
  | _, _, 0, d, .cons (v := v) h _, e => ⟨v, rfl, by simp at e; subst e; exact h⟩
  | _, _, i + 1, d, .cons _ t, e => by
    obtain ⟨v, h1, h2⟩ := DpAll.at (i := i) (d := d) t (by simpa using e)
    exact ⟨v, by simpa using h1, h2⟩
/-! ### a heap without its bag -/
def Hx (p : Addr) (H : Hp) : Hp := fun b => if b = p then none else H b
theorem Hx.sub {p : Addr} {H : Hp} : Same (Hx p H) H := fun b o e => by
  unfold Hx at e
  split at e
  · cases e
  · exact e
theorem Hx.ne {p b : Addr} {H : Hp} (h : b ≠ p) : Hx p H b = H b := by
  unfold Hx
  rw [if_neg h]
theorem Hx.self {p : Addr} {H : Hp} : Hx p H p = none := by
  unfold Hx
  rw [if_pos rfl]
/-- all but p is as it was -/
abbrev SameX (p : Addr) (H H' : Hp) : Prop := Same (Hx p H) (Hx p H')
theorem SameX.of {p : Addr} {H H' : Hp} (h : ∀ b o, b ≠ p → H b = some o → H' b = some o) : SameX p H H' := fun b o e => by
  by_cases hb : b = p
  · subst hb
    rw [Hx.self] at e
    cases e
  · rw [Hx.ne hb] at e ⊢
    exact h b o hb e
theorem SameX.at {p b : Addr} {H H' : Hp} {o : HO} (h : SameX p H H') (hb : b ≠ p) (e : H b = some o) : H' b = some o := by
  have q := h b o (by rw [Hx.ne hb]; exact e)
  rw [Hx.ne hb] at q
  exact q
theorem SameX.same {p : Addr} {H H' : Hp} (h : Same H H') : SameX p H H' := .of fun b o _ e => h b o e
/-- the bag of the draws -/
structure BagAt (H : Hp) (p l : Addr) : Prop where
  ex : ∃ (i rest seed : Int) (ns : List Int), H p = some (.lst [.ref l, .int i, .int rest, .int seed]) ∧ H l = some (.lst (ns.map V.int)) ∧ 0 ≤ i ∧ 0 ≤ rest ∧ 0 ≤ seed ∧ seed < 2147483647
theorem BagAt.to {H H' : Hp} {p l : Addr} (B : BagAt H p l) (h : Same H H') : BagAt H' p l := by
  obtain ⟨i, r, s, ns, a, b, c⟩ := B.ex
  exact ⟨i, r, s, ns, h _ _ a, h _ _ b, c⟩
def spBag (K : Frag) : Sp := fun vs H Q _ => ∃ (a : Addr) (ns : List Int), vs = [.ref a] ∧ SqL K H a (ns.map V.int) ∧ ∀ p l H', H p = none → Same H H' → BagAt H' p l → Q (.ref p) H'
def spPull : Sp := fun vs H Q _ => ∃ (p l : Addr) (n : Int), vs = [.ref p, .int n] ∧ BagAt H p l ∧ 0 < n ∧ n < 2 ^ 100 ∧ ∀ (r : Int) H', 0 ≤ r → r < n → SameX p H H' → BagAt H' p l → Q (.int r) H'
/-- a list or a tuple -/
def SqA (K : Frag) (H : Hp) (a : Addr) (xs : List V) : Prop := SqL K H a xs ∨ SqT K H a xs
theorem SqA.to {K : Frag} {H H' : Hp} {a : Addr} {xs : List V} (e : Same H H') (h : SqA K H a xs) : SqA K H' a xs := h.elim (fun h => .inl (e.seq h)) fun h => .inr (Same.tup e h)
def spOf (K : Frag) : Sp := fun vs H Q _ => ∃ (p l a : Addr) (xs : List V), vs = [.ref p, .ref a] ∧ BagAt H p l ∧ SqA K (Hx p H) a xs ∧ xs ≠ [] ∧ (xs.length : Int) < 2 ^ 100 ∧ ∀ x ∈ xs, ∀ H', SameX p H H' → BagAt H' p l → Q x H'
end Fs
set_option Elab.async false
set_option linter.all false
set_option maxRecDepth 100000
set_option maxHeartbeats 8000000
namespace Fs
open PySem PySem.Spec PyProof.Rows L2
/-! ### types of data -/
inductive Tg | list | tuple | dict | bool | int | str
def Tg.nm : Tg → String
  | .list => "list" | .tuple => "tuple" | .dict => "dict" | .bool => "bool" | .int => "int" | .str => "str"
def tyD : PyData → String
  | .none => "NoneType" | .bool _ => "bool" | .int _ => "int" | .str _ => "str" | .list _ => "list" | .tuple _ => "tuple" | .dict _ => "dict"
def isT : Tg → PyData → Bool
  | .list, .list _ => true
  | .tuple, .tuple _ => true
  | .dict, .dict _ => true
  | .bool, .bool _ => true
  | .int, .bool _ => true
  | .int, .int _ => true
  | .str, .str _ => true
  | _, _ => false
theorem isT_kit (t : Tg) (d : PyData) : kitB (tyD d) t.nm = some (isT t d) := by
  cases t <;> cases d <;> simp only [tyD, Tg.nm, isT] <;> decide +kernel
theorem SqL.ty {K : Frag} {H : Hp} {a : Addr} {xs : List V} (h : SqL K H a xs) : TyX K H (.ref a) (.type "list") := by
  rcases h with (h | ⟨o, h⟩) | ⟨o, its, n, h1, h2, _⟩
  · exact .base (.lst h)
  · exact .base (.frz h)
  · exact .kList h1 h2
theorem SqT.ty {K : Frag} {H : Hp} {a : Addr} {xs : List V} (h : SqT K H a xs) : TyX K H (.ref a) (.type "tuple") := by
  rcases h with (h | ⟨o, h⟩) | ⟨o, its, n, h1, h2, _⟩
  · exact .base (.tup h)
  · exact .fTuple h
  · exact .kTuple h1 h2
theorem Dp.ty {K : Frag} {H : Hp} {v : V} {d : PyData} (h : Dp K H v d) : TyX K H v (.type (tyD d)) := by
  cases h with
  | non => exact .base .non
  | bl b => exact .base (.bl b)
  | int i => exact .base (.int i)
  | str x => exact .base (.str x)
  | lst h _ => exact SqL.ty h
  | tup h _ => exact SqT.ty h
section
variable {X : Cx}
/-- isinstance(x, T) of data -/
def rIsD (K : Frag) : List V → Hp → VK → Prop := fun xs H Q => ∃ (x : V) (t : Tg) (d : PyData), xs = [x, .ty t.nm] ∧ Dp K H x d ∧ Q (.bl (isT t d)) H
theorem call_isD : CallR X (.builtin "isinstance") (rIsD X.K) := by
  intro pins s σ H xs us Q I r h
  obtain ⟨x, t, d, rfl, hd, q⟩ := h
  exact call_isi pins s σ H _ us Q I r ⟨x, _, _, _, _, rfl, .ty _, Dp.ty hd, kit_ty (isT_kit t d), q⟩
/-- isinstance(x, (S, T)) -/
def rIsD2 (K : Frag) : List V → Hp → VK → Prop := fun xs H Q => ∃ (x : V) (p : Addr) (t u : Tg) (d : PyData), xs = [x, .ref p] ∧ H p = some (.tup [.ty t.nm, .ty u.nm]) ∧ Dp K H x d ∧ Q (.bl (isT t d || isT u d)) H
theorem call_isD2 : CallR X (.builtin "isinstance") (rIsD2 X.K) := by
  intro pins s σ H xs us Q I r h
  obtain ⟨x, p, t, u, d, rfl, hp, hd, q⟩ := h
  refine call_isiT pins s σ H _ us Q I r ⟨x, p, _, _, [.type t.nm, .type u.nm], isT t d || isT u d, rfl, hp, .cons (.ty _) (.cons (.ty _) .nil), Dp.ty hd, ?_, q⟩
  refine kitAny_cons (kit_ty (isT_kit t d)) (fun e => ?_) (fun e => by rw [e]; rfl)
  rw [e, Bool.false_or]
  refine kitAny_cons (kit_ty (isT_kit u d)) (fun e => ?_) (fun e => e)
  rw [e]
  rfl
/-- an item of a list or a tuple -/
def rIxA (K : Frag) : R2 := fun x y H Q => ∃ (a : Addr) (xs : List V) (i : Int) (v : V), x = .ref a ∧ y = .int i ∧ SqA K H a xs ∧ atI xs i = some v ∧ Q v H
theorem ix_any : IxR X (rIxA X.K) := by
  intro value slice pins s σ H x y v u Q I rx ry h
  obtain ⟨a, xs, i, z, rfl, rfl, hs, e, q⟩ := h
  rcases hs with hs | hs
  · exact ix_list value slice pins s σ H _ _ v u Q I rx ry ⟨a, xs, i, z, rfl, rfl, hs, e, q⟩
  · exact ix_tup value slice pins s σ H _ _ v u Q I rx ry ⟨a, xs, i, z, rfl, rfl, hs, e, q⟩
end
theorem ix_anyK {X : Cx} (K : Frag) (hK : X.K = K := by rfl) : IxR X (rIxA K) := by
  subst hK
  exact ix_any
theorem call_isDK {X : Cx} (K : Frag) (hK : X.K = K := by rfl) : CallR X (.builtin "isinstance") (rIsD K) := by
  subst hK
  exact call_isD
/-! ### what a datum is made of -/
/-- the items of a list or a tuple -/
def itemsD : PyData → List PyData
  | .list ds => ds
  | .tuple ds => ds
  | _ => []
theorem depth_at : ∀ {ds : List PyData} {i : Nat} {d : PyData}, ds[i]? = some d → d.depth ≤ PyData.depthAll ds
  | [], _, _, h => by simp at h
  | x :: xs, 0, d, h => by
    simp at h
    subst h
    show x.depth ≤ max x.depth (PyData.depthAll xs)
    omega
  | x :: xs, i + 1, d, h => by
    have ih := depth_at (ds := xs) (i := i) (d := d) (by simpa using h)
    show d.depth ≤ max x.depth (PyData.depthAll xs)
    omega
theorem replicate_more {α : Type} (i : Nat) (x : α) : List.replicate i x ++ [x] = List.replicate (i + 1) x := by
  rw [List.replicate_succ', ]
/-- a list that grows at D, new beside H -/
theorem same_grow {H H' : Hp} {D : Addr} {o : HO} (s : Same H H') (nD : H D = none) : Same H (upd H' D o) := fun c u e => by
  rw [upd_ne (ne_of_none e nD)]
  exact s c u e
theorem all_true (n : Nat) : (List.replicate n true).all id = true := by
  induction n with
  | zero => rfl
  | succ n ih => rw [List.replicate_succ, List.all_cons, ih]; rfl
/-- not deeper than n levels, nowhere wider than a million -/
def Fit : Nat → PyData → Prop
  | 0, _ => False
  | n + 1, d => (itemsD d).length ≤ 1000000 ∧ ∀ e ∈ itemsD d, Fit n e
theorem Fit.mono : ∀ {n m : Nat} {d : PyData}, Fit n d → n ≤ m → Fit m d
  | 0, _, _, h, _ => h.elim
  | n + 1, 0, _, _, h => by omega
  | n + 1, m + 1, d, h, l => ⟨h.1, fun e he => Fit.mono (h.2 e he) (by omega)⟩
/-- both stand for the same datum -/
def spSame (K : Frag) (n : Nat) : Sp := fun vs H Q _ => ∃ (x y : V) (d : PyData), vs = [x, y] ∧ Dp K H x d ∧ Dp K H y d ∧ Fit n d ∧ ∀ H', Same H H' → Q (.bl true) H'
/-- a sequence's items -/
theorem Dp.seq {K : Frag} {H : Hp} {v : V} {d : PyData} (h : Dp K H v d) (e : (isT .list d || isT .tuple d) = true) : ∃ a xs, v = .ref a ∧ SqA K H a xs ∧ DpAll K H xs (itemsD d) := by
  cases h with
  | lst hs ha => exact ⟨_, _, rfl, .inl hs, ha⟩
  | tup hs ha => exact ⟨_, _, rfl, .inr hs, ha⟩
  | non => cases e
  | bl b => cases e
  | int i => cases e
  | str x => cases e
theorem iteB {c : Bool} {A B : Prop} (h1 : c = true → A) (h2 : c = false → B) : if c = true then A else B := by
  cases c with
  | true => exact iteT (h1 rfl)
  | false => exact iteF (h2 rfl)
theorem tYes_of {A B : Hp → Prop} {σ : L2.St} {H : Hp} (h : A H) : tYes σ H fun b H3 => if b = true then A H3 else B H3 := h
theorem ite_of {c : Bool} {A B : Prop} (e : c = true) (h : A) : if c = true then A else B := by
  rw [if_pos e]
  exact h
theorem ite_no {c : Bool} {A B : Prop} (e : c = false) (h : B) : if c = true then A else B := by
  rw [e]
  exact iteF h
/-- a comprehension without tests whose element computes f i and leaves what stood -/
theorem lc_pure {J : It} {n : Nat} {G : Hp → Prop} {Y : Nat → Hp → V → Hp → Prop} (w : Walk J n G Y) {g : TG} {te : TE} {vs : List Nat} {σ : L2.St} {H1 : Hp} {D : Addr} {Qd : Hp → Prop} (f : Nat → V) (nD : H1 D = none) (hn : n ≤ 1000000) (hG : ∀ H, Same H1 H → G H)
    (hY : ∀ i H x H', i < n → Y i H x H' → Same H H')
    (hs : ∀ i x H H' (Kt : V → Hp → Prop), i < n → Same H1 H → Y i H x H' → (∀ H4, Same H' H4 → Kt (f i) H4) → g x (wipe σ vs) H' fun σ2 H2 => wipe σ2 vs = wipe σ vs ∧ te σ2 H2 Kt)
    (hg : ∀ x σ H (A B : L2.St → Hp → Prop), (∀ σ H, A σ H → B σ H) → g x σ H A → g x σ H B)
    (hd : ∀ H, Same H1 H → H D = some (.lst ((List.range n).map f)) → Qd H) :
    ∃ W : Nat → Nat → Hp → Prop, (∃ m, W 0 m (upd H1 D (.lst []))) ∧ ∀ i m H, W i m H →
      (J.stop i H ∧ Qd H) ∨ (J.go i H ∧ ∃ Nx : Hp → Prop, (∀ H', Nx H' → ∃ m', m' < m ∧ W (i + 1) m' H') ∧ ∀ x H', J.yld i H x H' → g x (wipe σ vs) H' fun σ2 H2 => wipe σ2 vs = wipe σ vs ∧ tYes σ2 H2 fun b H3 =>
        if b = true then te σ2 H3 fun y H4 => ∃ acc, H4 D = some (.lst acc) ∧ acc.length < sizeLine ∧ Nx (upd H4 D (.lst (acc ++ [y]))) else Nx H3) := by
  refine lc_it w (fun i H => Same H1 H ∧ H D = some (.lst ((List.range i).map f))) ⟨same_new nD _, upd_same⟩ (fun i H _ ⟨s, _⟩ => hG H s) (fun i x H H' hi ⟨s, hD⟩ y => ?_) (fun H ⟨s, hD⟩ => hd H s hD)
  have z := hs i x H H' (fun y H4 => ∃ acc, H4 D = some (.lst acc) ∧ acc.length < sizeLine ∧ Same H1 (upd H4 D (.lst (acc ++ [y]))) ∧ (upd H4 D (.lst (acc ++ [y]))) D = some (.lst ((List.range (i + 1)).map f))) hi s y (fun H4 s4 => ?_)
  · refine hg _ _ _ _ _ (fun σ2 H2 h => ?_) z
    exact ⟨h.1, tYes_of h.2⟩
  · refine ⟨_, s4 _ _ (hY i H x H' hi y _ _ hD), ?_, same_grow (s.trans ((hY i H x H' hi y).trans s4)) nD, ?_⟩
    · rw [List.length_map, List.length_range, sizeLine_eq]
      omega
    · rw [upd_same, List.range_succ, List.map_append]
      rfl
/-- targets that let more through -/
theorem gName_mono (i : Nat) : ∀ x σ H (A B : L2.St → Hp → Prop), (∀ σ H, A σ H → B σ H) → gName i x σ H A → gName i x σ H B := fun _ _ _ _ _ k h => k _ _ h
theorem YAt_same {xs : List V} {n : Nat} : ∀ i H x H', i < n → YAt xs i H x H' → Same H H' := fun _ _ _ _ _ h => by
  rw [h.1]
  exact Same.refl _
theorem YFn_same {f : Nat → V} {n : Nat} : ∀ i H x H', i < n → YFn f i H x H' → Same H H' := fun _ _ _ _ _ h => by
  rw [h.1]
  exact Same.refl _
theorem bls {n : Nat} {f : Nat → Bool} : ((List.range n).map f).map V.bl = (List.range n).map fun i => V.bl (f i) := by
  rw [List.map_map]
  rfl
/-! ### what never changes: tuples -/
def Imm (H H' : Hp) : Prop := ∀ b xs, Rd H b (.tup xs) → Rd H' b (.tup xs)
theorem Imm.refl (H : Hp) : Imm H H := fun _ _ h => h
theorem Imm.trans {H H1 H2 : Hp} (a : Imm H H1) (b : Imm H1 H2) : Imm H H2 := fun c o h => b c o (a c o h)
theorem Imm.same {H H' : Hp} (s : Same H H') : Imm H H' := fun b xs h => by
  rcases h with h | ⟨o, h⟩
  · exact .inl (s _ _ h)
  · exact .inr ⟨o, s _ _ h⟩
theorem Imm.upd {H : Hp} {D : Addr} {acc : List V} {o : HO} (h : H D = some (.lst acc)) : Imm H (L2.upd H D o) := fun b xs e => by
  have ne : b ≠ D := fun z => by
    subst z
    rcases e with e | ⟨o, e⟩ <;> rw [h] at e <;> cases e
  unfold L2.Rd at e ⊢
  rw [upd_ne ne]
  exact e
theorem Imm.bag {p l : Addr} {H H' : Hp} (s : SameX p H H') (B : BagAt H p l) : Imm H H' := fun b xs e => by
  obtain ⟨i, r, sd, ns, hp, _⟩ := B.ex
  have ne : b ≠ p := fun z => by
    subst z
    rcases e with e | ⟨o, e⟩ <;> rw [hp] at e <;> cases e
  rcases e with e | ⟨o, e⟩
  · exact .inl (s.at ne e)
  · exact .inr ⟨o, s.at ne e⟩
mutual
/-- no list within -/
def noL : PyData → Bool
  | .list _ => false
  | .tuple ds => noLs ds
  | .dict _ => false
  | _ => true
def noLs : List PyData → Bool
  | [] => true
  | d :: ds => noL d && noLs ds
end
theorem Imm.tup {K : Frag} {H H' : Hp} {a : Addr} {xs : List V} (e : Imm H H') (h : SqT K H a xs) : SqT K H' a xs := by
  rcases h with h | h
  · exact .inl (e _ _ h)
  · exact .inr h
mutual
theorem Dp.imm {K : Frag} {H H' : Hp} (e : Imm H H') : ∀ {v : V} {d : PyData}, noL d = true → Dp K H v d → Dp K H' v d
  | _, _, _, .non => .non
  | _, _, _, .bl b => .bl b
  | _, _, _, .int i => .int i
  | _, _, _, .str x => .str x
  | _, _, n, .lst h a => by cases n
  | _, _, n, .tup h a => .tup (Imm.tup e h) (DpAll.imm e n a)
theorem DpAll.imm {K : Frag} {H H' : Hp} (e : Imm H H') : ∀ {vs : List V} {ds : List PyData}, noLs ds = true → DpAll K H vs ds → DpAll K H' vs ds
  | _, _, _, .nil => .nil
  | _, _, n, .cons h t => by
    have n' := Bool.and_eq_true_iff.mp n
    exact .cons (Dp.imm e n'.1 h) (DpAll.imm e n'.2 t)
end
theorem BagAt.ne {H : Hp} {p l D : Addr} (B : BagAt H p l) (h : H D = none) : D ≠ p := fun z => by
  obtain ⟨i, r, sd, ns, hp, _⟩ := B.ex
  rw [z, hp] at h
  cases h
theorem BagAt.neL {H : Hp} {p l D : Addr} (B : BagAt H p l) (h : H D = none) : BagAt (upd H D (.lst [])) p l := B.to (same_new h _)
/-- a comprehension without tests that draws: its element i is some v with R i v -/
theorem lc_draw {J : It} {n : Nat} {G : Hp → Prop} {Y : Nat → Hp → V → Hp → Prop} (w : Walk J n G Y) {g : TG} {te : TE} {vs : List Nat} {σ : L2.St} {H1 : Hp} {D p l : Addr} {Qd : Hp → Prop} (R : Nat → V → Hp → Prop) (B : BagAt H1 p l) (nD : H1 D = none) (hn : n ≤ 1000000)
    (hR : ∀ i v H H', Imm H H' → R i v H → R i v H') (hG : ∀ H, SameX p H1 H → G H) (hY : ∀ i H x H', i < n → Y i H x H' → Same H H')
    (hs : ∀ i x H H' (Kt : V → Hp → Prop), i < n → SameX p H1 H' → BagAt H' p l → Y i H x H' → (∀ v H4, SameX p H' H4 → BagAt H4 p l → R i v H4 → Kt v H4) → g x (wipe σ vs) H' fun σ2 H2 => wipe σ2 vs = wipe σ vs ∧ te σ2 H2 Kt)
    (hg : ∀ x σ H (A B : L2.St → Hp → Prop), (∀ σ H, A σ H → B σ H) → g x σ H A → g x σ H B)
    (hd : ∀ H ys, SameX p H1 H → BagAt H p l → H D = some (.lst ys) → ys.length = n → (∀ i v, ys[i]? = some v → R i v H) → Qd H) :
    ∃ W : Nat → Nat → Hp → Prop, (∃ m, W 0 m (upd H1 D (.lst []))) ∧ ∀ i m H, W i m H →
      (J.stop i H ∧ Qd H) ∨ (J.go i H ∧ ∃ Nx : Hp → Prop, (∀ H', Nx H' → ∃ m', m' < m ∧ W (i + 1) m' H') ∧ ∀ x H', J.yld i H x H' → g x (wipe σ vs) H' fun σ2 H2 => wipe σ2 vs = wipe σ vs ∧ tYes σ2 H2 fun b H3 =>
        if b = true then te σ2 H3 fun y H4 => ∃ acc, H4 D = some (.lst acc) ∧ acc.length < sizeLine ∧ Nx (upd H4 D (.lst (acc ++ [y]))) else Nx H3) := by
  have nDp := B.ne nD
  refine lc_it w (fun i H => SameX p H1 H ∧ BagAt H p l ∧ ∃ ys, H D = some (.lst ys) ∧ ys.length = i ∧ ∀ j v, ys[j]? = some v → R j v H) ⟨SameX.same (same_new nD _), B.neL nD, [], upd_same, rfl, fun j v e => by simp at e⟩ (fun i H _ ⟨s, _⟩ => hG H s) (fun i x H H' hi ⟨s, BH, ys, hD, hl, hr⟩ y => ?_) (fun H ⟨s, BH, ys, hD, hl, hr⟩ => hd H ys s BH hD hl hr)
  have sy := hY i H x H' hi y
  have z := hs i x H H' (fun y H4 => ∃ acc, H4 D = some (.lst acc) ∧ acc.length < sizeLine ∧ SameX p H1 (upd H4 D (.lst (acc ++ [y]))) ∧ BagAt (upd H4 D (.lst (acc ++ [y]))) p l ∧ ∃ ys, (upd H4 D (.lst (acc ++ [y]))) D = some (.lst ys) ∧ ys.length = i + 1 ∧ ∀ j v, ys[j]? = some v → R j v (upd H4 D (.lst (acc ++ [y])))) hi (s.trans (SameX.same sy)) (BH.to sy) y (fun v H4 s4 B4 r4 => ?_)
  · refine hg _ _ _ _ _ (fun σ2 H2 h => ?_) z
    exact ⟨h.1, tYes_of h.2⟩
  · have h4 : H4 D = some (.lst ys) := s4.at nDp (sy _ _ hD)
    refine ⟨ys, h4, by rw [hl, sizeLine_eq]; omega, SameX.of fun b o hb e => ?_, ?_, ys ++ [v], upd_same, by rw [List.length_append, hl]; rfl, fun j u e => ?_⟩
    · rw [upd_ne (ne_of_none e nD)]
      exact s4.at hb ((SameX.same sy).at hb (s.at hb e))
    · obtain ⟨a, b, c, ns, hp, hls, k⟩ := B4.ex
      obtain ⟨a', b', c', ns', hp', hl', _⟩ := B.ex
      refine ⟨a, b, c, ns, ?_, ?_, k⟩
      · rw [upd_ne (fun z => nDp z.symm)]
        exact hp
      · rw [upd_ne (ne_of_none hl' nD)]
        exact hls
    · have I1 : Imm H (upd H4 D (.lst (ys ++ [v]))) := (Imm.same sy).trans ((Imm.bag s4 (BH.to sy)).trans (Imm.upd h4))
      by_cases hj : j < ys.length
      · rw [List.getElem?_append_left hj] at e
        exact hR _ _ _ _ I1 (hr _ _ e)
      · have ej : j = ys.length := by
          have := (List.getElem?_eq_some_iff.mp e).1
          rw [List.length_append, List.length_singleton] at this
          omega
        subst ej
        rw [List.getElem?_append_right (Nat.le_refl _), Nat.sub_self] at e
        have e2 : v = u := Option.some.inj e
        subst e2
        rw [hl]
        exact hR _ _ _ _ (Imm.upd h4) r4
theorem at_z {K : Frag} {H : Hp} {a : Addr} {xs : List V} (h : H a = some (.lst xs)) : SqL K H a xs := .inl (.inl h)
theorem cutN (xs : List V) (n : Nat) : cutV xs none (some (n : Int)) = xs.take n := by
  unfold cutV
  rw [HT.sIx_none, HT.sIx_nat]
  show List.take (min n xs.length - 0) xs = _
  rw [Nat.sub_zero]
  by_cases h : n ≤ xs.length
  · rw [Nat.min_eq_left h]
  · rw [Nat.min_eq_right (by omega), List.take_of_length_le (Nat.le_refl _), List.take_of_length_le (by omega)]
/-- law's promise: True -/
def spLaw (K : Frag) : Sp := fun vs H Q _ => ∃ (a : Addr) (ns : List Int), vs = [.ref a] ∧ SqL K H a (ns.map V.int) ∧ ns.length ≤ 63 ∧ ∀ H', Q (.bl true) H'
abbrev dD (x : Str) (st : Stmt) : He.DefD := ⟨(x, none), x, x, defArgs st, defBody st, defScope st, [], []⟩
theorem gs_of {fa : List He.Fa} {fn : List He.DefD} {K : Frag} {h : Heap} {mg : Str → Option Value} (X : K.In h) (G : h.Ns mainGlobals mg) (c : He.SaysD fa fn K) (i j : Nat) (x : Str) (st : Stmt) (hi : fn[i]? = some (dD x st)) (hj : fa[j]? = some (.glo x)) : Gs K mg x st := by
  obtain ⟨fd, F⟩ := c.def_ i hi
  exact ⟨_, fd, He.glo_ok X G (c.fact j hj), F⟩
theorem free_of {fa : List He.Fa} {fn : List He.DefD} {K : Frag} {h : Heap} {mg : Str → Option Value} (X : K.In h) (G : h.Ns mainGlobals mg) (c : He.SaysD fa fn K) (j : Nat) (x : Str) (hj : fa[j]? = some (.free x)) : mg x = none := He.free_ok X G (c.fact j hj)
end Fs
set_option Elab.async false
set_option linter.all false
set_option maxRecDepth 100000
set_option maxHeartbeats 8000000
namespace Fs
open PySem PySem.Spec PyProof.Rows L2
def top (i : Nat) : Stmt := PySem.Challenge.pw_framesure_k64_error_classes.main.body.getD i (.Pass ⟨0, 0, 0, 0⟩)
end Fs
set_option Elab.async false
set_option linter.all false
set_option maxRecDepth 100000
set_option maxHeartbeats 8000000
namespace Fs
open PySem PySem.Spec PyProof.Rows L2
/-! ### fields of an exception that is pinned -/
def tXp (K : Frag) (a : Addr) (cls : Value) (d : Option Addr) (n : Str) (te : TE) : TE := fun σ H Q => te σ H fun x H1 => x = .ref a ∧ ∃ (C dd : Addr) (fs : List (Str × V)) (v : V), cls = .ref C ∧ d = some dd ∧ XfC K C ∧ PySem.W.findIn K (.ref C) n = some none ∧ H1 dd = some (.xd fs) ∧ fs.lookup n = some v ∧ Q v H1
theorem pe_xp {X : Cx} {p : Addr × Obj} {cls : Value} {d : Option Addr} {n : Str} {e : Expr} {te : TE} {pos : Pos} (hp : p ∈ X.pn) (hz : Zc cls d p.2) (hf : ∃ vs, p.2.data = .fields vs) (he : PE X e te)
    (hb : attributeBase e n X.env (eval e X.env) = eval e X.env := by rfl) : PE X (.Attribute e n pos) (tXp X.K p.1 cls d n te) := by
  constructor
  intro pins s σ H Q I h
  refine attr_of hb (thn (he.run pins s σ H _ I h) ?_)
  rintro u s1 ⟨x, H1, I1, rx, rfl, C, dd, fs, v, rfl, rfl, T, no, hd, hv, q⟩
  cases (show u = Value.ref p.1 from rx)
  have at_p := (I1.pin p (List.mem_append_left _ hp)).1
  obtain ⟨vs, dv⟩ := hf
  obtain ⟨mA, hns, hr⟩ := (show ObjOk X.prog X.w H1 s1.heap dd (.xd fs) from I1.hok dd _ hd)
  obtain ⟨od, ho, hlk⟩ := lookIn_ns hns
  obtain ⟨u, hu, ru⟩ := RelO.some_of (v := v) (o := mA n) (by have z := hr n; rw [hv] at z; exact z)
  have inst : PySem.W.InstAt s1.heap p.1 p.2 C (some od) := ⟨at_p, hz.1, (by unfold PySem.W.notCls; rw [dv] <;> rfl), (by rw [hz.2]; exact ho)⟩
  exact HandSPX.exc_get I1.kIn inst T.ga T.gg T.exC (PySem.W.findObj_own T.hdC no rfl (by rw [hlk, hu])) (handed_of ru) ⟨v, H1, I1.tok _, ru, q⟩
/-! ### a def called while p stands pinned -/
/-- the promise of a def that is called within a suite, p the exception that is handled -/
def FnP (P : Program) (w : World) (K : Frag) (mg : Str → Option Value) (base : Heap) (p : Addr × Obj) (k : Nat) (f : Addr) (sp : List V → Hp → VK → Prop) : Prop :=
  ∀ (A : Around) (outer : List Env) (s : Shared) (H : Hp) (us : List Value) (vs : List V) (Q : VK), L2H.RoomH k A → L2H.PinOk outer H s p → Env0 P w K mg base A outer s H → Vals vs us → sp vs H Q →
    codeAny (model P w) A (.call (.ref f) ⟨us, []⟩) (CR CX0 outer P w H s Q E0) s
section
variable {P : Program} {w : World} {K : Frag} {mg : Str → Option Value} {base : Heap}
theorem fnP_of {x qual : Str} {st : Stmt} {N ps : List Str} {k : Nat} {p : Addr × Obj} {f : Addr} {fd : FuncData} {sp : List V → Hp → VK → Prop} (D : FunD K x qual (defArgs st) (defBody st) (defScope st) [] [] f fd) (S : FnScope N ps (defScope st)) (len : ∀ vs H Q, sp vs H Q → vs.length = ps.length) (hb : Binds K fd ps [])
    (body : ∀ (cdv : Value) (A : Around) (outer : List Env) (s : Shared) (H : Hp) (vs : List V) (Q : VK), sp vs H Q →
      ∃ t, PSs (L2H.cxH CX0 P w K mg base N qual (defScope st) f cdv A outer s H E0 p) (defBody st) t ∧ t { nx := fun _ H' => Q .non H', rt := Q } (start N vs) H) : FnP P w K mg base p (k + 1) f sp := by
  intro A outer s H us vs Q room pin e0 r h
  have nvs := len _ _ _ h
  have KX : K.In s.heap := e0.mod.kin.keeps fun b o e => (e0.bs b o e).1
  have bt : BindsTo s fd ⟨us, []⟩ (ps.zip us) := by
    have z := hb s us KX (by rw [List.append_nil, ← r.length]; exact nvs)
    rw [List.append_nil] at z
    exact z
  obtain ⟨oc, od, dV, kV, doc, pm, an, cdv, ct, osl, rfl, lk, hcd, _, _⟩ := D.ex
  refine codeAny_call_function room.depth (KX _ _ lk) rfl S.co S.gen rfl (PySem.W.codeRec_of KX hcd) (bt _ _ _ _ (wpAny_newFunctionEnv_cells S.kind ?_ ?_))
  · intro y hy
    rcases S.par y.1 (List.of_mem_zip hy).1 with q | q
    · exact .inl q
    · exact .inr ⟨q, PySem.W.cellsFrom_some _ _ _ (.inl q)⟩
  · intro env he s1 x
    subst he
    refine ⟨(e0.mod.nolimit.keeps fun b o e => (e0.bs b o e).1).keeps x.toInCall.keep, codeAny_func ?_⟩
    obtain ⟨t, ht, hq⟩ := body cdv A outer s H vs Q h
    refine wpAny_mono (ht.run [] s1 _ H _ (L2H.inv_startH S pin e0 nvs r x) hq) ?_ fun e s' z => z
    intro fl s' z
    cases fl with
    | ret u =>
      obtain ⟨v, σ', H', J, rv, qv⟩ := z
      exact ⟨v, H', J.os, J.bare, J.base, J.hok, rv, qv⟩
    | next =>
      obtain ⟨σ', H', J, qv⟩ := z
      exact ⟨.non, H', J.os, J.bare, J.base, J.hok, rfl, qv⟩
    | brk =>
      obtain ⟨_, _, _, no⟩ := z
      exact no.elim
    | cont =>
      obtain ⟨_, _, _, no⟩ := z
      exact no.elim
end
/-- its call, in a context that bears p -/
def tCallP (sp : List V → Hp → VK → Prop) (t : TA) : TE := fun σ H Q => t σ H fun vs H1 => sp vs H1 Q
theorem pe_callP {X : Cx} {k : Nat} {f : Addr} {x : Str} {sp : List V → Hp → VK → Prop} {p : Addr × Obj} {t : TA} {e : Expr} {es : List Expr} {q pos : Pos} (F : FnP X.prog X.w X.K X.mg X.base p k f sp) (hp : p ∈ X.pn) (room : L2H.RoomH k X.A) (hm : X.mg x = some (.ref f)) (hk : PySem.W.keepIn X.K (.ref f) = true)
    (ha : PA X (e :: es) t) (hg : Gl X x := by rfl) (hdb : (x == ("__debug__" : Str)) = false := by decide) (he : starEach (e :: es) X.env = (false, eval e X.env) :: starEach es X.env := by rfl) (hpl : (backTo pos (starEach es X.env)).any (·.1) = false := by rfl) :
    PE X (.Call (.Name x q) (e :: es) [] pos) (tCallP sp t) := by
  constructor
  intro pins s σ H Q I h
  refine wpAny_Call_Name_kw (ld_glob I hg hm (PySem.W.callWith_K (h₀ := X.base) I.ok.mod.kin hk (thn (ha.run pos pins s σ H _ I h) ?_) he hpl) hdb)
  rintro us s1 ⟨vs, H1, I1, r, hq⟩
  refine ⟨I1.kIn, ?_⟩
  obtain ⟨g1, g2, g3, g4, g5⟩ := I1.pin p (List.mem_append_left _ hp)
  have pin : L2H.PinOk X.stack H1 s1 p := ⟨g1, g2, fun m => (List.mem_cons.mp (I1.stkSub p.1 m)).elim g3 g4, g5⟩
  refine wpAny_call (codeAny_mono (F X.A X.stack s1 H1 us vs Q room pin I1.env0 r hq) ?_)
  intro z s2 hz
  cases z with
  | error e => exact (show False from hz).elim
  | ok fl =>
    cases fl with
    | ret u => exact I1.after hz
    | next => exact (show False from hz).elim
    | brk => exact (show False from hz).elim
    | cont => exact (show False from hz).elim
/-! ### except (A, B, C) as n -/
/-- what the clause wishes: the exception is of one of the classes -/
def w3 (K : Frag) (m : Nat) (cs : List Value) (i : Nat) (ts : Addr → Value → Option Addr → TS) (D : Ends) : WX := fun cls d σ H =>
  PySem.W.exmAny K cls cs = some true ∧ ∀ a, H a = none → σ.length = m → ts a cls d { nx := fun σ' H' => D.nx (σ'.set i none) H', rt := D.rt, bk := fun σ' H' => D.bk (σ'.set i none) H', ct := fun σ' H' => D.ct (σ'.set i none) H' } (σ.set i (some (.ref a))) H
theorem flying_more {B : Heap} {l : List Env} {a : Addr} {Z : Obj → Prop} {h h' : Heap} (k : ∀ b o, h.get? b = some o → h'.get? b = some o) (x : HandSPX.FlyingZ B l a Z h) : HandSPX.FlyingZ B l a Z h' := by
  obtain ⟨x1, x2, x3, oe, vs, T, oT, ts, y1, y2, y3, y4, y5, y6, y7, y8⟩ := x
  exact ⟨fun b o e => k b o (x1 b o e), x2, Heap.FunFrames.of_keeps (fun b o e _ => ⟨o, k b o e, rfl⟩) x3, oe, vs, T, oT, ts, k _ _ y1, y2, y3, y4, y5, y6, k _ _ y7, y8⟩
section
variable {X : Cx} {x1 x2 x3 n : Str} {C1 C2 C3 : Addr} {i : Nat} {body suite : List Stmt} {b₀ : Stmt} {p1 p2 p3 np pos pos' : Pos} {k : Nat} {tb : WX → TS} {ts : Addr → Value → Option Addr → TS}
theorem ps_try3 (hs : X.stack = X.env :: X.outer) (hf : X.env.frame = some X.env.locals) (hN : X.N.Nodup) (hi : X.N[i]? = some n) (hln : X.env.kindOf n = some .local) (g1 : Gl X x1) (m1 : X.mg x1 = some (.ref C1)) (g2 : Gl X x2) (m2 : X.mg x2 = some (.ref C2)) (g3 : Gl X x3) (m3 : X.mg x3 = some (.ref C3))
    (d1 : (x1 == ("__debug__" : Str)) = false) (d2 : (x2 == ("__debug__" : Str)) = false) (d3 : (x3 == ("__debug__" : Str)) = false)
    (hb : ∀ (W : WX) (pn : List (Addr × Obj)) (xe : Value → Shared → Prop), Takes (X.tr pn xe) W → PassesOwn (model X.prog X.w) X.A X.env xe → PSs (X.tr pn xe) body (tb W))
    (hsu : ∀ (a : Addr) (oe : Obj) (cls : Value) (d : Option Addr) (pn : List (Addr × Obj)), Zc cls d oe → (∃ vs, oe.data = .fields vs) → PSs (X.suite a ((a, oe) :: pn)) (b₀ :: suite) (ts a cls d)) :
    PS X (.Try body [.ExceptHandler (some (.Tuple [.Name x1 p1, .Name x2 p2, .Name x3 p3] k np)) (some n) (b₀ :: suite) pos'] [] [] pos) (fun D σ H => tb (w3 X.K X.N.length [.ref C1, .ref C2, .ref C3] i ts D) D σ H) := by
  constructor
  intro pins s σ H D I h
  have ok := I.ok
  have frames : X.A.frames = some (X.env :: X.outer) := by rw [ok.frames, hs]
  refine wpAny_Try_except (wpAny_mono ((hb (w3 X.K X.N.length [.ref C1, .ref C2, .ref C3] i ts D) (X.pn ++ pins) _ ?take PassesOwn.looking).run [] s σ H D (I.toTry _) h) ?thru fun e s1 he => he)
  case thru =>
    intro f s1 z
    cases f with
    | next =>
      obtain ⟨σ', H', J, q⟩ := z
      exact wpAny_execs_nil ⟨σ', H', J.ofTry ok, q⟩
    | brk =>
      obtain ⟨σ', H', J, q⟩ := z
      exact ⟨σ', H', J.ofTry ok, q⟩
    | cont =>
      obtain ⟨σ', H', J, q⟩ := z
      exact ⟨σ', H', J.ofTry ok, q⟩
    | ret u =>
      obtain ⟨v, σ', H', J, r, q⟩ := z
      exact ⟨v, σ', H', J.ofTry ok, r, q⟩
  case take =>
    rintro u s' ⟨a, B, sI, pins', σ', H', cls, d, rfl, J', nb, up, sky, na, os, ag, hx, yes⟩
    have J : Inv X pins σ' H' sI := J'.ofTry ok
    rw [hs] at sky
    refine Sky.land Zc.steady frames hf sky fun h3 fl3 up3 => ?_
    have J3 : Inv X pins σ' H' { s' with heap := h3 } := J.landed nb fl3.1 (up.trans up3) os ag
    obtain ⟨oe3, vs3, he3, hz3, hd3⟩ := fl3.there
    have far : ∀ b ∈ frs (X.env :: X.outer), b ≠ a := by
      intro b hb e
      subst e
      obtain ⟨_, o', e', nf⟩ := fl3.2.2.1.mem hb
      rw [he3] at e'
      cases e'
      exact nf _ hd3
    have nL : a ≠ X.env.locals := fun z => far X.env.locals (List.mem_filterMap.mpr ⟨X.env, List.mem_cons_self, hf⟩) z.symm
    have nF : a ∉ X.fs := fun m => by
      obtain ⟨e, he, q⟩ := List.mem_filterMap.mp m
      exact far a (List.mem_filterMap.mpr ⟨e, List.mem_cons_of_mem _ he, q⟩) rfl
    have S3 := J3.suite he3 hd3 na nL nF
    refine wpAny_handleBy_cons (codeAny_handlers_test ?_) (fun q => by cases q)
    -- the tuple of the classes
    have one : ∀ {x : Str} {C : Addr} {q : Pos} {Q : Value → Shared → Prop} {E : Value → Shared → Prop}, Gl X x → X.mg x = some (.ref C) → (x == ("__debug__" : Str)) = false → Q (.ref C) { s' with heap := h3 } → wpAny (model X.prog X.w) (X.A.mark (some (.ref a))) (eval (.Name x q) X.env) Q E { s' with heap := h3 } :=
      fun g m d q => ld_glob (X := X.suite a ((a, oe3) :: (X.pn ++ pins))) S3 g m q d
    refine wpAny_Tuple_spliced ?_
    rw [show starEach [.Name x1 p1, .Name x2 p2, .Name x3 p3] X.env = (false, eval (.Name x1 p1) X.env) :: starEach [.Name x2 p2, .Name x3 p3] X.env from rfl]
    show wpAny _ _ (spliced ((false, eval (.Name x1 p1) X.env) :: backTo np (starEach [.Name x2 p2, .Name x3 p3] X.env))) _ _ _
    refine Calls.spliced_cons (one g1 m1 d1 ?_)
    rw [show starEach [.Name x2 p2, .Name x3 p3] X.env = (false, eval (.Name x2 p2) X.env) :: starEach [.Name x3 p3] X.env from rfl]
    show wpAny _ _ (spliced ((false, eval (.Name x2 p2) X.env) :: backTo np (starEach [.Name x3 p3] X.env))) _ _ _
    refine Calls.spliced_cons (one g2 m2 d2 ?_)
    rw [show starEach [.Name x3 p3] X.env = (false, eval (.Name x3 p3) X.env) :: starEach [] X.env from rfl]
    show wpAny _ _ (spliced ((false, eval (.Name x3 p3) X.env) :: backTo np (starEach [] X.env))) _ _ _
    refine Calls.spliced_cons (one g3 m3 d3 ?_)
    refine Calls.spliced_nil ⟨(by show 3 ≤ sizeLine; decide), ?_⟩
    -- it matches
    have keep : ∀ b o, h3.get? b = some o → (h3.push ({ cls := .type "tuple", data := .seq [Value.ref C1, .ref C2, .ref C3].toArray } : Obj)).get? b = some o := fun b o e => Heap.get?_push_of_some _ e
    have tup : (h3.push ({ cls := .type "tuple", data := .seq [Value.ref C1, .ref C2, .ref C3].toArray } : Obj)).get? h3.objs.size = some { cls := .type "tuple", data := .seq [Value.ref C1, .ref C2, .ref C3].toArray } := Heap.get?_push_size _ rfl
    have fl5 := flying_more keep fl3
    have up5 := up3.trans (Heap.UpToSlots.of_keeps keep)
    generalize h3.push ({ cls := .type "tuple", data := .seq [Value.ref C1, .ref C2, .ref C3].toArray } : Obj) = h5 at keep tup fl5 up5
    have J5 : Inv X pins σ' H' { s' with heap := h5 } := J.landed nb fl5.1 (up.trans up5) os ag
    have LT : PySem.W.Looks (model X.prog X.w) h5 (typeOf (.ref a)) cls := fun A Q E s k q => wpAny_typeOf_ref (k _ _ (keep _ _ he3)) (by rw [hz3.1]; exact q)
    refine (PySem.W.exm_tup3 J5.kIn LT tup hx).here ?_
    refine codeAny_handlers_suite_as (HandSPX.lands_againZ fl5 fun h6 fl6 up6 => ?_)
    have J6 : Inv X pins σ' H' { s' with heap := h6 } := J.landed nb fl6.1 ((up.trans up5).trans up6) os ag
    obtain ⟨oe6, vs6, he6, hz6, hd6⟩ := fl6.there
    have S6 := J6.suite he6 hd6 na nL nF
    refine store_ok (X := X.suite a ((a, oe6) :: (X.pn ++ pins))) (v := .ref a) S6 hN hi (.inl hln) rfl (fun s7 S7 => ?_) (.inr hln)
    refine wpAny_mono ((hsu a oe6 cls d (X.pn ++ pins) hz6 ⟨_, hd6⟩).run [] s7 _ H' _ S7 (yes a na J.len)) ?_ fun _ _ z => z.elim
    intro f s8 z
    cases f with
    | next =>
      obtain ⟨σ8, H8, S8, q⟩ := z
      exact gone_ok (S8.unsuite ok) hN hi hln fun s9 J9 => ⟨_, _, J9, q⟩
    | brk =>
      obtain ⟨σ8, H8, S8, q⟩ := z
      exact gone_ok (S8.unsuite ok) hN hi hln fun s9 J9 => ⟨_, _, J9, q⟩
    | cont =>
      obtain ⟨σ8, H8, S8, q⟩ := z
      exact gone_ok (S8.unsuite ok) hN hi hln fun s9 J9 => ⟨_, _, J9, q⟩
    | ret u =>
      obtain ⟨v, σ8, H8, S8, rv, q⟩ := z
      exact gone_ok (S8.unsuite ok) hN hi hln fun s9 J9 => ⟨_, _, _, J9, rv, q⟩
end
end Fs
set_option Elab.async false
set_option linter.all false
set_option maxRecDepth 100000
set_option maxHeartbeats 8000000
namespace Fs
open PySem PySem.Spec PyProof.Rows L2
abbrev s__law_field : Stmt := top 33
abbrev N__law_field : List Str := ["_law_e"]
abbrev P__law_field : List Str := ["_law_e"]
theorem sc__law_field : FnScope N__law_field P__law_field (defScope s__law_field) := ⟨rfl, rfl, rfl, by decide +kernel, rfl, by decide +kernel, by decide +kernel⟩
def namesE : List Str := ["code", "most", "name", "index", "at", "claim", "word", "cause", "limit", "line"]
/-- what the class at C must have -/
structure ExK (K : Frag) (C : Addr) : Prop where
  xf : XfC K C
  no : ∀ n ∈ namesE, PySem.W.findIn K (.ref C) n = some none
/-- the field that the laws read off an error, by its code -/
def fldE (code : Str) : Option Str :=
  if inV (.str code) ([("TooMany" : Str), "Full"].map V.str) = true then some "most"
  else if inV (.str code) ([("InvalidSizes" : Str), "UnknownThing", "InvalidName", "DuplicateName", "WrongKind", "UnknownName"].map V.str) = true then some "name"
  else if decide (V.str code = V.str "InvalidFact") = true then some "index"
  else if decide (V.str code = V.str "InvalidText") = true then some "at"
  else if inV (.str code) ([("InUse" : Str), "UnknownClaim"].map V.str) = true then some "claim"
  else if decide (V.str code = V.str "InvalidCommand") = true then some "word"
  else if decide (V.str code = V.str "InvalidLimit") = true then some "limit"
  else if decide (V.str code = V.str "ParseError") = true then some "line"
  else none
def FldV (code : Str) (fs : List (Str × V)) (v : V) : Prop := match fldE code with
  | some f => fs.lookup f = some v
  | none => v = .non
/-- an error of the class at C, its dict at dd -/
structure ErrAt (K : Frag) (H : Hp) (C dd : Addr) (fs : List (Str × V)) (code : Str) (v : V) : Prop where
  ex : ExK K C
  at_ : H dd = some (.xd fs)
  cod : fs.lookup ("code" : Str) = some (.str code)
  nst : decide (V.str code = V.str "Stopped") = false
  val : FldV code fs v
theorem ErrAt.to {K : Frag} {H H' : Hp} {C dd : Addr} {fs : List (Str × V)} {code : Str} {v : V} (e : ErrAt K H C dd fs code v) (s : Same H H') : ErrAt K H' C dd fs code v := ⟨e.ex, s _ _ e.at_, e.cod, e.nst, e.val⟩
def spField (K : Frag) (a : Addr) (cls : Value) (d : Option Addr) : List V → Hp → VK → Prop := fun vs H Q => ∃ (C dd : Addr) (fs : List (Str × V)) (code : Str) (v : V), vs = [.ref a] ∧ cls = .ref C ∧ d = some dd ∧ ErrAt K H C dd fs code v ∧ ∀ H', Same H H' → Q v H'
section
variable {P : Program} {w : World} {K : Frag} {mg : Str → Option Value} {base : Heap}
theorem fp__law_field {f : Addr} {fd : FuncData} (D : FunD K "_law_field" "_law_field" (defArgs s__law_field) (defBody s__law_field) (defScope s__law_field) [] [] f fd) {p : Addr × Obj} {cls : Value} {d : Option Addr} (hz : Zc cls d p.2) (hf : ∃ vs, p.2.data = .fields vs) :
    FnP P w K mg base p 1 f (spField K p.1 cls d) := by
  refine fnP_of D sc__law_field (fun vs H Q h => ?_) (D.bindsN fun _ _ _ _ _ _ us hl => match us, hl with | [_], _ => rfl) (fun cdv A outer s H vs Q h => ?_)
  · obtain ⟨C, dd, fs, code, v, rfl, _⟩ := h
    rfl
  obtain ⟨C, dd, fs, code, v, rfl, rfl, rfl, T, q⟩ := h
  have hp : p ∈ (L2H.cxH CX0 P w K mg base N__law_field "_law_field" (defScope s__law_field) f cdv A outer s H E0 p).pn := List.mem_cons_self
  refine ⟨_, (pss_cons (ps_if (pt_cmpR op_in_seq (pe_xp hp hz hf (pv 0)) (pe_lstN (pa_cons pe_str (pa_cons pe_str pa_nil))) (by rfl)) (pss_one (ps_ret (pe_xp hp hz hf (pv 0)))) pss_nil)
    (pss_cons (ps_if (pt_cmpR op_in_seq (pe_xp hp hz hf (pv 0)) (pe_lstN (pa_cons pe_str (pa_cons pe_str (pa_cons pe_str (pa_cons pe_str (pa_cons pe_str (pa_cons pe_str pa_nil))))))) (by rfl)) (pss_one (ps_ret (pe_xp hp hz hf (pv 0)))) pss_nil)
    (pss_cons (ps_if (pt_cmpR op_eq (pe_xp hp hz hf (pv 0)) pe_str (nomark _)) (pss_one (ps_ret (pe_xp hp hz hf (pv 0)))) pss_nil)
    (pss_cons (ps_if (pt_cmpR op_eq (pe_xp hp hz hf (pv 0)) pe_str (nomark _)) (pss_one (ps_ret (pe_xp hp hz hf (pv 0)))) pss_nil)
    (pss_cons (ps_if (pt_cmpR op_in_seq (pe_xp hp hz hf (pv 0)) (pe_lstN (pa_cons pe_str (pa_cons pe_str pa_nil))) (by rfl)) (pss_one (ps_ret (pe_xp hp hz hf (pv 0)))) pss_nil)
    (pss_cons (ps_if (pt_cmpR op_eq (pe_xp hp hz hf (pv 0)) pe_str (nomark _)) (pss_one (ps_ret (pe_xp hp hz hf (pv 0)))) pss_nil)
    (pss_cons (ps_if (pt_cmpR op_eq (pe_xp hp hz hf (pv 0)) pe_str (nomark _)) pss_never pss_nil)
    (pss_cons (ps_if (pt_cmpR op_eq (pe_xp hp hz hf (pv 0)) pe_str (nomark _)) (pss_one (ps_ret (pe_xp hp hz hf (pv 0)))) pss_nil)
    (pss_one (ps_ret (pe_ifExp (pt_cmpR op_eq (pe_xp hp hz hf (pv 0)) pe_str (nomark _)) (pe_xp hp hz hf (pv 0)) pe_non))))))))))), ?_⟩
  have no := T.ex.no
  have hv := T.val
  unfold FldV fldE at hv
  have nc := no "code" (by simp [namesE])
  -- a test by membership
  refine ⟨_, rfl, rfl, C, dd, fs, _, rfl, rfl, T.ex.xf, nc, T.at_, T.cod, (by show 2 ≤ sizeLine; decide), fun l H1 nl s1 hl => ⟨l, _, rfl, .inl (at_z hl), rfl, rfl, _, rfl, ?_⟩⟩
  have T1 := T.to s1
  by_cases c1 : inV (.str code) ([("TooMany" : Str), "Full"].map V.str) = true
  · rw [if_pos c1] at hv
    exact ite_of c1 ⟨_, rfl, rfl, C, dd, fs, _, rfl, rfl, T.ex.xf, no _ (by simp [namesE]), T1.at_, hv, q _ s1⟩
  rw [if_neg c1] at hv
  refine ite_no (Bool.eq_false_iff.mpr c1) ?_
  refine ⟨_, rfl, rfl, C, dd, fs, _, rfl, rfl, T.ex.xf, nc, T1.at_, T1.cod, (by show 6 ≤ sizeLine; decide), fun l2 H2 nl2 s2 hl2 => ⟨l2, _, rfl, .inl (at_z hl2), rfl, rfl, _, rfl, ?_⟩⟩
  have T2 := T1.to s2
  by_cases c2 : inV (.str code) ([("InvalidSizes" : Str), "UnknownThing", "InvalidName", "DuplicateName", "WrongKind", "UnknownName"].map V.str) = true
  · rw [if_pos c2] at hv
    exact ite_of c2 ⟨_, rfl, rfl, C, dd, fs, _, rfl, rfl, T.ex.xf, no _ (by simp [namesE]), T2.at_, hv, q _ (s1.trans s2)⟩
  rw [if_neg c2] at hv
  refine ite_no (Bool.eq_false_iff.mpr c2) ?_
  refine ⟨_, rfl, rfl, C, dd, fs, _, rfl, rfl, T.ex.xf, nc, T2.at_, T2.cod, rfl, _, rfl, ?_⟩
  by_cases c3 : decide (V.str code = V.str "InvalidFact") = true
  · rw [if_pos c3] at hv
    exact ite_of c3 ⟨_, rfl, rfl, C, dd, fs, _, rfl, rfl, T.ex.xf, no _ (by simp [namesE]), T2.at_, hv, q _ (s1.trans s2)⟩
  rw [if_neg c3] at hv
  refine ite_no (Bool.eq_false_iff.mpr c3) ?_
  refine ⟨_, rfl, rfl, C, dd, fs, _, rfl, rfl, T.ex.xf, nc, T2.at_, T2.cod, rfl, _, rfl, ?_⟩
  by_cases c4 : decide (V.str code = V.str "InvalidText") = true
  · rw [if_pos c4] at hv
    exact ite_of c4 ⟨_, rfl, rfl, C, dd, fs, _, rfl, rfl, T.ex.xf, no _ (by simp [namesE]), T2.at_, hv, q _ (s1.trans s2)⟩
  rw [if_neg c4] at hv
  refine ite_no (Bool.eq_false_iff.mpr c4) ?_
  refine ⟨_, rfl, rfl, C, dd, fs, _, rfl, rfl, T.ex.xf, nc, T2.at_, T2.cod, (by show 2 ≤ sizeLine; decide), fun l3 H3 nl3 s3 hl3 => ⟨l3, _, rfl, .inl (at_z hl3), rfl, rfl, _, rfl, ?_⟩⟩
  have T3 := T2.to s3
  have s13 := s1.trans (s2.trans s3)
  by_cases c5 : inV (.str code) ([("InUse" : Str), "UnknownClaim"].map V.str) = true
  · rw [if_pos c5] at hv
    exact ite_of c5 ⟨_, rfl, rfl, C, dd, fs, _, rfl, rfl, T.ex.xf, no _ (by simp [namesE]), T3.at_, hv, q _ s13⟩
  rw [if_neg c5] at hv
  refine ite_no (Bool.eq_false_iff.mpr c5) ?_
  refine ⟨_, rfl, rfl, C, dd, fs, _, rfl, rfl, T.ex.xf, nc, T3.at_, T3.cod, rfl, _, rfl, ?_⟩
  by_cases c6 : decide (V.str code = V.str "InvalidCommand") = true
  · rw [if_pos c6] at hv
    exact ite_of c6 ⟨_, rfl, rfl, C, dd, fs, _, rfl, rfl, T.ex.xf, no _ (by simp [namesE]), T3.at_, hv, q _ s13⟩
  rw [if_neg c6] at hv
  refine ite_no (Bool.eq_false_iff.mpr c6) ?_
  refine ⟨_, rfl, rfl, C, dd, fs, _, rfl, rfl, T.ex.xf, nc, T3.at_, T3.cod, rfl, _, rfl, ite_no T.nst ?_⟩
  refine ⟨_, rfl, rfl, C, dd, fs, _, rfl, rfl, T.ex.xf, nc, T3.at_, T3.cod, rfl, _, rfl, ?_⟩
  by_cases c7 : decide (V.str code = V.str "InvalidLimit") = true
  · rw [if_pos c7] at hv
    exact ite_of c7 ⟨_, rfl, rfl, C, dd, fs, _, rfl, rfl, T.ex.xf, no _ (by simp [namesE]), T3.at_, hv, q _ s13⟩
  rw [if_neg c7] at hv
  refine ite_no (Bool.eq_false_iff.mpr c7) ?_
  refine ⟨_, rfl, rfl, C, dd, fs, _, rfl, rfl, T.ex.xf, nc, T3.at_, T3.cod, rfl, _, rfl, ?_⟩
  by_cases c8 : decide (V.str code = V.str "ParseError") = true
  · rw [if_pos c8] at hv
    exact ite_of c8 ⟨_, rfl, rfl, C, dd, fs, _, rfl, rfl, T.ex.xf, no _ (by simp [namesE]), T3.at_, hv, q _ s13⟩
  rw [if_neg c8] at hv
  subst hv
  exact ite_no (Bool.eq_false_iff.mpr c8) (q _ s13)
end
end Fs
set_option Elab.async false
set_option linter.all false
set_option maxRecDepth 100000
set_option maxHeartbeats 8000000
namespace Fs
open PySem PySem.Spec PyProof.Rows L2
/-- the call of the class, its __init__ keeping sp: an exception is made -/
def rMk (C : Addr) (sp : Sp) : List V → Hp → XK → Prop := fun vs H1 Q => vs.length ≤ 1000 ∧ ∀ a, H1 a = none → sp (.ref a :: vs) (upd H1 a (exo a C none))
  (fun v H2 => v = .non ∧ ∃ (d : Addr) (fs : List (Str × V)), H2 a = some (exo a C (some d)) ∧ H2 d = some (exd d fs) ∧ H1 d = none ∧ Q (.ref C) (some d) (upd (L2.del H2 a) d (.xd fs))) E0
/-- a class that is made so: where it stands, its __init__ -/
structure OexM (P : Program) (w : World) (K : Frag) (mg : Str → Option Value) (base : Heap) (k : Nat) (C : Addr) (sp : Sp) : Prop where
  cls : OexC K C
  ini : ∃ fI fd ps, PySem.W.findIn K (.ref C) "__init__" = some (some (.ref fI)) ∧ PySem.W.typeIn K (.ref fI) = some (.type "function") ∧ FnOk P w K mg base CX0 k fI fd ps sp ∧ Binds K fd ps []
section
variable {X : Cx} {pins : List (Addr × Obj)} {σ : L2.St} {H1 : Hp} {s1 : Shared} {C : Addr} {k : Nat} {sp : Sp}
theorem made_call {us : List Value} {vs : List V} {Q : XK} (M : OexM X.prog X.w X.K X.mg X.base k C sp) (room : Room (k + 1) X.A) (I : Inv X pins σ H1 s1) (r : Vals vs us) (h : rMk C sp vs H1 Q) :
    wpAny (model X.prog X.w) X.A (call (.ref C) us) (MkP X pins σ Q) X.xe s1 := by
  obtain ⟨fI, fd, ps, iC, tI, F, bind⟩ := M.ini
  obtain ⟨nm, q, N, bs, bm, sn, sub, ab, col, dd, k0, k1, k2, k3, k5, hC, hbm⟩ := M.cls.cls
  obtain ⟨small, want⟩ := h
  obtain ⟨hp, g, dr, tk, os⟩ := s1
  have le1 : hp.objs.size ≤ hp.objs.size + 1 := Nat.le_succ _
  have hq := want (hp.objs.size + 1) (I.hok.fresh le1)
  have more : ∀ b o, hp.get? b = some o → ((hp.push (PySem.W.kdv_tup us)).push (PySem.HandSPX.excO C hp.objs.size)).get? b = some o := fun b o e => Heap.get?_push_of_some _ (Heap.get?_push_of_some _ e)
  have new : ((hp.push (PySem.W.kdv_tup us)).push (PySem.HandSPX.excO C hp.objs.size)).get? (hp.objs.size + 1) = some (PySem.HandSPX.excO C hp.objs.size) := by heap_get
  have J : Inv X pins σ (upd H1 (hp.objs.size + 1) (exo (hp.objs.size + 1) C none)) ⟨(hp.push (PySem.W.kdv_tup us)).push (PySem.HandSPX.excO C hp.objs.size), g, dr, tk, os⟩ :=
    I.laid (t' := tk) (a := hp.objs.size + 1) (h' := (hp.push (PySem.W.kdv_tup us)).push (PySem.HandSPX.excO C hp.objs.size)) more le1 (exo_ok new)
  have rv : Vals (V.ref (hp.objs.size + 1) :: vs) (Value.ref (hp.objs.size + 1) :: us) := .cons rfl r
  have nps : (Value.ref (hp.objs.size + 1) :: us).length = ps.length := by
    rw [← rv.length]
    exact F.len _ _ _ _ hq
  have bt : BindsTo (⟨(hp.push (PySem.W.kdv_tup us)).push (PySem.HandSPX.excO C hp.objs.size), g, dr, tk, os⟩ : Shared) fd ⟨Value.ref (hp.objs.size + 1) :: us, []⟩ (ps.zip (Value.ref (hp.objs.size + 1) :: us)) := by
    have z := bind ⟨(hp.push (PySem.W.kdv_tup us)).push (PySem.HandSPX.excO C hp.objs.size), g, dr, tk, os⟩ (Value.ref (hp.objs.size + 1) :: us) J.kIn (by rw [List.append_nil]; exact nps)
    rw [List.append_nil] at z
    exact z
  have uz : us.length ≤ sizeLine := by
    rw [← Paired.length r, sizeLine_eq]
    omega
  refine wpAny_call (PySem.HandSPX.call_own _root_.PySem.F.excBase_ValueError (fun Y => PySem.HandSPX.refsVE_contains Y bm hbm) (I.kIn _ _ hC) (PySem.W.looks_findIn I.kIn iC) (fun self => PySem.W.bind_fn I.kIn self tI) uz
    (codeAny_mono (F.run _ X.stack _ _ ⟨Value.ref (hp.objs.size + 1) :: us, []⟩ (Value.ref (hp.objs.size + 1) :: us) _ _ E0 (room.make C us []) (J.env0.make C us []) bt rv hq) ?_))
  intro z s2 hz
  cases z with
  | error er => exact (show False from hz).elim
  | ok fl =>
    cases fl with
    | ret u =>
      obtain ⟨v, H2, os2, bare2, un2, hok2, rv2, ev, d, fs, ea, ed, nd, q2⟩ := hz
      subst ev
      obtain ⟨h2, g2, d2, t2, os'⟩ := s2
      exact ⟨rv2, mk_end (raises_own M.cls.exC M.cls.tyC) I le1 more un2 hok2 os2 bare2 ea ed nd q2⟩
    | next => exact (show False from hz).elim
    | brk => exact (show False from hz).elim
    | cont => exact (show False from hz).elim
/-- C() and C(e, ..) -/
theorem pmk_o0 {x : Str} {p pos : Pos} (M : OexM X.prog X.w X.K X.mg X.base k C sp) (room : Room (k + 1) X.A) (hm : X.mg x = some (.ref C)) (hg : Gl X x := by rfl) (hdb : (x == ("__debug__" : Str)) = false := by decide) :
    PMk X (.Call (.Name x p) [] [] pos) (fun σ H Q => rMk C sp [] H Q) := by
  intro pins s σ H Q I h
  exact wpAny_Call_Name_kw (ld_glob I hg hm (PySem.W.callWith_K0 I.kIn M.cls.kC (made_call (us := []) M room I .nil h)) hdb)
theorem pmk_o {x : Str} {e : Expr} {es : List Expr} {ta : TA} {p pos : Pos} (M : OexM X.prog X.w X.K X.mg X.base k C sp) (room : Room (k + 1) X.A) (hm : X.mg x = some (.ref C)) (ha : PA X (e :: es) ta) (hg : Gl X x := by rfl) (hdb : (x == ("__debug__" : Str)) = false := by decide)
    (he : starEach (e :: es) X.env = (false, eval e X.env) :: starEach es X.env := by rfl) (hpl : (backTo pos (starEach es X.env)).any (·.1) = false := by rfl) :
    PMk X (.Call (.Name x p) (e :: es) [] pos) (fun σ H Q => ta σ H fun vs H1 => rMk C sp vs H1 Q) := by
  intro pins s σ H Q I h
  refine wpAny_Call_Name_kw (ld_glob I hg hm (PySem.W.callWith_K (h₀ := X.base) I.ok.mod.kin M.cls.kC (thn (ha.run pos pins s σ H _ I h) ?_) he hpl) hdb)
  rintro us s1 ⟨vs, H1, I1, r, q⟩
  exact ⟨I1.kIn, made_call M room I1 r q⟩
end
/-! ### __init__: self.code = "..", self.a = a -/
/-- what __init__ leaves of the new exception: a dict that holds fs -/
def spIni (C : Addr) (n : Nat) (fs : List V → List (Str × V)) : Sp := fun vs H Q _ => ∃ (a : Addr) (ws : List V), vs = .ref a :: ws ∧ ws.length = n ∧ H a = some (exo a C none) ∧
  ∀ d H', H d = none → d ≠ a → H' a = some (exo a C (some d)) → H' d = some (exd d (fs ws)) → (∀ b o, b ≠ a → H b = some o → H' b = some o) → Q .non H'
/-- the reading of a raise of C -/
theorem mk_ini {C : Addr} {n : Nat} {fs : List V → List (Str × V)} {vs : List V} {H : Hp} {Q : XK} (hn : vs.length = n) (h1 : n ≤ 1000) (h : ∀ d H', H d = none → H' d = some (.xd (fs vs)) → Same H H' → Q (.ref C) (some d) H') : rMk C (spIni C n fs) vs H Q := by
  refine ⟨by omega, fun a na => ⟨a, vs, rfl, hn, upd_same, fun d H' nd da ea ed keep => ⟨rfl, d, fs vs, ea, ed, ?_, ?_⟩⟩⟩
  · rw [upd_ne da] at nd
    exact nd
  · rw [upd_ne da] at nd
    refine h d _ nd upd_same fun b o e => ?_
    have ba : b ≠ a := ne_of_none e na
    rw [upd_ne (ne_of_none e nd), L2.del_ne ba]
    exact keep b o ba (by rw [upd_ne ba]; exact e)
end Fs
set_option Elab.async false
set_option linter.all false
set_option maxRecDepth 100000
set_option maxHeartbeats 8000000
namespace Fs
open PySem PySem.Spec PyProof.Rows L2
/-! ### own error classes -/
def oexB (K : Frag) (C : Addr) : Bool := match K.lookup C with
  | some o => (match o.cls, o.data, o.slots.toList with
    | .type t, .cls d, [_, _, _, _, some (.builtin b), _] => (match d.mro with
      | .ref c :: bm => decide (t = "type") && decide (b = "ValueError.__new__") && decide (c = C) && d.hasDict && !d.hasDel && PySem.HandSPX.refsVE bm
      | _ => false)
    | _, _, _ => false)
  | none => false
theorem oexB_ok {K : Frag} {C : Addr} (h : oexB K C = true) : ∃ nm q N bs bm sn sub ab col dd k0 k1 k2 k3 k5, K.lookup C = some (excClassObj nm q C N bs bm true sn sub ab col dd k0 k1 k2 k3 k5 "ValueError.__new__") ∧ PySem.HandSPX.refsVE bm = true := by
  unfold oexB at h
  split at h
  · rename_i o ho
    split at h
    · rename_i t d k0 k1 k2 k3 b k5 e1 e2 e3
      split at h
      · rename_i c bm e4
        simp only [Bool.and_eq_true, decide_eq_true_eq, Bool.not_eq_true'] at h
        obtain ⟨⟨⟨⟨⟨rfl, rfl⟩, rfl⟩, h4⟩, h5⟩, h6⟩ := h
        obtain ⟨oc, od, dt, sl⟩ := o
        obtain ⟨nm, bs, mro, ns, qn, hd, sn, sub, ab, col, del⟩ := d
        obtain ⟨sl⟩ := sl
        dsimp only at e1 e2 e3 e4 h4 h5
        subst e1 e2 e3 e4 h4 h5
        exact ⟨nm, qn, ns, bs, bm, sn, sub, ab, col, od, k0, k1, k2, k3, k5, ho, h6⟩
      · cases h
    · cases h
  · cases h
/-- all that is asked of an own error class with an __init__ -/
def errB (K : Frag) (C : Addr) : Bool := oexB K C && (decide (PySem.W.findIn K (.ref C) "__setattr__" = some (some (.builtin "object.__setattr__"))) && (decide (PySem.W.subIn K (.ref C) (.type "BaseException") = some true) &&
  (decide (PySem.W.typeIn K (.ref C) = some (.type "type")) && (PySem.W.keepIn K (.ref C) && (xfB K C && (namesE.all fun n => decide (PySem.W.findIn K (.ref C) n = some none)))))))
structure ErrC (K : Frag) (C : Addr) : Prop where
  ox : OexC K C
  ex : ExK K C
theorem errB_ok {K : Frag} {C : Addr} (h : errB K C = true) : ErrC K C := by
  unfold errB at h
  simp only [Bool.and_eq_true, decide_eq_true_eq, List.all_eq_true] at h
  obtain ⟨h1, h2, h3, h4, h5, h6, h7⟩ := h
  exact ⟨⟨oexB_ok h1, h2, h3, h4, h5⟩, ⟨xfB_ok h6, h7⟩⟩
/-- the __init__ of the class x -/
def iniB (K : Frag) (x : Str) : Bool := decide (PySem.W.findIn K (.ref (He.ga K x)) "__init__" = some (some (.ref (He.fAd K (x, some "__init__"))))) && decide (PySem.W.typeIn K (.ref (He.fAd K (x, some "__init__"))) = some (.type "function"))
def errsB (K : Frag) (xs : List Str) : Bool := xs.all fun x => errB K (He.ga K x) && iniB K x
abbrev dI (x q : Str) (st : Stmt) : He.DefD := ⟨(x, some "__init__"), "__init__", q, defArgs st, defBody st, defScope st, [], []⟩
theorem errsB_at {K : Frag} {xs : List Str} (h : errsB K xs = true) (x : Str) (hx : x ∈ xs) : ErrC K (He.ga K x) ∧ PySem.W.findIn K (.ref (He.ga K x)) "__init__" = some (some (.ref (He.fAd K (x, some "__init__")))) ∧ PySem.W.typeIn K (.ref (He.fAd K (x, some "__init__"))) = some (.type "function") := by
  have z := List.all_eq_true.mp h x hx
  obtain ⟨z1, z2⟩ := Bool.and_eq_true_iff.mp z
  obtain ⟨z3, z4⟩ := Bool.and_eq_true_iff.mp z2
  exact ⟨errB_ok z1, of_decide_eq_true z3, of_decide_eq_true z4⟩
/-- caught by except (FrameError, Missing, NothingLeft) -/
def caughtB (K : Frag) (xs : List Str) : Bool := xs.all fun x => decide (PySem.W.exmAny K (.ref (He.ga K x)) [.ref (He.ga K "FrameError"), .ref (He.ga K "Missing"), .ref (He.ga K "NothingLeft")] = some true)
theorem caughtB_at {K : Frag} {xs : List Str} (h : caughtB K xs = true) (x : Str) (hx : x ∈ xs) : PySem.W.exmAny K (.ref (He.ga K x)) [.ref (He.ga K "FrameError"), .ref (He.ga K "Missing"), .ref (He.ga K "NothingLeft")] = some true := of_decide_eq_true (List.all_eq_true.mp h x hx)
/-! ### the errors, class by class -/
section
variable {P : Program} {w : World} {K : Frag} {mg : Str → Option Value} {base : Heap}
theorem new_dict {H : Hp} {a C d : Addr} {f : Str} {y : V} (h : ∀ b o, b ≠ a → H b = some o → True) (hd : d ≠ a) : (upd (upd H d (exd d [(f, y)])) a (exo a C (some d))) d = some (exd d [(f, y)]) := by
  rw [upd_ne hd, upd_same]
abbrev s_InvalidRatio___init__ : Stmt := inClass (top 2) 0
abbrev N_InvalidRatio___init__ : List Str := ["self"]
abbrev P_InvalidRatio___init__ : List Str := ["self"]
theorem sc_InvalidRatio : FnScope N_InvalidRatio___init__ P_InvalidRatio___init__ (defScope s_InvalidRatio___init__) := ⟨rfl, rfl, rfl, by decide +kernel, rfl, by decide +kernel, by decide +kernel⟩
theorem ini_InvalidRatio {C : Addr} {q : Str} {f : Addr} {fd : FuncData} (D : FunD K "__init__" q (defArgs s_InvalidRatio___init__) (defBody s_InvalidRatio___init__) (defScope s_InvalidRatio___init__) [] [] f fd) (T : ErrC K C) : FnOk P w K mg base CX0 1 f fd ["self"] (spIni C 0 fun _ => [("code", .str "InvalidRatio")]) := by
  refine D.ok sc_InvalidRatio (fun vs H Q E h => ?_) (fun cdv A outer s H vs Q E hr h => ?_)
  · obtain ⟨a, ws, rfl, hl, _⟩ := h
    rw [List.length_cons, hl]
    rfl
  obtain ⟨a, ws, rfl, hl, ha, q⟩ := h
  cases ws with
  | cons x xs => cases hl
  | nil =>
    refine ⟨_, PSs.nox (pss_one (ps_ost (pv 0) pe_str)), ?_⟩
    refine ⟨_, rfl, a, C, rfl, T.ox, T.ex.no _ (by simp [namesE]), .inl ⟨ha, fun d nd da => ?_⟩⟩
    refine q d _ nd da upd_same (by rw [upd_ne da, upd_same]) fun b o hb e => ?_
    rw [upd_ne hb, upd_ne (ne_of_none e nd)]
    exact e
abbrev s_InvalidText___init__ : Stmt := inClass (top 14) 0
abbrev N_InvalidText___init__ : List Str := ["self", "at"]
abbrev P_InvalidText___init__ : List Str := ["self", "at"]
theorem sc_InvalidText : FnScope N_InvalidText___init__ P_InvalidText___init__ (defScope s_InvalidText___init__) := ⟨rfl, rfl, rfl, by decide +kernel, rfl, by decide +kernel, by decide +kernel⟩
theorem ini_InvalidText {C : Addr} {q : Str} {f : Addr} {fd : FuncData} (D : FunD K "__init__" q (defArgs s_InvalidText___init__) (defBody s_InvalidText___init__) (defScope s_InvalidText___init__) [] [] f fd) (T : ErrC K C) : FnOk P w K mg base CX0 1 f fd ["self", "at"] (spIni C 1 fun vs => [("at", vs.headD .non), ("code", .str "InvalidText")]) := by
  refine D.ok sc_InvalidText (fun vs H Q E h => ?_) (fun cdv A outer s H vs Q E hr h => ?_)
  · obtain ⟨a, ws, rfl, hl, _⟩ := h
    rw [List.length_cons, hl]
    rfl
  obtain ⟨a, ws, rfl, hl, ha, q⟩ := h
  match ws, hl with
  | [x], _ =>
    refine ⟨_, PSs.nox (pss_cons (ps_ost (pv 0) pe_str) (pss_one (ps_ost (pv 0) (pv 1)))), ?_⟩
    refine ⟨_, rfl, a, C, rfl, T.ox, T.ex.no _ (by simp [namesE]), .inl ⟨ha, fun d nd da => ?_⟩⟩
    refine ⟨_, rfl, _, rfl, a, C, rfl, T.ox, T.ex.no _ (by simp [namesE]), .inr ⟨d, _, upd_same, (by rw [upd_ne da, upd_same]), (by simp), ?_⟩⟩
    refine q d _ nd da (by rw [upd_ne da.symm, upd_same]) upd_same fun b o hb e => ?_
    rw [upd_ne (ne_of_none e nd), upd_ne hb, upd_ne (ne_of_none e nd)]
    exact e
end
end Fs
set_option Elab.async false
set_option linter.all false
set_option maxRecDepth 100000
set_option maxHeartbeats 8000000
namespace Fs
open PySem PySem.Spec PyProof.Rows L2
abbrev s__law_bag : Stmt := top 29
abbrev N__law_bag : List Str := ["_law_script", "_law_salt", "_law_cell"]
abbrev P__law_bag : List Str := ["_law_script"]
abbrev s__law_pull : Stmt := top 30
abbrev N__law_pull : List Str := ["_law_bag_here", "_law_amount", "_law_cell", "_law_got", "_law_seed"]
abbrev P__law_pull : List Str := ["_law_bag_here", "_law_amount"]
theorem sc__law_bag : FnScope N__law_bag P__law_bag (defScope s__law_bag) := ⟨rfl, rfl, rfl, by decide +kernel, rfl, by decide +kernel, by decide +kernel⟩
section
variable {P : Program} {w : World} {K : Frag} {mg : Str → Option Value} {base : Heap}
theorem ok__law_bag (G : Gs K mg "_law_bag" s__law_bag) (mint : mg "int" = none) (mlist : mg "list" = none) : Gd P w K mg base CX0 1 "_law_bag" P__law_bag (spBag K) := by
  refine G.ok sc__law_bag (fun vs H Q E h => ?_) (fun _ _ _ _ _ _ us hl => match us, hl with | [_], _ => rfl) (fun f cdv A outer s H vs Q E hr h => ?_)
  · obtain ⟨a, ns, rfl, _⟩ := h
    rfl
  obtain ⟨a, ns, rfl, hS, q⟩ := h
  refine ⟨_, pss_cons (ps_set (i := 1) sc__law_bag.nd rfl (.inl rfl) pe_int)
    (pss_cons (ps_for PassesOwn.never rfl (pi_list (pe_slice sl_list (pv 0) po_none (po_some pe_int))) (pg_name (i := 2) sc__law_bag.nd rfl (.inl rfl))
      (pss_one (ps_set (i := 1) sc__law_bag.nd rfl (.inl rfl) (pe_op op_mod (pe_op op_add (pe_op op_add (pe_op op_mul (pv 1) pe_int) (pe_op op_mod (pe_callTy call_int1 (by rfl) mint (by decide +kernel) (pa_cons (pv 2) pa_nil)) pe_int)) pe_int) pe_int))))
    (pss_one (ps_ret (pe_lst (pa_cons (pe_callTy call_list_of (by rfl) mlist (by decide +kernel) (pa_cons (pe_slice sl_list (pv 0) po_none (po_some pe_int)) pa_nil)) (pa_cons pe_int (pa_cons pe_int (pa_cons (pv 1) pa_nil)))))))), ?_⟩
  refine ⟨_, rfl, _, rfl, a, _, rfl, hS, fun c nc => ?_⟩
  have e63 : cutV (ns.map V.int) none (some 63) = (ns.take 63).map V.int := by
    rw [show (63 : Int) = ((63 : Nat) : Int) from rfl, cutN, List.map_take]
  rw [e63]
  refine ⟨c, rfl, ⟨_, at_z upd_same⟩, for_list (K := K) (a := c) (xs := (ns.take 63).map V.int)
    (fun i σ H' => ∃ (salt : Int) (v : Option V), σ = [some (.ref a), some (.int salt), v] ∧ 0 ≤ salt ∧ salt < 2147483647 ∧ Same (upd H c (.lst ((ns.take 63).map V.int))) H')
    ⟨3841, none, rfl, by decide, by decide, Same.refl _⟩ (fun i σ H' _ ⟨_, _, _, _, _, s1⟩ => at_z (s1 _ _ upd_same)) ?_ ?_⟩
  · rintro i x σ H' hi ⟨salt, v, rfl, h0, h1, s1⟩
    obtain ⟨z, hz, rfl⟩ : ∃ z, (ns.take 63)[i]? = some z ∧ x = V.int z := by
      rw [List.getElem?_map] at hi
      cases e : (ns.take 63)[i]? with
      | none =>
        rw [e] at hi
        cases hi
      | some z =>
        rw [e] at hi
        exact ⟨z, rfl, (Option.some.inj hi).symm⟩
    refine ⟨_, rfl, _, _, rfl, rfl, .inl ⟨by omega, by omega⟩, _, rfl, .inl ⟨_, rfl, _, _, rfl, rfl, (by show (0 : Int) < _; decide), _, _, rfl, rfl, _, _, rfl, rfl, _, _, rfl, rfl, (by show (0 : Int) < _; decide), _, _, rfl, ?_, ?_, s1⟩⟩
    · omega
    · omega
  · rintro σ H' ⟨salt, v, rfl, h0, h1, s1⟩
    refine ⟨_, rfl, _, rfl, a, _, rfl, (same_new nc _ |>.trans s1).seq hS, fun d nd => ?_⟩
    refine ⟨d, _, rfl, .inl (at_z upd_same), fun l nl => ?_⟩
    refine ⟨_, rfl, (by show 4 ≤ sizeLine; decide), fun p np => ?_⟩
    have s2 : Same H' (upd (upd (upd H' d (.lst (cutV (ns.map V.int) none (some 63)))) l (.lst (cutV (ns.map V.int) none (some 63)))) p (.lst [.ref l, .int 0, .int 0, .int salt])) := (same_new nd _).trans ((same_new nl _).trans (same_new np _))
    have s3 := (same_new nc (.lst ((ns.take 63).map V.int))).trans (s1.trans s2)
    refine q p l _ ?_ s3 ⟨0, 0, salt, ns.take 63, upd_same, ?_, by decide, by decide, h0, h1⟩
    · have z := ((same_new nc _).trans (s1.trans ((same_new nd _).trans (same_new nl _)))).free np
      exact z
    · rw [← e63, upd_ne (ne_of_none upd_same np), upd_same]
theorem sc__law_pull : FnScope N__law_pull P__law_pull (defScope s__law_pull) := ⟨rfl, rfl, rfl, by decide +kernel, rfl, by decide +kernel, by decide +kernel⟩
theorem ok__law_pull (G : Gs K mg "_law_pull" s__law_pull) (mint : mg "int" = none) (mlen : mg "len" = none) : Gd P w K mg base CX0 1 "_law_pull" P__law_pull spPull := by
  refine G.ok sc__law_pull (fun vs H Q E h => ?_) (fun _ _ _ _ _ _ us hl => match us, hl with | [_, _], _ => rfl) (fun f cdv A outer s H vs Q E hr h => ?_)
  · obtain ⟨p, l, n, rfl, _⟩ := h
    rfl
  obtain ⟨p, l, n, rfl, B, n0, n1, q⟩ := h
  refine ⟨_, pss_cons (ps_if (PW.pt (pw_and (pt_cmpR op_eq (pe_ix ix_list (pv 0) pe_int (fun _ _ => rfl)) pe_int (nomark _)) (pw_and1 (pt_cmpR op_lt (pe_ix ix_list (pv 0) pe_int (fun _ _ => rfl)) (pe_callB call_len_seq (by rfl) mlen PySem.boot_len (pa_cons (pe_ix ix_list (pv 0) pe_int (fun _ _ => rfl)) pa_nil)) (nomark _)))))
      (pss_cons (ps_set (i := 2) sc__law_pull.nd rfl (.inl rfl) (pe_ix ix_list (pe_ix ix_list (pv 0) pe_int (fun _ _ => rfl)) (pe_ix ix_list (pv 0) pe_int (fun _ _ => rfl)) (fun _ _ => rfl)))
      (pss_cons (ps_asg (pe_op op_add (pe_ix ix_list (pv 0) pe_int (fun _ _ => rfl)) pe_int) (pg_sub (pv 0) pe_int set_list))
      (pss_one (ps_if (pt_cmpR op_ge (pv 2) (pe_op op_pow pe_int pe_int) (nomark _))
        (pss_one (ps_asg (pv 2) (pg_sub (pv 0) pe_int set_list)))
        (pss_one (ps_asg (pe_op op_mod (pe_op op_add (pe_op op_add (pe_op op_mul (pe_ix ix_list (pv 0) pe_int (fun _ _ => rfl)) pe_int) (pe_op op_mul (pe_op op_mod (pe_callTy call_int1 (by rfl) mint (by decide +kernel) (pa_cons (pv 2) pa_nil)) pe_int) pe_int)) pe_int) pe_int) (pg_sub (pv 0) pe_int set_list)))))))
      pss_nil)
    (pss_cons (ps_if (pt_cmpR op_gt (pe_ix ix_list (pv 0) pe_int (fun _ _ => rfl)) pe_int (nomark _))
      (pss_cons (ps_set (i := 3) sc__law_pull.nd rfl (.inl rfl) (pe_op op_mod (pe_callTy call_int1 (by rfl) mint (by decide +kernel) (pa_cons (pe_ix ix_list (pv 0) pe_int (fun _ _ => rfl)) pa_nil)) (pv 1)))
      (pss_cons (ps_asg (pe_op op_fdivW (pe_ix ix_list (pv 0) pe_int (fun _ _ => rfl)) (pv 1)) (pg_sub (pv 0) pe_int set_list))
      (pss_one (ps_ret (pv 3))))) pss_nil)
    (pss_cons (ps_set (i := 4) sc__law_pull.nd rfl (.inl rfl) (pe_ix ix_list (pv 0) pe_int (fun _ _ => rfl)))
    (pss_cons (ps_asg (pe_op op_mod (pe_op op_add (pe_op op_add (pe_op op_mul (pv 4) (pv 4)) (pe_op op_mul (pv 4) pe_int)) pe_int) pe_int) (pg_sub (pv 0) pe_int set_list))
    (pss_one (ps_ret (pe_op op_mod (pe_op op_add (pe_op op_fdiv (pe_ix ix_list (pv 0) pe_int (fun _ _ => rfl)) pe_int) (pe_op op_mul (pe_op op_mod (pe_callTy call_int1 (by rfl) mint (by decide +kernel) (pa_cons (pe_ix ix_list (pv 0) pe_int (fun _ _ => rfl)) pa_nil)) pe_int) pe_int)) (pv 1))))))), ?_⟩
  obtain ⟨i, rest, seed, ns, hp, hl, hi, hrest, hs0, hs1⟩ := B.ex
  have npl : l ≠ p := ne_of hl hp (fun z => by
    injection z with z
    have z2 := congrArg List.length z
    cases ns with
    | nil => simp at z
    | cons x r =>
      rw [List.map_cons] at z
      injection z with z _
      cases z)
  have a0 : ∀ {x y z u : V}, atI [x, y, z, u] 0 = some x := rfl
  have a1 : ∀ {x y z u : V}, atI [x, y, z, u] 1 = some y := rfl
  have a2 : ∀ {x y z u : V}, atI [x, y, z, u] 2 = some z := rfl
  have a3 : ∀ {x y z u : V}, atI [x, y, z, u] 3 = some u := rfl
  refine seq_cut (fun σ' H' => ∃ (i rest seed : Int) (v : Option V), σ' = [some (.ref p), some (.int n), v, none, none] ∧ SameX p H H' ∧ H' p = some (.lst [.ref l, .int i, .int rest, .int seed]) ∧ 0 ≤ i ∧ 0 ≤ rest ∧ 0 ≤ seed ∧ seed < 2147483647) (fun N hN => ?_) ?_
  · have done : N (start ["_law_bag_here", "_law_amount", "_law_cell", "_law_got", "_law_seed"] [V.ref p, V.int n]) H := hN _ _ ⟨i, rest, seed, none, rfl, Same.refl _, hp, hi, hrest, hs0, hs1⟩
    refine ⟨_, rfl, p, _, _, _, rfl, rfl, at_z hp, a2, rfl, _, rfl, ?_⟩
    by_cases c : V.int rest = V.int 0
    · rw [decide_eq_true c]
      refine iteT ?_
      refine ⟨_, rfl, p, _, _, _, rfl, rfl, at_z hp, a1, _, rfl, p, _, _, _, rfl, rfl, at_z hp, a0, l, _, rfl, .inl (at_z hl), _, _, rfl, rfl, _, rfl, ?_⟩
      by_cases c2 : i < ((ns.map V.int).length : Int)
      · rw [decide_eq_true c2]
        refine iteT ?_
        rw [List.length_map] at c2
        have hk : i.toNat < ns.length := by omega
        have ek : i = ((i.toNat : Nat) : Int) := by omega
        have ai : atI (ns.map V.int) i = some (.int ns[i.toNat]) := by
          have z := atI_i (xs := ns.map V.int) hi (by rw [List.length_map]; exact hk)
          rw [List.getElem_map] at z
          exact z
        -- the cell, the place
        refine ⟨_, rfl, p, _, _, _, rfl, rfl, at_z hp, a0, _, rfl, p, _, _, _, rfl, rfl, at_z hp, a1, l, _, _, _, rfl, rfl, at_z hl, ai, ?_⟩
        refine ⟨_, rfl, p, _, _, _, rfl, rfl, at_z hp, a1, _, _, rfl, rfl, _, rfl, p, _, _, _, rfl, rfl, hp, rfl, ?_⟩
        -- if cell >= 10 ** 18
        refine ⟨_, rfl, _, _, rfl, rfl, ⟨by decide, by decide, by decide⟩, _, _, rfl, rfl, _, rfl, ?_⟩
        refine ite2 (fun c3 => ?_) (fun c3 => ?_)
        · have c3' := of_decide_eq_true c3
          refine ⟨_, rfl, _, rfl, p, _, _, _, rfl, rfl, upd_same, rfl, ?_⟩
          refine hN _ _ ⟨i + 1, ns[i.toNat], seed, some (.int ns[i.toNat]), rfl, .of fun b o hb e => ?_, upd_same, by omega, ?_, hs0, hs1⟩
          · rw [upd_ne hb, upd_ne hb]
            exact e
          · exact Int.le_trans (by decide) c3'
        · refine ⟨_, rfl, p, _, _, _, rfl, rfl, at_z upd_same, a3, _, _, rfl, rfl, .inl ⟨by omega, by omega⟩, _, rfl, .inl ⟨_, rfl, _, _, rfl, rfl, (by show (0 : Int) < _; decide), _, _, rfl, rfl, .inr ⟨by decide, by decide⟩, _, _, rfl, rfl, _, _, rfl, rfl, _, _, rfl, rfl, (by show (0 : Int) < _; decide), _, rfl, p, _, _, _, rfl, rfl, upd_same, rfl, ?_⟩⟩
          refine hN _ _ ⟨i + 1, rest, _, some (.int ns[i.toNat]), rfl, .of fun b o hb e => ?_, upd_same, by omega, hrest, Int.emod_nonneg _ (by decide), Int.emod_lt_of_pos _ (by decide)⟩
          rw [upd_ne hb, upd_ne hb]
          exact e
      · rw [decide_eq_false c2]
        exact iteF done
    · rw [decide_eq_false c]
      exact iteF done
  · rintro σ' H' ⟨i, rest, seed, v, rfl, sx, hp, hi, hrest, hs0, hs1⟩
    have hl' := sx.at npl hl
    have fin : ∀ (i rest seed : Int) (H2 : Hp), (∀ b o, b ≠ p → H' b = some o → H2 b = some o) → H2 p = some (.lst [.ref l, .int i, .int rest, .int seed]) → 0 ≤ i → 0 ≤ rest → 0 ≤ seed → seed < 2147483647 → SameX p H H2 ∧ BagAt H2 p l := fun i rest seed H2 k e h0 h1 h2 h3 =>
      ⟨sx.trans (SameX.of k), ⟨i, rest, seed, ns, e, k _ _ npl hl', h0, h1, h2, h3⟩⟩
    refine ⟨_, rfl, p, _, _, _, rfl, rfl, at_z hp, a2, _, _, rfl, rfl, _, rfl, ?_⟩
    refine ite2 (fun c => ?_) (fun c => ?_)
    · refine ⟨_, rfl, p, _, _, _, rfl, rfl, at_z hp, a2, .inl ⟨_, rfl, _, rfl, _, _, rfl, rfl, n0, ?_⟩⟩
      refine ⟨_, rfl, p, _, _, _, rfl, rfl, at_z hp, a2, _, rfl, _, _, rfl, rfl, wide_div n0 (b := 100) (by omega) (by decide) (by decide), _, rfl, p, _, _, _, rfl, rfl, hp, rfl, _, rfl, ?_⟩
      obtain ⟨x1, x2⟩ := fin i (rest / n) seed (upd H' p (.lst [.ref l, .int i, .int (rest / n), .int seed])) (fun b o hb e => by rw [upd_ne hb]; exact e) upd_same hi (Int.ediv_nonneg hrest (by omega)) hs0 hs1
      exact q _ _ (Int.emod_nonneg _ (by omega)) (Int.emod_lt_of_pos _ n0) x1 x2
    · refine ⟨_, rfl, p, _, _, _, rfl, rfl, at_z hp, a3, ?_⟩
      refine ⟨_, rfl, _, rfl, _, _, rfl, rfl, .inl ⟨by omega, by omega⟩, _, rfl, _, _, rfl, rfl, .inr ⟨by decide, by decide⟩, _, _, rfl, rfl, _, _, rfl, rfl, _, _, rfl, rfl, (by show (0 : Int) < _; decide), _, rfl, p, _, _, _, rfl, rfl, hp, rfl, ?_⟩
      refine ⟨_, rfl, p, _, _, _, rfl, rfl, at_z upd_same, a3, _, _, rfl, rfl, ⟨by decide, by decide⟩, _, rfl, p, _, _, _, rfl, rfl, at_z upd_same, a3, .inl ⟨_, rfl, _, _, rfl, rfl, (by show (0 : Int) < _; decide), _, _, rfl, rfl, .inr ⟨by decide, by decide⟩, _, _, rfl, rfl, _, rfl, _, _, rfl, rfl, n0, ?_⟩⟩
      obtain ⟨x1, x2⟩ := fin i rest ((seed * seed + seed * 48271 + 1013904223) % 2147483647) (upd H' p (.lst [.ref l, .int i, .int rest, .int ((seed * seed + seed * 48271 + 1013904223) % 2147483647)])) (fun b o hb e => by rw [upd_ne hb]; exact e) upd_same hi hrest (Int.emod_nonneg _ (by decide)) (Int.emod_lt_of_pos _ (by decide))
      exact q _ _ (Int.emod_nonneg _ (by omega)) (Int.emod_lt_of_pos _ n0) x1 x2
end
end Fs
set_option Elab.async false
set_option linter.all false
set_option maxRecDepth 100000
set_option maxHeartbeats 8000000
namespace Fs
open PySem PySem.Spec PyProof.Rows L2
/-! ### data -/
inductive D where
  | non | bl (b : Bool) | int (i : Int) | str (x : Str) | ty (n : String) | fn (a : Addr)
  | tup (xs : List D) | lst (xs : List D) | dic (kvs : List (Key × D)) | obj (C : Addr) (fs : List (Str × D)) | exc (C : Addr) (fs : List (Str × D))
/-- a value: a datum, or an own object that may change -/
inductive W where
  | v (d : D) | loc (n : Nat)
/-- an own object -/
inductive MO where
  | lst (xs : List D) | dic (kvs : List (Key × D)) | ins (C : Addr) (fs : List (Str × W)) | bag | tab (p : Addr) (q : Str) | gone
def MO.live : MO → Bool
  | .gone => false
  | _ => true
abbrev En := List (Option W)
abbrev Me := List MO
/-- an exception: its class, its fields -/
structure Er where
  C : Addr
  fs : List (Str × D)
/-- a key's text is well -/
def KeyOk : Key → Prop
  | .inl _ => True
  | .inr x => PySem.PyData.strOk x = true
/-- a tuple: tracked as one, or one of the program's constants -/
def TqT (K : Frag) (B : Hp) (a : Addr) (xs : List V) : Prop :=
  B a = some (.tup xs) ∨ ∃ (o : Obj) (its : Array Value) (n : Nat), K.lookup a = some o ∧ o.cls = .type "tuple" ∧ o.data = .seq its n ∧ its.size ≤ sizeLine ∧ Vals xs its.toList
theorem TqT.sq {K : Frag} {B : Hp} {a : Addr} {xs : List V} (h : TqT K B a xs) : SqT K B a xs := h.elim (fun e => .inl (.inl e)) .inr
theorem TqT.to {K : Frag} {B B' : Hp} (e : Same B B') {a : Addr} {xs : List V} (h : TqT K B a xs) : TqT K B' a xs := h.elim (fun z => .inl (e _ _ z)) .inr
mutual
inductive Rv (K : Frag) (B : Hp) : V → D → Prop
  | non : Rv K B .non .non
  | bl (b : Bool) : Rv K B (.bl b) (.bl b)
  | int (i : Int) : Rv K B (.int i) (.int i)
  | str {x : Str} : PySem.PyData.strOk x = true → Rv K B (.str x) (.str x)
  | ty (n : String) : Rv K B (.ty n) (.ty n)
  | fn (a : Addr) : Rv K B (.ref a) (.fn a)
  | tup {a : Addr} {xs : List V} {ds : List D} : TqT K B a xs → RvL K B xs ds → Rv K B (.ref a) (.tup ds)
  | lst {a : Addr} {xs : List V} {ds : List D} : B a = some (.lst xs) → RvL K B xs ds → Rv K B (.ref a) (.lst ds)
  | dic {a : Addr} {od : Obj} {xs : List (Key × V)} {ds : List (Key × D)} : B a = some (.frz od (.dK xs)) → RvK K B xs ds → Rv K B (.ref a) (.dic ds)
  | obj {a C dx : Addr} {xs : List (Str × V)} {ds : List (Str × D)} : B a = some (.ins C dx xs) → RvF K B xs ds → Rv K B (.ref a) (.obj C ds)
  | exc {a C dx : Addr} {xs : List (Str × V)} {ds : List (Str × D)} : B a = some (exo a C (some dx)) → B dx = some (exd dx xs) → RvF K B xs ds → Rv K B (.ref a) (.exc C ds)
inductive RvL (K : Frag) (B : Hp) : List V → List D → Prop
  | nil : RvL K B [] []
  | cons {v : V} {vs : List V} {d : D} {ds : List D} : Rv K B v d → RvL K B vs ds → RvL K B (v :: vs) (d :: ds)
inductive RvK (K : Frag) (B : Hp) : List (Key × V) → List (Key × D) → Prop
  | nil : RvK K B [] []
  | cons {k : Key} {v : V} {vs : List (Key × V)} {d : D} {ds : List (Key × D)} : KeyOk k → Rv K B v d → RvK K B vs ds → RvK K B ((k, v) :: vs) ((k, d) :: ds)
inductive RvF (K : Frag) (B : Hp) : List (Str × V) → List (Str × D) → Prop
  | nil : RvF K B [] []
  | cons {k : Str} {v : V} {vs : List (Str × V)} {d : D} {ds : List (Str × D)} : Rv K B v d → RvF K B vs ds → RvF K B ((k, v) :: vs) ((k, d) :: ds)
end
/-! ### heaps in heaps -/
/-- all of B stands in H (dicts are locked in B) -/
def Le (B H : Hp) : Prop := ∀ a o, B a = some o → H a = some o
theorem Le.refl (B : Hp) : Le B B := fun _ _ h => h
theorem Le.of {B H : Hp} (h : Same B H) : Le B H := h
theorem Le.same {B B' H : Hp} (s : Same B B') (h : Le B' H) : Le B H := fun a o e => h a o (s a o e)
theorem Le.rd {B H : Hp} (h : Le B H) {a : Addr} {u : HO} (r : Rd B a u) : Rd H a u := r.elim (fun r => .inl (h _ _ r)) fun ⟨o, r⟩ => .inr ⟨o, h _ _ r⟩
theorem Le.seq {K : Frag} {B H : Hp} (h : Le B H) {a : Addr} {xs : List V} (r : SqL K B a xs) : SqL K H a xs := r.elim (fun r => .inl (h.rd r)) .inr
theorem Le.tup {K : Frag} {B H : Hp} (h : Le B H) {a : Addr} {xs : List V} (r : TqT K B a xs) : SqT K H a xs := r.elim (fun r => .inl (.inl (h _ _ r))) .inr
theorem Le.ins {B H : Hp} (h : Le B H) {a C dx : Addr} {xs : List (Str × V)} (r : B a = some (.ins C dx xs)) : H a = some (.ins C dx xs) := h _ _ r
theorem Le.some {B H : Hp} (h : Le B H) {a : Addr} {o : HO} (r : B a = some o) : H a ≠ none := by
  rw [h _ _ r]
  exact fun z => nomatch z
theorem Same.rd {B H : Hp} (h : Same B H) {a : Addr} {u : HO} (r : Rd B a u) : Rd H a u := r.elim (fun r => .inl (h _ _ r)) fun ⟨o, r⟩ => .inr ⟨o, h _ _ r⟩
mutual
theorem Rv.to {K : Frag} {B B' : Hp} (e : Same B B') : ∀ {v : V} {d : D}, Rv K B v d → Rv K B' v d
  | _, _, .non => .non
  | _, _, .bl b => .bl b
  | _, _, .int i => .int i
  | _, _, .str h => .str h
  | _, _, .ty n => .ty n
  | _, _, .fn a => .fn a
  | _, _, .tup h a => .tup (TqT.to e h) (RvL.to e a)
  | _, _, .lst h a => .lst (e _ _ h) (RvL.to e a)
  | _, _, .dic h a => .dic (e _ _ h) (RvK.to e a)
  | _, _, .obj h a => .obj (e _ _ h) (RvF.to e a)
  | _, _, .exc h g a => .exc (e _ _ h) (e _ _ g) (RvF.to e a)
theorem RvL.to {K : Frag} {B B' : Hp} (e : Same B B') : ∀ {vs : List V} {ds : List D}, RvL K B vs ds → RvL K B' vs ds
  | _, _, .nil => .nil
  | _, _, .cons h t => .cons (Rv.to e h) (RvL.to e t)
theorem RvK.to {K : Frag} {B B' : Hp} (e : Same B B') : ∀ {vs : List (Key × V)} {ds : List (Key × D)}, RvK K B vs ds → RvK K B' vs ds
  | _, _, .nil => .nil
  | _, _, .cons k h t => .cons k (Rv.to e h) (RvK.to e t)
theorem RvF.to {K : Frag} {B B' : Hp} (e : Same B B') : ∀ {vs : List (Str × V)} {ds : List (Str × D)}, RvF K B vs ds → RvF K B' vs ds
  | _, _, .nil => .nil
  | _, _, .cons h t => .cons (Rv.to e h) (RvF.to e t)
end
theorem RvL.len {K : Frag} {H : Hp} : ∀ {vs : List V} {ds : List D}, RvL K H vs ds → vs.length = ds.length
  | _, _, .nil => rfl
  | _, _, .cons _ t => congrArg Nat.succ (RvL.len t)
theorem RvL.at {K : Frag} {H : Hp} : ∀ {vs : List V} {ds : List D} {i : Nat} {d : D}, RvL K H vs ds → ds[i]? = some d → ∃ v, vs[i]? = some v ∧ Rv K H v d
  | _, _, _, _, .nil, e => by simp at e
  | _, _, 0, d, .cons (v := v) h _, e => ⟨v, rfl, by simp at e; subst e; exact h⟩
  | _, _, i + 1, d, .cons _ t, e => by
    obtain ⟨v, h1, h2⟩ := RvL.at (i := i) (d := d) t (by simpa using e)
    exact ⟨v, by simpa using h1, h2⟩
theorem RvL.at' {K : Frag} {H : Hp} : ∀ {vs : List V} {ds : List D} {i : Nat} {v : V}, RvL K H vs ds → vs[i]? = some v → ∃ d, ds[i]? = some d ∧ Rv K H v d
  | _, _, _, _, .nil, e => by simp at e
  | _, _, 0, v, .cons (d := d) h _, e => ⟨d, rfl, by simp at e; subst e; exact h⟩
  | _, _, i + 1, v, .cons _ t, e => by
    obtain ⟨d, h1, h2⟩ := RvL.at' (i := i) (v := v) t (by simpa using e)
    exact ⟨d, by simpa using h1, h2⟩
theorem RvL.append {K : Frag} {H : Hp} : ∀ {vs us : List V} {ds es : List D}, RvL K H vs ds → RvL K H us es → RvL K H (vs ++ us) (ds ++ es)
  | _, _, _, _, .nil, r => r
  | _, _, _, _, .cons h t, r => .cons h (RvL.append t r)
theorem RvL.one {K : Frag} {H : Hp} {v : V} {d : D} (h : Rv K H v d) : RvL K H [v] [d] := .cons h .nil
theorem RvL.take {K : Frag} {H : Hp} : ∀ {vs : List V} {ds : List D} (n : Nat), RvL K H vs ds → RvL K H (vs.take n) (ds.take n)
  | _, _, 0, _ => by simp; exact .nil
  | _, _, _ + 1, .nil => by simp; exact .nil
  | _, _, n + 1, .cons h t => .cons h (RvL.take n t)
theorem RvL.drop {K : Frag} {H : Hp} : ∀ {vs : List V} {ds : List D} (n : Nat), RvL K H vs ds → RvL K H (vs.drop n) (ds.drop n)
  | _, _, 0, r => r
  | _, _, _ + 1, .nil => by simp; exact .nil
  | _, _, n + 1, .cons _ t => RvL.drop n t
theorem RvL.set {K : Frag} {H : Hp} {v : V} {d : D} (h : Rv K H v d) : ∀ {vs : List V} {ds : List D} (n : Nat), RvL K H vs ds → RvL K H (vs.set n v) (ds.set n d)
  | _, _, _, .nil => .nil
  | _, _, 0, .cons _ t => .cons h t
  | _, _, n + 1, .cons a t => .cons a (RvL.set h n t)
theorem RvK.len {K : Frag} {H : Hp} : ∀ {vs : List (Key × V)} {ds : List (Key × D)}, RvK K H vs ds → vs.length = ds.length
  | _, _, .nil => rfl
  | _, _, .cons _ _ t => congrArg Nat.succ (RvK.len t)
theorem RvF.look {K : Frag} {H : Hp} {f : Str} {d : D} : ∀ {vs : List (Str × V)} {ds : List (Str × D)}, RvF K H vs ds → ds.lookup f = some d → ∃ v, vs.lookup f = some v ∧ Rv K H v d
  | _, _, .nil, e => by simp at e
  | _, _, .cons (k := k) (v := v) (vs := vs) (d := d2) (ds := ds) h t, e => by
    rw [List.lookup_cons] at e ⊢
    cases q : f == k with
    | true => rw [q] at e; cases e; exact ⟨_, rfl, h⟩
    | false => rw [q] at e; exact RvF.look t e
/-! ### own objects -/
/-- a value in a world -/
def RW (K : Frag) (B : Hp) (μ : List Addr) : V → W → Prop
  | v, .v d => Rv K B v d
  | v, .loc n => ∃ a, v = .ref a ∧ μ[n]? = some a
inductive RWs (K : Frag) (B : Hp) (μ : List Addr) : List V → List W → Prop
  | nil : RWs K B μ [] []
  | cons {v : V} {vs : List V} {w : W} {ws : List W} : RW K B μ v w → RWs K B μ vs ws → RWs K B μ (v :: vs) (w :: ws)
inductive RWf (K : Frag) (B : Hp) (μ : List Addr) : List (Str × V) → List (Str × W) → Prop
  | nil : RWf K B μ [] []
  | cons {k : Str} {v : V} {vs : List (Str × V)} {w : W} {ws : List (Str × W)} : RW K B μ v w → RWf K B μ vs ws → RWf K B μ ((k, v) :: vs) ((k, w) :: ws)
/-- the bag's state -/
structure BagB (B H : Hp) (p : Addr) : Prop where
  ex : ∃ (l : Addr) (i rest seed : Int) (ns : List Int), H p = some (.lst [.ref l, .int i, .int rest, .int seed]) ∧ B l = some (.lst (ns.map V.int)) ∧ 0 ≤ i ∧ 0 ≤ rest ∧ 0 ≤ seed ∧ seed < 2147483647
/-- a table of code objects, they in B -/
structure TabB (B H : Hp) (p : Addr) (q : Str) : Prop where
  ex : ∃ ps : Array Value, H p = some (.tbl ps) ∧ TriplesOk ps.toList ∧ ∀ (pos : Pos) (cv : Value), codeAmong pos ps.toList = some cv → ∃ c, cv = .ref c ∧ B c = some (LamX.CodeO c q)
/-- what stands at a -/
def OO (K : Frag) (B : Hp) (μ : List Addr) (H : Hp) (a : Addr) : MO → Prop
  | .lst ds => ∃ vs, H a = some (.lst vs) ∧ RvL K B vs ds
  | .dic ds => ∃ vs, H a = some (.dK vs) ∧ RvK K B vs ds
  | .ins C fs => ∃ dx vs, H a = some (.ins C dx vs) ∧ RWf K B μ vs fs
  | .bag => BagB B H a
  | .tab p q => a = p ∧ TabB B H a q
  | .gone => True
/-- a lives: at it stands an own object -/
def Live (μ : List Addr) (mem : List MO) (a : Addr) : Prop := ∃ (n : Nat) (m : MO), μ[n]? = some a ∧ mem[n]? = some m ∧ m.live = true
structure MemOk (K : Frag) (B : Hp) (μ : List Addr) (mem : List MO) (H : Hp) : Prop where
  le : Le B H
  len : μ.length = mem.length
  off : ∀ a, Live μ mem a → B a = none
  at_ : ∀ (n : Nat) (a : Addr) (m : MO), μ[n]? = some a → mem[n]? = some m → m.live = true → OO K B μ H a m
  inj : ∀ (n k : Nat) (a : Addr) (m m' : MO), μ[n]? = some a → μ[k]? = some a → mem[n]? = some m → mem[k]? = some m' → m.live = true → m'.live = true → n = k
  ntb : ∀ (a : Addr) (ps : Array Value), B a ≠ some (.tbl ps)
structure Rel (K : Frag) (B : Hp) (μ : List Addr) (env : En) (mem : Me) (σ : L2.St) (H : Hp) : Prop where
  mem : MemOk K B μ mem H
  len : σ.length = env.length
  env : ∀ (i : Nat) (x : W), env[i]? = some (some x) → ∃ v, σ[i]? = some (some v) ∧ RW K B μ v x
/-- from one state to a later one -/
structure Stp (B : Hp) (μ : List Addr) (mem : List MO) (H : Hp) (B' : Hp) (μ' : List Addr) (mem' : List MO) (H' : Hp) : Prop where
  same : Same B B'
  pre : μ <+: μ'
  out : ∀ a o, ¬ Live μ mem a → H a = some o → (∀ ps, o ≠ .tbl ps) → H' a = some o
  hid : ∀ a o, ¬ Live μ mem a → H a = some o → ((∀ q, o ≠ LamX.CodeO a q) ∧ ∀ ps, o ≠ .tbl ps) → B a = none → B' a = none ∧ ¬ Live μ' mem' a
theorem Stp.refl {B : Hp} {μ : List Addr} {mem : List MO} {H : Hp} : Stp B μ mem H B μ mem H := ⟨Same.refl _, List.prefix_refl _, fun _ _ _ h _ => h, fun _ _ n _ _ b => ⟨b, n⟩⟩
theorem pre_at {μ μ' : List Addr} {n : Nat} {a : Addr} (h : μ <+: μ') (e : μ[n]? = some a) : μ'[n]? = some a := by
  obtain ⟨t, rfl⟩ := h
  rw [List.getElem?_append_left (List.getElem?_eq_some_iff.mp e).1]
  exact e
theorem RW.to {K : Frag} {B B' : Hp} {μ μ' : List Addr} (s : Same B B') (p : μ <+: μ') : ∀ {v : V} {w : W}, RW K B μ v w → RW K B' μ' v w
  | _, .v _, h => Rv.to s h
  | _, .loc _, ⟨a, e, h⟩ => ⟨a, e, pre_at p h⟩
theorem RWs.to {K : Frag} {B B' : Hp} {μ μ' : List Addr} (s : Same B B') (p : μ <+: μ') : ∀ {v : List V} {w : List W}, RWs K B μ v w → RWs K B' μ' v w
  | _, _, .nil => .nil
  | _, _, .cons h t => .cons (RW.to s p h) (RWs.to s p t)
theorem RWf.to {K : Frag} {B B' : Hp} {μ μ' : List Addr} (s : Same B B') (p : μ <+: μ') : ∀ {v : List (Str × V)} {w : List (Str × W)}, RWf K B μ v w → RWf K B' μ' v w
  | _, _, .nil => .nil
  | _, _, .cons h t => .cons (RW.to s p h) (RWf.to s p t)
theorem RWs.len {K : Frag} {B : Hp} {μ : List Addr} : ∀ {v : List V} {w : List W}, RWs K B μ v w → v.length = w.length
  | _, _, .nil => rfl
  | _, _, .cons _ t => congrArg Nat.succ (RWs.len t)
theorem OO.to {K : Frag} {B B' : Hp} {μ μ' : List Addr} {H H' : Hp} {a : Addr} (s : Same B B') (p : μ <+: μ') (e : ∀ o, H a = some o → H' a = some o) : ∀ {m : MO}, OO K B μ H a m → OO K B' μ' H' a m
  | .lst _, ⟨vs, h, r⟩ => ⟨vs, e _ h, RvL.to s r⟩
  | .dic _, ⟨vs, h, r⟩ => ⟨vs, e _ h, RvK.to s r⟩
  | .ins _ _, ⟨dx, vs, h, r⟩ => ⟨dx, vs, e _ h, RWf.to s p r⟩
  | .bag, ⟨l, i, r, sd, ns, h, hl, k⟩ => ⟨l, i, r, sd, ns, e _ h, s _ _ hl, k⟩
  | .tab _ _, ⟨z, ps, h, h2, h3⟩ => ⟨z, ps, e _ h, h2, fun pos cv z => let ⟨c, e1, e2⟩ := h3 pos cv z; ⟨c, e1, s _ _ e2⟩⟩
  | .gone, _ => trivial
theorem OO.there {K : Frag} {B : Hp} {μ : List Addr} {H : Hp} {a : Addr} : ∀ {m : MO}, m.live = true → OO K B μ H a m → H a ≠ none
  | .lst _, _, ⟨vs, h, r⟩ => by rw [h]; exact fun z => nomatch z
  | .dic _, _, ⟨vs, h, r⟩ => by rw [h]; exact fun z => nomatch z
  | .ins _ _, _, ⟨dx, vs, h, r⟩ => by rw [h]; exact fun z => nomatch z
  | .bag, _, ⟨l, i, r, sd, ns, h, hl, k⟩ => by rw [h]; exact fun z => nomatch z
  | .tab _ _, _, ⟨_, ps, h, _⟩ => by rw [h]; exact fun z => nomatch z
theorem OO.noext {K : Frag} {B : Hp} {μ : List Addr} {H : Hp} {a : Addr} {φ : Heap → Prop} : ∀ {m : MO}, m.live = true → OO K B μ H a m → H a ≠ some (.ext φ)
  | .lst _, _, ⟨vs, h, r⟩ => by rw [h]; exact fun z => nomatch z
  | .dic _, _, ⟨vs, h, r⟩ => by rw [h]; exact fun z => nomatch z
  | .ins _ _, _, ⟨dx, vs, h, r⟩ => by rw [h]; exact fun z => nomatch z
  | .bag, _, ⟨l, i, r, sd, ns, h, hl, k⟩ => by rw [h]; exact fun z => nomatch z
  | .tab _ _, _, ⟨_, ps, h, _⟩ => by rw [h]; exact fun z => nomatch z
theorem Stp.trans {K : Frag} {B B1 B2 : Hp} {μ μ1 μ2 : List Addr} {mem mem1 mem2 : List MO} {H H1 H2 : Hp} (a : Stp B μ mem H B1 μ1 mem1 H1) (m1 : MemOk K B1 μ1 mem1 H1) (b : Stp B1 μ1 mem1 H1 B2 μ2 mem2 H2) (le : Le B H) : Stp B μ mem H B2 μ2 mem2 H2 where
  same := a.same.trans b.same
  pre := a.pre.trans b.pre
  out := fun x o n h nt => by
    have h1 := a.out x o n h nt
    refine b.out x o (fun l => ?_) h1 nt
    have z := m1.off x l
    cases e : B x with
    | some u => rw [a.same _ _ e] at z; cases z
    | none =>
      cases o with
      | ext φ =>
        obtain ⟨k, mo, e1, e2, e3⟩ := l
        exact OO.noext e3 (m1.at_ k x mo e1 e2 e3) h1
      | tbl ps => exact nt ps rfl
      | _ => exact (a.hid x _ n h ⟨(fun _ z => nomatch z), (fun _ z => nomatch z)⟩ e).2 l
  hid := fun x o n h ne e => by
    obtain ⟨e1, n1⟩ := a.hid x o n h ne e
    exact b.hid x o n1 (a.out x o n h ne.2) ne e1
theorem MemOk.there {K : Frag} {B : Hp} {μ : List Addr} {mem : List MO} {H : Hp} (h : MemOk K B μ mem H) {a : Addr} (l : Live μ mem a) : H a ≠ none := by
  obtain ⟨n, m, h1, h2, h3⟩ := l
  exact OO.there h3 (h.at_ n a m h1 h2 h3)
/-- a new datum is laid beside all -/
theorem MemOk.laid {K : Frag} {B : Hp} {μ : List Addr} {mem : List MO} {H : Hp} (h : MemOk K B μ mem H) {p : Addr} {o : HO} (np : H p = none) (no : ∀ ps, o ≠ .tbl ps := by exact fun _ z => nomatch z) : MemOk K (upd B p o) μ mem (upd H p o) := by
  have nb : B p = none := by
    cases e : B p with
    | none => rfl
    | some u => exact absurd np (h.le.some e)
  refine ⟨fun a u e => ?_, h.len, fun a l => ?_, fun n a m e1 e2 e3 => ?_, h.inj, fun a ps e => by
    by_cases c : a = p
    · subst c
      rw [upd_same] at e
      exact no ps (Option.some.inj e)
    · rw [upd_ne c] at e
      exact h.ntb a ps e⟩
  · by_cases c : a = p
    · subst c
      rw [upd_same] at e
      rw [upd_same]
      exact e
    · rw [upd_ne c] at e
      rw [upd_ne c]
      exact h.le a u e
  · have c : a ≠ p := fun z => by subst z; exact h.there l np
    rw [upd_ne c]
    exact h.off a l
  · have c : a ≠ p := fun z => by subst z; exact h.there ⟨n, m, e1, e2, e3⟩ np
    exact OO.to (same_new nb o) (List.prefix_refl _) (fun u q => by rw [upd_ne c]; exact q) (h.at_ n a m e1 e2 e3)
theorem Stp.laid {K : Frag} {B : Hp} {μ : List Addr} {mem : List MO} {H : Hp} (h : MemOk K B μ mem H) {p : Addr} {o : HO} (np : H p = none) : Stp B μ mem H (upd B p o) μ mem (upd H p o) := by
  have nb : B p = none := by
    cases e : B p with
    | none => rfl
    | some u => exact absurd np (h.le.some e)
  refine ⟨same_new nb o, List.prefix_refl _, fun a u _ e _ => ?_, fun a o' n e _ b => ⟨?_, n⟩⟩
  · rw [upd_ne (ne_of_none e np)]
    exact e
  · have c : a ≠ p := ne_of_none e np
    rw [upd_ne c]
    exact b
theorem laid_same {K : Frag} {B : Hp} {μ : List Addr} {mem : List MO} {H : Hp} (h : MemOk K B μ mem H) {p : Addr} {o : HO} (np : H p = none) : Same B (upd B p o) := (Stp.laid h np (o := o)).same
/-- a new own object -/
theorem MemOk.push {K : Frag} {B : Hp} {μ : List Addr} {mem : List MO} {H H' : Hp} (h : MemOk K B μ mem H) {p : Addr} {m : MO} (np : H p = none) (le : Le B H') (keep : ∀ a o, a ≠ p → H a = some o → H' a = some o) (new : OO K B (μ ++ [p]) H' p m) : MemOk K B (μ ++ [p]) (mem ++ [m]) H' := by
  have nb : B p = none := by
    cases e : B p with
    | none => rfl
    | some u => exact absurd np (h.le.some e)
  have sp : ∀ {n : Nat} {a : Addr}, (μ ++ [p])[n]? = some a → (μ[n]? = some a) ∨ (n = mem.length ∧ a = p) := fun {n a} e => by
    by_cases c : n < μ.length
    · rw [List.getElem?_append_left c] at e
      exact .inl e
    · rw [List.getElem?_append_right (by omega)] at e
      have z := (List.getElem?_eq_some_iff.mp e).1
      simp at z
      have z2 : n = μ.length := by omega
      subst z2
      simp at e
      exact .inr ⟨h.len, e.symm⟩
  have sm : ∀ {n : Nat} {x : MO} {a : Addr}, μ[n]? = some a → (mem ++ [m])[n]? = some x → mem[n]? = some x := fun {n x a} e q => by
    have z := (List.getElem?_eq_some_iff.mp e).1
    rw [List.getElem?_append_left (by have := h.len; omega)] at q
    exact q
  refine ⟨le, by simp [h.len], fun a l => ?_, fun n a x e1 e2 e3 => ?_, fun n k a x y e1 e2 e3 e4 l1 l2 => ?_, h.ntb⟩
  · obtain ⟨n, x, e1, e2, e3⟩ := l
    rcases sp e1 with e | ⟨_, rfl⟩
    · exact h.off a ⟨n, x, e, sm e e2, e3⟩
    · exact nb
  · rcases sp e1 with e | ⟨rfl, rfl⟩
    · have q := h.at_ n a x e (sm e e2) e3
      have c : a ≠ p := fun z => by subst z; exact OO.there e3 q np
      exact OO.to (Same.refl _) (List.prefix_append _ _) (fun u z => keep a u c z) q
    · rw [List.getElem?_append_right (Nat.le_refl _), Nat.sub_self] at e2
      have z : m = x := Option.some.inj e2
      subst z
      exact new
  · rcases sp e1 with u1 | ⟨rfl, rfl⟩
    · rcases sp e2 with u2 | ⟨rfl, rfl⟩
      · exact h.inj n k a x y u1 u2 (sm u1 e3) (sm u2 e4) l1 l2
      · exact absurd np (OO.there l1 (h.at_ n _ x u1 (sm u1 e3) l1))
    · rcases sp e2 with u2 | ⟨rfl, _⟩
      · exact absurd np (OO.there l2 (h.at_ k _ y u2 (sm u2 e4) l2))
      · rfl
theorem Stp.push {K : Frag} {B : Hp} {μ : List Addr} {mem : List MO} {H H' : Hp} (h : MemOk K B μ mem H) {p : Addr} {m : MO} (np : H p = none) (keep : ∀ a o, a ≠ p → H a = some o → H' a = some o) : Stp B μ mem H B (μ ++ [p]) (mem ++ [m]) H' := by
  refine ⟨Same.refl _, List.prefix_append _ _, fun a o _ e _ => keep a o (ne_of_none e np) e, fun a o n e _ b => ⟨b, fun l => ?_⟩⟩
  obtain ⟨k, x, e1, e2, e3⟩ := l
  by_cases c : k < μ.length
  · rw [List.getElem?_append_left c] at e1
    rw [List.getElem?_append_left (by have := h.len; omega)] at e2
    exact n ⟨k, x, e1, e2, e3⟩
  · rw [List.getElem?_append_right (by omega)] at e1
    have z := List.mem_of_getElem? e1
    rw [List.mem_singleton] at z
    rw [z, np] at e
    cases e
/-- an own object is changed -/
theorem MemOk.store {K : Frag} {B : Hp} {μ : List Addr} {mem : List MO} {H H' : Hp} (h : MemOk K B μ mem H) {n : Nat} {a : Addr} {m m' : MO} (ha : μ[n]? = some a) (hm : mem[n]? = some m) (hl : m.live = true) (hl' : m'.live = true) (keep : ∀ b o, b ≠ a → H b = some o → H' b = some o) (new : OO K B μ H' a m') : MemOk K B μ (mem.set n m') H' := by
  have lv : ∀ {k : Nat} {x : MO}, (mem.set n m')[k]? = some x → x.live = true → ∃ y, mem[k]? = some y ∧ y.live = true := fun {k x} e l => by
    by_cases c : k = n
    · subst c
      exact ⟨m, hm, hl⟩
    · rw [List.getElem?_set_ne (fun z => c z.symm)] at e
      exact ⟨x, e, l⟩
  have off : ∀ b, Live μ (mem.set n m') b → B b = none := fun b l => by
    obtain ⟨k, x, e1, e2, e3⟩ := l
    obtain ⟨y, e4, e5⟩ := lv e2 e3
    exact h.off b ⟨k, y, e1, e4, e5⟩
  have nb := h.off a ⟨n, m, ha, hm, hl⟩
  refine ⟨fun b u e => ?_, by simp [h.len], off, fun k b x e1 e2 e3 => ?_, fun k j b x y e1 e2 e3 e4 l1 l2 => ?_, h.ntb⟩
  · have c : b ≠ a := ne_of_none e nb
    exact keep b u c (h.le b u e)
  · by_cases c : k = n
    · subst c
      rw [List.getElem?_set_self (List.getElem?_eq_some_iff.mp hm).1] at e2
      have z : m' = x := Option.some.inj e2
      subst z
      have z2 : a = b := Option.some.inj (ha.symm.trans e1)
      subst z2
      exact new
    · rw [List.getElem?_set_ne (fun z => c z.symm)] at e2
      have ne : b ≠ a := fun z => by
        subst z
        exact c (h.inj k n b x m e1 ha e2 hm e3 hl)
      exact OO.to (Same.refl _) (List.prefix_refl _) (fun u z => keep b u ne z) (h.at_ k b x e1 e2 e3)
  · obtain ⟨x', q1, q2⟩ := lv e3 l1
    obtain ⟨y', q3, q4⟩ := lv e4 l2
    exact h.inj k j b x' y' e1 e2 q1 q3 q2 q4
theorem Stp.store {B : Hp} {μ : List Addr} {mem : List MO} {H H' : Hp} {n : Nat} {a : Addr} {m m' : MO} (ha : μ[n]? = some a) (hm : mem[n]? = some m) (hl : m.live = true) (keep : ∀ b o, b ≠ a → H b = some o → H' b = some o) : Stp B μ mem H B μ (mem.set n m') H' := by
  have la : Live μ mem a := ⟨n, m, ha, hm, hl⟩
  refine ⟨Same.refl _, List.prefix_refl _, fun b o nl e _ => keep b o (fun z => nl (z ▸ la)) e, fun b o nl e _ q => ⟨q, fun l => ?_⟩⟩
  obtain ⟨k, x, e1, e2, e3⟩ := l
  by_cases c : k = n
  · subst c
    have z2 : a = b := Option.some.inj (ha.symm.trans e1)
    exact nl (z2 ▸ la)
  · rw [List.getElem?_set_ne (fun z => c z.symm)] at e2
    exact nl ⟨k, x, e1, e2, e3⟩
/-- an own object becomes a datum: B grows by what stands at a -/
theorem MemOk.freeze {K : Frag} {B : Hp} {μ : List Addr} {mem : List MO} {H : Hp} (h : MemOk K B μ mem H) {n : Nat} {a : Addr} {m : MO} {o : HO} (ha : μ[n]? = some a) (hm : mem[n]? = some m) (hl : m.live = true) (ho : H a = some o) (no : ∀ ps, o ≠ .tbl ps := by exact fun _ z => nomatch z) : MemOk K (upd B a o) μ (mem.set n .gone) H := by
  have nb := h.off a ⟨n, m, ha, hm, hl⟩
  have lv : ∀ {k : Nat} {x : MO}, (mem.set n .gone)[k]? = some x → x.live = true → k ≠ n ∧ mem[k]? = some x := fun {k x} e l => by
    by_cases c : k = n
    · subst c
      rw [List.getElem?_set_self (List.getElem?_eq_some_iff.mp hm).1] at e
      cases e
      cases l
    · rw [List.getElem?_set_ne (fun z => c z.symm)] at e
      exact ⟨c, e⟩
  refine ⟨fun b u e => ?_, by simp [h.len], fun b l => ?_, fun k b x e1 e2 e3 => ?_, fun k j b x y e1 e2 e3 e4 l1 l2 => ?_, fun b ps e => by
    by_cases c : b = a
    · subst c
      rw [upd_same] at e
      exact no ps (Option.some.inj e)
    · rw [upd_ne c] at e
      exact h.ntb b ps e⟩
  · by_cases c : b = a
    · subst c
      rw [upd_same] at e
      cases e
      exact ho
    · rw [upd_ne c] at e
      exact h.le b u e
  · obtain ⟨k, x, e1, e2, e3⟩ := l
    obtain ⟨c, e4⟩ := lv e2 e3
    have ne : b ≠ a := fun z => by
      subst z
      exact c (h.inj k n b x m e1 ha e4 hm e3 hl)
    rw [upd_ne ne]
    exact h.off b ⟨k, x, e1, e4, e3⟩
  · obtain ⟨c, e4⟩ := lv e2 e3
    exact OO.to (same_new nb o) (List.prefix_refl _) (fun _ z => z) (h.at_ k b x e1 e4 e3)
  · exact h.inj k j b x y e1 e2 (lv e3 l1).2 (lv e4 l2).2 l1 l2
theorem Stp.freeze {B : Hp} {μ : List Addr} {mem : List MO} {H : Hp} {n : Nat} {a : Addr} {m : MO} {o : HO} (ha : μ[n]? = some a) (hm : mem[n]? = some m) (hl : m.live = true) (nb : B a = none) : Stp B μ mem H (upd B a o) μ (mem.set n .gone) H := by
  have la : Live μ mem a := ⟨n, m, ha, hm, hl⟩
  refine ⟨same_new nb o, List.prefix_refl _, fun _ _ _ e _ => e, fun b _ nl e _ q => ⟨?_, fun l => ?_⟩⟩
  · have ne : b ≠ a := fun z => by
      subst z
      exact nl la
    rw [upd_ne ne]
    exact q
  · obtain ⟨k, x, e1, e2, e3⟩ := l
    by_cases c : k = n
    · subst c
      rw [List.getElem?_set_self (List.getElem?_eq_some_iff.mp hm).1] at e2
      cases e2
      cases e3
    · rw [List.getElem?_set_ne (fun z => c z.symm)] at e2
      exact nl ⟨k, x, e1, e2, e3⟩
/-- forgetting own objects: those behind the first n -/
theorem Live.take {μ : List Addr} {mem : List MO} {n : Nat} {a : Addr} (l : Live (μ.take n) (mem.take n) a) : Live μ mem a := by
  obtain ⟨k, x, e1, e2, e3⟩ := l
  rw [List.getElem?_take] at e1 e2
  by_cases c : k < n
  · rw [if_pos c] at e1 e2
    exact ⟨k, x, e1, e2, e3⟩
  · rw [if_neg c] at e1
    cases e1
end Fs
set_option Elab.async false
set_option linter.all false
set_option maxRecDepth 100000
set_option maxHeartbeats 8000000
namespace Fs
open PySem PySem.Spec PyProof.Rows L2
theorem RW.d {K : Frag} {B : Hp} {μ : List Addr} {v : V} {d : D} (h : Rv K B v d) : RW K B μ v (.v d) := h
theorem RW.back {K : Frag} {B B' : Hp} {μ μ' : List Addr} {u v : V} (bk : ∀ {n : Nat} {a : Addr}, n < μ.length → μ'[n]? = some a → μ[n]? = some a) : ∀ {w : W}, RW K B μ u w → RW K B' μ' v w → RW K B' μ v w
  | .v _, _, h => h
  | .loc _, ⟨_, _, m0⟩, ⟨a1, e1, m1⟩ => ⟨a1, e1, bk (List.getElem?_eq_some_iff.mp m0).1 m1⟩
theorem RWf.back {K : Frag} {B B' : Hp} {μ μ' : List Addr} (bk : ∀ {n : Nat} {a : Addr}, n < μ.length → μ'[n]? = some a → μ[n]? = some a) : ∀ {us vs : List (Str × V)} {ws : List (Str × W)}, RWf K B μ us ws → RWf K B' μ' vs ws → RWf K B' μ vs ws
  | _, _, _, .nil, .nil => .nil
  | _, _, _, .cons a t, .cons b u => .cons (RW.back bk a b) (RWf.back bk t u)
theorem MemOk.drop {K : Frag} {B B' : Hp} {μ μ' : List Addr} {mem more : List MO} {H H' : Hp} (h0 : MemOk K B μ mem H) (p : μ <+: μ') (h : MemOk K B' μ' (mem ++ more) H') : MemOk K B' μ mem H' := by
  have up : ∀ {n : Nat} {m : MO}, mem[n]? = some m → (mem ++ more)[n]? = some m := fun {n m} e => by
    rw [List.getElem?_append_left (List.getElem?_eq_some_iff.mp e).1]
    exact e
  have bk : ∀ {n : Nat} {a : Addr}, n < μ.length → μ'[n]? = some a → μ[n]? = some a := fun {n a} l e => by
    obtain ⟨t, rfl⟩ := p
    rw [List.getElem?_append_left l] at e
    exact e
  refine ⟨h.le, h0.len, fun a l => ?_, fun n a m e1 e2 e3 => ?_, fun n k a m m' e1 e2 e3 e4 l1 l2 => ?_, h.ntb⟩
  · obtain ⟨n, m, e1, e2, e3⟩ := l
    exact h.off a ⟨n, m, pre_at p e1, up e2, e3⟩
  · have q0 := h0.at_ n a m e1 e2 e3
    have q := h.at_ n a m (pre_at p e1) (up e2) e3
    cases m with
    | lst ds => exact q
    | dic ds => exact q
    | bag => exact q
    | gone => trivial
    | tab _ _ => exact q
    | ins C fs =>
      obtain ⟨dx0, vs0, _, r0⟩ := q0
      obtain ⟨dx, vs, hh, r⟩ := q
      exact ⟨dx, vs, hh, RWf.back bk r0 r⟩
  · exact h.inj n k a m m' (pre_at p e1) (pre_at p e2) (up e3) (up e4) l1 l2
theorem Stp.drop {B B' : Hp} {μ μ' : List Addr} {mem more : List MO} {H H' : Hp} (s : Stp B μ mem H B' μ' (mem ++ more) H') : Stp B μ mem H B' μ mem H' :=
  ⟨s.same, List.prefix_refl _, s.out, fun a o n e x b => ⟨(s.hid a o n e x b).1, n⟩⟩
/-! ### judgements -/
/-- what is raised reaches E -/
def ExOf (K : Frag) (E : XK) (B : Hp) (μ : List Addr) (mem : List MO) (H : Hp) (Qx : Er → List MO → Prop) : Prop :=
  ∀ B' μ' mem' H' (er : Er) (dd : Addr) fvs, Stp B μ mem H B' μ' mem' H' → MemOk K B' μ' mem' H' → H' dd = some (.xd fvs) → RvF K B' fvs er.fs → Qx er mem' → E (.ref er.C) (some dd) H'
theorem ExOf.step {K : Frag} {E : XK} {B B1 : Hp} {μ μ1 : List Addr} {mem mem1 : List MO} {H H1 : Hp} {Qx : Er → List MO → Prop} (h : ExOf K E B μ mem H Qx) (s : Stp B μ mem H B1 μ1 mem1 H1) (m1 : MemOk K B1 μ1 mem1 H1) (le : Le B H) : ExOf K E B1 μ1 mem1 H1 Qx :=
  fun B' μ' mem' H' er dd fvs s' m' hd r q => h B' μ' mem' H' er dd fvs (s.trans m1 s' le) m' hd r q
abbrev QX := Er → Me → Prop
abbrev DTE := En → Me → (W → Me → Prop) → QX → Prop
abbrev DTA := En → Me → (List W → Me → Prop) → QX → Prop
abbrev DTT := En → Me → (Bool → Me → Prop) → QX → Prop
def SE (X : Cx) (E : XK) (t : TE) (T : DTE) : Prop := ∀ B μ en m σ H (Q : W → Me → Prop) (Qx : QX) (QV : VK), Rel X.K B μ en m σ H → ExOf X.K E B μ m H Qx → T en m Q Qx →
  (∀ B' μ' m' H' x v, Stp B μ m H B' μ' m' H' → Rel X.K B' μ' en m' σ H' → RW X.K B' μ' v x → Q x m' → QV v H') → t σ H QV
def SA (X : Cx) (E : XK) (t : TA) (T : DTA) : Prop := ∀ B μ en m σ H (Q : List W → Me → Prop) (Qx : QX) (QV : List V → Hp → Prop), Rel X.K B μ en m σ H → ExOf X.K E B μ m H Qx → T en m Q Qx →
  (∀ B' μ' m' H' x v, Stp B μ m H B' μ' m' H' → Rel X.K B' μ' en m' σ H' → RWs X.K B' μ' v x → Q x m' → QV v H') → t σ H QV
def ST (X : Cx) (E : XK) (t : TT) (T : DTT) : Prop := ∀ B μ en m σ H (Q : Bool → Me → Prop) (Qx : QX) (QV : Bool → Hp → Prop), Rel X.K B μ en m σ H → ExOf X.K E B μ m H Qx → T en m Q Qx →
  (∀ B' μ' m' H' b, Stp B μ m H B' μ' m' H' → Rel X.K B' μ' en m' σ H' → Q b m' → QV b H') → t σ H QV
structure DE (X : Cx) (E : XK) (e : Expr) (T : DTE) : Prop where
  ex : ∃ t, PE X e t ∧ SE X E t T
structure DA (X : Cx) (E : XK) (es : List Expr) (T : DTA) : Prop where
  ex : ∃ t, PA X es t ∧ SA X E t T
structure DT (X : Cx) (E : XK) (e : Expr) (T : DTT) : Prop where
  ex : ∃ t, PT X e t ∧ ST X E t T
structure DW (X : Cx) (E : XK) (e : Expr) (T : DTT) : Prop where
  ex : ∃ t, PW X e t ∧ ST X E t T
/-- what is wanted behind a statement -/
structure Dn where
  nx : En → Me → Prop
  rt : W → Me → Prop
  bk : En → Me → Prop
  ct : En → Me → Prop
  xc : QX
abbrev DTS := En → Me → Dn → Prop
def NxOf (K : Frag) (B : Hp) (μ : List Addr) (mem : Me) (H : Hp) (N : En → Me → Prop) (n : L2.St → Hp → Prop) : Prop := ∀ B' μ' en' m' σ' H', Stp B μ mem H B' μ' m' H' → Rel K B' μ' en' m' σ' H' → N en' m' → n σ' H'
def RtOf (K : Frag) (B : Hp) (μ : List Addr) (mem : Me) (H : Hp) (N : W → Me → Prop) (n : VK) : Prop := ∀ B' μ' mem' H' x v, Stp B μ mem H B' μ' mem' H' → MemOk K B' μ' mem' H' → RW K B' μ' v x → N x mem' → n v H'
structure EndsOf (K : Frag) (B : Hp) (μ : List Addr) (mem : Me) (H : Hp) (N : Dn) (D : Ends) : Prop where
  nx : NxOf K B μ mem H N.nx D.nx
  rt : RtOf K B μ mem H N.rt D.rt
  bk : NxOf K B μ mem H N.bk D.bk
  ct : NxOf K B μ mem H N.ct D.ct
theorem NxOf.step {K : Frag} {B B1 : Hp} {μ μ1 : List Addr} {mem mem1 : Me} {H H1 : Hp} {N n} (h : NxOf K B μ mem H N n) (s : Stp B μ mem H B1 μ1 mem1 H1) (m1 : MemOk K B1 μ1 mem1 H1) (le : Le B H) : NxOf K B1 μ1 mem1 H1 N n :=
  fun B' μ' en' m' σ' H' s' r q => h B' μ' en' m' σ' H' (s.trans m1 s' le) r q
theorem RtOf.step {K : Frag} {B B1 : Hp} {μ μ1 : List Addr} {mem mem1 : Me} {H H1 : Hp} {N n} (h : RtOf K B μ mem H N n) (s : Stp B μ mem H B1 μ1 mem1 H1) (m1 : MemOk K B1 μ1 mem1 H1) (le : Le B H) : RtOf K B1 μ1 mem1 H1 N n :=
  fun B' μ' mem' H' x v s' m r q => h B' μ' mem' H' x v (s.trans m1 s' le) m r q
theorem EndsOf.step {K : Frag} {B B1 : Hp} {μ μ1 : List Addr} {mem mem1 : Me} {H H1 : Hp} {N : Dn} {D : Ends} (h : EndsOf K B μ mem H N D) (s : Stp B μ mem H B1 μ1 mem1 H1) (m1 : MemOk K B1 μ1 mem1 H1) (le : Le B H) : EndsOf K B1 μ1 mem1 H1 N D :=
  ⟨h.nx.step s m1 le, h.rt.step s m1 le, h.bk.step s m1 le, h.ct.step s m1 le⟩
def SS (X : Cx) (E : XK) (t : TS) (T : DTS) : Prop := ∀ B μ en m σ H (N : Dn) (D : Ends), Rel X.K B μ en m σ H → ExOf X.K E B μ m H N.xc → T en m N → EndsOf X.K B μ m H N D → t D σ H
structure DS (X : Cx) (E : XK) (st : Stmt) (T : DTS) : Prop where
  ex : ∃ t, PS X st t ∧ SS X E t T
structure DSs (X : Cx) (E : XK) (st : List Stmt) (T : DTS) : Prop where
  ex : ∃ t, PSs X st t ∧ SS X E t T
/-! ### names, constants -/
def En.get (en : En) (i : Nat) : Option W := (en[i]?).getD none
/-- a slot's value -/
def tV (i : Nat) : DTE := fun en m Q _ => match En.get en i with
  | some x => Q x m
  | none => False
def tK (d : D) : DTE := fun _ m Q _ => Q (.v d) m
section
variable {X : Cx} {E : XK}
theorem En.get_some {en : En} {i : Nat} {x : W} (h : En.get en i = some x) : en[i]? = some (some x) := by
  unfold En.get at h
  cases e : en[i]? with
  | none => rw [e] at h; cases h
  | some y =>
    rw [e] at h
    cases h
    rfl
theorem d_var {i : Nat} {x : Str} {pos : Pos} (hN : X.N[i]? = some x) (hv : Vis X.env.scope x) (hd : (x == ("__debug__" : Str)) = false := by decide) (hcd : (x == ("__classdict__" : Str)) = false := by decide) : DE X E (.Name x pos) (tV i) := by
  refine ⟨_, pe_var hN hv hd hcd, fun B μ en m σ H Q Qx QV R hx T k => ?_⟩
  unfold tV at T
  split at T
  · rename_i x e
    obtain ⟨v, hv, rv⟩ := R.env i x (En.get_some e)
    exact ⟨v, hv, k B μ m H x v .refl R rv T⟩
  · exact T.elim
theorem SE.const {v : V} {d : D} (h : ∀ B, Rv X.K B v d) : SE X E (tC v) (tK d) := fun B μ en m σ H Q Qx QV R hx T k => k B μ m H (.v d) v .refl R (h B) T
theorem d_int {i j pos} : DE X E (.Constant (.int i) j pos) (tK (.int i)) := ⟨_, pe_int, SE.const fun _ => .int i⟩
theorem d_bl {b j pos} : DE X E (.Constant (.bool b) j pos) (tK (.bl b)) := ⟨_, pe_bl, SE.const fun _ => .bl b⟩
theorem d_non {j pos} : DE X E (.Constant .none j pos) (tK .non) := ⟨_, pe_non, SE.const fun _ => .non⟩
theorem d_str {x j pos} (h : PySem.PyData.strOk x = true := by decide +kernel) : DE X E (.Constant (.str x) j pos) (tK (.str x)) := ⟨_, pe_str, SE.const fun _ => .str h⟩
/-- a module's constant -/
theorem d_glob {x : Str} {v : V} {d : D} {u : Value} {pos : Pos} (hm : X.mg x = some u) (r : RelV v u) (hr : ∀ B, Rv X.K B v d) (hg : Gl X x := by rfl) (hd : (x == ("__debug__" : Str)) = false := by decide) : DE X E (.Name x pos) (tK d) :=
  ⟨_, pe_glob hg hm r hd, SE.const hr⟩
/-- a built-in type -/
theorem d_ty {x : Str} {n : String} {pos : Pos} (hm : X.mg x = none) (hv : bootBuiltins x = some (.type n)) (hg : Gl X x := by rfl) (hn : x ≠ "__name__" := by decide) (hd : (x == ("__debug__" : Str)) = false := by decide) : DE X E (.Name x pos) (tK (.ty n)) :=
  ⟨_, pe_bltn (v := .ty n) hg hm hv rfl hn hd, SE.const fun _ => .ty n⟩
/-! ### argument lists -/
def tN : DTA := fun _ m Q _ => Q [] m
def tCn (te : DTE) (ta : DTA) : DTA := fun en m Q Qx => te en m (fun x m1 => ta en m1 (fun xs m2 => Q (x :: xs) m2) Qx) Qx
theorem da_nil : DA X E [] tN := ⟨_, pa_nil, fun B μ en m σ H Q Qx QV R hx T k => k B μ m H [] [] .refl R .nil T⟩
theorem da_cons {e : Expr} {es : List Expr} {te : DTE} {ta : DTA} (he : DE X E e te) (ha : DA X E es ta) (hs : starEach (e :: es) X.env = (false, eval e X.env) :: starEach es X.env := by rfl) : DA X E (e :: es) (tCn te ta) := by
  obtain ⟨t1, p1, k1⟩ := he.ex
  obtain ⟨t2, p2, k2⟩ := ha.ex
  refine ⟨_, pa_cons p1 p2 hs, fun B μ en m σ H Q Qx QV R hx T k => ?_⟩
  refine k1 B μ en m σ H _ Qx _ R hx T fun B1 μ1 m1 H1 x v s1 R1 r1 T1 => ?_
  refine k2 B1 μ1 en m1 σ H1 _ Qx _ R1 (hx.step s1 R1.mem R.mem.le) T1 fun B2 μ2 m2 H2 xs vs s2 R2 r2 T2 => ?_
  exact k B2 μ2 m2 H2 _ _ (s1.trans R1.mem s2 R.mem.le) R2 (.cons (r1.to s2.same s2.pre) r2) T2
/-! ### operations on data -/
/-- a two-place operation: what is asked, what comes -/
abbrev DOp := W → W → Me → (D → Prop) → Prop
def SO (X : Cx) (r : R2) (o : DOp) : Prop := ∀ B μ mem H x y v u (Q : D → Prop) (QV : VK), MemOk X.K B μ mem H → RW X.K B μ v x → RW X.K B μ u y → o x y mem Q →
  (∀ B' H' d z, Stp B μ mem H B' μ mem H' → MemOk X.K B' μ mem H' → Rv X.K B' z d → Q d → QV z H') → r v u H QV
/-- r keeps it: the result lies beside all -/
def OpD (X : Cx) (f : Value → Value → Sem Value) (o : DOp) : Prop := ∃ r : R2, OpR X f r ∧ SO X r o
def tO2 (o : DOp) (ta tb : DTE) : DTE := fun en m Q Qx => ta en m (fun x m1 => tb en m1 (fun y m2 => o x y m2 fun d => Q (.v d) m2) Qx) Qx
/-- behind a step that leaves the slots -/
theorem Rel.stp {K : Frag} {B B' : Hp} {μ μ' : List Addr} {en : En} {m m' : Me} {σ : L2.St} {H H' : Hp} (R : Rel K B μ en m σ H) (s : Stp B μ m H B' μ' m' H') (mo : MemOk K B' μ' m' H') : Rel K B' μ' en m' σ H' :=
  ⟨mo, R.len, fun i x e => let ⟨v, h, r⟩ := R.env i x e; ⟨v, h, r.to s.same s.pre⟩⟩
section
variable {a b : Expr} {ta tb : DTE} {o : DOp} {pos : Pos}
theorem SE.two {r : R2} {t1 t2 : TE} (ho : SO X r o) (k1 : SE X E t1 ta) (k2 : SE X E t2 tb) : SE X E (tOp r t1 t2) (tO2 o ta tb) := by
  intro B μ en m σ H Q Qx QV R hx T k
  refine k1 B μ en m σ H _ Qx _ R hx T fun B1 μ1 m1 H1 x v s1 R1 r1 T1 => ?_
  refine k2 B1 μ1 en m1 σ H1 _ Qx _ R1 (hx.step s1 R1.mem R.mem.le) T1 fun B2 μ2 m2 H2 y u s2 R2 r2 T2 => ?_
  refine ho B2 μ2 m2 H2 x y v u _ _ R2.mem (r1.to s2.same s2.pre) r2 T2 fun B3 H3 d z s3 m3 rz q => ?_
  exact k B3 μ2 m2 H3 (.v d) z ((s1.trans R1.mem s2 R.mem.le).trans R2.mem s3 R.mem.le) (R2.stp s3 m3) rz q
theorem d_op {op : Operator} (ho : OpD X (binaryOp op) o) (ha : DE X E a ta) (hb : DE X E b tb) : DE X E (.BinOp a op b pos) (tO2 o ta tb) := by
  obtain ⟨t1, p1, k1⟩ := ha.ex
  obtain ⟨t2, p2, k2⟩ := hb.ex
  obtain ⟨r, h1, h2⟩ := ho
  exact ⟨_, pe_op h1 p1 p2, SE.two h2 k1 k2⟩
theorem d_cmp {op : CmpOp} (ho : OpD X (compareOp op) o) (ha : DE X E a ta) (hb : DE X E b tb) (hm : behindInMarks op b = false) : DE X E (.Compare a [op] [b] pos) (tO2 o ta tb) := by
  obtain ⟨t1, p1, k1⟩ := ha.ex
  obtain ⟨t2, p2, k2⟩ := hb.ex
  obtain ⟨r, h1, h2⟩ := ho
  exact ⟨_, pe_cmpR h1 p1 p2 hm, SE.two h2 k1 k2⟩
/-- a datum that is a truth value -/
def bD : W → (Bool → Prop) → Prop
  | .v (.bl b), Q => Q b
  | _, _ => False
theorem bD_ok {K : Frag} {B : Hp} {μ : List Addr} {v : V} : ∀ {x : W} {Q : Bool → Prop}, RW K B μ v x → bD x Q → ∃ b, x = .v (.bl b) ∧ v = .bl b ∧ Q b
  | .v (.bl b), _, r, q => by cases r; exact ⟨b, rfl, rfl, q⟩
  | .v .non, _, _, q => q.elim
  | .v (.int _), _, _, q => q.elim
  | .v (.str _), _, _, q => q.elim
  | .v (.ty _), _, _, q => q.elim
  | .v (.fn _), _, _, q => q.elim
  | .v (.tup _), _, _, q => q.elim
  | .v (.lst _), _, _, q => q.elim
  | .v (.dic _), _, _, q => q.elim
  | .v (.obj _ _), _, _, q => q.elim
  | .v (.exc _ _), _, _, q => q.elim
  | .loc _, _, _, q => q.elim
/-- a test by its value -/
def tBl (te : DTE) : DTT := fun en m Q Qx => te en m (fun x m1 => bD x fun b => Q b m1) Qx
theorem SE.test {t : TE} (h : SE X E t ta) : ST X E (tTest t) (tBl ta) := by
  intro B μ en m σ H Q Qx QV R hx T k
  refine h B μ en m σ H _ Qx _ R hx T fun B' μ' m' H' x v s R' r' q => ?_
  obtain ⟨b, rfl, rfl, q⟩ := bD_ok r' q
  exact ⟨b, rfl, k B' μ' m' H' b s R' q⟩
theorem dt_cmp {op : CmpOp} (ho : OpD X (compareOp op) o) (ha : DE X E a ta) (hb : DE X E b tb) (hm : behindInMarks op b = false) : DT X E (.Compare a [op] [b] pos) (tBl (tO2 o ta tb)) := by
  obtain ⟨t1, p1, k1⟩ := ha.ex
  obtain ⟨t2, p2, k2⟩ := hb.ex
  obtain ⟨r, h1, h2⟩ := ho
  exact ⟨_, pt_cmpR h1 p1 p2 hm, (SE.two h2 k1 k2).test⟩
theorem dt_val {e : Expr} {t : DTE} (h : DE X E e t) (he : ∀ whole, isTrue e X.env whole = (do let v ← whole; standAt e.pos; holding [v] (truthy v)) := by intro _; rfl) : DT X E e (tBl t) := by
  obtain ⟨t1, p1, k1⟩ := h.ex
  exact ⟨_, pt_val p1 he, k1.test⟩
/-- a op b op2 c -/
def tCh (o o2 : DOp) (ta tb tc : DTE) : DTE := fun en m Q Qx => ta en m (fun x m1 => tb en m1 (fun y m2 => o x y m2 fun d => bD (.v d) fun c => if c = true then tc en m2 (fun z m3 => o2 y z m3 fun d2 => Q (.v d2) m3) Qx else Q (.v (.bl false)) m2) Qx) Qx
theorem SE.chain {c : Expr} {tc : DTE} {o2 : DOp} {r r' : R2} {t1 t2 t3 : TE} (ho : SO X r o) (ho2 : SO X r' o2) (k1 : SE X E t1 ta) (k2 : SE X E t2 tb) (k3 : SE X E t3 tc) : SE X E (tChain r r' t1 t2 t3) (tCh o o2 ta tb tc) := by
  intro B μ en m σ H Q Qx QV R hx T k
  refine k1 B μ en m σ H _ Qx _ R hx T fun B1 μ1 m1 H1 x v s1 R1 r1 T1 => ?_
  refine k2 B1 μ1 en m1 σ H1 _ Qx _ R1 (hx.step s1 R1.mem R.mem.le) T1 fun B2 μ2 m2 H2 y u s2 R2 r2 T2 => ?_
  have s12 := s1.trans R1.mem s2 R.mem.le
  refine ho B2 μ2 m2 H2 x y v u _ _ R2.mem (r1.to s2.same s2.pre) r2 T2 fun B3 H3 d z s3 m3 rz q => ?_
  have s13 := s12.trans R2.mem s3 R.mem.le
  obtain ⟨b, hb, rfl, q⟩ := bD_ok (μ := μ2) (x := .v d) rz q
  refine ⟨b, rfl, ?_⟩
  have R3 := R2.stp s3 m3
  cases b with
  | false => exact iteF (k B3 μ2 m2 H3 (.v (.bl false)) _ s13 R3 (.bl false) q)
  | true =>
    refine iteT (k3 B3 μ2 en m2 σ H3 _ Qx _ R3 (hx.step s13 m3 R.mem.le) q fun B4 μ4 m4 H4 y2 u2 s4 R4 r4 T4 => ?_)
    refine ho2 B4 μ4 m4 H4 y y2 u u2 _ _ R4.mem ((r2.to s3.same s3.pre).to s4.same s4.pre) r4 T4 fun B5 H5 d z s5 m5 rz q => ?_
    exact k B5 μ4 m4 H5 (.v d) z ((s13.trans R3.mem s4 R.mem.le).trans R4.mem s5 R.mem.le) (R4.stp s5 m5) rz q
theorem d_chain {c : Expr} {tc : DTE} {o2 : DOp} {op op' : CmpOp} (ho : OpD X (compareOp op) o) (ho2 : OpD X (compareOp op') o2) (ha : DE X E a ta) (hb : DE X E b tb) (hc : DE X E c tc)
    (hm : lastMarks [op, op'] [b, c] = false := by with_unfolding_all rfl) : DE X E (.Compare a [op, op'] [b, c] pos) (tCh o o2 ta tb tc) := by
  obtain ⟨t1, p1, k1⟩ := ha.ex
  obtain ⟨t2, p2, k2⟩ := hb.ex
  obtain ⟨t3, p3, k3⟩ := hc.ex
  obtain ⟨r, h1, h2⟩ := ho
  obtain ⟨r', h3, h4⟩ := ho2
  exact ⟨_, pe_chain h1 h3 p1 p2 p3 hm, SE.chain (c := c) h2 h4 k1 k2 k3⟩
theorem dt_chain {c : Expr} {tc : DTE} {o2 : DOp} {op op' : CmpOp} (ho : OpD X (compareOp op) o) (ho2 : OpD X (compareOp op') o2) (ha : DE X E a ta) (hb : DE X E b tb) (hc : DE X E c tc)
    (hm : lastMarks [op, op'] [b, c] = false := by with_unfolding_all rfl) : DT X E (.Compare a [op, op'] [b, c] pos) (tBl (tCh o o2 ta tb tc)) := by
  obtain ⟨t1, p1, k1⟩ := ha.ex
  obtain ⟨t2, p2, k2⟩ := hb.ex
  obtain ⟨t3, p3, k3⟩ := hc.ex
  obtain ⟨r, h1, h2⟩ := ho
  obtain ⟨r', h3, h4⟩ := ho2
  exact ⟨_, pt_chain h1 h3 p1 p2 p3 hm, (SE.chain (c := c) h2 h4 k1 k2 k3).test⟩
end
/-! ### and, or, not, if -/
def tAndT (t u : DTT) : DTT := fun en m Q Qx => t en m (fun c m1 => if c = true then u en m1 Q Qx else Q false m1) Qx
def tOrT (t u : DTT) : DTT := fun en m Q Qx => t en m (fun c m1 => if c = true then Q true m1 else u en m1 Q Qx) Qx
def tNotT (t : DTT) : DTT := fun en m Q Qx => t en m (fun c m1 => Q (!c) m1) Qx
section
variable {a b c : Expr} {rest : List Expr} {tA tB' : DTT} {pos : Pos}
theorem DW.dt (h : DW X E a tA) : DT X E a tA := by
  obtain ⟨t, p, k⟩ := h.ex
  exact ⟨t, p.pt, k⟩
theorem dw_and1 (ha : DT X E a tA) : DW X E (.BoolOp .And [a] pos) tA := by
  obtain ⟨t, p, k⟩ := ha.ex
  exact ⟨_, pw_and1 p, k⟩
theorem dw_or1 (ha : DT X E a tA) : DW X E (.BoolOp .Or [a] pos) tA := by
  obtain ⟨t, p, k⟩ := ha.ex
  exact ⟨_, pw_or1 p, k⟩
theorem dw_and (ha : DT X E a tA) (hb : DW X E (.BoolOp .And (b :: rest) pos) tB') : DW X E (.BoolOp .And (a :: b :: rest) pos) (tAndT tA tB') := by
  obtain ⟨t1, p1, k1⟩ := ha.ex
  obtain ⟨t2, p2, k2⟩ := hb.ex
  refine ⟨_, pw_and p1 p2, fun B μ en m σ H Q Qx QV R hx T k => ?_⟩
  refine k1 B μ en m σ H _ Qx _ R hx T fun B1 μ1 m1 H1 b s1 R1 q => ?_
  cases b with
  | true => exact iteT (k2 B1 μ1 en m1 σ H1 _ Qx _ R1 (hx.step s1 R1.mem R.mem.le) q fun B2 μ2 m2 H2 b s2 R2 q => k B2 μ2 m2 H2 b (s1.trans R1.mem s2 R.mem.le) R2 q)
  | false => exact iteF (k B1 μ1 m1 H1 false s1 R1 q)
theorem dw_or (ha : DT X E a tA) (hb : DW X E (.BoolOp .Or (b :: rest) pos) tB') : DW X E (.BoolOp .Or (a :: b :: rest) pos) (tOrT tA tB') := by
  obtain ⟨t1, p1, k1⟩ := ha.ex
  obtain ⟨t2, p2, k2⟩ := hb.ex
  refine ⟨_, pw_or p1 p2, fun B μ en m σ H Q Qx QV R hx T k => ?_⟩
  refine k1 B μ en m σ H _ Qx _ R hx T fun B1 μ1 m1 H1 b s1 R1 q => ?_
  cases b with
  | false => exact iteF (k2 B1 μ1 en m1 σ H1 _ Qx _ R1 (hx.step s1 R1.mem R.mem.le) q fun B2 μ2 m2 H2 b s2 R2 q => k B2 μ2 m2 H2 b (s1.trans R1.mem s2 R.mem.le) R2 q)
  | true => exact iteT (k B1 μ1 m1 H1 true s1 R1 q)
theorem dt_not (ha : DT X E a tA) : DT X E (.UnaryOp .Not a pos) (tNotT tA) := by
  obtain ⟨t1, p1, k1⟩ := ha.ex
  exact ⟨_, pt_not p1, fun B μ en m σ H Q Qx QV R hx T k => k1 B μ en m σ H _ Qx _ R hx T fun B1 μ1 m1 H1 b s1 R1 q => k B1 μ1 m1 H1 _ s1 R1 q⟩
def tIfE (t : DTT) (ta tb : DTE) : DTE := fun en m Q Qx => t en m (fun c m1 => if c = true then ta en m1 Q Qx else tb en m1 Q Qx) Qx
/-- going on behind a step -/
theorem SE.on {t : TE} {T : DTE} (h : SE X E t T) {B B1 : Hp} {μ μ1 : List Addr} {en : En} {m m1 : Me} {σ : L2.St} {H H1 : Hp} {Q : W → Me → Prop} {Qx : QX} {QV : VK} (R : Rel X.K B μ en m σ H) (hx : ExOf X.K E B μ m H Qx) (k : ∀ B' μ' m' H' x v, Stp B μ m H B' μ' m' H' → Rel X.K B' μ' en m' σ H' → RW X.K B' μ' v x → Q x m' → QV v H')
    (s1 : Stp B μ m H B1 μ1 m1 H1) (R1 : Rel X.K B1 μ1 en m1 σ H1) (q : T en m1 Q Qx) : t σ H1 QV :=
  h B1 μ1 en m1 σ H1 _ Qx _ R1 (hx.step s1 R1.mem R.mem.le) q fun B2 μ2 m2 H2 x v s2 R2 r q => k B2 μ2 m2 H2 x v (s1.trans R1.mem s2 R.mem.le) R2 r q
theorem d_if {ta tb : DTE} (hc : DT X E c tA) (ha : DE X E a ta) (hb : DE X E b tb) : DE X E (.IfExp c a b pos) (tIfE tA ta tb) := by
  obtain ⟨t0, p0, k0⟩ := hc.ex
  obtain ⟨t1, p1, k1⟩ := ha.ex
  obtain ⟨t2, p2, k2⟩ := hb.ex
  refine ⟨_, pe_ifExp p0 p1 p2, fun B μ en m σ H Q Qx QV R hx T k => ?_⟩
  refine k0 B μ en m σ H _ Qx _ R hx T fun B1 μ1 m1 H1 b s1 R1 q => ?_
  cases b with
  | true => exact iteT (k1.on R hx k s1 R1 q)
  | false => exact iteF (k2.on R hx k s1 R1 q)
/-- and, or of truth values, as a value -/
def tAndE (ta tb : DTE) : DTE := fun en m Q Qx => ta en m (fun x m1 => bD x fun c => if c = true then tb en m1 Q Qx else Q (.v (.bl false)) m1) Qx
def tOrE (ta tb : DTE) : DTE := fun en m Q Qx => ta en m (fun x m1 => bD x fun c => if c = true then Q (.v (.bl true)) m1 else tb en m1 Q Qx) Qx
def tNotE (ta : DTE) : DTE := fun en m Q Qx => ta en m (fun x m1 => bD x fun c => Q (.v (.bl (!c))) m1) Qx
theorem d_one {op} {t : DTE} (h : DE X E a t) : DE X E (.BoolOp op [a] pos) t := by
  obtain ⟨t1, p1, k1⟩ := h.ex
  exact ⟨_, pe_one p1, k1⟩
theorem d_and {ta tb : DTE} (ha : DE X E a ta) (hb : DE X E (.BoolOp .And (b :: rest) pos) tb) : DE X E (.BoolOp .And (a :: b :: rest) pos) (tAndE ta tb) := by
  obtain ⟨t1, p1, k1⟩ := ha.ex
  obtain ⟨t2, p2, k2⟩ := hb.ex
  refine ⟨_, pe_and p1 p2, fun B μ en m σ H Q Qx QV R hx T k => ?_⟩
  refine k1 B μ en m σ H _ Qx _ R hx T fun B1 μ1 m1 H1 x v s1 R1 r1 q => ?_
  obtain ⟨c, rfl, rfl, q⟩ := bD_ok r1 q
  refine ⟨c, rfl, ?_⟩
  cases c with
  | true => exact iteT (k2.on R hx k s1 R1 q)
  | false => exact iteF (k B1 μ1 m1 H1 _ _ s1 R1 r1 q)
theorem d_or {ta tb : DTE} (ha : DE X E a ta) (hb : DE X E (.BoolOp .Or (b :: rest) pos) tb) : DE X E (.BoolOp .Or (a :: b :: rest) pos) (tOrE ta tb) := by
  obtain ⟨t1, p1, k1⟩ := ha.ex
  obtain ⟨t2, p2, k2⟩ := hb.ex
  refine ⟨_, pe_or p1 p2, fun B μ en m σ H Q Qx QV R hx T k => ?_⟩
  refine k1 B μ en m σ H _ Qx _ R hx T fun B1 μ1 m1 H1 x v s1 R1 r1 q => ?_
  obtain ⟨c, rfl, rfl, q⟩ := bD_ok r1 q
  refine ⟨c, rfl, ?_⟩
  cases c with
  | true => exact iteT (k B1 μ1 m1 H1 _ _ s1 R1 r1 q)
  | false => exact iteF (k2.on R hx k s1 R1 q)
theorem d_not {ta : DTE} (ha : DE X E a ta) : DE X E (.UnaryOp .Not a pos) (tNotE ta) := by
  obtain ⟨t1, p1, k1⟩ := ha.ex
  refine ⟨_, pe_not p1, fun B μ en m σ H Q Qx QV R hx T k => ?_⟩
  refine k1 B μ en m σ H _ Qx _ R hx T fun B1 μ1 m1 H1 x v s1 R1 r1 q => ?_
  obtain ⟨c, rfl, rfl, q⟩ := bD_ok r1 q
  exact ⟨c, rfl, k B1 μ1 m1 H1 (.v (.bl !c)) _ s1 R1 (.bl _) q⟩
end
/-! ### statements -/
def sNx : DTS := fun en m N => N.nx en m
def sSeq (t u : DTS) : DTS := fun en m N => t en m { N with nx := fun en1 m1 => u en1 m1 N }
theorem dss_nil : DSs X E [] sNx := ⟨_, pss_nil, fun B μ en m σ H N D R hx T e => e.nx B μ en m σ H .refl R T⟩
theorem dss_one {st : Stmt} {t : DTS} (h : DS X E st t) : DSs X E [st] t := by
  obtain ⟨t1, p1, k1⟩ := h.ex
  exact ⟨_, pss_one p1, k1⟩
theorem SS.seq {t u : TS} {T U : DTS} (k1 : SS X E t T) (k2 : SS X E u U) : SS X E (tSeq t u) (sSeq T U) := by
  intro B μ en m σ H N D R hx T e
  refine k1 B μ en m σ H { N with nx := fun en1 m1 => U en1 m1 N } _ R hx T ⟨fun B1 μ1 en1 m1 σ1 H1 s1 R1 q => ?_, e.rt, e.bk, e.ct⟩
  exact k2 B1 μ1 en1 m1 σ1 H1 N D R1 (hx.step s1 R1.mem R.mem.le) q (e.step s1 R1.mem R.mem.le)
theorem dss_cons {st : Stmt} {rest : List Stmt} {t u : DTS} (h : DS X E st t) (h2 : DSs X E rest u) : DSs X E (st :: rest) (sSeq t u) := by
  obtain ⟨t1, p1, k1⟩ := h.ex
  obtain ⟨t2, p2, k2⟩ := h2.ex
  exact ⟨_, pss_cons p1 p2, k1.seq k2⟩
section
variable {pos : Pos} {e : Expr} {te : DTE}
theorem ds_pass : DS X E (.Pass pos) sNx := ⟨_, ps_pass, fun B μ en m σ H N D R hx T e => e.nx B μ en m σ H .refl R T⟩
def sBk : DTS := fun en m N => N.bk en m
def sCt : DTS := fun en m N => N.ct en m
theorem ds_break : DS X E (.Break pos) sBk := ⟨_, ps_break, fun B μ en m σ H N D R hx T e => e.bk B μ en m σ H .refl R T⟩
theorem ds_continue : DS X E (.Continue pos) sCt := ⟨_, ps_continue, fun B μ en m σ H N D R hx T e => e.ct B μ en m σ H .refl R T⟩
theorem ds_doc {x j pos pos'} : DS X E (.Expr (.Constant (.str x) j pos) pos') sNx := ⟨_, ps_doc, fun B μ en m σ H N D R hx T e => e.nx B μ en m σ H .refl R T⟩
def sExpr (te : DTE) : DTS := fun en m N => te en m (fun _ m1 => N.nx en m1) N.xc
theorem ds_expr (he : DE X E e te) (hs : swapsWith e none pos.line X.env = pure false := by rfl) : DS X E (.Expr e pos) (sExpr te) := by
  obtain ⟨t1, p1, k1⟩ := he.ex
  exact ⟨_, ps_expr p1 hs, fun B μ en m σ H N D R hx T e => k1 B μ en m σ H _ _ _ R hx T fun B1 μ1 m1 H1 x v s1 R1 r q => e.nx B1 μ1 en m1 σ H1 s1 R1 q⟩
def sRet (te : DTE) : DTS := fun en m N => te en m (fun x m1 => N.rt x m1) N.xc
theorem ds_ret (he : DE X E e te) : DS X E (.Return (some e) pos) (sRet te) := by
  obtain ⟨t1, p1, k1⟩ := he.ex
  exact ⟨_, ps_ret p1, fun B μ en m σ H N D R hx T e => k1 B μ en m σ H _ _ _ R hx T fun B1 μ1 m1 H1 x v s1 R1 r q => e.rt B1 μ1 m1 H1 x v s1 R1.mem r q⟩
def sRetN : DTS := fun _ m N => N.rt (.v .non) m
theorem ds_retN : DS X E (.Return none pos) sRetN := ⟨_, ps_retN, fun B μ en m σ H N D R hx T e => e.rt B μ m H (.v .non) _ .refl R.mem (RW.d .non) T⟩
def sIf (c : DTT) (t u : DTS) : DTS := fun en m N => c en m (fun b m1 => if b = true then t en m1 N else u en m1 N) N.xc
theorem SS.on {t : TS} {T : DTS} (h : SS X E t T) {B B1 : Hp} {μ μ1 : List Addr} {en en1 : En} {m m1 : Me} {σ σ1 : L2.St} {H H1 : Hp} {N : Dn} {D : Ends} (R : Rel X.K B μ en m σ H) (hx : ExOf X.K E B μ m H N.xc) (e : EndsOf X.K B μ m H N D)
    (s1 : Stp B μ m H B1 μ1 m1 H1) (R1 : Rel X.K B1 μ1 en1 m1 σ1 H1) (q : T en1 m1 N) : t D σ1 H1 := h B1 μ1 en1 m1 σ1 H1 N D R1 (hx.step s1 R1.mem R.mem.le) q (e.step s1 R1.mem R.mem.le)
theorem ds_if {c : Expr} {a b : List Stmt} {tc : DTT} {t u : DTS} (hc : DT X E c tc) (ha : DSs X E a t) (hb : DSs X E b u) : DS X E (.If c a b pos) (sIf tc t u) := by
  obtain ⟨t0, p0, k0⟩ := hc.ex
  obtain ⟨t1, p1, k1⟩ := ha.ex
  obtain ⟨t2, p2, k2⟩ := hb.ex
  refine ⟨_, ps_if p0 p1 p2, fun B μ en m σ H N D R hx T e => ?_⟩
  refine k0 B μ en m σ H _ _ _ R hx T fun B1 μ1 m1 H1 b s1 R1 q => ?_
  cases b with
  | true => exact iteT (k1.on R hx e s1 R1 q)
  | false => exact iteF (k2.on R hx e s1 R1 q)
def sNever : DTS := fun _ _ _ => False
theorem ds_never {st : Stmt} : DS X E st sNever := ⟨_, ps_never, fun B μ en m σ H N D R hx T e => T⟩
theorem dss_never {st : List Stmt} : DSs X E st sNever := ⟨_, pss_never, fun B μ en m σ H N D R hx T e => T⟩
/-! ### names stored -/
def sSet (i : Nat) (te : DTE) : DTS := fun en m N => te en m (fun x m1 => N.nx (List.set en i (some x)) m1) N.xc
theorem Rel.set {K : Frag} {B : Hp} {μ : List Addr} {en : En} {m : Me} {σ : L2.St} {H : Hp} {i : Nat} {x : W} {v : V} (R : Rel K B μ en m σ H) (r : RW K B μ v x) : Rel K B μ (List.set en i (some x)) m (σ.set i (some v)) H := by
  refine ⟨R.mem, by simp [R.len], fun j y e => ?_⟩
  by_cases c : j = i
  · subst c
    have l : j < en.length := by
      have z := (List.getElem?_eq_some_iff.mp e).1
      simpa using z
    rw [List.getElem?_set_self l] at e
    cases e
    exact ⟨v, List.getElem?_set_self (by rw [R.len]; exact l), r⟩
  · rw [List.getElem?_set_ne (fun z => c z.symm)] at e
    obtain ⟨u, h1, h2⟩ := R.env j y e
    exact ⟨u, by rw [List.getElem?_set_ne (fun z => c z.symm)]; exact h1, h2⟩
theorem ds_set {i : Nat} {x : Str} {pos' : Pos} (hN : X.N.Nodup) (hi : X.N[i]? = some x) (hx : Loc X.env.scope x) (he : DE X E e te) (hs : swapsWith e (some (.Name x pos')) pos.line X.env = pure false := by rfl) (hf : X.fn x = true ∨ X.env.scope.names.lookup x = some .local := by first | exact .inl rfl | exact .inr rfl | assumption) : DS X E (.Assign [.Name x pos'] e pos) (sSet i te) := by
  obtain ⟨t1, p1, k1⟩ := he.ex
  exact ⟨_, ps_set hN hi hx p1 hs hf, fun B μ en m σ H N D R hx T e => k1 B μ en m σ H _ _ _ R hx T fun B1 μ1 m1 H1 x v s1 R1 r q => e.nx B1 μ1 _ m1 _ H1 s1 (R1.set r) q⟩
end
end
end Fs
set_option Elab.async false
set_option linter.all false
set_option maxRecDepth 100000
set_option maxHeartbeats 8000000
namespace Fs
open PySem PySem.Spec PyProof.Rows L2
section
variable {X : Cx} {E : XK}
/-- the canonical reading of T -/
def lE (K : Frag) (E : XK) (T : DTE) : TE := fun σ H QV => ∃ B μ en m Q Qx, Rel K B μ en m σ H ∧ ExOf K E B μ m H Qx ∧ T en m Q Qx ∧
  (∀ B' μ' m' H' x v, Stp B μ m H B' μ' m' H' → Rel K B' μ' en m' σ H' → RW K B' μ' v x → Q x m' → QV v H')
theorem SE.lE {T : DTE} : SE X E (lE X.K E T) T := fun B μ en m σ H Q Qx _ R hx q k => ⟨B, μ, en, m, Q, Qx, R, hx, q, k⟩
theorem DE.pe {e : Expr} {T : DTE} (h : DE X E e T) : PE X e (Fs.lE X.K E T) := by
  obtain ⟨t, p, k⟩ := h.ex
  exact pe_of p fun σ H Q ⟨B, μ, en, m, Q', Qx, R, hx, q, z⟩ => k B μ en m σ H Q' Qx Q R hx q z
def lT (K : Frag) (E : XK) (T : DTT) : TT := fun σ H QV => ∃ B μ en m Q Qx, Rel K B μ en m σ H ∧ ExOf K E B μ m H Qx ∧ T en m Q Qx ∧
  (∀ B' μ' m' H' b, Stp B μ m H B' μ' m' H' → Rel K B' μ' en m' σ H' → Q b m' → QV b H')
theorem DT.pt {e : Expr} {T : DTT} (h : DT X E e T) : PT X e (lT X.K E T) := by
  obtain ⟨t, p, k⟩ := h.ex
  exact ⟨fun pins s σ H Q I ⟨B, μ, en, m, Q', Qx, R, hx, q, z⟩ => p.run pins s σ H Q I (k B μ en m σ H Q' Qx Q R hx q z)⟩
theorem ST.lT {T : DTT} : ST X E (lT X.K E T) T := fun B μ en m σ H Q Qx _ R hx q k => ⟨B, μ, en, m, Q, Qx, R, hx, q, k⟩
def lS (K : Frag) (E : XK) (T : DTS) : TS := fun D σ H => ∃ B μ en m N, Rel K B μ en m σ H ∧ ExOf K E B μ m H N.xc ∧ T en m N ∧ EndsOf K B μ m H N D
theorem DSs.pss {e : List Stmt} {T : DTS} (h : DSs X E e T) : PSs X e (lS X.K E T) := by
  obtain ⟨t, p, k⟩ := h.ex
  exact ⟨fun pins s σ H D I ⟨B, μ, en, m, N, R, hx, q, z⟩ => p.run pins s σ H D I (k B μ en m σ H N D R hx q z)⟩
theorem SS.lS {T : DTS} : SS X E (lS X.K E T) T := fun B μ en m σ H N D R hx q k => ⟨B, μ, en, m, N, R, hx, q, k⟩
theorem PE.or {e : Expr} {t u : TE} (h : PE X e t) (k : PE X e u) : PE X e (fun σ H Q => t σ H Q ∨ u σ H Q) :=
  ⟨fun pins s σ H Q I q => q.elim (h.run pins s σ H Q I) (k.run pins s σ H Q I)⟩
theorem PI.or {tg e : Expr} {t u : TI} (h : PI X tg e t) (k : PI X tg e u) : PI X tg e (fun σ H Q => t σ H Q ∨ u σ H Q) :=
  ⟨fun pins s σ H Q I q => q.elim (h.run pins s σ H Q I) (k.run pins s σ H Q I)⟩
/-! ### targets -/
abbrev DTG := W → En → Me → (En → Me → Prop) → Prop
abbrev DTGs := List W → En → Me → (En → Me → Prop) → Prop
/-- slots of is stored -/
inductive Sts (is : List Nat) : L2.St → L2.St → Prop
  | refl (σ : L2.St) : Sts is σ σ
  | set {σ σ' : L2.St} {i : Nat} {v : V} : i ∈ is → Sts is (σ.set i (some v)) σ' → Sts is σ σ'
theorem Sts.trans {is : List Nat} {a b c : L2.St} (h : Sts is a b) (k : Sts is b c) : Sts is a c := by
  induction h with
  | refl => exact k
  | set hi _ ih => exact .set hi (ih k)
theorem Sts.mono {is js : List Nat} {a b : L2.St} (h : Sts is a b) (k : ∀ i ∈ is, i ∈ js) : Sts js a b := by
  induction h with
  | refl => exact .refl _
  | set hi _ ih => exact .set (k _ hi) ih
structure DG (X : Cx) (tg : Expr) (is : List Nat) (T : DTG) : Prop where
  ex : ∃ t, PG X tg t ∧ ∀ B μ en m σ H x v (Q : En → Me → Prop) (QV : L2.St → Hp → Prop), Rel X.K B μ en m σ H → RW X.K B μ v x → T x en m Q →
    (∀ B' μ' en' m' σ' H', Stp B μ m H B' μ' m' H' → Rel X.K B' μ' en' m' σ' H' → Sts is σ σ' → Q en' m' → QV σ' H') → t v σ H QV
structure DGs (X : Cx) (tg : List Expr) (is : List Nat) (T : DTGs) : Prop where
  ex : ∃ t, PGs X tg t ∧ ∀ B μ en m σ H x v (Q : En → Me → Prop) (QV : L2.St → Hp → Prop), Rel X.K B μ en m σ H → RWs X.K B μ v x → T x en m Q →
    (∀ B' μ' en' m' σ' H', Stp B μ m H B' μ' m' H' → Rel X.K B' μ' en' m' σ' H' → Sts is σ σ' → Q en' m' → QV σ' H') → t v σ H QV
def lG (K : Frag) (is : List Nat) (T : DTG) : TG := fun v σ H QV => ∃ B μ en m x Q, Rel K B μ en m σ H ∧ RW K B μ v x ∧ T x en m Q ∧ (∀ B' μ' en' m' σ' H', Stp B μ m H B' μ' m' H' → Rel K B' μ' en' m' σ' H' → Sts is σ σ' → Q en' m' → QV σ' H')
theorem DG.pg {tg : Expr} {is : List Nat} {T : DTG} (h : DG X tg is T) : PG X tg (lG X.K is T) := by
  obtain ⟨t, p, k⟩ := h.ex
  exact ⟨fun pins s σ H v u Q I r ⟨B, μ, en, m, x, Q', R, rw, q, z⟩ => p.run pins s σ H v u Q I r (k B μ en m σ H x v Q' Q R rw q z)⟩
def gN (i : Nat) : DTG := fun x en m Q => Q (List.set en i (some x)) m
theorem dg_name {i : Nat} {x : Str} {pos : Pos} (hN : X.N.Nodup) (hi : X.N[i]? = some x) (hx : Loc X.env.scope x) (hf : X.fn x = true ∨ X.env.scope.names.lookup x = some .local := by first | exact .inl rfl | exact .inr rfl | assumption) : DG X (.Name x pos) [i] (gN i) :=
  ⟨_, pg_name hN hi hx hf, fun B μ en m σ H x v Q QV R r T k => k B μ _ m _ H .refl (R.set r) (.set List.mem_cons_self (.refl _)) T⟩
def gNl : DTGs := fun xs en m Q => match xs with
  | [] => Q en m
  | _ => False
def gCn (t : DTG) (u : DTGs) : DTGs := fun xs en m Q => match xs with
  | x :: r => t x en m fun en1 m1 => u r en1 m1 Q
  | _ => False
theorem dgs_nil : DGs X [] [] gNl := by
  refine ⟨_, pgs_nil, fun B μ en m σ H xs v Q QV R r T k => ?_⟩
  cases r with
  | nil => exact ⟨rfl, k B μ en m σ H .refl R (.refl _) T⟩
  | cons a b => exact T.elim
theorem dgs_cons {e : Expr} {es : List Expr} {is js : List Nat} {t : DTG} {u : DTGs} (h1 : DG X e is t) (h2 : DGs X es js u) (hs : (assignEach (e :: es) X.env).map (·.2) = assign e X.env :: (assignEach es X.env).map (·.2) := by rfl) : DGs X (e :: es) (is ++ js) (gCn t u) := by
  obtain ⟨t1, p1, k1⟩ := h1.ex
  obtain ⟨t2, p2, k2⟩ := h2.ex
  refine ⟨_, pgs_cons p1 p2 hs, fun B μ en m σ H xs v Q QV R r T k => ?_⟩
  cases r with
  | nil => exact T.elim
  | cons a b =>
    refine ⟨_, _, rfl, k1 B μ en m σ H _ _ _ _ R a T fun B1 μ1 en1 m1 σ1 H1 s1 R1 z1 q => ?_⟩
    refine k2 B1 μ1 en1 m1 σ1 H1 _ _ _ _ R1 (b.to s1.same s1.pre) q fun B2 μ2 en2 m2 σ2 H2 s2 R2 z2 q2 => ?_
    exact k B2 μ2 en2 m2 σ2 H2 (s1.trans R1.mem s2 R.mem.le) R2 ((z1.mono fun i h => List.mem_append_left _ h).trans (z2.mono fun i h => List.mem_append_right _ h)) q2
/-- (a, b, ..) = a tuple -/
def gTp (n : Nat) (t : DTGs) : DTG := fun x en m Q => match x with
  | .v (.tup ds) => ds.length = n ∧ t (ds.map .v) en m Q
  | _ => False
theorem RvL.ws {K : Frag} {B : Hp} {μ : List Addr} : ∀ {vs : List V} {ds : List D}, RvL K B vs ds → RWs K B μ vs (ds.map .v)
  | _, _, .nil => .nil
  | _, _, .cons h t => .cons (RW.d h) (RvL.ws t)
theorem dg_tup {es : List Expr} {k : Nat} {t : DTGs} {n : Nat} {is : List Nat} {pos : Pos} (hc : X.calm = true) (h : DGs X es is t) (hn : (assignEach es X.env).length = n := by rfl) (hst : (assignEach es X.env).findIdx? (·.1) = none := by rfl) : DG X (.Tuple es k pos) is (gTp n t) := by
  obtain ⟨t1, p1, k1⟩ := h.ex
  refine ⟨_, pg_tup hc p1 hn hst, fun B μ en m σ H x v Q QV R r T k => ?_⟩
  unfold gTp at T
  split at T
  · rename_i ds
    obtain ⟨hl, T⟩ := T
    cases r with
    | tup hs hr => exact ⟨_, _, rfl, R.mem.le.tup hs, by rw [hr.len]; exact hl, k1 B μ en m σ H _ _ _ _ R hr.ws T k⟩
  · exact T.elim
/-- target = e -/
def sAsg (te : DTE) (g : DTG) : DTS := fun en m N => te en m (fun x m1 => g x en m1 N.nx) N.xc
theorem ds_asg {tg e : Expr} {te : DTE} {g : DTG} {is : List Nat} {pos : Pos} (he : DE X E e te) (hg : DG X tg is g) (hs : swapsWithSole [tg] e pos.line X.env = pure false := by rfl) (hw : swappedStores [tg] e X.env = pure none := by rfl)
    (h1 : (assignEach [tg] X.env).map (·.2) = [assign tg X.env] := by rfl) : DS X E (.Assign [tg] e pos) (sAsg te g) := by
  obtain ⟨t1, p1, k1⟩ := he.ex
  obtain ⟨t2, p2, k2⟩ := hg.ex
  refine ⟨_, ps_asg p1 p2 hs hw h1, fun B μ en m σ H N D R hx T e => ?_⟩
  refine k1 B μ en m σ H _ _ _ R hx T fun B1 μ1 m1 H1 x v s1 R1 r q => ?_
  refine k2 B1 μ1 en m1 σ H1 x v _ _ R1 r q fun B2 μ2 en2 m2 σ2 H2 s2 R2 _ q2 => ?_
  exact e.nx B2 μ2 en2 m2 σ2 H2 (s1.trans R1.mem s2 R.mem.le) R2 q2
/-- a, b = x, y -/
def sPar (i j : Nat) (ta : DTA) : DTS := fun en m N => ta en m (fun xs m1 => match xs with
  | [x, y] => N.nx (List.set (List.set en i (some x)) j (some y)) m1
  | _ => False) N.xc
theorem ds_par {i j : Nat} {x y : Str} {a b : Expr} {ta : DTA} {px py pt pos : Pos} {kt k2 pt2} (hc : X.calm = true) (hN : X.N.Nodup) (hi : X.N[i]? = some x) (hj : X.N[j]? = some y) (hij : i ≠ j)
    (hx : X.env.scope.names.lookup x = some .local) (hy : X.env.scope.names.lookup y = some .local) (ha : DA X E [a, b] ta)
    (hw : swappedStores [.Tuple [.Name x px, .Name y py] kt pt] (.Tuple [a, b] k2 pt2) X.env = pure (some [x, y]))
    (hs : swapsWithSole [.Tuple [.Name x px, .Name y py] kt pt] (.Tuple [a, b] k2 pt2) pos.line X.env = pure false := by rfl) :
    DS X E (.Assign [.Tuple [.Name x px, .Name y py] kt pt] (.Tuple [a, b] k2 pt2) pos) (sPar i j ta) := by
  obtain ⟨t1, p1, k1⟩ := ha.ex
  refine ⟨_, ps_par hc hN hi hj hij hx hy p1 hw hs, fun B μ en m σ H N D R hx T e => ?_⟩
  refine k1 B μ en m σ H _ _ _ R hx T fun B1 μ1 m1 H1 xs vs s1 R1 r q => ?_
  cases r with
  | nil => exact q.elim
  | cons a r =>
    cases r with
    | nil => exact q.elim
    | cons b r =>
      cases r with
      | nil => exact ⟨_, _, rfl, e.nx B1 μ1 _ m1 _ H1 s1 ((R1.set a).set b) q⟩
      | cons _ _ => exact q.elim
/-! ### what is walked -/
def WalkD (K : Frag) (B0 : Hp) (J : It) (its : List D) : Prop := ∃ G Y, Walk J its.length G Y ∧ (∀ B μ mem H, Same B0 B → MemOk K B μ mem H → G H) ∧
  ∀ i B μ mem H x H', i < its.length → Same B0 B → MemOk K B μ mem H → Y i H x H' → ∃ B' d, its[i]? = some d ∧ Stp B μ mem H B' μ mem H' ∧ MemOk K B' μ mem H' ∧ Rv K B' x d
abbrev DTI := En → Me → (List D → Me → Prop) → QX → Prop
structure DI (X : Cx) (E : XK) (tg e : Expr) (T : DTI) : Prop where
  ex : ∃ t, PI X tg e t ∧ ∀ B μ en m σ H (Q : List D → Me → Prop) (Qx : QX) (QV : It → Hp → Prop), Rel X.K B μ en m σ H → ExOf X.K E B μ m H Qx → T en m Q Qx →
    (∀ B' μ' m' H' its J, Stp B μ m H B' μ' m' H' → Rel X.K B' μ' en m' σ H' → WalkD X.K B' J its → Q its m' → QV J H') → t σ H QV
/-! ### for -/
def sForL (g : DTG) (tb : DTS) : List D → DTS
  | [] => fun en m N => N.nx en m
  | d :: ds => fun en m N => g (.v d) en m fun en1 m1 => tb en1 m1 { N with nx := fun en2 m2 => sForL g tb ds en2 m2 N, ct := fun en2 m2 => sForL g tb ds en2 m2 N, bk := N.nx }
def sFor (ti : DTI) (g : DTG) (tb : DTS) : DTS := fun en m N => ti en m (fun its m1 => sForL g tb its en m1 N) N.xc
theorem ds_for {tg iter : Expr} {body : List Stmt} {ti : DTI} {g : DTG} {is : List Nat} {tb : DTS} {pos : Pos} (hp : PassesOwn (model X.prog X.w) X.A X.env X.xe) (hc : X.calm = true) (hi : DI X E tg iter ti) (hg : DG X tg is g) (hb : DSs X E body tb)
    (hs : ∀ x, foldedSetIterable iter X.env x = pure x := by intro _; rfl) : DS X E (.For tg iter body [] pos) (sFor ti g tb) := by
  obtain ⟨t0, p0, k0⟩ := hi.ex
  obtain ⟨t1, p1, k1⟩ := hg.ex
  obtain ⟨t2, p2, k2⟩ := hb.ex
  refine ⟨_, ps_for hp hc p0 p1 p2 hs, fun B μ en m σ H N D R hx T e => ?_⟩
  refine k0 B μ en m σ H _ _ _ R hx T fun B1 μ1 m1 H1 its J s1 R1 ⟨G, Y, w, hG, hY⟩ q => ?_
  refine for_it w (fun i σ' H' => ∃ B' μ' en' m', Stp B1 μ1 m1 H1 B' μ' m' H' ∧ Rel X.K B' μ' en' m' σ' H' ∧ sForL g tb (its.drop i) en' m' N) ⟨B1, μ1, en, m1, .refl, R1, q⟩ (fun i σ' H' _ ⟨B', μ', en', m', s', R', _⟩ => hG B' μ' m' H' s'.same R'.mem) (fun i x σ' H2 H3 hi ⟨B', μ', en', m', s', R', q'⟩ y => ?_) (fun σ' H' ⟨B', μ', en', m', s', R', q'⟩ => ?_)
  · obtain ⟨B3, d, hd, s3, m3, rd⟩ := hY i B' μ' m' H2 x H3 hi s'.same R'.mem y
    have s13 := s'.trans R'.mem s3 R1.mem.le
    have R3 := R'.stp s3 m3
    rw [List.drop_eq_getElem_cons hi] at q'
    have ed : its[i] = d := by
      rw [List.getElem?_eq_getElem hi] at hd
      exact Option.some.inj hd
    rw [ed] at q'
    refine k1 B3 μ' en' m' σ' H3 (.v d) x _ _ R3 rd q' fun B4 μ4 en4 m4 σ4 H4 s4 R4 _ q4 => ?_
    have s14 := s13.trans R3.mem s4 R1.mem.le
    have st := s1.trans R1.mem s14 R.mem.le
    refine k2 B4 μ4 en4 m4 σ4 H4 { N with nx := fun en2 m2 => sForL g tb (its.drop (i + 1)) en2 m2 N, ct := fun en2 m2 => sForL g tb (its.drop (i + 1)) en2 m2 N, bk := N.nx } _ R4 (hx.step st R4.mem R.mem.le) q4 ⟨?_, e.rt.step st R4.mem R.mem.le, e.nx.step st R4.mem R.mem.le, ?_⟩
    · exact fun B5 μ5 en5 m5 σ5 H5 s5 R5 q5 => ⟨B5, μ5, en5, m5, s14.trans R4.mem s5 R1.mem.le, R5, q5⟩
    · exact fun B5 μ5 en5 m5 σ5 H5 s5 R5 q5 => ⟨B5, μ5, en5, m5, s14.trans R4.mem s5 R1.mem.le, R5, q5⟩
  · rw [List.drop_length] at q'
    exact e.nx B' μ' en' m' σ' H' (s1.trans R1.mem s' R.mem.le) R' q'
/-! ### while -/
def whN (c : DTT) (tb : DTS) : Nat → DTS
  | 0 => fun _ _ _ => False
  | n + 1 => fun en m N => c en m (fun b m1 => if b = true then tb en m1 { N with nx := fun en2 m2 => whN c tb n en2 m2 N, ct := fun en2 m2 => whN c tb n en2 m2 N, bk := N.nx } else N.nx en m1) N.xc
def sWh (c : DTT) (tb : DTS) : DTS := fun en m N => ∃ n, whN c tb n en m N
theorem ds_while {c : Expr} {body : List Stmt} {tc : DTT} {tb : DTS} {pos : Pos} (hp : PassesOwn (model X.prog X.w) X.A X.env X.xe) (hc : DT X E c tc) (hb : DSs X E body tb) : DS X E (.While c body [] pos) (sWh tc tb) := by
  obtain ⟨t1, p1, k1⟩ := hc.ex
  obtain ⟨t2, p2, k2⟩ := hb.ex
  refine ⟨_, ps_while hp p1 p2, fun B μ en m σ H N D R hx T e => ?_⟩
  obtain ⟨n, T⟩ := T
  refine ⟨fun n σ' H' => ∃ B' μ' en' m', Stp B μ m H B' μ' m' H' ∧ Rel X.K B' μ' en' m' σ' H' ∧ whN tc tb n en' m' N, ⟨n, B, μ, en, m, .refl, R, T⟩, ?_⟩
  rintro n σ' H' ⟨B', μ', en', m', s', R', q'⟩
  cases n with
  | zero => exact q'.elim
  | succ n =>
    refine k1 B' μ' en' m' σ' H' _ _ _ R' (hx.step s' R'.mem R.mem.le) q' fun B1 μ1 m1 H1 b s1 R1 q => ?_
    have st := s'.trans R'.mem s1 R.mem.le
    cases b with
    | false => exact iteF (e.nx B1 μ1 en' m1 σ' H1 st R1 q)
    | true =>
      refine iteT ⟨fun σ2 H2 => ∃ B2 μ2 en2 m2, Stp B μ m H B2 μ2 m2 H2 ∧ Rel X.K B2 μ2 en2 m2 σ2 H2 ∧ whN tc tb n en2 m2 N, fun σ2 H2 h => ⟨n, Nat.lt_succ_self n, h⟩, ?_⟩
      refine k2 B1 μ1 en' m1 σ' H1 { N with nx := fun en2 m2 => whN tc tb n en2 m2 N, ct := fun en2 m2 => whN tc tb n en2 m2 N, bk := N.nx } _ R1 (hx.step st R1.mem R.mem.le) q ⟨?_, e.rt.step st R1.mem R.mem.le, e.nx.step st R1.mem R.mem.le, ?_⟩
      · exact fun B5 μ5 en5 m5 σ5 H5 s5 R5 q5 => ⟨B5, μ5, en5, m5, st.trans R1.mem s5 R.mem.le, R5, q5⟩
      · exact fun B5 μ5 en5 m5 σ5 H5 s5 R5 q5 => ⟨B5, μ5, en5, m5, st.trans R1.mem s5 R.mem.le, R5, q5⟩
end
end Fs
set_option Elab.async false
set_option linter.all false
set_option maxRecDepth 100000
set_option maxHeartbeats 8000000
namespace Fs
open PySem PySem.Spec PyProof.Rows L2
/-- a datum -/
def oD : W → (D → Prop) → Prop
  | .v d, Q => Q d
  | .loc _, _ => False
/-- data -/
def oDs : List W → (List D → Prop) → Prop
  | [], Q => Q []
  | .v d :: r, Q => oDs r fun ds => Q (d :: ds)
  | .loc _ :: _, _ => False
theorem oDs_ok {K : Frag} {B : Hp} {μ : List Addr} : ∀ {xs : List W} {vs : List V} {Q : List D → Prop}, RWs K B μ vs xs → oDs xs Q → ∃ ds, RvL K B vs ds ∧ Q ds
  | [], _, _, .nil, q => ⟨[], .nil, q⟩
  | .v d :: r, _, Q, .cons a t, q => by
    obtain ⟨ds, h, k⟩ := oDs_ok (Q := fun ds => Q (d :: ds)) t q
    exact ⟨d :: ds, .cons a h, k⟩
  | .loc _ :: _, _, _, _, q => q.elim
/-! ### a thing that is hidden beside -/
theorem MemOk.touch {K : Frag} {B : Hp} {μ : List Addr} {m : Me} {H H' : Hp} {p : Addr} (h : MemOk K B μ m H) (nb : B p = none) (nl : ¬ Live μ m p) (k : ∀ b o, b ≠ p → H b = some o → H' b = some o) : MemOk K B μ m H' := by
  refine ⟨fun a o e => k a o (fun z => by subst z; rw [nb] at e; cases e) (h.le a o e), h.len, h.off, fun n a x e1 e2 e3 => ?_, h.inj, h.ntb⟩
  have c : a ≠ p := fun z => by
    subst z
    exact nl ⟨n, x, e1, e2, e3⟩
  exact OO.to (Same.refl _) (List.prefix_refl _) (fun o z => k a o c z) (h.at_ n a x e1 e2 e3)
theorem Stp.touch {B B' : Hp} {μ μ' : List Addr} {m m' : Me} {H H' H'' : Hp} {p : Addr} (h : Stp B μ m H B' μ' m' H') (np : H p = none) (k : ∀ b o, b ≠ p → H' b = some o → H'' b = some o) : Stp B μ m H B' μ' m' H'' :=
  ⟨h.same, h.pre, fun a o n e t => k a o (ne_of_none e np) (h.out a o n e t), h.hid⟩
theorem MemOk.none {K : Frag} {B : Hp} {μ : List Addr} {m : Me} {H : Hp} (h : MemOk K B μ m H) {p : Addr} (np : H p = none) : B p = none ∧ ¬ Live μ m p := by
  refine ⟨?_, fun l => h.there l np⟩
  cases e : B p with
  | none => rfl
  | some u => exact absurd np (h.le.some e)
/-! ### slots wiped -/
def wipeE (en : En) : List Nat → En
  | [] => en
  | v :: vs => (wipeE en vs).set v none
theorem wipeE_len (en : En) : ∀ vs, (wipeE en vs).length = en.length
  | [] => rfl
  | v :: vs => by unfold wipeE; rw [List.length_set, wipeE_len en vs]
theorem wipeE_at (en : En) (σ : L2.St) (K : Frag) (B : Hp) (μ : List Addr) (h : ∀ (i : Nat) (x : W), en[i]? = some (some x) → ∃ v, σ[i]? = some (some v) ∧ RW K B μ v x) : ∀ vs (i : Nat) (x : W), (wipeE en vs)[i]? = some (some x) → ∃ v, (wipe σ vs)[i]? = some (some v) ∧ RW K B μ v x
  | [], i, x, e => h i x e
  | v :: vs, i, x, e => by
    unfold wipeE at e
    unfold wipe
    by_cases c : v = i
    · subst c
      have l : v < (wipeE en vs).length := by
        have z := (List.getElem?_eq_some_iff.mp e).1
        simpa using z
      rw [List.getElem?_set_self l] at e
      cases e
    · rw [List.getElem?_set_ne c] at e ⊢
      exact wipeE_at en σ K B μ h vs i x e
theorem Rel.wipe {K : Frag} {B : Hp} {μ : List Addr} {en : En} {m : Me} {σ : L2.St} {H : Hp} (R : Rel K B μ en m σ H) (vs : List Nat) : Rel K B μ (wipeE en vs) m (L2.wipe σ vs) H :=
  ⟨R.mem, by rw [wipe_length, wipeE_len, R.len], wipeE_at en σ K B μ R.env vs⟩
theorem wipe_set_mem {σ : L2.St} {i : Nat} {x : V} : ∀ {vs : List Nat}, i ∈ vs → wipe (σ.set i (some x)) vs = wipe σ vs
  | v :: vs, h => by
    unfold wipe
    by_cases c : i ∈ vs
    · rw [wipe_set_mem c]
    · have e : i = v := (List.mem_cons.mp h).resolve_right c
      subst e
      rw [wipe_set_out c, List.set_set]
where
  wipe_set_out {σ : L2.St} {i : Nat} {x : V} : ∀ {vs : List Nat}, i ∉ vs → wipe (σ.set i (some x)) vs = (wipe σ vs).set i (some x)
    | [], _ => rfl
    | v :: vs, h => by
      unfold wipe
      rw [wipe_set_out (fun z => h (List.mem_cons_of_mem _ z))]
      exact List.set_comm _ _ (fun z => h (by rw [z]; exact List.mem_cons_self))
theorem Sts.wipe {is vs : List Nat} {a b : L2.St} (h : Sts is a b) (k : ∀ i ∈ is, i ∈ vs) : L2.wipe b vs = L2.wipe a vs := by
  induction h with
  | refl => rfl
  | set hi _ ih => rw [ih, wipe_set_mem (k _ hi)]
theorem wipe_none_out {σ : L2.St} {i : Nat} : ∀ {vs : List Nat}, wipe (σ.set i none) vs = (wipe σ vs).set i none
  | [] => rfl
  | v :: vs => by
    unfold wipe
    rw [wipe_none_out]
    by_cases c : i = v
    · subst c
      rfl
    · exact List.set_comm _ _ c
theorem wipe_wipe (σ : L2.St) : ∀ vs : List Nat, wipe (wipe σ vs) vs = wipe σ vs
  | [] => rfl
  | v :: vs => by
    show (wipe ((wipe σ vs).set v none) vs).set v none = (wipe σ vs).set v none
    rw [wipe_none_out, wipe_wipe σ vs, List.set_set]
/-! ### comprehensions -/
structure DTs (X : Cx) (E : XK) (es : List Expr) (T : DTT) : Prop where
  ex : ∃ t, PTs X es t ∧ ST X E t T
def tYs : DTT := fun _ m Q _ => Q true m
section
variable {X : Cx} {E : XK}
theorem dts_nil : DTs X E [] tYs := ⟨_, pts_nil, fun B μ en m σ H Q Qx QV R hx T k => k B μ m H true .refl R T⟩
theorem dts_one {c : Expr} {t : DTT} (h : DT X E c t) : DTs X E [c] t := by
  obtain ⟨t1, p1, k1⟩ := h.ex
  exact ⟨_, pts_one p1, k1⟩
theorem DTs.pts {es : List Expr} {T : DTT} (h : DTs X E es T) : PTs X es (lT X.K E T) := by
  obtain ⟨t, p, k⟩ := h.ex
  exact ⟨fun pins s σ H Q I ⟨B, μ, en, m, Q', Qx, R, hx, q, z⟩ => p.run pins s σ H Q I (k B μ en m σ H Q' Qx Q R hx q z)⟩
def noX : QX := fun _ _ => False
theorem ExOf.no {K : Frag} {E : XK} {B : Hp} {μ : List Addr} {m : Me} {H : Hp} : ExOf K E B μ m H noX := fun _ _ _ _ _ _ _ _ _ _ _ q => q.elim
def lcL (g : DTG) (tt : DTT) (te : DTE) (en : En) : List D → List D → Me → (W → Me → Prop) → Prop
  | [], acc, m, Q => Q (.v (.lst acc)) m
  | d :: ds, acc, m, Q => g (.v d) en m fun en1 m1 => tt en1 m1 (fun b m2 => if b = true then te en1 m2 (fun y m3 => oD y fun dy => acc.length < sizeLine ∧ lcL g tt te en ds (acc ++ [dy]) m3 Q) noX else lcL g tt te en ds acc m2 Q) noX
def tLcD (ti : DTI) (g : DTG) (tt : DTT) (te : DTE) (vs : List Nat) : DTE := fun en m Q Qx => ti en m (fun its m1 => lcL g tt te (wipeE en vs) its [] m1 Q) Qx
theorem d_lc {elt tg iter : Expr} {ifs : List Expr} {scope : Scope} {own : List (Str × Nat)} {is : List Nat} {pos : Pos} {ti : DTI} {g : DTG} {tt : DTT} {te : DTE} (hc : X.calm = true) (hN : X.N.Nodup) (hi : DI X E tg iter ti) (ok : BlkOk X.N X.env.scope scope own)
    (hg : ∀ (s : Shared) (H : Hp) (C : Addr) (cl : List (Str × Addr)) (fp : List Addr), DG (X.blk s H scope (compEnvC scope cl C X.env) fp) tg is g) (ht : ∀ (s : Shared) (H : Hp) (C : Addr) (cl : List (Str × Addr)) (fp : List Addr), DTs (X.blk s H scope (compEnvC scope cl C X.env) fp) E0 ifs tt)
    (he : ∀ (s : Shared) (H : Hp) (C : Addr) (cl : List (Str × Addr)) (fp : List Addr), DE (X.blk s H scope (compEnvC scope cl C X.env) fp) E0 elt te) (hs : ∀ x, foldedSetIterable iter X.env x = pure x := by intro _; rfl) (hv : is.all (fun i => (own.map (·.2)).contains i) = true := by rfl) :
    DE X E (.ListComp elt [⟨tg, iter, ifs, 0⟩] scope pos) (tLcD ti g tt te (own.map (·.2))) := by
  obtain ⟨t0, p0, k0⟩ := hi.ex
  have hv' : ∀ i ∈ is, i ∈ own.map (·.2) := fun i h => List.contains_iff_mem.mp (List.all_eq_true.mp hv i h)
  refine ⟨_, pe_lc hc hN p0 ok (g := lG X.K is g) (tt := lT X.K E0 tt) (te := lE X.K E0 te) (fun s H C cl fp => (hg s H C cl fp).pg) (fun s H C cl fp => (ht s H C cl fp).pts) (fun s H C cl fp => (he s H C cl fp).pe) hs, fun B μ en m σ H Q Qx QV R hx T k => ?_⟩
  refine k0 B μ en m σ H _ Qx _ R hx T fun B1 μ1 m1 H1 its J s1 R1 ⟨G, Y, w, hG, hY⟩ q => ?_
  intro L nL
  obtain ⟨nb1, nl1⟩ := R1.mem.none nL
  have Rw := R1.wipe (own.map (·.2))
  generalize hen : wipeE en (own.map (·.2)) = enw at q Rw
  refine lc_it w (fun i H' => ∃ B' μ' m' vs acc, Stp B1 μ1 m1 H1 B' μ' m' H' ∧ MemOk X.K B' μ' m' H' ∧ B' L = none ∧ ¬ Live μ' m' L ∧ H' L = some (.lst vs) ∧ RvL X.K B' vs acc ∧ lcL g tt te enw (its.drop i) acc m' Q) ?_ (fun i H' _ ⟨B', μ', m', vs, acc, s', M', _⟩ => hG B' μ' m' H' s'.same M') (fun i x H2 H3 hi ⟨B', μ', m', vs, acc, s', M', nb, nl, hL, rv, q'⟩ y => ?_) (fun H' ⟨B', μ', m', vs, acc, s', M', nb, nl, hL, rv, q'⟩ => ?_)
  · have kp : ∀ b o, b ≠ L → H1 b = some o → upd H1 L (.lst []) b = some o := fun b o c e => by rw [upd_ne c]; exact e
    exact ⟨B1, μ1, m1, [], [], Stp.refl.touch nL kp, R1.mem.touch nb1 nl1 kp, nb1, nl1, upd_same, .nil, q⟩
  · obtain ⟨B3, d, hd, s3, m3, rd⟩ := hY i B' μ' m' H2 x H3 hi s'.same M' y
    have s13 := s'.trans M' s3 R1.mem.le
    obtain ⟨nb3, nl3⟩ := s3.hid L _ nl hL ⟨(fun _ z => nomatch z), (fun _ z => nomatch z)⟩ nb
    have hL3 := s3.out L _ nl hL (fun _ z => nomatch z)
    have R3 : Rel X.K B3 μ' enw m' (L2.wipe σ (own.map (·.2))) H3 := Rw.stp s13 m3
    rw [List.drop_eq_getElem_cons hi] at q'
    have ed : its[i] = d := by
      rw [List.getElem?_eq_getElem hi] at hd
      exact Option.some.inj hd
    rw [ed] at q'
    refine ⟨B3, μ', enw, m', .v d, _, R3, rd, q', fun B4 μ4 en4 m4 σ4 H4 s4 R4 st4 q4 => ⟨by rw [st4.wipe hv', wipe_wipe], ?_⟩⟩
    have s14 := s13.trans m3 s4 R1.mem.le
    obtain ⟨nb4, nl4⟩ := s4.hid L _ nl3 hL3 ⟨(fun _ z => nomatch z), (fun _ z => nomatch z)⟩ nb3
    have hL4 := s4.out L _ nl3 hL3 (fun _ z => nomatch z)
    refine ⟨B4, μ4, en4, m4, _, noX, R4, ExOf.no, q4, fun B5 μ5 m5 H5 b s5 R5 q5 => ?_⟩
    have s15 := s14.trans R4.mem s5 R1.mem.le
    obtain ⟨nb5, nl5⟩ := s5.hid L _ nl4 hL4 ⟨(fun _ z => nomatch z), (fun _ z => nomatch z)⟩ nb4
    have hL5 := s5.out L _ nl4 hL4 (fun _ z => nomatch z)
    have rv5 := rv.to ((s3.same.trans s4.same).trans s5.same)
    cases b with
    | false => exact iteF ⟨B5, μ5, m5, vs, acc, s15, R5.mem, nb5, nl5, hL5, rv5, q5⟩
    | true =>
      refine iteT ⟨B5, μ5, en4, m5, _, noX, R5, ExOf.no, q5, fun B6 μ6 m6 H6 y v s6 R6 r6 q6 => ?_⟩
      cases y with
      | loc n => exact q6.elim
      | v dy =>
        obtain ⟨lz, q6⟩ := q6
        have s16 := s15.trans R5.mem s6 R1.mem.le
        obtain ⟨nb6, nl6⟩ := s6.hid L _ nl5 hL5 ⟨(fun _ z => nomatch z), (fun _ z => nomatch z)⟩ nb5
        have hL6 := s6.out L _ nl5 hL5 (fun _ z => nomatch z)
        have rv6 := rv5.to s6.same
        have kp : ∀ b o, b ≠ L → H6 b = some o → upd H6 L (.lst (vs ++ [v])) b = some o := fun b o c e => by rw [upd_ne c]; exact e
        exact ⟨vs, hL6, by rw [rv6.len]; exact lz, B6, μ6, m6, vs ++ [v], acc ++ [dy], s16.touch nL kp, R6.mem.touch nb6 nl6 kp, nb6, nl6, upd_same, rv6.append (.one r6), q6⟩
  · rw [List.drop_length] at q'
    -- the new list becomes a datum
    have kp : ∀ b o, b ≠ L → H' b = some o → H' b = some o := fun _ _ _ e => e
    have same : Same B' (upd B' L (.lst vs)) := same_new nb _
    have M2 : MemOk X.K (upd B' L (.lst vs)) μ' m' H' := by
      refine ⟨fun a o e => ?_, M'.len, fun a l => ?_, fun n a x e1 e2 e3 => OO.to same (List.prefix_refl _) (fun _ z => z) (M'.at_ n a x e1 e2 e3), M'.inj, fun a ps e => by
        by_cases c : a = L
        · subst c
          rw [upd_same] at e
          cases e
        · rw [upd_ne c] at e
          exact M'.ntb a ps e⟩
      · by_cases c : a = L
        · subst c
          rw [upd_same] at e
          cases e
          exact hL
        · rw [upd_ne c] at e
          exact M'.le a o e
      · have c : a ≠ L := fun z => by
          subst z
          exact nl l
        rw [upd_ne c]
        exact M'.off a l
    have st : Stp B1 μ1 m1 H1 (upd B' L (.lst vs)) μ' m' H' := ⟨s'.same.trans same, s'.pre, s'.out, fun a o n e x b => by
      obtain ⟨h1, h2⟩ := s'.hid a o n e x b
      refine ⟨?_, h2⟩
      rw [upd_ne (ne_of_none e nL)]
      exact h1⟩
    have stt := s1.trans R1.mem st R.mem.le
    exact k _ μ' m' H' _ _ stt (R.stp stt M2) (RW.d (.lst upd_same (rv.to same))) q'
end
/-! ### displays -/
section
variable {X : Cx} {E : XK} {es : List Expr} {ta : DTA} {pos : Pos}
def tTu (ta : DTA) : DTE := fun en m Q Qx => ta en m (fun xs m1 => oDs xs fun ds => ds.length ≤ sizeLine ∧ Q (.v (.tup ds)) m1) Qx
def tLs (ta : DTA) : DTE := fun en m Q Qx => ta en m (fun xs m1 => oDs xs fun ds => ds.length ≤ sizeLine ∧ Q (.v (.lst ds)) m1) Qx
theorem d_tup {x1 : Nat} (h : DA X E es ta) : DE X E (.Tuple es x1 pos) (tTu ta) := by
  obtain ⟨t1, p1, k1⟩ := h.ex
  refine ⟨_, pe_tup p1, fun B μ en m σ H Q Qx QV R hx T k => ?_⟩
  refine k1 B μ en m σ H _ Qx _ R hx T fun B1 μ1 m1 H1 xs vs s1 R1 r q => ?_
  obtain ⟨ds, rl, hz, q⟩ := oDs_ok r q
  refine ⟨by rw [rl.len]; exact hz, fun p np => ?_⟩
  have sl := Stp.laid R1.mem np (o := .tup vs)
  have st := s1.trans R1.mem sl R.mem.le
  exact k _ μ1 m1 _ _ _ st (R.stp st (R1.mem.laid np)) (RW.d (.tup (.inl upd_same) (rl.to sl.same))) q
theorem d_lst (h : DA X E es ta) : DE X E (.List es pos) (tLs ta) := by
  obtain ⟨t1, p1, k1⟩ := h.ex
  refine ⟨_, pe_lst p1, fun B μ en m σ H Q Qx QV R hx T k => ?_⟩
  refine k1 B μ en m σ H _ Qx _ R hx T fun B1 μ1 m1 H1 xs vs s1 R1 r q => ?_
  obtain ⟨ds, rl, hz, q⟩ := oDs_ok r q
  refine ⟨by rw [rl.len]; exact hz, fun p np => ?_⟩
  have sl := Stp.laid R1.mem np (o := .lst vs)
  have st := s1.trans R1.mem sl R.mem.le
  exact k _ μ1 m1 _ _ _ st (R.stp st (R1.mem.laid np)) (RW.d (.lst upd_same (rl.to sl.same))) q
/-- a list that will be changed -/
def tLsO (ta : DTA) : DTE := fun en m Q Qx => ta en m (fun xs m1 => oDs xs fun ds => ds.length ≤ sizeLine ∧ Q (.loc m1.length) (m1 ++ [.lst ds])) Qx
theorem d_lstO (h : DA X E es ta) : DE X E (.List es pos) (tLsO ta) := by
  obtain ⟨t1, p1, k1⟩ := h.ex
  refine ⟨_, pe_lst p1, fun B μ en m σ H Q Qx QV R hx T k => ?_⟩
  refine k1 B μ en m σ H _ Qx _ R hx T fun B1 μ1 m1 H1 xs vs s1 R1 r q => ?_
  obtain ⟨ds, rl, hz, q⟩ := oDs_ok r q
  refine ⟨by rw [rl.len]; exact hz, fun p np => ?_⟩
  have kp : ∀ a o, a ≠ p → H1 a = some o → upd H1 p (.lst vs) a = some o := fun a o c e => by rw [upd_ne c]; exact e
  have sl := Stp.push R1.mem np (m := .lst ds) kp
  have st := s1.trans R1.mem sl R.mem.le
  have mo := R1.mem.push np (m := .lst ds) (fun a o e => kp a o (ne_of_none (R1.mem.le a o e) np) (R1.mem.le a o e)) kp ⟨vs, upd_same, rl⟩
  refine k _ _ _ _ (.loc m1.length) _ st (R.stp st mo) ⟨p, rfl, ?_⟩ q
  rw [← R1.mem.len]
  simp
/-- x.append(e): x an own list -/
def appD : W → List W → Me → (Me → Prop) → Prop
  | .loc n, [.v d], m, Q => match m[n]? with
    | some (.lst ds) => ds.length < sizeLine ∧ Q (m.set n (.lst (ds ++ [d])))
    | _ => False
  | _, _, _, _ => False
def tApp (to : DTE) (ta : DTA) : DTE := fun en m Q Qx => to en m (fun x m1 => ta en m1 (fun xs m2 => appD x xs m2 fun m3 => Q (.v .non) m3) Qx) Qx
/-! ### calls -/
abbrev SpD := List W → Me → (W → Me → Prop) → QX → Prop
/-- the promise of a def by data -/
def lift (K : Frag) (sp : SpD) : Sp := fun vs H Q E => ∃ B μ m ws Qd Qx, MemOk K B μ m H ∧ RWs K B μ vs ws ∧ sp ws m Qd Qx ∧ ExOf K E B μ m H Qx ∧
  ∀ B' μ' m' H' x v, Stp B μ m H B' μ' m' H' → MemOk K B' μ' m' H' → RW K B' μ' v x → Qd x m' → Q v H'
def tCal (sp : SpD) (ta : DTA) : DTE := fun en m Q Qx => ta en m (fun xs m1 => sp xs m1 Q Qx) Qx
section
variable {CX : CXT} {k : Nat} {x : Str} {ps : List Str} {sp : SpD} {e : Expr} {p : Pos}
theorem SA.call {t : TA} {dv : List V} {dw : List D} (h : SA X E t ta) (hd : ∀ B, RvL X.K B dv dw) : SE X E (tCall (lift X.K sp) dv E t) (tCal (fun ws => sp (ws ++ dw.map .v)) ta) := by
  intro B μ en m σ H Q Qx QV R hx T k
  refine h B μ en m σ H _ Qx _ R hx T fun B1 μ1 m1 H1 xs vs s1 R1 r q => ?_
  have ra : RWs X.K B1 μ1 (vs ++ dv) (xs ++ dw.map .v) := by
    clear q
    induction r with
    | nil => exact (hd B1).ws
    | cons a _ ih => exact .cons a ih
  refine ⟨B1, μ1, m1, _, _, Qx, R1.mem, ra, q, hx.step s1 R1.mem R.mem.le, fun B2 μ2 m2 H2 y v s2 m2' r2 q2 => ?_⟩
  have st := s1.trans R1.mem s2 R.mem.le
  exact k B2 μ2 m2 H2 y v st (R.stp st m2') r2 q2
theorem SE.imp {t : TE} {T T' : DTE} (h : SE X E t T) (k : ∀ en m Q Qx, T' en m Q Qx → T en m Q Qx) : SE X E t T' := fun B μ en m σ H Q Qx QV R hx q z => h B μ en m σ H Q Qx QV R hx (k _ _ _ _ q) z
theorem d_call (G : Gd X.prog X.w X.K X.mg X.base CX k x ps (lift X.K sp)) (hr : Room k X.A) (hx : Passes CX X E) (ha : DA X E (e :: es) ta)
    (hg : Gl X x := by rfl) (hdb : (x == ("__debug__" : Str)) = false := by decide) (he : starEach (e :: es) X.env = (false, eval e X.env) :: starEach es X.env := by rfl) (hpl : (backTo pos (starEach es X.env)).any (·.1) = false := by rfl) :
    DE X E (.Call (.Name x p) (e :: es) [] pos) (tCal sp ta) := by
  obtain ⟨t1, p1, k1⟩ := ha.ex
  refine ⟨_, pe_g G hr hx p1 hg hdb he hpl, (SA.call (dv := []) (dw := []) k1 fun _ => .nil).imp fun en m Q Qx q => ?_⟩
  unfold tCal at q ⊢
  simpa using q
end
end
end Fs
set_option Elab.async false
set_option linter.all false
set_option maxRecDepth 100000
set_option maxHeartbeats 8000000
namespace Fs
open PySem PySem.Spec PyProof.Rows L2
def startE (N : List Str) (ws : List W) : En := ws.map some ++ List.replicate (N.length - ws.length) none
/-- a def's end: own objects that it made are gone -/
def rtD (m : Me) (Q : W → Me → Prop) : W → Me → Prop := fun x m' => oD x fun d => m <+: m' ∧ Q (.v d) m
def xcD (m : Me) (Qx : QX) : QX := fun er m' => m <+: m' ∧ Qx er m
def defN (m : Me) (Q : W → Me → Prop) (Qx : QX) : Dn := ⟨fun _ m' => rtD m Q (.v .non) m', rtD m Q, fun _ _ => False, fun _ _ => False, xcD m Qx⟩
/-- .. where they stay -/
def defO (Q : W → Me → Prop) (Qx : QX) : Dn := ⟨fun _ m' => Q (.v .non) m', Q, fun _ _ => False, fun _ _ => False, Qx⟩
theorem startE_rel {K : Frag} {B : Hp} {μ : List Addr} {m : Me} {H : Hp} {N : List Str} {vs : List V} {ws : List W} (M : MemOk K B μ m H) (r : RWs K B μ vs ws) : Rel K B μ (startE N ws) m (L2.start N vs) H := by
  refine ⟨M, by simp [startE, L2.start, r.len], fun i x e => ?_⟩
  unfold startE at e
  unfold L2.start
  have at_ : ∀ {vs : List V} {ws : List W} {i : Nat} {x : W}, RWs K B μ vs ws → ws[i]? = some x → ∃ v, vs[i]? = some v ∧ RW K B μ v x := by
    intro vs ws i x r
    induction r generalizing i with
    | nil => intro e; simp at e
    | cons a _ ih =>
      intro e
      cases i with
      | zero => simp at e; subst e; exact ⟨_, rfl, a⟩
      | succ i =>
        obtain ⟨v, h1, h2⟩ := ih (i := i) (by simpa using e)
        exact ⟨v, by simpa using h1, h2⟩
  by_cases c : i < ws.length
  · rw [List.getElem?_append_left (by simpa using c), List.getElem?_map] at e
    obtain ⟨w, hw, ew⟩ : ∃ w, ws[i]? = some w ∧ some w = some x := by
      cases q : ws[i]? with
      | none => rw [q] at e; cases e
      | some w => rw [q] at e; exact ⟨w, rfl, Option.some.inj e⟩
    cases ew
    obtain ⟨v, h1, h2⟩ := at_ r hw
    refine ⟨v, ?_, h2⟩
    rw [List.getElem?_append_left (by rw [List.length_map, r.len]; exact c), List.getElem?_map, h1]
    rfl
  · rw [List.getElem?_append_right (by simpa using Nat.le_of_not_lt c)] at e
    have z := List.mem_of_getElem? e
    rw [List.mem_replicate] at z
    cases z.2
section
variable {P : Program} {w : World} {K : Frag} {mg : Str → Option Value} {base : Heap} {x : Str} {st : Stmt} {N ps : List Str} {k : Nat} {sp : SpD}
theorem SS.def_ {X : Cx} {E : XK} {t : TS} {T : DTS} (h : SS X E t T) {vs : List V} {H : Hp} {Q : VK} (hT : ∀ ws m Qd Qx, sp ws m Qd Qx → T (startE N ws) m (defN m Qd Qx)) (q : lift X.K sp vs H Q E) : t { nx := fun _ H' => Q .non H', rt := Q } (L2.start N vs) H := by
  obtain ⟨B, μ, m, ws, Qd, Qx, M, r, hs, hx, hq⟩ := q
  have fin : ∀ B' μ' m' H' x v, Stp B μ m H B' μ' m' H' → MemOk X.K B' μ' m' H' → RW X.K B' μ' v x → rtD m Qd x m' → Q v H' := fun B' μ' m' H' x v s M' r q => by
    cases x with
    | loc n => exact q.elim
    | v d =>
      obtain ⟨⟨more, rfl⟩, q⟩ := q
      exact hq B' μ m H' (.v d) v s.drop (M.drop s.pre M') r q
  refine h B μ (startE N ws) m (L2.start N vs) H (defN m Qd Qx) _ (startE_rel M r) (fun B' μ' m' H' er dd fvs s M' hd rf q => ?_) (hT ws m Qd Qx hs) ⟨fun B' μ' en' m' σ' H' s R' q => ?_, fin, fun _ _ _ _ _ _ _ _ q => q.elim, fun _ _ _ _ _ _ _ _ q => q.elim⟩
  · obtain ⟨⟨more, rfl⟩, q⟩ := q
    exact hx B' μ m H' er dd fvs s.drop (M.drop s.pre M') hd rf q
  · exact fin B' μ' m' H' (.v .non) .non s R'.mem (RW.d .non) q
theorem SS.defo {X : Cx} {E : XK} {t : TS} {T : DTS} (h : SS X E t T) {vs : List V} {H : Hp} {Q : VK} (hT : ∀ ws m Qd Qx, sp ws m Qd Qx → T (startE N ws) m (defO Qd Qx)) (q : lift X.K sp vs H Q E) : t { nx := fun _ H' => Q .non H', rt := Q } (L2.start N vs) H := by
  obtain ⟨B, μ, m, ws, Qd, Qx, M, r, hs, hx, hq⟩ := q
  refine h B μ (startE N ws) m (L2.start N vs) H (defO Qd Qx) _ (startE_rel M r) hx (hT ws m Qd Qx hs) ⟨fun B' μ' en' m' σ' H' s R' q => ?_, fun B' μ' m' H' x v s M' r q => hq B' μ' m' H' x v s M' r q, fun _ _ _ _ _ _ _ _ q => q.elim, fun _ _ _ _ _ _ _ _ q => q.elim⟩
  exact hq B' μ' m' H' (.v .non) .non s R'.mem (RW.d .non) q
/-- THE RULE for a def -/
theorem fo_d (S : FnScope N ps (defScope st)) (ar : ∀ ws m Q Qx, sp ws m Q Qx → ws.length = ps.length)
    (hbody : ∀ (f : Addr) (cdv : Value) (A : Around) (outer : List Env) (s : Shared) (H : Hp) (E : XK), Room k (A.deeper (envOfC x (defScope st) s.heap.objs.size f cdv)) →
      ∃ T, DSs (cxOf (L2.CX P w) P w K mg base N x (defScope st) f cdv A outer s H E) E (defBody st) T ∧ ∀ ws m Qd Qx, sp ws m Qd Qx → T (startE N ws) m (defN m Qd Qx))
    (dfl : List V) (kwd : List (Str × V)) : Fo P w K mg base (L2.CX P w) (k + 1) x st dfl kwd ps (lift K sp) := by
  refine fo_okX S (fun vs H Q E ⟨B, μ, m, ws, Qd, Qx, M, r, hs, _⟩ => by rw [r.len]; exact ar _ _ _ _ hs) fun f cdv A outer s H vs Q E hr h => ?_
  obtain ⟨T, hd, hT⟩ := hbody f cdv A outer s H E hr
  obtain ⟨t, hp, hs⟩ := hd.ex
  exact ⟨t, hp, hs.def_ hT h⟩
theorem fo_o (S : FnScope N ps (defScope st)) (ar : ∀ ws m Q Qx, sp ws m Q Qx → ws.length = ps.length)
    (hbody : ∀ (f : Addr) (cdv : Value) (A : Around) (outer : List Env) (s : Shared) (H : Hp) (E : XK), Room k (A.deeper (envOfC x (defScope st) s.heap.objs.size f cdv)) →
      ∃ T, DSs (cxOf (L2.CX P w) P w K mg base N x (defScope st) f cdv A outer s H E) E (defBody st) T ∧ ∀ ws m Qd Qx, sp ws m Qd Qx → T (startE N ws) m (defO Qd Qx))
    (dfl : List V) (kwd : List (Str × V)) : Fo P w K mg base (L2.CX P w) (k + 1) x st dfl kwd ps (lift K sp) := by
  refine fo_okX S (fun vs H Q E ⟨B, μ, m, ws, Qd, Qx, M, r, hs, _⟩ => by rw [r.len]; exact ar _ _ _ _ hs) fun f cdv A outer s H vs Q E hr h => ?_
  obtain ⟨T, hd, hT⟩ := hbody f cdv A outer s H E hr
  obtain ⟨t, hp, hs⟩ := hd.ex
  exact ⟨t, hp, hs.defo hT h⟩
end
theorem passF {X : Cx} : Passes (L2.CX X.prog X.w) X E0 := fun pins σ H s e s' I ⟨a, B, H', cls, d, _, _, _, _, _, _, _, q⟩ => q.elim
/-! ### own objects become data -/
def sbs (n : Nat) (d : D) : Option W → Option W
  | some (.loc k) => if k = n then some (.v d) else some (.loc k)
  | o => o
/-- the own list at n -/
def lstAt (m : Me) (n : Nat) (Q : List D → Prop) : Prop := match m[n]? with
  | some (.lst ds) => Q ds
  | _ => False
theorem lstAt_ok {m : Me} {n : Nat} {Q : List D → Prop} (h : lstAt m n Q) : ∃ ds, m[n]? = some (.lst ds) ∧ Q ds := by
  unfold lstAt at h
  split at h
  · rename_i ds e
    exact ⟨ds, e, h⟩
  · exact h.elim
/-- the slot i's own list becomes a datum -/
def sFz (i : Nat) (u : DTS) : DTS := fun en m N => match En.get en i with
  | some (.loc n) => lstAt m n fun ds => u (en.map (sbs n (.lst ds))) (m.set n .gone) N
  | some (.v _) => u en m N
  | none => False
section
variable {X : Cx} {E : XK}
theorem Rel.freeze {K : Frag} {B : Hp} {μ : List Addr} {en : En} {m : Me} {σ : L2.St} {H : Hp} {n : Nat} {a : Addr} {mo : MO} {d : D} {o : HO} (R : Rel K B μ en m σ H) (ha : μ[n]? = some a) (hm : m[n]? = some mo) (hl : mo.live = true) (ho : H a = some o) (hr : Rv K (upd B a o) (.ref a) d) (no : ∀ ps, o ≠ .tbl ps := by exact fun _ z => nomatch z) : Rel K (upd B a o) μ (en.map (sbs n d)) (m.set n .gone) σ H := by
  have nb := R.mem.off a ⟨n, mo, ha, hm, hl⟩
  refine ⟨R.mem.freeze ha hm hl ho no, by simp [R.len], fun i x e => ?_⟩
  rw [List.getElem?_map] at e
  cases q : en[i]? with
  | none => rw [q] at e; cases e
  | some y =>
    rw [q] at e
    have e : sbs n d y = some x := Option.some.inj e
    cases y with
    | none => cases e
    | some y =>
      obtain ⟨v, h1, h2⟩ := R.env i y q
      cases y with
      | v d2 =>
        cases e
        exact ⟨v, h1, h2.to (same_new nb o) (List.prefix_refl _)⟩
      | loc k =>
        have e : (if k = n then some (W.v d) else some (W.loc k)) = some x := e
        obtain ⟨b, rfl, hb⟩ := h2
        by_cases c : k = n
        · rw [if_pos c] at e
          cases e
          subst c
          have z : a = b := Option.some.inj (ha.symm.trans hb)
          subst z
          exact ⟨_, h1, hr⟩
        · rw [if_neg c] at e
          cases e
          exact ⟨_, h1, b, rfl, hb⟩
theorem dss_fz {st : List Stmt} {u : DTS} (i : Nat) (h : DSs X E st u) : DSs X E st (sFz i u) := by
  obtain ⟨t1, p1, k1⟩ := h.ex
  refine ⟨_, p1, fun B μ en m σ H N D R hx T e => ?_⟩
  unfold sFz at T
  split at T
  · rename_i n hn
    obtain ⟨ds, hm, T⟩ := lstAt_ok T
    obtain ⟨v, h1, a, rfl, ha⟩ := R.env i _ (En.get_some hn)
    obtain ⟨vs, hv, rl⟩ := R.mem.at_ n a _ ha hm rfl
    have nb := R.mem.off a ⟨n, _, ha, hm, rfl⟩
    have sf := Stp.freeze (H := H) (o := .lst vs) ha hm rfl nb
    have R1 := R.freeze ha hm rfl hv (.lst upd_same (rl.to sf.same))
    exact k1 _ μ _ _ σ H N D R1 (hx.step sf R1.mem R.mem.le) T (e.step sf R1.mem R.mem.le)
  · exact k1 B μ en m σ H N D R hx T e
  · exact T.elim
/-! ### methods of built-in types -/
abbrev DMt := W → List W → Me → (D → Me → Prop) → Prop
def SM (X : Cx) (r : V → List V → Hp → VK → Prop) (o : DMt) : Prop := ∀ B μ m H x xs v vs (Q : D → Me → Prop) (QV : VK), MemOk X.K B μ m H → RW X.K B μ v x → RWs X.K B μ vs xs → o x xs m Q →
  (∀ B' m' H' d z, Stp B μ m H B' μ m' H' → MemOk X.K B' μ m' H' → Rv X.K B' z d → Q d m' → QV z H') → r v vs H QV
def STy (X : Cx) (T : String) (ty : W → Me → Prop) : Prop := ∀ B μ m H x v, MemOk X.K B μ m H → RW X.K B μ v x → ty x m → tyV X.K T v H
def tMe (ty : W → Me → Prop) (o : DMt) (to : DTE) (ta : DTA) : DTE := fun en m Q Qx => to en m (fun x m1 => ty x m1 ∧ ta en m1 (fun xs m2 => o x xs m2 fun d m3 => Q (.v d) m3) Qx) Qx
theorem d_bm {T : String} {name : Str} {id : String} {r : V → List V → Hp → VK → Prop} {op : DMt} {ty : W → Me → Prop} {o e : Expr} {es : List Expr} {to : DTE} {ta : DTA} {apos cpos : Pos} (pa : PlainAttrs T) (slot : Slot T name id) (hty : typeOf (.builtin id) = pure (.type "method_descriptor")) (hm : MtR X id r) (so : SM X r op) (st : STy X T ty) (ho : DE X E o to) (ha : DA X E (e :: es) ta)
    (hbase : attributeBase o name X.env (eval o X.env) = eval o X.env := by rfl)
    (hfew : ((backTo cpos (starEach (e :: es) X.env)).all (fun x => !x.1) && (backToKw cpos (keywordEach [] X.env)).all (fun x => x.1.isSome)
      && decide ((e :: es).length + ([] : List Keyword).length + (if ([] : List Keyword).isEmpty then 0 else 1) < 30)) = true := by rfl)
    (hline : (apos.endLine == cpos.line) = true := by rfl) (hs : starEach (e :: es) X.env = (false, eval e X.env) :: starEach es X.env := by rfl) (hplain : (backTo cpos (starEach es X.env)).any (·.1) = false := by rfl) :
    DE X E (.Call (.Attribute o name apos) (e :: es) [] cpos) (tMe ty op to ta) := by
  obtain ⟨t1, p1, k1⟩ := ho.ex
  obtain ⟨t2, p2, k2⟩ := ha.ex
  refine ⟨_, pe_bm pa slot hty hm p1 p2 hbase hfew hline hs hplain, fun B μ en m σ H Q Qx QV R hx T k => ?_⟩
  refine k1 B μ en m σ H _ Qx _ R hx T fun B1 μ1 m1 H1 x v s1 R1 r1 ⟨q1, q2⟩ => ⟨st B1 μ1 m1 H1 x v R1.mem r1 q1, ?_⟩
  refine k2 B1 μ1 en m1 σ H1 _ Qx _ R1 (hx.step s1 R1.mem R.mem.le) q2 fun B2 μ2 m2 H2 xs vs s2 R2 r2 q3 => ?_
  refine so B2 μ2 m2 H2 x xs v vs _ _ R2.mem (r1.to s2.same s2.pre) r2 q3 fun B3 m3 H3 d z s3 M3 rz q4 => ?_
  have st := (s1.trans R1.mem s2 R.mem.le).trans R2.mem s3 R.mem.le
  exact k B3 μ2 m3 H3 (.v d) z st (R.stp st M3) rz q4
/-! ### append -/
def isOl : W → Me → Prop
  | .loc n, m => lstAt m n fun _ => True
  | _, _ => False
def aApp : DMt := fun x xs m Q => match x, xs with
  | .loc n, [.v d] => lstAt m n fun ds => ds.length < sizeLine ∧ Q .non (m.set n (.lst (ds ++ [d])))
  | _, _ => False
theorem isOl_ok : STy X "list" isOl := by
  intro B μ m H x v M r q
  cases x with
  | v d => exact q.elim
  | loc n =>
    obtain ⟨ds, hm, _⟩ := lstAt_ok q
    obtain ⟨a, rfl, ha⟩ := r
    obtain ⟨vs, hv, _⟩ := M.at_ n a _ ha hm rfl
    exact .inl ⟨rfl, vs, .inl (.inl hv)⟩
theorem aApp_ok : SM X rAppend aApp := by
  intro B μ m H x xs v vs Q QV M r rs q k
  unfold aApp at q
  split at q
  · rename_i x xs n d
    obtain ⟨ds, hm, q⟩ := lstAt_ok q
    obtain ⟨a, rfl, ha⟩ := r
    obtain ⟨us, hv, rl⟩ := M.at_ n a _ ha hm rfl
    cases rs with
    | cons rd rn =>
      cases rn with
      | nil =>
        rename_i vd
        have kp : ∀ b o, b ≠ a → H b = some o → upd H a (.lst (us ++ [vd])) b = some o := fun b o c e => by rw [upd_ne c]; exact e
        refine ⟨a, us, vd, rfl, rfl, hv, by rw [rl.len]; exact q.1, ?_⟩
        have new : OO X.K B μ (upd H a (.lst (us ++ [vd]))) a (.lst (ds ++ [d])) := ⟨_, upd_same, rl.append (.one rd)⟩
        exact k B _ _ .non _ (Stp.store ha hm rfl kp) (M.store ha hm rfl rfl kp new) .non q.2
  · exact q.elim
theorem d_app {o e : Expr} {to : DTE} {ta : DTA} {apos pos : Pos} (ho : DE X E o to) (ha : DA X E [e] ta) (hb : attributeBase o "append" X.env (eval o X.env) = eval o X.env := by rfl)
    (hfew : ((backTo pos (starEach [e] X.env)).all (fun x => !x.1) && (backToKw pos (keywordEach [] X.env)).all (fun x => x.1.isSome)
      && decide ([e].length + ([] : List Keyword).length + (if ([] : List Keyword).isEmpty then 0 else 1) < 30)) = true := by rfl)
    (hline : (apos.endLine == pos.line) = true := by rfl) (hs : starEach [e] X.env = (false, eval e X.env) :: starEach [] X.env := by rfl) (hplain : (backTo pos (starEach [] X.env)).any (·.1) = false := by rfl) :
    DE X E (.Call (.Attribute o "append" apos) [e] [] pos) (tMe isOl aApp to ta) := d_bm PySem.F.plainAttrs_list PySem.F.slot_list_append PySem.F.type_list_append mt_append aApp_ok isOl_ok ho ha hb hfew hline hs hplain
/-! ### what a value shows: its datum, own objects too -/
def lookO : Option MO → (D → Prop) → Prop
  | some (.lst ds), Q => Q (.lst ds)
  | some (.dic ds), Q => Q (.dic ds)
  | _, _ => False
def look : W → Me → (D → Prop) → Prop
  | .v d, _, Q => Q d
  | .loc n, m, Q => lookO m[n]? Q
/-- the datum d is to be read at v -/
def Top (K : Frag) (B H : Hp) (v : V) : D → Prop
  | .tup ds => ∃ a vs, v = .ref a ∧ TqT K B a vs ∧ RvL K B vs ds
  | .lst ds => ∃ a vs, v = .ref a ∧ H a = some (.lst vs) ∧ RvL K B vs ds
  | .dic ds => ∃ a vs, v = .ref a ∧ Rd H a (.dK vs) ∧ RvK K B vs ds
  | .obj C ds => ∃ a dx vs, v = .ref a ∧ H a = some (.ins C dx vs) ∧ RvF K B vs ds
  | d => Rv K B v d
theorem Rv.top {K : Frag} {B H : Hp} (le : Le B H) {v : V} {d : D} (r : Rv K B v d) : Top K B H v d := by
  cases r with
  | tup h a => exact ⟨_, _, rfl, h, a⟩
  | lst h a => exact ⟨_, _, rfl, le _ _ h, a⟩
  | dic h a => exact ⟨_, _, rfl, .inr ⟨_, le _ _ h⟩, a⟩
  | obj h a => exact ⟨_, _, _, rfl, le _ _ h, a⟩
  | exc h g a => exact .exc h g a
  | non => exact .non
  | bl b => exact .bl b
  | int i => exact .int i
  | str h => exact .str h
  | ty n => exact .ty n
  | fn a => exact .fn a
theorem look_ok {K : Frag} {B : Hp} {μ : List Addr} {m : Me} {H : Hp} {v : V} (M : MemOk K B μ m H) : ∀ {x : W} {Q : D → Prop}, RW K B μ v x → look x m Q → ∃ d, Top K B H v d ∧ Q d
  | .v d, Q, r, q => ⟨d, Rv.top M.le r, q⟩
  | .loc n, Q, ⟨a, e, ha⟩, q => by
    subst e
    have q : lookO m[n]? Q := q
    cases hm : m[n]? with
    | none => rw [hm] at q; exact q.elim
    | some mo =>
      rw [hm] at q
      cases mo with
      | lst ds =>
        obtain ⟨vs, hv, rl⟩ := M.at_ n a _ ha hm rfl
        exact ⟨.lst ds, ⟨a, vs, rfl, hv, rl⟩, q⟩
      | dic ds =>
        obtain ⟨vs, hv, rl⟩ := M.at_ n a _ ha hm rfl
        exact ⟨.dic ds, ⟨a, vs, rfl, .inl hv, rl⟩, q⟩
      | ins C fs => exact q.elim
      | bag => exact q.elim
      | tab _ _ => exact q.elim
      | gone => exact q.elim
end
end Fs
set_option Elab.async false
set_option linter.all false
set_option maxRecDepth 100000
set_option maxHeartbeats 8000000
namespace Fs
open PySem PySem.Spec PyProof.Rows L2
abbrev okS (x : Str) : Bool := PySem.PyData.strOk x
theorem okS_app {x y : Str} (h : okS x = true) (k : okS y = true) : okS (x ++ y) = true := by
  unfold okS PySem.PyData.strOk at *
  show Array.all (x.cps ++ y.cps) _ = true
  rw [Array.all_append, h, k]
  rfl
theorem okS_iff {x : Str} : okS x = true ↔ ∀ c ∈ x.cps.toList, c < 0x110000 := by
  unfold okS PySem.PyData.strOk
  rw [← Array.all_toList, List.all_eq_true]
  simp
/-! ### data as the library's data -/
mutual
def plainD : D → Bool
  | .non | .bl _ | .int _ | .str _ => true
  | .tup xs => plainL xs
  | .lst xs => plainL xs
  | _ => false
def plainL : List D → Bool
  | [] => true
  | x :: xs => plainD x && plainL xs
end
mutual
def pyD : D → PyData
  | .bl b => .bool b
  | .int i => .int i
  | .str x => .str x
  | .tup xs => .tuple (pyL xs)
  | .lst xs => .list (pyL xs)
  | _ => .none
def pyL : List D → List PyData
  | [] => []
  | x :: xs => pyD x :: pyL xs
end
mutual
def depD : D → Nat
  | .tup xs => depL xs + 1
  | .lst xs => depL xs + 1
  | _ => 0
def depL : List D → Nat
  | [] => 0
  | x :: xs => max (depD x) (depL xs)
end
mutual
/-- == -/
def deq : D → D → Bool
  | .non, .non => true
  | .bl a, .bl b => a == b
  | .bl a, .int j => (if a then 1 else 0) == j
  | .int i, .bl b => i == (if b then 1 else 0)
  | .int i, .int j => i == j
  | .str x, .str y => x == y
  | .lst xs, .lst ys => deqL xs ys
  | .tup xs, .tup ys => deqL xs ys
  | _, _ => false
def deqL : List D → List D → Bool
  | [], [] => true
  | x :: xs, y :: ys => deq x y && deqL xs ys
  | _, _ => false
end
mutual
theorem deq_py : ∀ {x y : D}, plainD x = true → plainD y = true → PyData.eqv (pyD x) (pyD y) = deq x y
  | .non, y, _, h => by cases y <;> first | rfl | cases h
  | .bl _, y, _, h => by cases y <;> first | rfl | cases h
  | .int _, y, _, h => by cases y <;> first | rfl | cases h
  | .str _, y, _, h => by cases y <;> first | rfl | cases h
  | .lst xs, y, g, h => by
    cases y with
    | lst ys => exact deqL_py (x := xs) (y := ys) g h
    | non => rfl
    | bl _ => rfl
    | int _ => rfl
    | str _ => rfl
    | tup _ => rfl
    | dic _ => cases h
    | obj _ _ => cases h
    | exc _ _ => cases h
    | ty _ => cases h
    | fn _ => cases h
  | .tup xs, y, g, h => by
    cases y with
    | tup ys => exact deqL_py (x := xs) (y := ys) g h
    | non => rfl
    | bl _ => rfl
    | int _ => rfl
    | str _ => rfl
    | lst _ => rfl
    | dic _ => cases h
    | obj _ _ => cases h
    | exc _ _ => cases h
    | ty _ => cases h
    | fn _ => cases h
theorem deqL_py : ∀ {x y : List D}, plainL x = true → plainL y = true → PyData.eqvAll (pyL x) (pyL y) = deqL x y
  | [], [], _, _ => rfl
  | [], _ :: _, _, _ => rfl
  | _ :: _, [], _, _ => rfl
  | x :: xs, y :: ys, g, h => by
    have g := Bool.and_eq_true_iff.mp g
    have h := Bool.and_eq_true_iff.mp h
    show (PyData.eqv (pyD x) (pyD y) && PyData.eqvAll (pyL xs) (pyL ys)) = (deq x y && deqL xs ys)
    rw [deq_py g.1 h.1, deqL_py g.2 h.2]
end
mutual
theorem dep_py : ∀ (x : D), (pyD x).depth = depD x
  | .tup xs => congrArg (· + 1) (depL_py xs)
  | .lst xs => congrArg (· + 1) (depL_py xs)
  | .non => rfl
  | .bl _ => rfl
  | .int _ => rfl
  | .str _ => rfl
  | .dic _ => rfl
  | .obj _ _ => rfl
  | .exc _ _ => rfl
  | .ty _ => rfl
  | .fn _ => rfl
theorem depL_py : ∀ (x : List D), PyData.depthAll (pyL x) = depL x
  | [] => rfl
  | x :: xs => by
    show max (pyD x).depth (PyData.depthAll (pyL xs)) = max (depD x) (depL xs)
    rw [dep_py x, depL_py xs]
end
mutual
theorem Rv.dp {K : Frag} {B : Hp} : ∀ {v : V} {d : D}, Rv K B v d → plainD d = true → Dp K B v (pyD d)
  | _, _, .non, _ => .non
  | _, _, .bl b, _ => .bl b
  | _, _, .int i, _ => .int i
  | _, _, .str _, _ => .str _
  | _, _, .tup h r, p => .tup h.sq (RvL.dp r p)
  | _, _, .lst h r, p => .lst (.inl (.inl h)) (RvL.dp r p)
  | _, _, .ty _, p => by cases p
  | _, _, .fn _, p => by cases p
  | _, _, .dic _ _, p => by cases p
  | _, _, .obj _ _, p => by cases p
  | _, _, .exc _ _ _, p => by cases p
theorem RvL.dp {K : Frag} {B : Hp} : ∀ {v : List V} {d : List D}, RvL K B v d → plainL d = true → DpAll K B v (pyL d)
  | _, _, .nil, _ => .nil
  | _, _, .cons h t, p => .cons (Rv.dp h (Bool.and_eq_true_iff.mp p).1) (RvL.dp t (Bool.and_eq_true_iff.mp p).2)
end
mutual
theorem Rv.lay {K : Frag} {B : Hp} : ∀ {v : V} {d : D}, Rv K B v d → plainD d = true → (pyD d).canLay0 = true
  | _, _, .non, _ => rfl
  | _, _, .bl b, _ => rfl
  | _, _, .int i, _ => rfl
  | _, _, .str h, _ => h
  | _, _, .tup h r, p => RvL.lay r p
  | _, _, .lst h r, p => RvL.lay r p
  | _, _, .ty _, p => by cases p
  | _, _, .fn _, p => by cases p
  | _, _, .dic _ _, p => by cases p
  | _, _, .obj _ _, p => by cases p
  | _, _, .exc _ _ _, p => by cases p
theorem RvL.lay {K : Frag} {B : Hp} : ∀ {v : List V} {d : List D}, RvL K B v d → plainL d = true → PyData.canLayAll0 (pyL d) = true
  | _, _, .nil, _ => rfl
  | _, _, .cons h t, p => by
    show ((pyD _).canLay0 && PyData.canLayAll0 (pyL _)) = true
    rw [Rv.lay h (Bool.and_eq_true_iff.mp p).1, RvL.lay t (Bool.and_eq_true_iff.mp p).2]
    rfl
end
/-- a value that shows d, as the library's datum -/
theorem Top.dp {K : Frag} {B H : Hp} (le : Le B H) {v : V} : ∀ {d : D}, Top K B H v d → plainD d = true → Dp K H v (pyD d) ∧ (pyD d).canLay0 = true
  | .non, h, p => ⟨Dp.to le (Rv.dp h p), Rv.lay h p⟩
  | .bl b, h, p => ⟨Dp.to le (Rv.dp h p), Rv.lay h p⟩
  | .int i, h, p => ⟨Dp.to le (Rv.dp h p), Rv.lay h p⟩
  | .str x, h, p => ⟨Dp.to le (Rv.dp h p), Rv.lay h p⟩
  | .tup xs, ⟨a, vs, e, hs, r⟩, p => by
    subst e
    exact ⟨.tup (le.tup hs) (DpAll.to le (RvL.dp r p)), RvL.lay r p⟩
  | .lst xs, ⟨a, vs, e, hs, r⟩, p => by
    subst e
    exact ⟨.lst (.inl (.inl hs)) (DpAll.to le (RvL.dp r p)), RvL.lay r p⟩
  | .ty _, _, p => by cases p
  | .fn _, _, p => by cases p
  | .dic _, _, p => by cases p
  | .obj _ _, _, p => by cases p
  | .exc _ _, _, p => by cases p
/-! ### operators by what both sides show -/
abbrev F2 := D → D → (D → Prop) → Prop
def oL (f : F2) : DOp := fun x y m Q => look x m fun dx => look y m fun dy => f dx dy Q
section
variable {X : Cx} {E : XK}
theorem SO.of {r : R2} {f : F2} (h : ∀ B μ m H v u dx dy (Q : D → Prop) (QV : VK), MemOk X.K B μ m H → Top X.K B H v dx → Top X.K B H u dy → f dx dy Q →
    (∀ B' H' d z, Stp B μ m H B' μ m H' → MemOk X.K B' μ m H' → Rv X.K B' z d → Q d → QV z H') → r v u H QV) : SO X r (oL f) := by
  intro B μ m H x y v u Q QV M rx ry q k
  obtain ⟨dx, tx, q⟩ := look_ok M rx q
  obtain ⟨dy, ty, q⟩ := look_ok M ry q
  exact h B μ m H v u dx dy Q QV M tx ty q k
theorem SO.pure {B : Hp} {μ : List Addr} {m : Me} {H : Hp} {Q : D → Prop} {QV : VK} (M : MemOk X.K B μ m H) (k : ∀ B' H' d z, Stp B μ m H B' μ m H' → MemOk X.K B' μ m H' → Rv X.K B' z d → Q d → QV z H') {d : D} {z : V} (r : Rv X.K B z d) (q : Q d) : QV z H := k B H d z .refl M r q
theorem SO.new {B : Hp} {μ : List Addr} {m : Me} {H : Hp} {Q : D → Prop} {QV : VK} (M : MemOk X.K B μ m H) (k : ∀ B' H' d z, Stp B μ m H B' μ m H' → MemOk X.K B' μ m H' → Rv X.K B' z d → Q d → QV z H') {d : D} {p : Addr} {o : HO} (np : H p = none) (r : Rv X.K (upd B p o) (.ref p) d) (q : Q d) (no : ∀ ps, o ≠ .tbl ps := by exact fun _ z => nomatch z) : QV (.ref p) (upd H p o) :=
  k _ _ d _ (Stp.laid M np) (M.laid np no) r q
theorem new_lst {K : Frag} {B : Hp} {μ : List Addr} {m : Me} {H : Hp} {p : Addr} {vs : List V} {ds : List D} (M : MemOk K B μ m H) (np : H p = none) (r : RvL K B vs ds) : Rv K (upd B p (.lst vs)) (.ref p) (.lst ds) := .lst upd_same (r.to (laid_same M np))
theorem new_tup {K : Frag} {B : Hp} {μ : List Addr} {m : Me} {H : Hp} {p : Addr} {vs : List V} {ds : List D} (M : MemOk K B μ m H) (np : H p = none) (r : RvL K B vs ds) : Rv K (upd B p (.tup vs)) (.ref p) (.tup ds) := .tup (.inl upd_same) (r.to (laid_same M np))
def addD : F2
  | .int i, .int j, Q => Q (.int (i + j))
  | .str a, .str b, Q => a.length + b.length ≤ sizeLine ∧ Q (.str (a ++ b))
  | .lst a, .lst b, Q => a.length + b.length ≤ sizeLine ∧ Q (.lst (a ++ b))
  | .tup a, .tup b, Q => a.length + b.length ≤ sizeLine ∧ Q (.tup (a ++ b))
  | _, _, _ => False
theorem o_add : OpD X (binaryOp .Add) (oL addD) := by
  refine ⟨_, (op_add.or op_add_str).or (op_cat.or op_catA), SO.of fun B μ m H v u dx dy Q QV M tx ty q k => ?_⟩
  unfold addD at q
  split at q
  · cases tx
    cases ty
    exact .inl (.inl ⟨_, _, rfl, rfl, SO.pure M k (.int _) q⟩)
  · cases tx with
    | str h1 => cases ty with
      | str h2 => exact .inl (.inr ⟨_, _, rfl, rfl, q.1, SO.pure M k (.str (okS_app h1 h2)) q.2⟩)
  · obtain ⟨a, vs, rfl, h1, r1⟩ := tx
    obtain ⟨b, us, rfl, h2, r2⟩ := ty
    exact .inr (.inl ⟨a, b, vs, us, rfl, rfl, h1, h2, by rw [r1.len, r2.len]; exact q.1, fun p np => SO.new M k np (new_lst M np (r1.append r2)) q.2⟩)
  · obtain ⟨a, vs, rfl, h1, r1⟩ := tx
    obtain ⟨b, us, rfl, h2, r2⟩ := ty
    refine .inr (.inr ⟨a, b, vs, us, rfl, rfl, M.le.tup h1, M.le.tup h2, by rw [r1.len, r2.len]; exact q.1, fun z => ?_, fun _ z => ?_, fun _ _ p np => SO.new M k np (new_tup M np (r1.append r2)) q.2⟩)
    · subst z
      cases r1
      exact SO.pure M k (.tup h2 r2) q.2
    · subst z
      cases r2
      have q2 := q.2
      rw [List.append_nil] at q2
      exact SO.pure M k (.tup h1 r1) q2
  · exact q.elim
def intF (f : Int → Int → (D → Prop) → Prop) : F2
  | .int i, .int j, Q => f i j Q
  | _, _, _ => False
theorem intF_ok {f : Int → Int → (D → Prop) → Prop} {K : Frag} {B H : Hp} {v u : V} {dx dy : D} {Q : D → Prop} (tx : Top K B H v dx) (ty : Top K B H u dy) (q : intF f dx dy Q) : ∃ i j, v = .int i ∧ u = .int j ∧ f i j Q := by
  unfold intF at q
  split at q
  · cases tx
    cases ty
    exact ⟨_, _, rfl, rfl, q⟩
  · exact q.elim
theorem o_sub : OpD X (binaryOp .Sub) (oL (intF fun i j Q => Q (.int (i - j)))) := ⟨_, op_sub, SO.of fun B μ m H v u dx dy Q QV M tx ty q k => by
  obtain ⟨i, j, rfl, rfl, q⟩ := intF_ok tx ty q
  exact ⟨_, _, rfl, rfl, SO.pure M k (.int _) q⟩⟩
/-- products, list * int -/
def mulD : F2
  | .int i, .int j, Q => CMulW i j ∧ Q (.int (i * j))
  | .lst a, .int n, Q => 0 ≤ n ∧ n < 2 ^ 62 ∧ a.length * n.toNat ≤ sizeLine ∧ Q (.lst (List.replicate n.toNat a).flatten)
  | _, _, _ => False
theorem RvL.rep {K : Frag} {B : Hp} {vs : List V} {ds : List D} (r : RvL K B vs ds) : ∀ n : Nat, RvL K B (List.replicate n vs).flatten (List.replicate n ds).flatten
  | 0 => .nil
  | n + 1 => by
    rw [List.replicate_succ, List.replicate_succ, List.flatten_cons, List.flatten_cons]
    exact r.append (RvL.rep r n)
theorem o_mod : OpD X (binaryOp .Mod) (oL (intF fun i j Q => 0 < j ∧ Q (.int (i % j)))) := ⟨_, op_mod, SO.of fun B μ m H v u dx dy Q QV M tx ty q k => by
  obtain ⟨i, j, rfl, rfl, q1, q⟩ := intF_ok tx ty q
  exact ⟨_, _, rfl, rfl, q1, SO.pure M k (.int _) q⟩⟩
theorem o_fdiv : OpD X (binaryOp .FloorDiv) (oL (intF fun i j Q => 0 < j ∧ j.natAbs.log2 < 9000 ∧ Q (.int (i / j)))) := ⟨_, op_fdivW, SO.of fun B μ m H v u dx dy Q QV M tx ty q k => by
  obtain ⟨i, j, rfl, rfl, q1, q2, q⟩ := intF_ok tx ty q
  exact ⟨_, _, rfl, rfl, ⟨q1, q2⟩, SO.pure M k (.int _) q⟩⟩
/-- // by a divisor of either sign -/
theorem op_fdivZ : OpR X (binaryOp .FloorDiv) (rI (fun _ j => j ≠ 0 ∧ j.natAbs.log2 < 9000) fun i j => .int (i.fdiv j)) := opI fun _ _ _ _ _ _ _ hc q => floordiv_int hc.1 q (.inl (PyProof.noPylong_of_log2 hc.2))
theorem o_fdivZ : OpD X (binaryOp .FloorDiv) (oL (intF fun i j Q => j ≠ 0 ∧ j.natAbs.log2 < 9000 ∧ Q (.int (i.fdiv j)))) := ⟨_, op_fdivZ, SO.of fun B μ m H v u dx dy Q QV M tx ty q k => by
  obtain ⟨i, j, rfl, rfl, q1, q2, q⟩ := intF_ok tx ty q
  exact ⟨_, _, rfl, rfl, ⟨q1, q2⟩, SO.pure M k (.int _) q⟩⟩
/-! ### comparisons -/
def cmpI (f : Int → Int → Bool) : F2 := intF fun i j Q => Q (.bl (f i j))
theorem o_lt : OpD X (compareOp .Lt) (oL (cmpI fun i j => decide (i < j))) := ⟨_, op_lt, SO.of fun B μ m H v u dx dy Q QV M tx ty q k => by
  obtain ⟨i, j, rfl, rfl, q⟩ := intF_ok tx ty q
  exact ⟨_, _, rfl, rfl, SO.pure M k (.bl _) q⟩⟩
theorem o_le : OpD X (compareOp .LtE) (oL (cmpI fun i j => decide (i ≤ j))) := ⟨_, op_le, SO.of fun B μ m H v u dx dy Q QV M tx ty q k => by
  obtain ⟨i, j, rfl, rfl, q⟩ := intF_ok tx ty q
  exact ⟨_, _, rfl, rfl, SO.pure M k (.bl _) q⟩⟩
theorem o_gt : OpD X (compareOp .Gt) (oL (cmpI fun i j => decide (j < i))) := ⟨_, op_gt, SO.of fun B μ m H v u dx dy Q QV M tx ty q k => by
  obtain ⟨i, j, rfl, rfl, q⟩ := intF_ok tx ty q
  exact ⟨_, _, rfl, rfl, SO.pure M k (.bl _) q⟩⟩
theorem o_ge : OpD X (compareOp .GtE) (oL (cmpI fun i j => decide (j ≤ i))) := ⟨_, op_ge, SO.of fun B μ m H v u dx dy Q QV M tx ty q k => by
  obtain ⟨i, j, rfl, rfl, q⟩ := intF_ok tx ty q
  exact ⟨_, _, rfl, rfl, SO.pure M k (.bl _) q⟩⟩
/-- ==: plain data not too deep -/
def eqD (g : Bool → Bool) : F2 := fun x y Q => plainD x = true ∧ plainD y = true ∧ depD x ≤ 64 ∧ depD y ≤ 64 ∧ Q (.bl (g (deq x y)))
theorem eqD_ok {K : Frag} {B H : Hp} {v u : V} {dx dy : D} (le : Le B H) (tx : Top K B H v dx) (ty : Top K B H u dy) (h1 : plainD dx = true) (h2 : plainD dy = true) (h3 : depD dx ≤ 64) (h4 : depD dy ≤ 64) : Dp K H v (pyD dx) ∧ Dp K H u (pyD dy) ∧ SeqAt.shaped (pyD dx) = true ∧ SeqAt.shaped (pyD dy) = true := by
  obtain ⟨a1, a2⟩ := Top.dp le tx h1
  obtain ⟨b1, b2⟩ := Top.dp le ty h2
  refine ⟨a1, b1, ?_, ?_⟩
  · unfold SeqAt.shaped
    rw [a2, dep_py]
    simpa using h3
  · unfold SeqAt.shaped
    rw [b2, dep_py]
    simpa using h4
theorem o_eq (hu : X.A.units + 64 < cLine) : OpD X (compareOp .Eq) (oL (eqD id)) := ⟨_, op_eqD hu, SO.of fun B μ m H v u dx dy Q QV M tx ty ⟨h1, h2, h3, h4, q⟩ k => by
  obtain ⟨a, b, c, d⟩ := eqD_ok M.le tx ty h1 h2 h3 h4
  exact ⟨_, _, a, b, c, d, by rw [deq_py h1 h2]; exact SO.pure M k (.bl _) q⟩⟩
theorem o_ne (hu : X.A.units + 64 < cLine) : OpD X (compareOp .NotEq) (oL (eqD (!·))) := ⟨_, op_neD hu, SO.of fun B μ m H v u dx dy Q QV M tx ty ⟨h1, h2, h3, h4, q⟩ k => by
  obtain ⟨a, b, c, d⟩ := eqD_ok M.le tx ty h1 h2 h3 h4
  exact ⟨_, _, a, b, c, d, by rw [deq_py h1 h2]; exact SO.pure M k (.bl _) q⟩⟩
/-- is None -/
def isNon : D → Bool
  | .non => true
  | _ => false
def isF (g : Bool → Bool) : F2 := fun x y Q => isNon y = true ∧ Q (.bl (g (isNon x)))
theorem Top.nonI {K : Frag} {B H : Hp} {v : V} {d : D} (t : Top K B H v d) : decide (v = .non) = isNon d := by
  cases d with
  | non => cases t; rfl
  | bl b => cases t; rfl
  | int b => cases t; rfl
  | str b => cases t; rfl
  | ty b => cases t; rfl
  | fn b => cases t; rfl
  | tup _ => obtain ⟨a, _, rfl, _⟩ := t; rfl
  | lst _ => obtain ⟨a, _, rfl, _⟩ := t; rfl
  | dic _ => obtain ⟨a, _, rfl, _⟩ := t; rfl
  | obj _ _ => obtain ⟨a, _, _, rfl, _⟩ := t; rfl
  | exc _ _ => cases t; rfl
theorem o_is : OpD X (compareOp .Is) (oL (isF id)) := ⟨_, op_isN, SO.of fun B μ m H v u dx dy Q QV M tx ty ⟨h, q⟩ k => by
  refine ⟨of_decide_eq_true (by rw [ty.nonI]; exact h), ?_⟩
  rw [tx.nonI]
  exact SO.pure M k (.bl _) q⟩
theorem o_isnot : OpD X (compareOp .IsNot) (oL (isF (!·))) := ⟨_, op_notN, SO.of fun B μ m H v u dx dy Q QV M tx ty ⟨h, q⟩ k => by
  refine ⟨of_decide_eq_true (by rw [ty.nonI]; exact h), ?_⟩
  rw [tx.nonI]
  exact SO.pure M k (.bl _) q⟩
/-! ### in -/
def flatD : D → Bool
  | .non | .bl _ | .int _ | .str _ => true
  | _ => false
def subS (x y : Str) : Bool := !(Builtin.Str.occurrences y x 0 y.length 1).isEmpty
/-- x in y: flat items; a text in a text; plain data in a list -/
def inD (g : Bool → Bool) : F2
  | .str x, .str y, Q => Q (.bl (g (subS x y)))
  | x, .tup ds, Q => flatD x = true ∧ ds.all flatD = true ∧ Q (.bl (g (ds.any fun y => deq y x)))
  | x, .lst ds, Q => plainD x = true ∧ plainL ds = true ∧ depD x ≤ 64 ∧ depL ds + 1 ≤ 64 ∧ Q (.bl (g (ds.any fun y => deq y x)))
  | _, _, _ => False
theorem flat_v {K : Frag} {B H : Hp} {v : V} {d : D} (t : Top K B H v d) (h : flatD d = true) : flatV v = true := by
  cases d with
  | non => cases t; rfl
  | bl b => cases t; rfl
  | int b => cases t; rfl
  | str b => cases t; rfl
  | _ => cases h
theorem flat_vs {K : Frag} {B : Hp} : ∀ {vs : List V} {ds : List D}, RvL K B vs ds → ds.all flatD = true → vs.all flatV = true
  | _, _, .nil, _ => rfl
  | _, _, .cons a t, h => by
    rw [List.all_cons] at h ⊢
    have h := Bool.and_eq_true_iff.mp h
    rw [flat_v (H := B) (Rv.top (Le.refl B) a) h.1, flat_vs t h.2]
    rfl
theorem deq_v {K : Frag} {B H B2 H2 : Hp} {v u : V} {d e : D} (t : Top K B H v d) (t2 : Top K B2 H2 u e) (h : flatD d = true) (k : flatD e = true) : eqV v u = deq d e := by
  cases d with
  | non => cases t; cases e <;> first | (cases t2; rfl) | cases k
  | bl b => cases t; cases e <;> first | (cases t2; rfl) | cases k
  | int b => cases t; cases e <;> first | (cases t2; rfl) | cases k
  | str b => cases t; cases e <;> first | (cases t2; rfl) | cases k
  | _ => cases h
theorem inV_d {K : Frag} {B H : Hp} {v : V} {d : D} (t : Top K B H v d) (h : flatD d = true) : ∀ {vs : List V} {ds : List D}, RvL K B vs ds → ds.all flatD = true → inV v vs = ds.any fun y => deq y d
  | _, _, .nil, _ => rfl
  | _, _, .cons (ds := ds) a r, k => by
    rw [List.all_cons] at k
    have k := Bool.and_eq_true_iff.mp k
    show (eqV _ v || inV v _) = (_ || _)
    rw [inV_d t h r k.2, deq_v (Rv.top (Le.refl B) a) t k.1 h]
theorem any_py : ∀ {ds : List D} {x : D}, plainL ds = true → plainD x = true → ((pyL ds).any fun z => PyData.eqv z (pyD x)) = ds.any fun y => deq y x
  | [], _, _, _ => rfl
  | d :: ds, x, h, k => by
    have h := Bool.and_eq_true_iff.mp h
    show (PyData.eqv (pyD d) (pyD x) || (pyL ds).any _) = (deq d x || ds.any _)
    rw [deq_py h.1 k, any_py h.2 k]
theorem o_in (hu : X.A.units + 65 < cLine) : OpD X (compareOp .In) (oL (inD id)) := by
  refine ⟨_, op_in_str.or (op_in_seq.or (op_inD hu)), SO.of fun B μ m H v u dx dy Q QV M tx ty q k => ?_⟩
  unfold inD at q
  split at q
  · cases tx with
    | str h1 => cases ty with
      | str h2 => exact .inl ⟨_, _, rfl, rfl, SO.pure M k (.bl _) q⟩
  · obtain ⟨a, vs, rfl, hs, r⟩ := ty
    obtain ⟨q1, q2, q⟩ := q
    refine .inr (.inl ⟨a, vs, rfl, .inr (M.le.tup hs), flat_v tx q1, flat_vs r q2, ?_⟩)
    rw [inV_d tx q1 r q2]
    exact SO.pure M k (.bl _) q
  · obtain ⟨q1, q2, q3, q4, q⟩ := q
    obtain ⟨a, b, c, d⟩ := eqD_ok (dy := .lst _) M.le tx ty q1 q2 q3 q4
    refine .inr (.inr ⟨_, pyL _, a, b, c, d, ?_⟩)
    rw [any_py q2 q1]
    exact SO.pure M k (.bl _) q
  · exact q.elim
theorem o_notin (hu : X.A.units + 65 < cLine) : OpD X (compareOp .NotIn) (oL (inD (!·))) := by
  refine ⟨_, op_notIn_str.or (op_notIn_seq.or (op_notInD hu)), SO.of fun B μ m H v u dx dy Q QV M tx ty q k => ?_⟩
  unfold inD at q
  split at q
  · cases tx with
    | str h1 => cases ty with
      | str h2 => exact .inl ⟨_, _, rfl, rfl, SO.pure M k (.bl _) q⟩
  · obtain ⟨a, vs, rfl, hs, r⟩ := ty
    obtain ⟨q1, q2, q⟩ := q
    refine .inr (.inl ⟨a, vs, rfl, .inr (M.le.tup hs), flat_v tx q1, flat_vs r q2, ?_⟩)
    rw [inV_d tx q1 r q2]
    exact SO.pure M k (.bl _) q
  · obtain ⟨q1, q2, q3, q4, q⟩ := q
    obtain ⟨a, b, c, d⟩ := eqD_ok (dy := .lst _) M.le tx ty q1 q2 q3 q4
    refine .inr (.inr ⟨_, pyL _, a, b, c, d, ?_⟩)
    rw [any_py q2 q1]
    exact SO.pure M k (.bl _) q
  · exact q.elim
end
end Fs
set_option Elab.async false
set_option linter.all false
set_option maxRecDepth 100000
set_option maxHeartbeats 8000000
namespace Fs
open PySem PySem.Spec PyProof.Rows L2
/-! ### subscripts -/
def ixD : F2
  | .lst ds, .int i, Q => ∃ d, atI ds i = some d ∧ Q d
  | .tup ds, .int i, Q => ∃ d, atI ds i = some d ∧ Q d
  | .str x, .int i, Q => x.length ≤ sizeLine ∧ ∃ c, atI x.cps.toList i = some c ∧ Q (.str ⟨#[c]⟩)
  | _, _, _ => False
theorem atI_d {K : Frag} {B : Hp} {vs : List V} {ds : List D} {i : Int} {d : D} (r : RvL K B vs ds) (h : atI ds i = some d) : ∃ v, atI vs i = some v ∧ Rv K B v d := by
  unfold atI at h ⊢
  rw [r.len]
  cases q : ixN ds.length i with
  | none => rw [q] at h; cases h
  | some j =>
    rw [q] at h
    obtain ⟨v, h1, h2⟩ := r.at (i := j) (d := d) h
    exact ⟨v, h1, h2⟩
theorem atI_mem {α : Type} {xs : List α} {i : Int} {x : α} (h : atI xs i = some x) : x ∈ xs := by
  unfold atI at h
  cases q : ixN xs.length i with
  | none => rw [q] at h; cases h
  | some j =>
    rw [q] at h
    exact List.mem_of_getElem? h
section
variable {X : Cx} {E : XK}
theorem d_ix {a b : Expr} {ta tb : DTE} {pos : Pos} (ha : DE X E a ta) (hb : DE X E b tb) (hs : PlainIx b := by exact fun _ _ => rfl) : DE X E (.Subscript a b pos) (tO2 (oL ixD) ta tb) := by
  obtain ⟨t1, p1, k1⟩ := ha.ex
  obtain ⟨t2, p2, k2⟩ := hb.ex
  refine ⟨_, pe_ix ((IxR.or ix_list ix_tup).or ix_str) p1 p2 hs, SE.two (SO.of fun B μ m H v u dx dy Q QV M tx ty q k => ?_) k1 k2⟩
  unfold ixD at q
  split at q
  · obtain ⟨p, vs, rfl, hp, r⟩ := tx
    cases ty
    obtain ⟨d, hd, q⟩ := q
    obtain ⟨z, hz, rz⟩ := atI_d r hd
    exact .inl (.inl ⟨p, vs, _, z, rfl, rfl, .inl (.inl hp), hz, SO.pure M k rz q⟩)
  · obtain ⟨p, vs, rfl, hp, r⟩ := tx
    cases ty
    obtain ⟨d, hd, q⟩ := q
    obtain ⟨z, hz, rz⟩ := atI_d r hd
    exact .inl (.inr ⟨p, vs, _, z, rfl, rfl, M.le.tup hp, hz, SO.pure M k rz q⟩)
  · cases tx with
    | str h1 =>
      cases ty
      obtain ⟨hl, c, hc, q⟩ := q
      refine .inr ⟨_, _, c, rfl, rfl, hl, hc, SO.pure M k (.str ?_) q⟩
      refine okS_iff.mpr fun c' h' => ?_
      have e : c' = c := by simpa using h'
      rw [e]
      exact okS_iff.mp h1 _ (atI_mem hc)
  · exact q.elim
/-! ### slices -/
abbrev DTO := En → Me → (Option Int → Me → Prop) → QX → Prop
structure DO (X : Cx) (E : XK) (e : Option Expr) (T : DTO) : Prop where
  ex : ∃ t, PO X e t ∧ ∀ B μ en m σ H (Q : Option Int → Me → Prop) (Qx : QX) (QV : Option Int → Hp → Prop), Rel X.K B μ en m σ H → ExOf X.K E B μ m H Qx → T en m Q Qx →
    (∀ B' μ' m' H' b, Stp B μ m H B' μ' m' H' → Rel X.K B' μ' en m' σ H' → Q b m' → QV b H') → t σ H QV
def tNoP : DTO := fun _ m Q _ => Q none m
def iD : W → (Int → Prop) → Prop
  | .v (.int i), Q => Q i
  | _, _ => False
def tSoP (te : DTE) : DTO := fun en m Q Qx => te en m (fun x m1 => iD x fun i => Q (some i) m1) Qx
theorem iD_ok {K : Frag} {B : Hp} {μ : List Addr} {v : V} {x : W} {Q : Int → Prop} (r : RW K B μ v x) (q : iD x Q) : ∃ i, v = .int i ∧ Q i := by
  unfold iD at q
  split at q
  · cases (show Rv K B v (.int _) from r)
    exact ⟨_, rfl, q⟩
  · exact q.elim
theorem do_none : DO X E none tNoP := ⟨_, po_none, fun B μ en m σ H Q Qx QV R hx T k => k B μ m H none .refl R T⟩
theorem do_some {e : Expr} {te : DTE} (h : DE X E e te) : DO X E (some e) (tSoP te) := by
  obtain ⟨t1, p1, k1⟩ := h.ex
  refine ⟨_, po_some p1, fun B μ en m σ H Q Qx QV R hx T k => ?_⟩
  refine k1 B μ en m σ H _ Qx _ R hx T fun B1 μ1 m1 H1 x v s1 R1 r q => ?_
  obtain ⟨i, rfl, q⟩ := iD_ok r q
  exact ⟨i, rfl, k B1 μ1 m1 H1 _ s1 R1 q⟩
def cutD (xs : List D) (lo hi : Option Int) : List D := (xs.drop (HT.sIx xs.length 0 lo)).take (HT.sIx xs.length xs.length hi - HT.sIx xs.length 0 lo)
theorem cut_d {K : Frag} {B : Hp} {vs : List V} {ds : List D} (r : RvL K B vs ds) (lo hi : Option Int) : RvL K B (cutV vs lo hi) (cutD ds lo hi) := by
  unfold cutV cutD
  rw [r.len]
  exact (r.drop _).take _
def slD (lo hi : Option Int) : D → (D → Prop) → Prop
  | .lst ds, Q => Q (.lst (cutD ds lo hi))
  | .tup ds, Q => Q (.tup (cutD ds lo hi))
  | .str x, Q => x.length ≤ sizeLine ∧ Q (.str (Txt.slice x lo hi))
  | _, _ => False
theorem okS_slice {x : Str} {lo hi : Option Int} (h : okS x = true) : okS (Txt.slice x lo hi) = true := by
  rw [← C8.cutS_slice]
  refine okS_iff.mpr fun c hc => okS_iff.mp h c ?_
  unfold cutS at hc
  simp only at hc
  exact List.mem_of_mem_drop (List.mem_of_mem_take hc)
def tSlD (te : DTE) (tl th : DTO) : DTE := fun en m Q Qx => te en m (fun x m1 => tl en m1 (fun l m2 => th en m2 (fun u m3 => look x m3 fun d => slD l u d fun r => Q (.v r) m3) Qx) Qx) Qx
theorem d_slice {e : Expr} {lo hi : Option Expr} {te : DTE} {tl th : DTO} {p2 pos : Pos} (he : DE X E e te) (hl : DO X E lo tl) (hh : DO X E hi th) : DE X E (.Subscript e (.Slice lo hi none p2) pos) (tSlD te tl th) := by
  obtain ⟨t1, p1, k1⟩ := he.ex
  obtain ⟨t2, p2, k2⟩ := hl.ex
  obtain ⟨t3, p3, k3⟩ := hh.ex
  refine ⟨_, pe_slice ((SlR.or sl_list sl_tupA).or C8.sl_txt) p1 p2 p3, fun B μ en m σ H Q Qx QV R hx T k => ?_⟩
  refine k1 B μ en m σ H _ Qx _ R hx T fun B1 μ1 m1 H1 x v s1 R1 r T1 => ?_
  refine k2 B1 μ1 en m1 σ H1 _ Qx _ R1 (hx.step s1 R1.mem R.mem.le) T1 fun B2 μ2 m2 H2 l s2 R2 T2 => ?_
  have s12 := s1.trans R1.mem s2 R.mem.le
  refine k3 B2 μ2 en m2 σ H2 _ Qx _ R2 (hx.step s12 R2.mem R.mem.le) T2 fun B3 μ3 m3 H3 u s3 R3 T3 => ?_
  have s13 := s12.trans R2.mem s3 R.mem.le
  obtain ⟨d, tx, q⟩ := look_ok R3.mem ((r.to s2.same s2.pre).to s3.same s3.pre) T3
  have fin : ∀ B' H' d z, Stp B3 μ3 m3 H3 B' μ3 m3 H' → MemOk X.K B' μ3 m3 H' → Rv X.K B' z d → Q (.v d) m3 → QV z H' := fun B' H' d z s' M' rz q => by
    have st := s13.trans R3.mem s' R.mem.le
    exact k B' μ3 m3 H' (.v d) z st (R.stp st M') rz q
  cases d with
  | lst ds =>
    obtain ⟨p, vs, rfl, hp, rl⟩ := tx
    exact .inl (.inl ⟨p, vs, rfl, .inl (.inl hp), fun p np => SO.new (Q := fun d => Q (.v d) m3) R3.mem fin np (new_lst R3.mem np (cut_d rl l u)) q⟩)
  | tup ds =>
    obtain ⟨p, vs, rfl, hp, rl⟩ := tx
    refine .inl (.inr ⟨p, vs, rfl, R3.mem.le.tup hp, fun hw => ?_, fun _ p np => SO.new (Q := fun d => Q (.v d) m3) R3.mem fin np (new_tup R3.mem np (cut_d rl l u)) q⟩)
    have e : cutD ds l u = ds := by
      unfold cutD
      rw [← rl.len, hw.1, hw.2, List.drop_zero, Nat.sub_zero, List.take_of_length_le (by rw [rl.len]; exact Nat.le_refl _)]
    have q : Q (.v (.tup (cutD ds l u))) m3 := q
    rw [e] at q
    exact SO.pure (Q := fun d => Q (.v d) m3) R3.mem fin (.tup hp rl) q
  | str z =>
    cases tx with
    | str h1 => exact .inr ⟨_, rfl, q.1, SO.pure (Q := fun d => Q (.v d) m3) R3.mem fin (.str (okS_slice h1)) q.2⟩
  | _ => exact q.elim
end
/-! ### calls of built-in functions -/
abbrev DCa := List W → Me → (D → Prop) → Prop
def SC (X : Cx) (r : List V → Hp → VK → Prop) (o : DCa) : Prop := ∀ B μ m H xs vs (Q : D → Prop) (QV : VK), MemOk X.K B μ m H → RWs X.K B μ vs xs → o xs m Q →
  (∀ B' H' d z, Stp B μ m H B' μ m H' → MemOk X.K B' μ m H' → Rv X.K B' z d → Q d → QV z H') → r vs H QV
def tCa (o : DCa) (ta : DTA) : DTE := fun en m Q Qx => ta en m (fun xs m1 => o xs m1 fun d => Q (.v d) m1) Qx
section
variable {X : Cx} {E : XK} {x : Str} {e : Expr} {es : List Expr} {p pos : Pos} {ta : DTA} {o : DCa} {r : List V → Hp → VK → Prop}
theorem SA.ca {t : TA} (h : SA X E t ta) (so : SC X r o) : SE X E (fun σ H Q => t σ H fun xs H1 => r xs H1 Q) (tCa o ta) := by
  intro B μ en m σ H Q Qx QV R hx T k
  refine h B μ en m σ H _ Qx _ R hx T fun B1 μ1 m1 H1 xs vs s1 R1 r1 q => ?_
  refine so B1 μ1 m1 H1 xs vs _ _ R1.mem r1 q fun B2 H2 d z s2 M2 rz q2 => ?_
  have st := s1.trans R1.mem s2 R.mem.le
  exact k B2 μ1 m1 H2 (.v d) z st (R.stp st M2) rz q2
theorem d_fn {id : String} (hc : CallR X (.builtin id) r) (so : SC X r o) (hm : X.mg x = none) (hv : bootBuiltins x = some (.builtin id)) (ha : DA X E (e :: es) ta) (hg : Gl X x := by rfl) (hn : x ≠ "__name__" := by decide) (hdb : (x == ("__debug__" : Str)) = false := by decide)
    (he : starEach (e :: es) X.env = (false, eval e X.env) :: starEach es X.env := by rfl) (hpl : (backTo pos (starEach es X.env)).any (·.1) = false := by rfl) :
    DE X E (.Call (.Name x p) (e :: es) [] pos) (tCa o ta) := by
  obtain ⟨t1, p1, k1⟩ := ha.ex
  exact ⟨_, pe_callB hc hg hm hv p1 hn hdb he hpl, k1.ca so⟩
theorem d_tyc {T : String} (hc : CallR X (.type T) r) (so : SC X r o) (hm : X.mg x = none) (hv : bootBuiltins x = some (.type T)) (ha : DA X E (e :: es) ta) (hg : Gl X x := by rfl) (hn : x ≠ "__name__" := by decide) (hdb : (x == ("__debug__" : Str)) = false := by decide)
    (he : starEach (e :: es) X.env = (false, eval e X.env) :: starEach es X.env := by rfl) (hpl : (backTo pos (starEach es X.env)).any (·.1) = false := by rfl) :
    DE X E (.Call (.Name x p) (e :: es) [] pos) (tCa o ta) := by
  obtain ⟨t1, p1, k1⟩ := ha.ex
  exact ⟨_, pe_callTy hc hg hm hv p1 hn hdb he hpl, k1.ca so⟩
theorem CallR.or {f : Value} {r r' : List V → Hp → VK → Prop} (h : CallR X f r) (h' : CallR X f r') : CallR X f (fun xs H Q => r xs H Q ∨ r' xs H Q) := by
  intro pins s σ H xs us Q I rx q
  rcases q with q | q
  · exact h pins s σ H xs us Q I rx q
  · exact h' pins s σ H xs us Q I rx q
/-- of one argument, by what it shows -/
def c1 (f : D → (D → Prop) → Prop) : DCa := fun xs m Q => match xs with
  | [x] => look x m fun d => f d Q
  | _ => False
theorem SC.of1 {f : D → (D → Prop) → Prop} (h : ∀ B μ m H v d (Q : D → Prop) (QV : VK), MemOk X.K B μ m H → Top X.K B H v d → f d Q →
    (∀ B' H' d z, Stp B μ m H B' μ m H' → MemOk X.K B' μ m H' → Rv X.K B' z d → Q d → QV z H') → r [v] H QV) : SC X r (c1 f) := by
  intro B μ m H xs vs Q QV M rs q k
  cases rs with
  | nil => exact q.elim
  | cons a t =>
    cases t with
    | cons _ _ => exact q.elim
    | nil =>
      obtain ⟨d, td, q⟩ := look_ok M a q
      exact h B μ m H _ d Q QV M td q k
def c2 (f : F2) : DCa := fun xs m Q => match xs with
  | [x, y] => look x m fun d => look y m fun e => f d e Q
  | _ => False
theorem SC.of2 {f : F2} (h : ∀ B μ m H v u d e (Q : D → Prop) (QV : VK), MemOk X.K B μ m H → Top X.K B H v d → Top X.K B H u e → f d e Q →
    (∀ B' H' d z, Stp B μ m H B' μ m H' → MemOk X.K B' μ m H' → Rv X.K B' z d → Q d → QV z H') → r [v, u] H QV) : SC X r (c2 f) := by
  intro B μ m H xs vs Q QV M rs q k
  cases rs with
  | nil => exact q.elim
  | cons a t =>
    cases t with
    | nil => exact q.elim
    | cons b t =>
      cases t with
      | cons _ _ => exact q.elim
      | nil =>
        obtain ⟨d, td, q⟩ := look_ok M a q
        obtain ⟨e, te, q⟩ := look_ok M b q
        exact h B μ m H _ _ d e Q QV M td te q k
/-! len -/
def lenD : D → (D → Prop) → Prop
  | .lst ds, Q => Q (.int ds.length)
  | .tup ds, Q => Q (.int ds.length)
  | .str x, Q => x.length ≤ sizeLine ∧ Q (.int x.length)
  | .dic ds, Q => Q (.int ds.length)
  | _, _ => False
/-- len of a dict, locked or not -/
theorem call_lenF : CallR X (.builtin "len") (fun xs H Q => ∃ d kvs, xs = [.ref d] ∧ Rd H d (.dK kvs) ∧ Q (.int kvs.length) H) := by
  intro pins s σ H xs us Q I r h
  obtain ⟨d, kvs, rfl, hd, q⟩ := h
  obtain ⟨u, rfl, rx⟩ := vals1 r
  cases rx
  obtain ⟨z, dd, vs, rel, hD⟩ := (show ObjOk X.prog X.w H s.heap d (.dK kvs) from hd.ok I.hok)
  have hl := line63
  have hs : sizeLine = 16777216 := sizeLine_eq
  have rl := rel.length
  refine call_len_dict dd hD (by omega) ?_
  exact ⟨.int _, H, I.tok _, ⟨_, by rw [← rl]⟩, q⟩
theorem c_len : SC X (fun xs H Q => (∃ p ys, xs = [.ref p] ∧ (SqL X.K H p ys ∨ SqT X.K H p ys) ∧ Q (.int ys.length) H) ∨ (∃ z, xs = [.str z] ∧ z.length ≤ sizeLine ∧ Q (.int z.length) H) ∨ (∃ d kvs, xs = [.ref d] ∧ Rd H d (.dK kvs) ∧ Q (.int kvs.length) H)) (c1 lenD) := SC.of1 fun B μ m H v d Q QV M td q k => by
  cases d with
  | lst ds =>
    obtain ⟨p, vs, rfl, hp, r⟩ := td
    exact .inl ⟨p, vs, rfl, .inl (.inl (.inl hp)), SO.pure M k (.int _) (by rw [r.len]; exact q)⟩
  | tup ds =>
    obtain ⟨p, vs, rfl, hp, r⟩ := td
    exact .inl ⟨p, vs, rfl, .inr (M.le.tup hp), SO.pure M k (.int _) (by rw [r.len]; exact q)⟩
  | str x =>
    cases td
    exact .inr (.inl ⟨_, rfl, q.1, SO.pure M k (.int _) q.2⟩)
  | dic ds =>
    obtain ⟨p, vs, rfl, hp, r⟩ := td
    exact .inr (.inr ⟨p, vs, rfl, hp, SO.pure M k (.int _) (by rw [r.len]; exact q)⟩)
  | _ => exact q.elim
theorem cr_len : CallR X (.builtin "len") (fun xs H Q => (∃ p ys, xs = [.ref p] ∧ (SqL X.K H p ys ∨ SqT X.K H p ys) ∧ Q (.int ys.length) H) ∨ (∃ z, xs = [.str z] ∧ z.length ≤ sizeLine ∧ Q (.int z.length) H) ∨ (∃ d kvs, xs = [.ref d] ∧ Rd H d (.dK kvs) ∧ Q (.int kvs.length) H)) := call_len_seq.or (call_len_str.or call_lenF)
theorem d_len (hm : X.mg "len" = none) (ha : DA X E [e] ta) (hg : Gl X "len" := by rfl) (he : starEach [e] X.env = (false, eval e X.env) :: starEach [] X.env := by rfl) (hpl : (backTo pos (starEach [] X.env)).any (·.1) = false := by rfl) : DE X E (.Call (.Name "len" p) [e] [] pos) (tCa (c1 lenD) ta) :=
  d_fn cr_len c_len hm PySem.boot_len ha hg (by decide) (by decide) he hpl
/-! int(x), str(i), abs -/
def intD : D → (D → Prop) → Prop
  | .int i, Q => Q (.int i)
  | .bl b, Q => Q (.int (if b then 1 else 0))
  | .str x, Q => ∃ n, PySem.intText? x = some n ∧ x.length ≤ 640 ∧ Q (.int n)
  | _, _ => False
theorem c_int : SC X (fun xs H Q => ((∃ i, xs = [.int i] ∧ Q (.int i) H) ∨ ∃ k, xs = [.bl k] ∧ Q (.int (if k then 1 else 0)) H) ∨ (∃ a n, xs = [.str a] ∧ PySem.intText? a = some n ∧ a.length ≤ 640 ∧ Q (.int n) H)) (c1 intD) := SC.of1 fun B μ m H v d Q QV M td q k => by
  cases d with
  | int i => cases td; exact .inl (.inl ⟨_, rfl, SO.pure M k (.int _) q⟩)
  | bl i => cases td; exact .inl (.inr ⟨_, rfl, SO.pure M k (.int _) q⟩)
  | str x =>
    cases td
    obtain ⟨n, h1, h2, q⟩ := q
    exact .inr ⟨_, n, rfl, h1, h2, SO.pure M k (.int _) q⟩
  | _ => exact q.elim
theorem d_toInt (hm : X.mg "int" = none) (ha : DA X E [e] ta) (hg : Gl X "int" := by rfl) (he : starEach [e] X.env = (false, eval e X.env) :: starEach [] X.env := by rfl) (hpl : (backTo pos (starEach [] X.env)).any (·.1) = false := by rfl) : DE X E (.Call (.Name "int" p) [e] [] pos) (tCa (c1 intD) ta) :=
  d_tyc (call_int1.or call_int_str) c_int hm (by decide +kernel) ha hg (by decide) (by decide) he hpl
theorem char_lt (c : Char) : c.toNat < 0x110000 := by
  have h := c.valid
  unfold UInt32.isValidChar Nat.isValidChar at h
  show c.val.toNat < 0x110000
  omega
theorem okS_ofString (z : String) : okS (Str.ofString z) = true := by
  rw [Str.ofString_eq_toList]
  refine okS_iff.mpr fun c hc => ?_
  simp only [List.mem_map] at hc
  obtain ⟨d, _, rfl⟩ := hc
  exact char_lt d
theorem okS_int (i : Int) : okS (toString i : Str) = true := okS_ofString _
def strD : D → (D → Prop) → Prop
  | .int i, Q => i.natAbs.log2 < 1920 ∧ Q (.str (toString i))
  | .str x, Q => Q (.str x)
  | _, _ => False
theorem c_str : SC X (fun xs H Q => (∃ i, xs = [.int i] ∧ i.natAbs.log2 < 1920 ∧ Q (.str (toString i)) H) ∨ (∃ a, xs = [.str a] ∧ Q (.str a) H)) (c1 strD) := SC.of1 fun B μ m H v d Q QV M td q k => by
  cases d with
  | int i => cases td; exact .inl ⟨_, rfl, q.1, SO.pure M k (.str (okS_int i)) q.2⟩
  | str i => cases td with
    | str h => exact .inr ⟨_, rfl, SO.pure M k (.str h) q⟩
  | _ => exact q.elim
theorem d_toStr (hm : X.mg "str" = none) (ha : DA X E [e] ta) (hg : Gl X "str" := by rfl) (he : starEach [e] X.env = (false, eval e X.env) :: starEach [] X.env := by rfl) (hpl : (backTo pos (starEach [] X.env)).any (·.1) = false := by rfl) : DE X E (.Call (.Name "str" p) [e] [] pos) (tCa (c1 strD) ta) :=
  d_tyc (call_str_int.or SkE.call_str_str) c_str hm (by decide +kernel) ha hg (by decide) (by decide) he hpl
def absD : D → (D → Prop) → Prop
  | .int i, Q => Q (.int (i.natAbs : Nat))
  | _, _ => False
theorem d_abs (hm : X.mg "abs" = none) (ha : DA X E [e] ta) (hg : Gl X "abs" := by rfl) (he : starEach [e] X.env = (false, eval e X.env) :: starEach [] X.env := by rfl) (hpl : (backTo pos (starEach [] X.env)).any (·.1) = false := by rfl) : DE X E (.Call (.Name "abs" p) [e] [] pos) (tCa (c1 absD) ta) :=
  d_fn call_abs (SC.of1 fun B μ m H v d Q QV M td q k => by
    cases d with
    | int i =>
      cases td
      have e : (if i < 0 then -i else i) = ((i.natAbs : Nat) : Int) := by split <;> omega
      exact ⟨_, rfl, by rw [e]; exact SO.pure M k (.int _) q⟩
    | _ => exact q.elim) hm (by decide +kernel) ha hg (by decide) (by decide) he hpl
/-! list(x), tuple(x) -/
def toLst : D → (D → Prop) → Prop
  | .lst ds, Q => Q (.lst ds)
  | .tup ds, Q => Q (.lst ds)
  | _, _ => False
theorem d_list (hm : X.mg "list" = none) (ha : DA X E [e] ta) (hg : Gl X "list" := by rfl) (he : starEach [e] X.env = (false, eval e X.env) :: starEach [] X.env := by rfl) (hpl : (backTo pos (starEach [] X.env)).any (·.1) = false := by rfl) : DE X E (.Call (.Name "list" p) [e] [] pos) (tCa (c1 toLst) ta) :=
  d_tyc call_list_of (SC.of1 fun B μ m H v d Q QV M td q k => by
    cases d with
    | lst ds =>
      obtain ⟨p, vs, rfl, hp, r⟩ := td
      exact ⟨p, vs, rfl, .inl (.inl (.inl hp)), fun l nl => SO.new M k nl (new_lst M nl r) q⟩
    | tup ds =>
      obtain ⟨p, vs, rfl, hp, r⟩ := td
      exact ⟨p, vs, rfl, .inr (M.le.tup hp), fun l nl => SO.new M k nl (new_lst M nl r) q⟩
    | _ => exact q.elim) hm (by decide +kernel) ha hg (by decide) (by decide) he hpl
def toTup : D → (D → Prop) → Prop
  | .lst ds, Q => Q (.tup ds)
  | .tup ds, Q => Q (.tup ds)
  | _, _ => False
theorem d_tuple (hm : X.mg "tuple" = none) (ha : DA X E [e] ta) (hg : Gl X "tuple" := by rfl) (he : starEach [e] X.env = (false, eval e X.env) :: starEach [] X.env := by rfl) (hpl : (backTo pos (starEach [] X.env)).any (·.1) = false := by rfl) : DE X E (.Call (.Name "tuple" p) [e] [] pos) (tCa (c1 toTup) ta) :=
  d_tyc call_tuple_of (SC.of1 fun B μ m H v d Q QV M td q k => by
    cases d with
    | lst ds =>
      obtain ⟨p, vs, rfl, hp, r⟩ := td
      exact ⟨p, vs, rfl, .inl ⟨.inl (.inl hp), fun l nl => SO.new M k nl (new_tup M nl r) q⟩⟩
    | tup ds =>
      obtain ⟨p, vs, rfl, hp, r⟩ := td
      exact ⟨p, vs, rfl, .inr ⟨M.le.tup hp, SO.pure M k (.tup hp r) q⟩⟩
    | _ => exact q.elim) hm (by decide +kernel) ha hg (by decide) (by decide) he hpl
/-! all, any, sum -/
def bools : List D → (List Bool → Prop) → Prop
  | [], Q => Q []
  | .bl b :: r, Q => bools r fun bs => Q (b :: bs)
  | _ :: _, _ => False
theorem bools_ok {K : Frag} {B : Hp} : ∀ {ds : List D} {vs : List V} {Q : List Bool → Prop}, RvL K B vs ds → bools ds Q → ∃ bs, vs = bs.map V.bl ∧ Q bs
  | [], _, _, .nil, q => ⟨[], rfl, q⟩
  | .bl b :: r, _, Q, .cons a t, q => by
    cases a
    obtain ⟨bs, rfl, k⟩ := bools_ok (Q := fun bs => Q (b :: bs)) t q
    exact ⟨b :: bs, rfl, k⟩
  | .non :: _, _, _, _, q => q.elim
  | .int _ :: _, _, _, _, q => q.elim
  | .str _ :: _, _, _, _, q => q.elim
  | .ty _ :: _, _, _, _, q => q.elim
  | .fn _ :: _, _, _, _, q => q.elim
  | .tup _ :: _, _, _, _, q => q.elim
  | .lst _ :: _, _, _, _, q => q.elim
  | .dic _ :: _, _, _, _, q => q.elim
  | .obj _ _ :: _, _, _, _, q => q.elim
  | .exc _ _ :: _, _, _, _, q => q.elim
def blL (f : List Bool → Bool) : D → (D → Prop) → Prop
  | .lst ds, Q => bools ds fun bs => Q (.bl (f bs))
  | _, _ => False
theorem d_all (hc : X.calm = true) (hm : X.mg "all" = none) (ha : DA X E [e] ta) (hg : Gl X "all" := by rfl) (he : starEach [e] X.env = (false, eval e X.env) :: starEach [] X.env := by rfl) (hpl : (backTo pos (starEach [] X.env)).any (·.1) = false := by rfl) : DE X E (.Call (.Name "all" p) [e] [] pos) (tCa (c1 (blL fun bs => bs.all id)) ta) :=
  d_fn (cr_all hc) (SC.of1 fun B μ m H v d Q QV M td q k => by
    cases d with
    | lst ds =>
      obtain ⟨p, vs, rfl, hp, r⟩ := td
      obtain ⟨bs, rfl, q⟩ := bools_ok r q
      exact ⟨p, bs, rfl, .inl (.inl hp), SO.pure M k (.bl _) q⟩
    | _ => exact q.elim) hm (by decide +kernel) ha hg (by decide) (by decide) he hpl
theorem d_any (hc : X.calm = true) (hm : X.mg "any" = none) (ha : DA X E [e] ta) (hg : Gl X "any" := by rfl) (he : starEach [e] X.env = (false, eval e X.env) :: starEach [] X.env := by rfl) (hpl : (backTo pos (starEach [] X.env)).any (·.1) = false := by rfl) : DE X E (.Call (.Name "any" p) [e] [] pos) (tCa (c1 (blL fun bs => bs.any id)) ta) :=
  d_fn (cr_any hc) (SC.of1 fun B μ m H v d Q QV M td q k => by
    cases d with
    | lst ds =>
      obtain ⟨p, vs, rfl, hp, r⟩ := td
      obtain ⟨bs, rfl, q⟩ := bools_ok r q
      exact ⟨p, bs, rfl, .inl (.inl hp), SO.pure M k (.bl _) q⟩
    | _ => exact q.elim) hm (by decide +kernel) ha hg (by decide) (by decide) he hpl
end
end Fs
set_option Elab.async false
set_option linter.all false
set_option maxRecDepth 100000
set_option maxHeartbeats 8000000
namespace Fs
open PySem PySem.Spec PyProof.Rows L2
section
variable {X : Cx} {E : XK} {tg : Expr}
/-! ### iterables -/
def chD (x : Str) : List D := x.cps.toList.map fun c => .str ⟨#[c]⟩
theorem walkD_fn {K : Frag} {B0 : Hp} {J : It} {its : List D} {f : Nat → V} (w : Walk J its.length (fun _ => True) (YFn f)) (h : ∀ (i : Nat) (d : D), its[i]? = some d → Rv K B0 (f i) d) : WalkD K B0 J its :=
  ⟨_, _, w, fun _ _ _ _ _ _ => True.intro, fun i B μ mem H x H' hi s M ⟨y1, y2⟩ => by
    subst y1 y2
    exact ⟨B, its[i], List.getElem?_eq_getElem hi, .refl, M, (h i _ (List.getElem?_eq_getElem hi)).to s⟩⟩
theorem walkD_lst {K : Frag} {B0 : Hp} {a : Addr} {vs : List V} {ds : List D} (h : B0 a = some (.lst vs)) (r : RvL K B0 vs ds) : WalkD K B0 (Itl K a) ds := by
  refine ⟨fun H => SqL K H a vs, YAt vs, by rw [← r.len]; exact walk_list, fun B μ mem H s M => .inl (.inl (M.le _ _ (s _ _ h))), fun i B μ mem H x H' hi s M ⟨y1, y2⟩ => ?_⟩
  subst y1
  obtain ⟨d, hd, rd⟩ := r.at' y2
  exact ⟨B, d, hd, .refl, M, rd.to s⟩
theorem walkD_tup {K : Frag} {B0 : Hp} {a : Addr} {vs : List V} {ds : List D} (h : TqT K B0 a vs) (r : RvL K B0 vs ds) : WalkD K B0 (Itt K a) ds := by
  refine ⟨fun H => SqT K H a vs, YAt vs, by rw [← r.len]; exact walk_tup, fun B μ mem H s M => M.le.tup (TqT.to s h), fun i B μ mem H x H' hi s M ⟨y1, y2⟩ => ?_⟩
  subst y1
  obtain ⟨d, hd, rd⟩ := r.at' y2
  exact ⟨B, d, hd, .refl, M, rd.to s⟩
theorem walkD_str {K : Frag} {B0 : Hp} {x : Str} (h : okS x = true) : WalkD K B0 (Its x) (chD x) := by
  refine ⟨fun _ => True, fun i H v H' => H' = H ∧ ∃ c, x.cps[i]? = some c ∧ v = .str ⟨#[c]⟩, by unfold chD; rw [List.length_map, Array.length_toList]; exact walk_str, fun _ _ _ _ _ _ => True.intro, fun i B μ mem H y H' hi s M ⟨y1, c, hc, y2⟩ => ?_⟩
  subst y1 y2
  rw [← Array.getElem?_toList] at hc
  refine ⟨B, .str ⟨#[c]⟩, ?_, .refl, M, .str (okS_iff.mpr fun c' hc' => ?_)⟩
  · unfold chD
    rw [List.getElem?_map, hc]
    rfl
  · have e : c' = c := by simpa using hc'
    rw [e]
    exact okS_iff.mp h _ (List.mem_of_getElem? hc)
/-- a key as a datum -/
def kD : Key → D
  | .inl i => .int i
  | .inr x => .str x
/-- by what is walked, whatever it is -/
def iAny (K : Frag) (te : TE) : TI := fun σ H R => te σ H fun x H1 => (∃ a xs, x = .ref a ∧ SqL K H1 a xs ∧ R (Itl K a) H1) ∨ (∃ a xs, x = .ref a ∧ SqT K H1 a xs ∧ R (Itt K a) H1) ∨ (∃ z, x = .str z ∧ R (Its z) H1) ∨
  ∃ d o kvs, x = .ref d ∧ H1 d = some (.frz o (.dK kvs)) ∧ R (Itk d o kvs) H1
theorem pi_any {e : Expr} {te : TE} (he : PE X e te) : PI X tg e (iAny X.K te) := by
  refine ⟨fun pins s σ H R I h => ?_⟩
  refine thn (he.run pins s σ H _ I h) fun v s1 ⟨x, H1, I1, r1, q1⟩ => ?_
  rcases q1 with ⟨a, xs, rfl, hq, q⟩ | ⟨a, xs, rfl, hq, q⟩ | ⟨z, rfl, q⟩ | ⟨d, o, kvs, rfl, hd, q⟩
  · cases r1
    obtain ⟨its, rv, p, hz⟩ := I1.list hq
    exact wpAny_pyIter_list p.isList (pi_one (tk := s1.toks) I1 _ (turn_list a _) ⟨_, Heap.get?_push_size _ rfl, rfl, rfl⟩ q)
  · cases r1
    obtain ⟨its, rv, p, hz⟩ := I1.tuple hq
    exact wpAny_pyIter_tuple (show s1.heap.IsTuple a its.toArray from p) (pi_one (tk := s1.toks) I1 _ (turn_tuple a _) ⟨_, Heap.get?_push_size _ rfl, rfl, rfl⟩ q)
  · obtain ⟨t, rfl⟩ := r1
    cases ha : z.cps.all (· < 128)
    · exact wpAny_pyIter_wide ha (pi_one (tk := s1.toks) I1 _ (turn_str _ z t "str_iterator" (.inr rfl)) ⟨_, Heap.get?_push_size _ rfl, rfl, rfl⟩ q)
    · exact wpAny_pyIter_ascii ha (pi_one (tk := s1.toks) I1 _ (turn_str _ z t "str_ascii_iterator" (.inl rfl)) ⟨_, Heap.get?_push_size _ rfl, rfl, rfl⟩ q)
  · cases r1
    obtain ⟨hs, hgd, hx, es, ep, vs, hdt, hsz, kv, hm⟩ := I1.frzK hd
    refine iter_keys hs hgd hx hdt (pi_one (tk := s1.toks) I1 _ (turn_keys _ hdt) ⟨_, Heap.get?_push_size _ rfl, rfl, ?_⟩ q)
    rw [hsz] <;> rfl
def iterD : D → (List D → Prop) → Prop
  | .lst ds, Q => Q ds
  | .tup ds, Q => Q ds
  | .str x, Q => Q (chD x)
  | .dic kvs, Q => Q (kvs.map fun p => kD p.1)
  | _, _ => False
/-- an own list is walked as a datum alone -/
def tIt (te : DTE) : DTI := fun en m Q Qx => te en m (fun x m1 => oD x fun d => iterD d fun its => Q its m1) Qx
theorem kD_rv {K : Frag} {B : Hp} {k : Key} (h : KeyOk k) : Rv K B (kV k) (kD k) := by
  cases k with
  | inl i => exact .int i
  | inr x => exact .str h
theorem RvK.at' {K : Frag} {H : Hp} : ∀ {vs : List (Key × V)} {ds : List (Key × D)} {i : Nat} {k : Key} {v : V}, RvK K H vs ds → vs[i]? = some (k, v) → ∃ d, ds[i]? = some (k, d) ∧ Rv K H v d ∧ KeyOk k
  | _, _, _, _, _, .nil, e => by simp at e
  | _, _, 0, k, v, .cons (d := d) ko h _, e => by
    simp at e
    obtain ⟨rfl, rfl⟩ := e
    exact ⟨d, rfl, h, ko⟩
  | _, _, i + 1, k, v, .cons _ _ t, e => by
    obtain ⟨d, h1, h2⟩ := RvK.at' (i := i) (k := k) (v := v) t (by simpa using e)
    exact ⟨d, by simpa using h1, h2⟩
theorem walkD_keys {K : Frag} {B0 : Hp} {d : Addr} {o : Obj} {vs : List (Key × V)} {ds : List (Key × D)} (h : B0 d = some (.frz o (.dK vs))) (r : RvK K B0 vs ds) : WalkD K B0 (Itk d o vs) (ds.map fun p => kD p.1) := by
  refine ⟨fun H => H d = some (.frz o (.dK vs)), fun i H x H' => H' = H ∧ ∃ k v, vs[i]? = some (k, v) ∧ x = kV k, by rw [List.length_map, ← r.len]; exact walk_keys, fun B μ mem H s M => M.le _ _ (s _ _ h), fun i B μ mem H x H' hi s M ⟨y1, k, v, y2, y3⟩ => ?_⟩
  subst y1 y3
  obtain ⟨dd, hd, _, ko⟩ := r.at' y2
  exact ⟨B, kD k, by rw [List.getElem?_map, hd]; rfl, .refl, M, kD_rv ko⟩
theorem di_seq {e : Expr} {te : DTE} (he : DE X E e te) : DI X E tg e (tIt te) := by
  obtain ⟨t1, p1, k1⟩ := he.ex
  refine ⟨_, pi_any p1, fun B μ en m σ H Q Qx QV R hx T k => ?_⟩
  refine k1 B μ en m σ H _ Qx _ R hx T fun B1 μ1 m1 H1 x v s1 R1 r q => ?_
  cases x with
  | loc n => exact q.elim
  | v d =>
    cases r with
    | lst h rl => exact .inl ⟨_, _, rfl, .inl (.inl (R1.mem.le _ _ h)), k B1 μ1 m1 H1 _ _ s1 R1 (walkD_lst h rl) q⟩
    | tup h rl => exact .inr (.inl ⟨_, _, rfl, R1.mem.le.tup h, k B1 μ1 m1 H1 _ _ s1 R1 (walkD_tup h rl) q⟩)
    | str h => exact .inr (.inr (.inl ⟨_, rfl, k B1 μ1 m1 H1 _ _ s1 R1 (walkD_str h) q⟩))
    | dic h rl => exact .inr (.inr (.inr ⟨_, _, _, rfl, R1.mem.le _ _ h, k B1 μ1 m1 H1 _ _ s1 R1 (walkD_keys h rl) q⟩))
    | non => exact q.elim
    | bl _ => exact q.elim
    | int _ => exact q.elim
    | ty _ => exact q.elim
    | fn _ => exact q.elim
    | obj _ _ => exact q.elim
    | exc _ _ _ => exact q.elim
/-! range -/
def rngD (lo : Int) (n : Nat) : List D := (List.range n).map fun i => .int (lo + (i : Nat))
theorem walkD_range {K : Frag} {B0 : Hp} {lo : Int} {n : Nat} : WalkD K B0 (Itr lo n) (rngD lo n) := by
  refine walkD_fn (f := fun i => .int (lo + i)) (by unfold rngD; rw [List.length_map, List.length_range]; exact walk_range) fun i d h => ?_
  unfold rngD at h
  rw [List.getElem?_map] at h
  cases q : (List.range n)[i]? with
  | none => rw [q] at h; cases h
  | some j =>
    rw [q] at h
    have e : i = j := by
      have z := List.getElem?_range (n := n) (i := i) (by
        have := (List.getElem?_eq_some_iff.mp q).1
        simpa using this)
      rw [z] at q
      exact Option.some.inj q
    subst e
    cases h
    exact .int _
def rng1 : List W → (List D → Prop) → Prop
  | [.v (.int j)], Q => -(2 ^ 62) ≤ j ∧ j < 2 ^ 62 ∧ Q (rngD 0 j.toNat)
  | _, _ => False
def rng2 : List W → (List D → Prop) → Prop
  | [.v (.int i), .v (.int j)], Q => (-(2 ^ 62) ≤ i ∧ i < 2 ^ 62 ∧ -(2 ^ 62) ≤ j ∧ j < 2 ^ 62) ∧ Q (rngD i (j - i).toNat)
  | _, _ => False
def tRg (f : List W → (List D → Prop) → Prop) (ta : DTA) : DTI := fun en m Q Qx => ta en m (fun xs m1 => f xs fun its => Q its m1) Qx
theorem di_range1 {a : Expr} {ta : DTA} {p pos : Pos} (hm : X.mg "range" = none) (ha : DA X E [a] ta) (hg : Gl X "range" := by rfl) (hs : starEach [a] X.env = [(false, eval a X.env)] := by rfl) : DI X E tg (.Call (.Name "range" p) [a] [] pos) (tRg rng1 ta) := by
  obtain ⟨t1, p1, k1⟩ := ha.ex
  refine ⟨_, pi_range1 hg hm p1 hs, fun B μ en m σ H Q Qx QV R hx T k => ?_⟩
  refine k1 B μ en m σ H _ Qx _ R hx T fun B1 μ1 m1 H1 xs vs s1 R1 r q => ?_
  unfold rng1 at q
  split at q
  · cases r with
    | cons a t =>
      cases t
      cases a
      exact ⟨_, rfl, q.1, q.2.1, k B1 μ1 m1 H1 _ _ s1 R1 walkD_range q.2.2⟩
  · exact q.elim
theorem di_range2 {a b : Expr} {ta : DTA} {p pos : Pos} (hm : X.mg "range" = none) (ha : DA X E [a, b] ta) (hg : Gl X "range" := by rfl) (hs : starEach [a, b] X.env = [(false, eval a X.env), (false, eval b X.env)] := by rfl) (hs2 : starEach [b] X.env = [(false, eval b X.env)] := by rfl) : DI X E tg (.Call (.Name "range" p) [a, b] [] pos) (tRg rng2 ta) := by
  obtain ⟨t1, p1, k1⟩ := ha.ex
  refine ⟨_, pi_range2 hg hm p1 hs hs2, fun B μ en m σ H Q Qx QV R hx T k => ?_⟩
  refine k1 B μ en m σ H _ Qx _ R hx T fun B1 μ1 m1 H1 xs vs s1 R1 r q => ?_
  unfold rng2 at q
  split at q
  · cases r with
    | cons a t =>
      cases t with
      | cons b t =>
        cases t
        cases a
        cases b
        exact ⟨_, _, rfl, q.1, k B1 μ1 m1 H1 _ _ s1 R1 walkD_range q.2⟩
  · exact q.elim
/-! enumerate(list), zip(list, list) -/
theorem walkD_pair {K : Frag} {B0 : Hp} {J : It} {its : List D} {G : Hp → Prop} {f g : Nat → Option V} {n : Nat} (hn : n = its.length) (w : Walk J n G (YPair f g)) (hG : ∀ B μ mem H, Same B0 B → MemOk K B μ mem H → G H)
    (h : ∀ (i : Nat) x y, i < its.length → f i = some x → g i = some y → ∃ d e, its[i]? = some (.tup [d, e]) ∧ Rv K B0 x d ∧ Rv K B0 y e) : WalkD K B0 J its := by
  subst hn
  refine ⟨G, _, w, hG, fun i B μ mem H x H' hi s M ⟨T, a, b, e1, nT, e2, e3, e4⟩ => ?_⟩
  subst e1 e2
  obtain ⟨d, e, h1, h2, h3⟩ := h i a b hi e3 e4
  have st := Stp.laid M nT (o := .tup [a, b])
  exact ⟨_, .tup [d, e], h1, st, M.laid nT, .tup (.inl upd_same) (.cons (h2.to (s.trans st.same)) (.cons (h3.to (s.trans st.same)) .nil))⟩
def enumD : Nat → List D → List D
  | _, [] => []
  | i, d :: ds => .tup [.int i, d] :: enumD (i + 1) ds
theorem enumD_len : ∀ (i : Nat) (ds : List D), (enumD i ds).length = ds.length
  | _, [] => rfl
  | i, _ :: ds => congrArg Nat.succ (enumD_len (i + 1) ds)
theorem enumD_at : ∀ (i k : Nat) (ds : List D) (d : D), ds[k]? = some d → (enumD i ds)[k]? = some (.tup [.int ((i + k : Nat) : Int), d])
  | _, _, [], _, h => by simp at h
  | i, 0, d :: ds, e, h => by
    simp at h
    subst h
    rfl
  | i, k + 1, d :: ds, e, h => by
    have z := enumD_at (i + 1) k ds e (by simpa using h)
    show (enumD (i + 1) ds)[k]? = _
    rw [z]
    congr 4
    omega
def enuW : List W → (List D → Prop) → Prop
  | [.v (.lst ds)], Q => Q (enumD 0 ds)
  | _, _ => False
theorem di_enum {e : Expr} {ta : DTA} {elts : List Expr} {kk : Nat} {tpos p pos : Pos} (hm : X.mg "enumerate" = none) (ha : DA X E [e] ta) (hg : Gl X "enumerate" := by rfl) (hs : starEach [e] X.env = [(false, eval e X.env)] := by rfl) : DI X E (.Tuple elts kk tpos) (.Call (.Name "enumerate" p) [e] [] pos) (tRg enuW ta) := by
  obtain ⟨t1, p1, k1⟩ := ha.ex
  refine ⟨_, pi_enum hg hm p1 hs, fun B μ en m σ H Q Qx QV R hx T k => ?_⟩
  refine k1 B μ en m σ H _ Qx _ R hx T fun B1 μ1 m1 H1 xs vs s1 R1 r q => ?_
  unfold enuW at q
  split at q
  · rename_i ds
    cases r with
    | cons a t =>
      cases t
      cases (show Rv X.K B1 _ (.lst _) from a) with
      | lst h rl =>
        refine ⟨_, _, rfl, .inl (.inl (R1.mem.le _ _ h)), k B1 μ1 m1 H1 _ _ s1 R1 ?_ q⟩
        refine walkD_pair (by rw [enumD_len, ← rl.len]) walk_enum (fun B μ mem H s M => .inl (.inl (M.le _ _ (s _ _ h)))) fun i x y hi e1 e2 => ?_
        cases e1
        obtain ⟨d, hd, rd⟩ := rl.at' e2
        exact ⟨.int ((i : Nat) : Int), d, by rw [enumD_at 0 i _ d hd, Nat.zero_add], .int _, rd⟩
  · exact q.elim
def zipD : List D → List D → List D
  | a :: as, b :: bs => .tup [a, b] :: zipD as bs
  | _, _ => []
theorem zipD_len : ∀ (as bs : List D), (zipD as bs).length = min as.length bs.length
  | [], _ => by simp [zipD]
  | _ :: _, [] => by simp [zipD]
  | _ :: as, _ :: bs => by simp [zipD, zipD_len as bs]
theorem zipD_at : ∀ (k : Nat) (as bs : List D) (a b : D), as[k]? = some a → bs[k]? = some b → (zipD as bs)[k]? = some (.tup [a, b])
  | _, [], _, _, _, h, _ => by simp at h
  | _, _ :: _, [], _, _, _, h => by simp at h
  | 0, a :: as, b :: bs, x, y, h, h' => by
    simp at h h'
    subst h h'
    rfl
  | k + 1, _ :: as, _ :: bs, a, b, h, h' => by
    show (zipD as bs)[k]? = _
    exact zipD_at k as bs a b (by simpa using h) (by simpa using h')
def zipW : List W → (List D → Prop) → Prop
  | [.v (.lst as), .v (.lst bs)], Q => Q (zipD as bs)
  | _, _ => False
theorem di_zip {e e2 : Expr} {ta : DTA} {elts : List Expr} {kk : Nat} {tpos p pos : Pos} (hm : X.mg "zip" = none) (ha : DA X E [e, e2] ta) (hg : Gl X "zip" := by rfl) (hs : starEach [e, e2] X.env = (false, eval e X.env) :: starEach [e2] X.env := by rfl) (hpl : (backTo pos (starEach [e2] X.env)).any (·.1) = false := by rfl) : DI X E (.Tuple elts kk tpos) (.Call (.Name "zip" p) [e, e2] [] pos) (tRg zipW ta) := by
  obtain ⟨t1, p1, k1⟩ := ha.ex
  refine ⟨_, pi_zip hg hm p1 hs hpl, fun B μ en m σ H Q Qx QV R hx T k => ?_⟩
  refine k1 B μ en m σ H _ Qx _ R hx T fun B1 μ1 m1 H1 xs vs s1 R1 r q => ?_
  unfold zipW at q
  split at q
  · cases r with
    | cons a t =>
      cases t with
      | cons b t =>
        cases t
        cases (show Rv X.K B1 _ (.lst _) from a) with
        | lst h rl =>
          cases (show Rv X.K B1 _ (.lst _) from b) with
          | lst h2 rl2 =>
            refine ⟨_, _, _, _, rfl, .inl (.inl (R1.mem.le _ _ h)), .inl (.inl (R1.mem.le _ _ h2)), k B1 μ1 m1 H1 _ _ s1 R1 ?_ q⟩
            refine walkD_pair (by rw [zipD_len, ← rl.len, ← rl2.len]) (walk_zip rfl) (fun B μ mem H s M => ⟨.inl (.inl (M.le _ _ (s _ _ h))), .inl (.inl (M.le _ _ (s _ _ h2)))⟩) fun i x y hi e1 e2 => ?_
            obtain ⟨d, hd, rd⟩ := rl.at' e1
            obtain ⟨e, he, re⟩ := rl2.at' e2
            exact ⟨d, e, zipD_at i _ _ d e hd he, rd, re⟩
  · exact q.elim
/-! ### methods of texts -/
def isSt : W → Me → Prop
  | .v (.str _), _ => True
  | _, _ => False
theorem isSt_ok : STy X "str" isSt := by
  intro B μ m H x v M r q
  unfold isSt at q
  split at q
  · cases (show Rv X.K B v (.str _) from r)
    rfl
  · exact q.elim
/-- of a text and one argument -/
def m1 (f : Str → D → (D → Prop) → Prop) : DMt := fun x xs m Q => match x, xs with
  | .v (.str a), [y] => look y m fun d => f a d fun r => Q r m
  | _, _ => False
theorem SM.of1 {r : V → List V → Hp → VK → Prop} {f : Str → D → (D → Prop) → Prop} (h : ∀ B μ m H a v d (Q : D → Prop) (QV : VK), MemOk X.K B μ m H → okS a = true → Top X.K B H v d → f a d Q →
    (∀ B' H' d z, Stp B μ m H B' μ m H' → MemOk X.K B' μ m H' → Rv X.K B' z d → Q d → QV z H') → r (.str a) [v] H QV) : SM X r (m1 f) := by
  intro B μ m H x xs v vs Q QV M rx rs q k
  unfold m1 at q
  split at q
  · cases (show Rv X.K B v (.str _) from rx) with
    | str ho =>
      cases rs with
      | cons a t =>
        cases t
        obtain ⟨d, td, q⟩ := look_ok M a q
        exact h B μ m H _ _ d (fun r => Q r m) QV M ho td q fun B' H' d z s M' rz q' => k B' m H' d z s M' rz q'
  · exact q.elim
def texts : List D → (List Str → Prop) → Prop
  | [], Q => Q []
  | .str b :: r, Q => texts r fun bs => Q (b :: bs)
  | _ :: _, _ => False
theorem texts_ok {K : Frag} {B : Hp} : ∀ {ds : List D} {vs : List V} {Q : List Str → Prop}, RvL K B vs ds → texts ds Q → ∃ bs, vs = bs.map V.str ∧ (∀ b ∈ bs, okS b = true) ∧ Q bs
  | [], _, _, .nil, q => ⟨[], rfl, by simp, q⟩
  | .str b :: r, _, Q, .cons a t, q => by
    cases a with
    | str hb =>
      obtain ⟨bs, rfl, ho, k⟩ := texts_ok (Q := fun bs => Q (b :: bs)) t q
      exact ⟨b :: bs, rfl, by simp [hb, ho]; exact ho, k⟩
  | .non :: _, _, _, _, q => q.elim
  | .int _ :: _, _, _, _, q => q.elim
  | .bl _ :: _, _, _, _, q => q.elim
  | .ty _ :: _, _, _, _, q => q.elim
  | .fn _ :: _, _, _, _, q => q.elim
  | .tup _ :: _, _, _, _, q => q.elim
  | .lst _ :: _, _, _, _, q => q.elim
  | .dic _ :: _, _, _, _, q => q.elim
  | .obj _ _ :: _, _, _, _, q => q.elim
  | .exc _ _ :: _, _, _, _, q => q.elim
theorem jfold_cps : ∀ (sep : Str) (rest : List Str) (acc : Array Nat), (rest.foldl (fun acc p => acc ++ sep.cps ++ p.cps) acc).toList = acc.toList ++ rest.flatMap (fun p => sep.cps.toList ++ p.cps.toList)
  | _, [], acc => by simp
  | sep, p :: rest, acc => by
    rw [List.foldl_cons, jfold_cps sep rest]
    simp
theorem okS_join {sep : Str} (h : okS sep = true) : ∀ {zs : List Str}, (∀ z ∈ zs, okS z = true) → okS (Txt.join sep zs) = true
  | [], _ => okS_iff.mpr fun c hc => by
    have hc : c ∈ (#[] : Array Nat).toList := hc
    simp at hc
  | x :: rest, k => by
    refine okS_iff.mpr fun c hc => ?_
    have e : Txt.join sep (x :: rest) = (⟨rest.foldl (fun acc p => acc ++ sep.cps ++ p.cps) x.cps⟩ : Str) := rfl
    rw [e] at hc
    have hc : c ∈ (rest.foldl (fun acc p => acc ++ sep.cps ++ p.cps) x.cps).toList := hc
    rw [jfold_cps] at hc
    rcases List.mem_append.mp hc with hc | hc
    · exact okS_iff.mp (k x List.mem_cons_self) c hc
    · obtain ⟨p, hp, hc⟩ := List.mem_flatMap.mp hc
      rcases List.mem_append.mp hc with hc | hc
      · exact okS_iff.mp h c hc
      · exact okS_iff.mp (k p (List.mem_cons_of_mem _ hp)) c hc
def joinF : Str → D → (D → Prop) → Prop
  | a, .lst ds, Q => texts ds fun ys => (ys.map (·.length)).sum + ys.length * a.length ≤ 16777216 ∧ Q (.str (Txt.join a ys))
  | _, _, _ => False
theorem d_join {o e : Expr} {to : DTE} {ta : DTA} {apos cpos : Pos} (ho : DE X E o to) (ha : DA X E [e] ta)
    (hbase : attributeBase o "join" X.env (eval o X.env) = eval o X.env := by rfl)
    (hfew : ((backTo cpos (starEach [e] X.env)).all (fun x => !x.1) && (backToKw cpos (keywordEach [] X.env)).all (fun x => x.1.isSome)
      && decide ([e].length + ([] : List Keyword).length + (if ([] : List Keyword).isEmpty then 0 else 1) < 30)) = true := by rfl)
    (hline : (apos.endLine == cpos.line) = true := by rfl) (hs : starEach [e] X.env = (false, eval e X.env) :: starEach [] X.env := by rfl) (hplain : (backTo cpos (starEach [] X.env)).any (·.1) = false := by rfl) :
    DE X E (.Call (.Attribute o "join" apos) [e] [] cpos) (tMe isSt (m1 joinF) to ta) :=
  d_bm PySem.F.plainAttrs_str PySem.F.slot_str_join PySem.F.type_str_join mt_join (SM.of1 fun B μ m H a v d Q QV M ha td q k => by
    cases d with
    | lst ds =>
      obtain ⟨p, vs, rfl, hp, r⟩ := td
      obtain ⟨bs, rfl, ho, q1, q⟩ := texts_ok r q
      exact ⟨a, p, bs, rfl, rfl, .inl (.inl (.inl hp)), q1, SO.pure M k (.str (okS_join ha ho)) q⟩
    | _ => exact q.elim) isSt_ok ho ha hbase hfew hline hs hplain
/-! ### f-strings -/
inductive DJ (X : Cx) (E : XK) : List Expr → List DTE → Prop where
  | nil : DJ X E [] []
  | cons {e : Expr} {t : DTE} {es : List Expr} {ts : List DTE} (h : DE X E e t) (r : DJ X E es ts) : DJ X E (e :: es) (t :: ts)
def sD : W → (Str → Prop) → Prop
  | .v (.str x), Q => Q x
  | _, _ => False
theorem sD_ok {K : Frag} {B : Hp} {μ : List Addr} {v : V} {x : W} {Q : Str → Prop} (r : RW K B μ v x) (q : sD x Q) : ∃ z, v = .str z ∧ okS z = true ∧ Q z := by
  unfold sD at q
  split at q
  · cases (show Rv K B v (.str _) from r) with
    | str h => exact ⟨_, rfl, h, q⟩
  · exact q.elim
/-- the texts one behind the other -/
def tJo : List DTE → Str → En → Me → (Str → Me → Prop) → QX → Prop
  | [], acc, _, m, Q, _ => Q acc m
  | t :: ts, acc, en, m, Q, Qx => t en m (fun x m1 => sD x fun y => (acc ++ y).length ≤ sizeLine ∧ tJo ts (acc ++ y) en m1 Q Qx) Qx
theorem DJ.pj {es : List Expr} {ts : List DTE} (h : DJ X E es ts) : ∃ us, PJ X es us ∧ ∀ (acc : Str) B μ en m σ H (Q : Str → Me → Prop) (Qx : QX) (QV : Str → Hp → Prop), okS acc = true → Rel X.K B μ en m σ H → ExOf X.K E B μ m H Qx → tJo ts acc en m Q Qx →
    (∀ B' μ' m' H' z, okS z = true → Stp B μ m H B' μ' m' H' → Rel X.K B' μ' en m' σ H' → Q z m' → QV z H') → tJs us acc σ H QV := by
  induction h with
  | nil => exact ⟨[], .nil, fun acc B μ en m σ H Q Qx QV ho R hx T k => k B μ m H acc ho .refl R T⟩
  | cons h r ih =>
    obtain ⟨t1, p1, k1⟩ := h.ex
    obtain ⟨us, p2, k2⟩ := ih
    refine ⟨t1 :: us, .cons p1 p2, fun acc B μ en m σ H Q Qx QV ho R hx T k => ?_⟩
    refine k1 B μ en m σ H _ Qx _ R hx T fun B1 μ1 m1 H1 x v s1 R1 r q => ?_
    obtain ⟨z, rfl, hz, q1, q⟩ := sD_ok r q
    refine ⟨z, rfl, q1, k2 _ B1 μ1 en m1 σ H1 _ Qx _ (okS_app ho hz) R1 (hx.step s1 R1.mem R.mem.le) q fun B2 μ2 m2 H2 z2 h2 s2 R2 q2 => ?_⟩
    exact k B2 μ2 m2 H2 z2 h2 (s1.trans R1.mem s2 R.mem.le) R2 q2
def tJoin (ts : List DTE) : DTE := fun en m Q Qx => tJo ts Str.empty en m (fun z m1 => Q (.v (.str z)) m1) Qx
theorem okS_empty : okS Str.empty = true := okS_iff.mpr fun c hc => by
  have hc : c ∈ (#[] : Array Nat).toList := hc
  simp at hc
theorem d_joined {v1 v2 : Expr} {rest : List Expr} {ts : List DTE} {pos : Pos} (h : DJ X E (v1 :: v2 :: rest) ts) : DE X E (.JoinedStr (v1 :: v2 :: rest) pos) (tJoin ts) := by
  obtain ⟨us, p, k⟩ := h.pj
  refine ⟨_, pe_joined p, fun B μ en m σ H Q Qx QV R hx T kk => ?_⟩
  exact k Str.empty B μ en m σ H _ Qx _ okS_empty R hx T fun B' μ' m' H' z hz s R' q => kk B' μ' m' H' (.v (.str z)) _ s R' (RW.d (.str hz)) q
def tFm (te : DTE) : DTE := fun en m Q Qx => te en m (fun x m1 => match x with
  | .v (.str y) => y.length ≤ sizeLine ∧ Q (.v (.str y)) m1
  | .v (.int i) => i.natAbs.log2 < 1920 ∧ Q (.v (.str (toString i))) m1
  | _ => False) Qx
theorem d_fmt {e : Expr} {te : DTE} {pos : Pos} (he : DE X E e te) : DE X E (.FormattedValue e (-1) none pos) (tFm te) := by
  obtain ⟨t1, p1, k1⟩ := he.ex
  refine ⟨_, pe_fmt p1, fun B μ en m σ H Q Qx QV R hx T k => ?_⟩
  refine k1 B μ en m σ H _ Qx _ R hx T fun B1 μ1 m1 H1 x v s1 R1 r q => ?_
  split at q
  · cases (show Rv X.K B1 v (.str _) from r) with
    | str h => exact .inl ⟨_, rfl, q.1, k B1 μ1 m1 H1 _ _ s1 R1 (RW.d (.str h)) q.2⟩
  · cases (show Rv X.K B1 v (.int _) from r)
    exact .inr ⟨_, rfl, q.1, k B1 μ1 m1 H1 (.v (.str (toString _))) _ s1 R1 (RW.d (.str (okS_int _))) q.2⟩
  · exact q.elim
/-! ### isinstance with built-in types -/
def tyD' : D → Option String
  | .non => some "NoneType" | .bl _ => some "bool" | .int _ => some "int" | .str _ => some "str" | .lst _ => some "list" | .tup _ => some "tuple" | .dic _ => some "dict"
  | _ => none
def isTD : Tg → D → Bool
  | .list, .lst _ => true
  | .tuple, .tup _ => true
  | .dict, .dic _ => true
  | .bool, .bl _ => true
  | .int, .bl _ => true
  | .int, .int _ => true
  | .str, .str _ => true
  | _, _ => false
def tgS : String → Option Tg
  | "list" => some .list | "tuple" => some .tuple | "dict" => some .dict | "bool" => some .bool | "int" => some .int | "str" => some .str
  | _ => none
theorem tgS_nm {s : String} {t : Tg} (h : tgS s = some t) : s = t.nm := by
  unfold tgS at h
  split at h <;> cases h <;> rfl
theorem tyD_kit {d : D} {s : String} (h : tyD' d = some s) (t : Tg) : kitB s t.nm = some (isTD t d) := by
  cases d <;> cases h <;> cases t <;> simp only [Tg.nm, isTD] <;> decide +kernel
theorem Top.ty {K : Frag} {B H : Hp} (le : Le B H) {v : V} {d : D} {s : String} (t : Top K B H v d) (h : tyD' d = some s) : TyX K H v (.type s) := by
  cases d with
  | non => cases t; cases h; exact .base .non
  | bl b => cases t; cases h; exact .base (.bl b)
  | int b => cases t; cases h; exact .base (.int b)
  | str b => cases t; cases h; exact .base (.str b)
  | tup _ => obtain ⟨a, vs, rfl, hs, _⟩ := t; cases h; exact SqT.ty (le.tup hs)
  | lst _ => obtain ⟨a, vs, rfl, hs, _⟩ := t; cases h; exact .base (.lst hs)
  | dic _ =>
    obtain ⟨a, vs, rfl, hs, _⟩ := t
    cases h
    rcases hs with hs | ⟨o, hs⟩
    · exact .base (.dK hs)
    · exact .fDict hs
  | ty _ => cases h
  | fn _ => cases h
  | obj _ _ => cases h
  | exc _ _ => cases h
def isiD : F2 := fun d c Q => match c with
  | .ty n => (match tgS n with
    | some t => (tyD' d).isSome = true ∧ Q (.bl (isTD t d))
    | none => False)
  | _ => False
theorem c_isi : SC X (rIsi X.K) (c2 isiD) := SC.of2 fun B μ m H v u d e Q QV M td te q k => by
  unfold isiD at q
  cases e with
  | ty n =>
    cases te
    cases ht : tgS n with
    | none => simp only [ht] at q
    | some t =>
      simp only [ht] at q
      obtain ⟨s, hs⟩ := Option.isSome_iff_exists.mp q.1
      have en := tgS_nm ht
      subst en
      exact ⟨v, _, _, _, _, rfl, .ty _, Top.ty M.le td hs, kit_ty (tyD_kit hs t), SO.pure M k (.bl _) q.2⟩
  | _ => exact q.elim
theorem d_isi {e e2 : Expr} {ta : DTA} {p pos : Pos} (hm : X.mg "isinstance" = none) (ha : DA X E [e, e2] ta) (hg : Gl X "isinstance" := by rfl) (he : starEach [e, e2] X.env = (false, eval e X.env) :: starEach [e2] X.env := by rfl) (hpl : (backTo pos (starEach [e2] X.env)).any (·.1) = false := by rfl) : DE X E (.Call (.Name "isinstance" p) [e, e2] [] pos) (tCa (c2 isiD) ta) :=
  d_fn call_isi c_isi hm (by decide +kernel) ha hg (by decide) (by decide) he hpl
end
end Fs
set_option Elab.async false
set_option linter.all false
set_option maxRecDepth 100000
set_option maxHeartbeats 8000000
namespace Fs
open PySem PySem.Spec PyProof.Rows L2
theorem u64 {k : Nat} {A : Around} (r : Room k A) : A.units + 64 < cLine := r.units
theorem u65 {k : Nat} {A : Around} (r : Room k A) : A.units + 65 < cLine := by have := r.un; omega
section
variable {X : Cx} {E : XK}
theorem dv (i : Nat) {x : Str} {pos : Pos} (hN : X.N[i]? = some x := by rfl) (hv : Vis X.env.scope x := by first | exact Or.inl rfl | exact Or.inr (Or.inl rfl) | exact Or.inr (Or.inr rfl)) (hd : (x == ("__debug__" : Str)) = false := by decide)
    (hcd : (x == ("__classdict__" : Str)) = false := by decide) : DE X E (.Name x pos) (tV i) := d_var hN hv hd hcd
theorem o_mul : OpD X (binaryOp .Mult) (oL mulD) := by
  refine ⟨_, op_mulW.or op_rep, SO.of fun B μ m H v u dx dy Q QV M tx ty q k => ?_⟩
  unfold mulD at q
  split at q
  · cases tx
    cases ty
    exact .inl ⟨_, _, rfl, rfl, q.1, SO.pure M k (.int _) q.2⟩
  · obtain ⟨a, vs, rfl, h1, r1⟩ := tx
    cases ty
    obtain ⟨q0, q1, q2, q⟩ := q
    exact .inr ⟨a, _, vs, rfl, rfl, h1, by omega, by omega, by rw [r1.len]; exact q2, fun p np => SO.new M k np (new_lst M np (r1.rep _)) q⟩
  · exact q.elim
def powD : F2 := intF fun i j Q => CPow i j ∧ Q (.int (i ^ j.toNat))
theorem o_pow : OpD X (binaryOp .Pow) (oL powD) := ⟨_, op_pow, SO.of fun B μ m H v u dx dy Q QV M tx ty q k => by
  obtain ⟨i, j, rfl, rfl, q1, q⟩ := intF_ok tx ty q
  exact ⟨_, _, rfl, rfl, q1, SO.pure M k (.int _) q⟩⟩
def negD : W → (D → Prop) → Prop
  | .v (.int i), Q => Q (.int (-i))
  | _, _ => False
def tUnD (f : W → (D → Prop) → Prop) (ta : DTE) : DTE := fun en m Q Qx => ta en m (fun x m1 => f x fun d => Q (.v d) m1) Qx
theorem o_neg : ∃ r, UnR X (unaryOp .USub) r ∧ ∀ B μ m H x v (Q : D → Prop) (QV : VK), MemOk X.K B μ m H → RW X.K B μ v x → negD x Q → (∀ z d, Rv X.K B z d → Q d → QV z H) → r v H QV := ⟨_, un_neg, fun B μ m H x v Q QV M r q k => by
  unfold negD at q
  split at q
  · cases (show Rv X.K B v (.int _) from r)
    exact ⟨_, rfl, k _ _ (.int _) q⟩
  · exact q.elim⟩
theorem d_un {a : Expr} {ta : DTE} {pos : Pos} {op : UnaryOp} {f : W → (D → Prop) → Prop} (ho : ∃ r, UnR X (unaryOp op) r ∧ ∀ B μ m H x v (Q : D → Prop) (QV : VK), MemOk X.K B μ m H → RW X.K B μ v x → f x Q → (∀ z d, Rv X.K B z d → Q d → QV z H) → r v H QV) (ha : DE X E a ta) : DE X E (.UnaryOp op a pos) (tUnD f ta) := by
  obtain ⟨t1, p1, k1⟩ := ha.ex
  obtain ⟨r, h1, h2⟩ := ho
  refine ⟨_, pe_un h1 p1, fun B μ en m σ H Q Qx QV R hx T k => ?_⟩
  refine k1 B μ en m σ H _ Qx _ R hx T fun B1 μ1 m1 H1 x v s1 R1 r1 q => ?_
  exact h2 B1 μ1 m1 H1 x v _ _ R1.mem r1 q fun z d rz qd => k B1 μ1 m1 H1 (.v d) z s1 R1 (RW.d rz) qd
/-! name = [..] -/
theorem SE.lc {elt tg iter : Expr} {is : List Nat} {own : List (Str × Nat)} {ti : DTI} {g : DTG} {tt : DTT} {te : DTE} {t0 : TI} (p0 : PI X tg iter t0) (k0 : ∀ B μ en m σ H (Q : List D → Me → Prop) (Qx : QX) (QV : It → Hp → Prop), Rel X.K B μ en m σ H → ExOf X.K E B μ m H Qx → ti en m Q Qx →
    (∀ B' μ' m' H' its J, Stp B μ m H B' μ' m' H' → Rel X.K B' μ' en m' σ H' → WalkD X.K B' J its → Q its m' → QV J H') → t0 σ H QV) (hv : is.all (fun i => (own.map (·.2)).contains i) = true) :
    SE X E (tLc t0 (Fs.lG X.K is g) (Fs.lT X.K E0 tt) (Fs.lE X.K E0 te) (own.map (·.2))) (tLcD ti g tt te (own.map (·.2))) := by
  have hv' : ∀ i ∈ is, i ∈ own.map (·.2) := fun i h => List.contains_iff_mem.mp (List.all_eq_true.mp hv i h)
  intro B μ en m σ H Q Qx QV R hx T k
  refine k0 B μ en m σ H _ Qx _ R hx T fun B1 μ1 m1 H1 its J s1 R1 ⟨G, Y, w, hG, hY⟩ q => ?_
  intro L nL
  obtain ⟨nb1, nl1⟩ := R1.mem.none nL
  have Rw := R1.wipe (own.map (·.2))
  generalize hen : wipeE en (own.map (·.2)) = enw at q Rw
  refine lc_it w (fun i H' => ∃ B' μ' m' vs acc, Stp B1 μ1 m1 H1 B' μ' m' H' ∧ MemOk X.K B' μ' m' H' ∧ B' L = none ∧ ¬ Live μ' m' L ∧ H' L = some (.lst vs) ∧ RvL X.K B' vs acc ∧ lcL g tt te enw (its.drop i) acc m' Q) ?_ (fun i H' _ ⟨B', μ', m', vs, acc, s', M', _⟩ => hG B' μ' m' H' s'.same M') (fun i x H2 H3 hi ⟨B', μ', m', vs, acc, s', M', nb, nl, hL, rv, q'⟩ y => ?_) (fun H' ⟨B', μ', m', vs, acc, s', M', nb, nl, hL, rv, q'⟩ => ?_)
  · have kp : ∀ b o, b ≠ L → H1 b = some o → upd H1 L (.lst []) b = some o := fun b o c e => by rw [upd_ne c]; exact e
    exact ⟨B1, μ1, m1, [], [], Stp.refl.touch nL kp, R1.mem.touch nb1 nl1 kp, nb1, nl1, upd_same, .nil, q⟩
  · obtain ⟨B3, d, hd, s3, m3, rd⟩ := hY i B' μ' m' H2 x H3 hi s'.same M' y
    have s13 := s'.trans M' s3 R1.mem.le
    obtain ⟨nb3, nl3⟩ := s3.hid L _ nl hL ⟨(fun _ z => nomatch z), (fun _ z => nomatch z)⟩ nb
    have hL3 := s3.out L _ nl hL (fun _ z => nomatch z)
    have R3 : Rel X.K B3 μ' enw m' (L2.wipe σ (own.map (·.2))) H3 := Rw.stp s13 m3
    rw [List.drop_eq_getElem_cons hi] at q'
    have ed : its[i] = d := by
      rw [List.getElem?_eq_getElem hi] at hd
      exact Option.some.inj hd
    rw [ed] at q'
    refine ⟨B3, μ', enw, m', .v d, _, R3, rd, q', fun B4 μ4 en4 m4 σ4 H4 s4 R4 st4 q4 => ⟨by rw [st4.wipe hv', wipe_wipe], ?_⟩⟩
    have s14 := s13.trans m3 s4 R1.mem.le
    obtain ⟨nb4, nl4⟩ := s4.hid L _ nl3 hL3 ⟨(fun _ z => nomatch z), (fun _ z => nomatch z)⟩ nb3
    have hL4 := s4.out L _ nl3 hL3 (fun _ z => nomatch z)
    refine ⟨B4, μ4, en4, m4, _, noX, R4, ExOf.no, q4, fun B5 μ5 m5 H5 b s5 R5 q5 => ?_⟩
    have s15 := s14.trans R4.mem s5 R1.mem.le
    obtain ⟨nb5, nl5⟩ := s5.hid L _ nl4 hL4 ⟨(fun _ z => nomatch z), (fun _ z => nomatch z)⟩ nb4
    have hL5 := s5.out L _ nl4 hL4 (fun _ z => nomatch z)
    have rv5 := rv.to ((s3.same.trans s4.same).trans s5.same)
    cases b with
    | false => exact iteF ⟨B5, μ5, m5, vs, acc, s15, R5.mem, nb5, nl5, hL5, rv5, q5⟩
    | true =>
      refine iteT ⟨B5, μ5, en4, m5, _, noX, R5, ExOf.no, q5, fun B6 μ6 m6 H6 y v s6 R6 r6 q6 => ?_⟩
      cases y with
      | loc n => exact q6.elim
      | v dy =>
        obtain ⟨lz, q6⟩ := q6
        have s16 := s15.trans R5.mem s6 R1.mem.le
        obtain ⟨nb6, nl6⟩ := s6.hid L _ nl5 hL5 ⟨(fun _ z => nomatch z), (fun _ z => nomatch z)⟩ nb5
        have hL6 := s6.out L _ nl5 hL5 (fun _ z => nomatch z)
        have rv6 := rv5.to s6.same
        have kp : ∀ b o, b ≠ L → H6 b = some o → upd H6 L (.lst (vs ++ [v])) b = some o := fun b o c e => by rw [upd_ne c]; exact e
        exact ⟨vs, hL6, by rw [rv6.len]; exact lz, B6, μ6, m6, vs ++ [v], acc ++ [dy], s16.touch nL kp, R6.mem.touch nb6 nl6 kp, nb6, nl6, upd_same, rv6.append (.one r6), q6⟩
  · rw [List.drop_length] at q'
    have same : Same B' (upd B' L (.lst vs)) := same_new nb _
    have M2 : MemOk X.K (upd B' L (.lst vs)) μ' m' H' := by
      refine ⟨fun a o e => ?_, M'.len, fun a l => ?_, fun n a x e1 e2 e3 => OO.to same (List.prefix_refl _) (fun _ z => z) (M'.at_ n a x e1 e2 e3), M'.inj, fun a ps e => by
        by_cases c : a = L
        · subst c
          rw [upd_same] at e
          cases e
        · rw [upd_ne c] at e
          exact M'.ntb a ps e⟩
      · by_cases c : a = L
        · subst c
          rw [upd_same] at e
          cases e
          exact hL
        · rw [upd_ne c] at e
          exact M'.le a o e
      · have c : a ≠ L := fun z => by
          subst z
          exact nl l
        rw [upd_ne c]
        exact M'.off a l
    have st : Stp B1 μ1 m1 H1 (upd B' L (.lst vs)) μ' m' H' := ⟨s'.same.trans same, s'.pre, s'.out, fun a o n e x b => by
      obtain ⟨h1, h2⟩ := s'.hid a o n e x b
      refine ⟨?_, h2⟩
      rw [upd_ne (ne_of_none e nL)]
      exact h1⟩
    have stt := s1.trans R1.mem st R.mem.le
    exact k _ μ' m' H' _ _ stt (R.stp stt M2) (RW.d (.lst upd_same (rv.to same))) q'
theorem ds_setLc {i : Nat} {y : Str} {py : Pos} {elt tg iter : Expr} {ifs : List Expr} {scope : Scope} {own : List (Str × Nat)} {is : List Nat} {pos spos : Pos} {ti : DTI} {g : DTG} {tt : DTT} {te : DTE} (hy : X.N[i]? = some y) (hyl : X.env.scope.names.lookup y = some .local)
    (hsw : swapsWith (.ListComp elt [⟨tg, iter, ifs, 0⟩] scope pos) (some (.Name y py)) spos.line X.env = pure true) (hc : X.calm = true) (hN : X.N.Nodup) (hi : DI X E tg iter ti) (ok : BlkOk X.N X.env.scope scope own)
    (hg : ∀ (s : Shared) (H : Hp) (C : Addr) (cl : List (Str × Addr)) (fp : List Addr), DG (X.blk s H scope (compEnvC scope cl C X.env) fp) tg is g) (ht : ∀ (s : Shared) (H : Hp) (C : Addr) (cl : List (Str × Addr)) (fp : List Addr), DTs (X.blk s H scope (compEnvC scope cl C X.env) fp) E0 ifs tt)
    (he : ∀ (s : Shared) (H : Hp) (C : Addr) (cl : List (Str × Addr)) (fp : List Addr), DE (X.blk s H scope (compEnvC scope cl C X.env) fp) E0 elt te) (hs : ∀ x, foldedSetIterable iter X.env x = pure x := by intro _; rfl) (hv : is.all (fun i => (own.map (·.2)).contains i) = true := by rfl) :
    DS X E (.Assign [.Name y py] (.ListComp elt [⟨tg, iter, ifs, 0⟩] scope pos) spos) (sSet i (tLcD ti g tt te (own.map (·.2)))) := by
  obtain ⟨t0, p0, k0⟩ := hi.ex
  have se := SE.lc (elt := elt) (E := E) (g := g) (tt := tt) (te := te) (own := own) p0 k0 hv
  refine ⟨_, ps_setLc hc hN hy hyl hsw p0 ok (g := lG X.K is g) (tt := lT X.K E0 tt) (te := lE X.K E0 te) (fun s H C cl fp => (hg s H C cl fp).pg) (fun s H C cl fp => (ht s H C cl fp).pts) (fun s H C cl fp => (he s H C cl fp).pe) hs, fun B μ en m σ H N D R hx T e => ?_⟩
  exact se B μ en m σ H _ _ _ R hx T fun B1 μ1 m1 H1 x v s1 R1 r q => e.nx B1 μ1 _ m1 _ H1 s1 (R1.set r) q
/-! name op= e -/
abbrev DIp := W → W → Me → (D → Prop) → Prop
def sAug (i : Nat) (te : DTE) (o : DIp) : DTS := fun en m N => match En.get en i with
  | some x => te en m (fun y m1 => o x y m1 fun d => N.nx (List.set en i (some (.v d))) m1) N.xc
  | none => False
def IpD (X : Cx) (op : Operator) (o : DIp) : Prop := ∃ r : TIp, PIp X op r ∧ SO X r o
theorem ds_aug {i : Nat} {x : Str} {e : Expr} {te : DTE} {op : Operator} {o : DIp} {pos' pos : Pos} (hN : X.N.Nodup) (hi : X.N[i]? = some x) (hx : Loc X.env.scope x) (he : DE X E e te) (ho : IpD X op o) (hf : X.fn x = true ∨ X.env.scope.names.lookup x = some .local := by first | exact .inl rfl | exact .inr rfl | assumption) : DS X E (.AugAssign (.Name x pos') op e pos) (sAug i te o) := by
  obtain ⟨t1, p1, k1⟩ := he.ex
  obtain ⟨r, h1, h2⟩ := ho
  refine ⟨_, ps_aug hN hi hx p1 h1 hf, fun B μ en m σ H N D R hx T e => ?_⟩
  unfold sAug at T
  split at T
  · rename_i x hg
    obtain ⟨v, hv, rv⟩ := R.env i x (En.get_some hg)
    refine ⟨v, hv, k1 B μ en m σ H _ _ _ R hx T fun B1 μ1 m1 H1 y u s1 R1 ry q => ?_⟩
    refine h2 B1 μ1 m1 H1 x y v u _ _ R1.mem (rv.to s1.same s1.pre) ry q fun B2 H2 d z s2 M2 rz q2 => ?_
    have st := s1.trans R1.mem s2 R.mem.le
    exact e.nx B2 μ1 _ m1 _ H2 st ((R.stp st M2).set (RW.d rz)) q2
  · exact T.elim
theorem ia_add : IpD X .Add (oL (intF fun i j Q => Q (.int (i + j)))) := ⟨_, ip_add, SO.of fun B μ m H v u dx dy Q QV M tx ty q k => by
  obtain ⟨i, j, rfl, rfl, q⟩ := intF_ok tx ty q
  exact ⟨_, _, rfl, rfl, SO.pure M k (.int _) q⟩⟩
theorem ia_sub : IpD X .Sub (oL (intF fun i j Q => Q (.int (i - j)))) := ⟨_, ip_sub, SO.of fun B μ m H v u dx dy Q QV M tx ty q k => by
  obtain ⟨i, j, rfl, rfl, q⟩ := intF_ok tx ty q
  exact ⟨_, _, rfl, rfl, SO.pure M k (.int _) q⟩⟩
/-! isinstance(x, (S, T)) -/
def isi2D (s t : String) (d : D) (Q : D → Prop) : Prop := match tgS s, tgS t with
  | some a, some b => (tyD' d).isSome = true ∧ Q (.bl (isTD a d || isTD b d))
  | _, _ => False
def tIsi2 (s t : String) (te : DTE) : DTE := fun en m Q Qx => te en m (fun x m1 => look x m1 fun d => isi2D s t d fun r => Q (.v r) m1) Qx
theorem d_isi2 {e a b : Expr} {te : DTE} {s t : String} {p pos tpos : Pos} {k : Nat} (hm : X.mg "isinstance" = none) (he : DE X E e te) (hpa : PE X a (tC (.ty s))) (hpb : PE X b (tC (.ty t))) (hg : Gl X "isinstance" := by rfl)
    (hst : starEach [e, .Tuple [a, b] k tpos] X.env = (false, eval e X.env) :: starEach [.Tuple [a, b] k tpos] X.env := by rfl) (hst2 : starEach [.Tuple [a, b] k tpos] X.env = (false, eval (.Tuple [a, b] k tpos) X.env) :: starEach [] X.env := by rfl)
    (hpl : (backTo pos (starEach [.Tuple [a, b] k tpos] X.env)).any (·.1) = false := by rfl) (h1 : starEach [a, b] X.env = (false, eval a X.env) :: starEach [b] X.env := by rfl) (h2 : starEach [b] X.env = (false, eval b X.env) :: starEach [] X.env := by rfl) :
    DE X E (.Call (.Name "isinstance" p) [e, .Tuple [a, b] k tpos] [] pos) (tIsi2 s t te) := by
  obtain ⟨t1, p1, k1⟩ := he.ex
  refine ⟨_, pe_callB call_isiT hg hm (by decide +kernel) (pa_cons p1 (pa_cons (pe_tup (pa_cons hpa (pa_cons hpb pa_nil h2) h1)) pa_nil hst2) hst) (by decide) (by decide) hst hpl, fun B μ en m σ H Q Qx QV R hx T k => ?_⟩
  refine k1 B μ en m σ H _ Qx _ R hx T fun B1 μ1 m1 H1 x v s1 R1 r q => ⟨by show 2 ≤ sizeLine; decide, fun p np => ?_⟩
  have sl := Stp.laid R1.mem np (o := .tup [.ty s, .ty t])
  have ml := R1.mem.laid np (o := .tup [.ty s, .ty t])
  obtain ⟨d, td, q2⟩ := look_ok ml (r.to sl.same sl.pre) q
  unfold isi2D at q2
  split at q2
  · rename_i a' b' e1 e2
    obtain ⟨ts, hs⟩ := Option.isSome_iff_exists.mp q2.1
    have en1 := tgS_nm e1
    have en2 := tgS_nm e2
    subst en1 en2
    refine ⟨v, p, [.ty a'.nm, .ty b'.nm], .type ts, [.type a'.nm, .type b'.nm], isTD a' d || isTD b' d, rfl, upd_same, .cons (.ty _) (.cons (.ty _) .nil), Top.ty ml.le td hs, ?_, ?_⟩
    · refine kitAny_cons (kit_ty (tyD_kit hs a')) (fun e => ?_) (fun e => by rw [e]; rfl)
      rw [e, Bool.false_or]
      refine kitAny_cons (kit_ty (tyD_kit hs b')) (fun e => ?_) (fun e => e)
      rw [e]
      rfl
    · have st := s1.trans R1.mem sl R.mem.le
      exact k _ μ1 m1 _ (.v (.bl _)) _ st (R.stp st ml) (RW.d (.bl _)) q2.2
  · exact q2.elim
/-! calls without arguments, with keywords -/
section
variable {CX : CXT} {k : Nat} {x : Str} {ps : List Str} {sp : SpD} {e : Expr} {es : List Expr} {p pos : Pos} {ta : DTA}
theorem d_call0 (G : Gd X.prog X.w X.K X.mg X.base CX k x ps (lift X.K sp)) (hr : Room k X.A) (hx : Passes CX X E) (hg : Gl X x := by rfl) (hdb : (x == ("__debug__" : Str)) = false := by decide) : DE X E (.Call (.Name x p) [] [] pos) (tCal sp tN) := by
  obtain ⟨f, fd, a, b, c, F⟩ := G.ex
  refine ⟨_, pe_call0 F hr hg a b c .nil hx hdb, (SA.call (E := E) (dv := []) (dw := []) (ta := tN) (fun B μ en m σ H Q Qx QV R hx T k => k B μ m H [] [] .refl R .nil T) fun _ => .nil).imp fun en m Q Qx q => ?_⟩
  unfold tCal at q ⊢
  simpa using q
structure DK (X : Cx) (E : XK) (kws : List Keyword) (T : DTA) : Prop where
  ex : ∃ t, PK X kws t ∧ SA X E t T
def tCalk (n j : Nat) (sp : SpD) (g : List W → List W → List W) (ta tk : DTA) : DTE := fun en m Q Qx => ta en m (fun xs m1 => tk en m1 (fun zs m2 => xs.length = n ∧ zs.length = j ∧ sp (g xs zs) m2 Q Qx) Qx) Qx
/-- the reordering is the same for worlds' values -/
def Reo (K : Frag) (gV : List V → List V → List V) (gW : List W → List W → List W) : Prop := ∀ B μ (vs : List V) (xs : List W) (us : List V) (zs : List W), RWs K B μ vs xs → RWs K B μ us zs → RWs K B μ (gV vs us) (gW xs zs)
theorem SE.callk {n j : Nat} {t tk : TA} {Tk : DTA} {gV : List V → List V → List V} {gW : List W → List W → List W} (hr : Reo X.K gV gW) (k1 : SA X E t ta) (k2 : SA X E tk Tk) : SE X E (tCallN n j (lift X.K sp) gV E t tk) (tCalk n j sp gW ta Tk) := by
  intro B μ en m σ H Q Qx QV R hx T k
  refine k1 B μ en m σ H _ Qx _ R hx T fun B1 μ1 m1 H1 xs vs s1 R1 r1 T1 => ?_
  refine k2 B1 μ1 en m1 σ H1 _ Qx _ R1 (hx.step s1 R1.mem R.mem.le) T1 fun B2 μ2 m2 H2 zs us s2 R2 r2 ⟨l1, l2, T2⟩ => ?_
  have r1' := r1.to s2.same s2.pre
  refine ⟨by rw [r1'.len]; exact l1, by rw [r2.len]; exact l2, ?_⟩
  have s12 := s1.trans R1.mem s2 R.mem.le
  refine ⟨B2, μ2, m2, _, _, Qx, R2.mem, hr _ _ _ _ _ _ r1' r2, T2, hx.step s12 R2.mem R.mem.le, fun B3 μ3 m3 H3 y v s3 m3' r3 q3 => ?_⟩
  have st := s12.trans R2.mem s3 R.mem.le
  exact k B3 μ3 m3 H3 y v st (R.stp st m3') r3 q3
theorem d_callk {n : Nat} {ks : List Str} {kws : List Keyword} {Tk : DTA} {gV : List V → List V → List V} {gW : List W → List W → List W} (G : Gk X.prog X.w X.K X.mg X.base CX k x n ks gV ps (lift X.K sp) ∧ Reo X.K gV gW) (hr : Room k X.A) (hx : Passes CX X E) (ha : DA X E (e :: es) ta) (hkw : DK X E kws Tk) (hg : Gl X x := by rfl)
    (hall : (backToKw pos (keywordEach kws X.env)).all (·.1.isSome) = true := by rfl) (hks : (backToKw pos (keywordEach kws X.env)).filterMap (·.1) = ks := by rfl)
    (hdb : (x == ("__debug__" : Str)) = false := by decide) (he : starEach (e :: es) X.env = (false, eval e X.env) :: starEach es X.env := by rfl)
    (hpl : ((backTo pos (starEach (e :: es) X.env)).any (·.1) || (backToKw pos (keywordEach kws X.env)).any (·.1.isNone)) = false := by rfl) : DE X E (.Call (.Name x p) (e :: es) kws pos) (tCalk n ks.length sp gW ta Tk) := by
  obtain ⟨t1, p1, k1⟩ := ha.ex
  obtain ⟨t2, p2, k2⟩ := hkw.ex
  exact ⟨_, pe_gk G.1 hr hx p1 p2 hg hall hks hdb he hpl, SE.callk G.2 k1 k2⟩
theorem d_callk0 {ks : List Str} {kws : List Keyword} {Tk : DTA} {gV : List V → List V → List V} {gW : List W → List W → List W} (G : Gk X.prog X.w X.K X.mg X.base CX k x 0 ks gV ps (lift X.K sp) ∧ Reo X.K gV gW) (hr : Room k X.A) (hx : Passes CX X E) (hkw : DK X E kws Tk) (hg : Gl X x := by rfl)
    (hall : (backToKw pos (keywordEach kws X.env)).all (·.1.isSome) = true := by rfl) (hks : (backToKw pos (keywordEach kws X.env)).filterMap (·.1) = ks := by rfl)
    (hdb : (x == ("__debug__" : Str)) = false := by decide)
    (hpl : ((backTo pos (starEach [] X.env)).any (·.1) || (backToKw pos (keywordEach kws X.env)).any (·.1.isNone)) = false := by rfl) : DE X E (.Call (.Name x p) [] kws pos) (tCalk 0 ks.length sp gW tN Tk) := by
  obtain ⟨t2, p2, k2⟩ := hkw.ex
  exact ⟨_, pe_gk0 G.1 hr hx p2 hg hall hks hdb hpl, SE.callk G.2 (fun B μ en m σ H Q Qx QV R hx T k => k B μ m H [] [] .refl R .nil T) k2⟩
end
end
/-! ### the laws' bag -/
section
variable {P : Program} {w : World} {K : Frag} {mg : Str → Option Value} {base : Heap} {k : Nat} {x : Str} {ps : List Str}
theorem Gd.up {sp : Sp} (G : Gd P w K mg base CX0 k x ps sp) : Gd P w K mg base (L2.CX P w) k x ps sp := by
  obtain ⟨f, fd, a, b, c, F⟩ := G.ex
  refine ⟨f, fd, a, b, c, F.len, fun A outer s H args us vs Q E hr he hb hv hs => codeAny_mono (F.run A outer s H args us vs Q E hr he hb hv hs) fun r s' h => ?_⟩
  cases r with
  | error e => exact (show False from h).elim
  | ok fl => cases fl <;> exact h
/-- the bag at n -/
def isBag (m : Me) (n : Nat) : Prop := m[n]? = some .bag
def spPullD : SpD := fun ws m Q _ => ∃ n k, ws = [.loc n, .v (.int k)] ∧ m[n]? = some .bag ∧ 0 < k ∧ k < 2 ^ 100 ∧ ∀ r, 0 ≤ r → r < k → Q (.v (.int r)) m
theorem set_self {α : Type} {l : List α} {n : Nat} {x : α} (h : l[n]? = some x) : l.set n x = l := by
  apply List.ext_getElem?
  intro i
  by_cases c : i = n
  · subst c
    rw [List.getElem?_set_self (List.getElem?_eq_some_iff.mp h).1, h]
  · rw [List.getElem?_set_ne (fun z => c z.symm)]
theorem lift_pull {vs : List V} {H : Hp} {Q : VK} {E E' : XK} (h : lift K spPullD vs H Q E) : spPull vs H Q E' := by
  obtain ⟨B, μ, m, ws, Qd, Qx, M, r, ⟨n, j, rfl, hm, h0, h1, q⟩, hx, hq⟩ := h
  cases r with
  | cons a t =>
    cases t with
    | cons b t =>
      cases t
      cases (show Rv K B _ (.int j) from b)
      obtain ⟨p, rfl, hp⟩ := a
      obtain ⟨l, i, rs, sd, ns, e1, e2, e3⟩ := (show BagB B H p from M.at_ n p _ hp hm rfl).ex
      refine ⟨p, l, j, rfl, ⟨i, rs, sd, ns, e1, M.le _ _ e2, e3⟩, h0, h1, fun z H' z0 z1 sx B' => ?_⟩
      have kp : ∀ b o, b ≠ p → H b = some o → H' b = some o := fun b o c e => sx.at c e
      obtain ⟨i', rs', sd', ns', f1, f2, f3⟩ := B'.ex
      have nl : l ≠ p := fun z => by
        subst z
        rw [M.off l ⟨n, _, hp, hm, rfl⟩] at e2
        cases e2
      have e4 := kp l _ nl (M.le _ _ e2)
      have new : OO K B μ H' p .bag := ⟨l, i', rs', sd', ns, f1, e2, f3⟩
      have M2 := M.store hp hm rfl rfl kp new (m' := .bag)
      have S2 := Stp.store (B := B) (m' := .bag) hp hm rfl kp
      rw [set_self hm] at M2 S2
      exact hq B μ m H' (.v (.int z)) _ S2 M2 (.int z) (q z z0 z1)
theorem pullD (G : Gd P w K mg base CX0 k x ps spPull) : Gd P w K mg base (L2.CX P w) k x ps (lift K spPullD) := G.up.imp fun _ _ _ _ h => lift_pull h
end
end Fs
set_option Elab.async false
set_option linter.all false
set_option maxRecDepth 100000
set_option maxHeartbeats 8000000
namespace Fs
open PySem PySem.Spec PyProof.Rows L2
/-- a comprehension without tests: its items one by one -/
inductive All2 (R : Nat → D → D → Prop) : Nat → List D → List D → Prop
  | nil {i : Nat} : All2 R i [] []
  | cons {i : Nat} {d y : D} {ds ys : List D} : R i d y → All2 R (i + 1) ds ys → All2 R i (d :: ds) (y :: ys)
theorem All2.len {R : Nat → D → D → Prop} {i : Nat} {ds ys : List D} (h : All2 R i ds ys) : ds.length = ys.length := by
  induction h with
  | nil => rfl
  | cons _ _ ih => rw [List.length_cons, List.length_cons, ih]
theorem lcL_all {g : DTG} {te : DTE} {en : En} {m : Me} (R : Nat → D → D → Prop) : ∀ {its acc : List D} {Q : W → Me → Prop} (i : Nat), acc.length + its.length ≤ sizeLine →
    (∀ j d (Qt : W → Me → Prop), its[j]? = some d → (∀ y, R (i + j) d y → Qt (.v y) m) → g (.v d) en m fun en1 m1 => te en1 m1 Qt noX) → (∀ ys, All2 R i its ys → Q (.v (.lst (acc ++ ys))) m) → lcL g tYs te en its acc m Q
  | [], acc, Q, i, _, _, k => by
    have z := k [] .nil
    rw [List.append_nil] at z
    exact z
  | d :: ds, acc, Q, i, hl, h, k => by
    rw [List.length_cons] at hl
    refine h 0 d _ rfl fun y r => ?_
    refine ⟨by omega, ?_⟩
    refine lcL_all R (i + 1) (by rw [List.length_append, List.length_singleton]; omega) (fun j e Qt he hq => h (j + 1) e Qt (by simpa using he) fun y r => hq y (by rw [show i + 1 + j = i + (j + 1) by omega]; exact r)) fun ys a => ?_
    rw [List.append_assoc]
    exact k (y :: ys) (.cons r a)
/-- .. that computes f of each item -/
theorem lcL_map {g : DTG} {te : DTE} {en : En} {m : Me} (f : D → D) : ∀ {its acc : List D} {Q : W → Me → Prop}, acc.length + its.length ≤ sizeLine →
    (∀ d (Qt : W → Me → Prop), d ∈ its → Qt (.v (f d)) m → g (.v d) en m fun en1 m1 => te en1 m1 Qt noX) → Q (.v (.lst (acc ++ its.map f))) m → lcL g tYs te en its acc m Q
  | [], acc, Q, _, _, k => by
    rw [List.map_nil, List.append_nil] at k
    exact k
  | d :: ds, acc, Q, hl, h, k => by
    rw [List.length_cons] at hl
    refine h d _ List.mem_cons_self ⟨by omega, ?_⟩
    refine lcL_map f (by rw [List.length_append, List.length_singleton]; omega) (fun e Qt he => h e Qt (List.mem_cons_of_mem _ he)) ?_
    rw [List.append_assoc]
    exact k
/-- .. with a test -/
theorem lcL_filter {g : DTG} {tt : DTT} {te : DTE} {en : En} {m : Me} (c : D → Bool) (f : D → D) : ∀ {its acc : List D} {Q : W → Me → Prop}, acc.length + its.length ≤ sizeLine →
    (∀ d (Qt : W → Me → Prop) (Qn : Me → Prop), d ∈ its → (c d = true → Qt (.v (f d)) m) → (c d = false → Qn m) → g (.v d) en m fun en1 m1 => tt en1 m1 (fun b m2 => if b = true then te en1 m2 Qt noX else Qn m2) noX) → Q (.v (.lst (acc ++ (its.filter c).map f))) m → lcL g tt te en its acc m Q
  | [], acc, Q, _, _, k => by
    rw [List.filter_nil, List.map_nil, List.append_nil] at k
    exact k
  | d :: ds, acc, Q, hl, h, k => by
    rw [List.length_cons] at hl
    have ih := fun (acc : List D) (Q : W → Me → Prop) (hl : acc.length + ds.length ≤ sizeLine) => lcL_filter (its := ds) (acc := acc) (Q := Q) c f hl fun e Qt Qn he => h e Qt Qn (List.mem_cons_of_mem _ he)
    refine h d _ (fun m2 => lcL g tt te en ds acc m2 Q) List.mem_cons_self (fun hc => ⟨by omega, ?_⟩) fun hc => ?_
    · refine ih _ _ (by rw [List.length_append, List.length_singleton]; omega) ?_
      rw [List.filter_cons_of_pos hc] at k
      rw [List.append_assoc]
      exact k
    · refine ih _ _ (by omega) ?_
      rw [List.filter_cons_of_neg (by rw [hc]; decide)] at k
      exact k
/-- a for by an invariant: what a turn is to reach is any N' -/
theorem sFor_inv {g : DTG} {tb : DTS} {N : Dn} (I : Nat → En → Me → Prop) : ∀ {its : List D} {en : En} {m : Me} (i : Nat), I i en m →
    (∀ j d en m (N' : Dn), its[j]? = some d → I (i + j) en m → N'.rt = N.rt → N'.xc = N.xc → N'.bk = N.nx → (∀ en' m', I (i + j + 1) en' m' → N'.nx en' m' ∧ N'.ct en' m') → g (.v d) en m fun en1 m1 => tb en1 m1 N') →
    (∀ en m, I (i + its.length) en m → N.nx en m) → sForL g tb its en m N
  | [], en, m, i, h, _, k => k _ _ h
  | d :: ds, en, m, i, h, t, k => by
    have nxt : ∀ en' m', I (i + 1) en' m' → sForL g tb ds en' m' N := fun en' m' h' => by
      refine sFor_inv I (i + 1) h' (fun j e en m N' he hi r1 r2 r3 hn => t (j + 1) e en m N' (by simpa using he) (by rw [show i + (j + 1) = i + 1 + j by omega]; exact hi) r1 r2 r3 fun en' m' z => hn en' m' (by rw [show i + 1 + j + 1 = i + (j + 1) + 1 by omega]; exact z)) fun en m z => k en m ?_
      rw [List.length_cons, show i + (ds.length + 1) = i + 1 + ds.length by omega]
      exact z
    exact t 0 d en m _ rfl h rfl rfl rfl fun en' m' z => ⟨nxt en' m' z, nxt en' m' z⟩
theorem sFor0 {g : DTG} {tb : DTS} {N : Dn} (I : Nat → En → Me → Prop) {its : List D} {en : En} {m : Me} (h : I 0 en m)
    (t : ∀ j d en m (N' : Dn), its[j]? = some d → I j en m → N'.rt = N.rt → N'.xc = N.xc → N'.bk = N.nx → (∀ en' m', I (j + 1) en' m' → N'.nx en' m' ∧ N'.ct en' m') → g (.v d) en m fun en1 m1 => tb en1 m1 N')
    (k : ∀ en m, I its.length en m → N.nx en m) : sForL g tb its en m N :=
  sFor_inv I 0 h (fun j d en m N' hd hi r1 r2 r3 hn => t j d en m N' hd (by rw [Nat.zero_add] at hi; exact hi) r1 r2 r3 fun en' m' z => hn en' m' (by rw [Nat.zero_add]; exact z)) fun en m z => k en m (by rw [Nat.zero_add] at z; exact z)
/-- a while by an invariant and a measure -/
theorem sWh_inv {c : DTT} {tb : DTS} {N : Dn} (I : Nat → En → Me → Prop) : ∀ (n : Nat) {en : En} {m : Me}, I n en m →
    (∀ n en m (N' : Dn), I n en m → N'.rt = N.rt → N'.xc = N.xc → N'.bk = N.nx → (∀ k en' m', k < n → I k en' m' → N'.nx en' m' ∧ N'.ct en' m') → c en m (fun b m1 => if b = true then tb en m1 N' else N.nx en m1) N.xc) → sWh c tb en m N := by
  intro n en m h t
  refine ⟨n + 1, ?_⟩
  -- more turns do no harm: by strong induction on the measure, for any number of turns above it
  have key : ∀ (n : Nat) (f : Nat) (en : En) (m : Me), n < f → I n en m → whN c tb f en m N := by
    intro n
    induction n using Nat.strongRecOn with
    | _ n ih =>
      intro f en m hf h
      cases f with
      | zero => omega
      | succ f =>
        refine t n en m { N with nx := fun en2 m2 => whN c tb f en2 m2 N, ct := fun en2 m2 => whN c tb f en2 m2 N, bk := N.nx } h rfl rfl rfl fun k en' m' hk hi => ?_
        have z := ih k hk f en' m' (by omega) hi
        exact ⟨z, z⟩
  exact key n (n + 1) en m (Nat.lt_succ_self n) h
theorem rngD_len (lo : Int) (n : Nat) : (rngD lo n).length = n := by unfold rngD; rw [List.length_map, List.length_range]
theorem rngD_at {lo : Int} {n j : Nat} {d : D} (h : (rngD lo n)[j]? = some d) : d = .int (lo + (j : Nat)) ∧ j < n := by
  unfold rngD at h
  rw [List.getElem?_map] at h
  cases q : (List.range n)[j]? with
  | none => rw [q] at h; cases h
  | some i =>
    rw [q] at h
    have l : j < n := by
      have := (List.getElem?_eq_some_iff.mp q).1
      simpa using this
    rw [List.getElem?_range l] at q
    cases q
    cases h
    exact ⟨rfl, l⟩
/-! ### the last own object -/
theorem lstAt_last {m : Me} {ds : List D} {Q : List D → Prop} (h : Q ds) : lstAt (m ++ [.lst ds]) m.length Q := by
  unfold lstAt
  rw [List.getElem?_append_right (Nat.le_refl _), Nat.sub_self]
  exact h
theorem set_last {α : Type} {m : List α} {a b : α} : (m ++ [a]).set m.length b = m ++ [b] := by
  rw [List.set_append_right _ _ (Nat.le_refl _), Nat.sub_self]
  rfl
theorem at_more {m : Me} {n : Nat} {x : MO} {l : Me} (h : m[n]? = some x) : (m ++ l)[n]? = some x := by
  rw [List.getElem?_append_left (List.getElem?_eq_some_iff.mp h).1]
  exact h
theorem sbs_self {n : Nat} {d : D} : sbs n d (some (.loc n)) = some (.v d) := by
  show (if n = n then some (W.v d) else some (W.loc n)) = _
  rw [if_pos rfl]
theorem get_sbs {en : En} {i n : Nat} {d : D} (h : En.get en i = some (.loc n)) : En.get (en.map (sbs n d)) i = some (.v d) := by
  have e := En.get_some h
  unfold En.get
  rw [List.getElem?_map, e]
  show sbs n d (some (.loc n)) = _
  exact sbs_self
theorem sFz_last {i : Nat} {u : DTS} {en : En} {m : Me} {ds : List D} {N : Dn} (h : En.get en i = some (.loc m.length)) (k : u (en.map (sbs m.length (.lst ds))) (m ++ [.gone]) N) : sFz i u en (m ++ [.lst ds]) N := by
  unfold sFz
  rw [h]
  refine lstAt_last ?_
  rw [set_last]
  exact k
/-- return x, x the last own list -/
theorem ret_last {i : Nat} {en : En} {m : Me} {ds : List D} {N : Dn} (h : En.get en i = some (.loc m.length)) (k : N.rt (.v (.lst ds)) (m ++ [.gone])) : sFz i (sRet (tV i)) en (m ++ [.lst ds]) N := by
  refine sFz_last h ?_
  unfold sRet tV
  rw [get_sbs h]
  exact k
end Fs
set_option Elab.async false
set_option linter.all false
set_option maxRecDepth 100000
set_option maxHeartbeats 8000000
namespace Fs
open PySem PySem.Spec PyProof.Rows L2
section
variable {X : Cx} {E : XK}
theorem dk_nil : DK X E [] tN := ⟨_, pk_nil, fun B μ en m σ H Q Qx QV R hx T k => k B μ m H [] [] .refl R .nil T⟩
theorem dk_cons {e : Expr} {nm : Option Str} {kpos : Pos} {kws : List Keyword} {te : DTE} {ta : DTA} (he : DE X E e te) (ha : DK X E kws ta) : DK X E (⟨nm, e, kpos⟩ :: kws) (tCn te ta) := by
  obtain ⟨t1, p1, k1⟩ := he.ex
  obtain ⟨t2, p2, k2⟩ := ha.ex
  refine ⟨_, pk_cons p1 p2, fun B μ en m σ H Q Qx QV R hx T k => ?_⟩
  refine k1 B μ en m σ H _ Qx _ R hx T fun B1 μ1 m1 H1 x v s1 R1 r1 T1 => ?_
  refine k2 B1 μ1 en m1 σ H1 _ Qx _ R1 (hx.step s1 R1.mem R.mem.le) T1 fun B2 μ2 m2 H2 xs vs s2 R2 r2 T2 => ?_
  exact k B2 μ2 m2 H2 _ _ (s1.trans R1.mem s2 R.mem.le) R2 (.cons (r1.to s2.same s2.pre) r2) T2
theorem Reo.snd {K : Frag} : Reo K (fun _ zs => zs) (fun _ zs => zs) := fun _ _ _ _ _ _ _ h => h
end
def repS (a : Str) (n : Nat) : Str := ⟨(List.replicate n a.cps).foldl (· ++ ·) #[]⟩
theorem repS_tl (a : Str) : ∀ n : Nat, (repS a n).cps.toList = (List.replicate n a.cps.toList).flatten := by
  intro n
  have key : ∀ (l : List (Array Nat)) (acc : Array Nat), (l.foldl (· ++ ·) acc).toList = acc.toList ++ (l.map (·.toList)).flatten := by
    intro l
    induction l with
    | nil => simp
    | cons x l ih => intro acc; rw [List.foldl_cons, ih]; simp
  show ((List.replicate n a.cps).foldl (· ++ ·) #[]).toList = _
  rw [key, List.map_replicate]
  rfl
theorem repS_len (a : Str) (n : Nat) : (repS a n).length = n * a.length := by
  show (repS a n).cps.size = n * a.cps.size
  rw [← Array.length_toList, repS_tl, List.length_flatten, List.map_replicate, List.sum_replicate_nat, Array.length_toList]
theorem op_mulS {X : Cx} : OpR X (binaryOp .Mult) (fun x y H Q => ∃ a n, x = .str a ∧ y = .int n ∧ 1 < n ∧ n < 2 ^ 20 ∧ 0 < a.length ∧ a.length * n.toNat ≤ sizeLine ∧ Q (.str (repS a n.toNat)) H) := by
  intro pins s σ H x y v u Q I rx ry h
  obtain ⟨a, n, rfl, rfl, h1, h2, h3, h4, q⟩ := h
  obtain ⟨t, rfl⟩ := rx
  obtain ⟨t', rfl⟩ := ry
  have e : (n == 1 || a.length == 0) = false := by
    rw [Bool.or_eq_false_iff]
    exact ⟨beq_eq_false_iff_ne.mpr (by omega), beq_eq_false_iff_ne.mpr (by omega)⟩
  have hl : a.length ≤ sizeLine := by
    refine Nat.le_trans ?_ h4
    exact Nat.le_mul_of_pos_right _ (by omega)
  have ln := sizeLine_eq
  refine PySem.P.mul_str (by rw [decide_eq_false (by omega), decide_eq_false (by omega)]; rfl) (fun _ _ => ?_) (fun _ _ => decide_eq_false (by omega)) ?_
  · intro z
    have : (a.length : Int) * n ≤ 2 ^ 63 - 1 := by
      have : ((a.length * n.toNat : Nat) : Int) ≤ (sizeLine : Int) := by omega
      rw [Int.natCast_mul, Int.toNat_of_nonneg (by omega)] at this
      omega
    have := Int.le_ediv_of_mul_le (by omega : (0 : Int) < n) this
    omega
  · rw [if_neg (by omega), if_neg (by rw [e]; decide)]
    exact ⟨by show (repS a n.toNat).length ≤ _; rw [repS_len, Nat.mul_comm]; exact h4, ⟨.str (repS a n.toNat), H, I.tok _, ⟨_, rfl⟩, q⟩⟩
def mulSD : F2
  | .str a, .int n, Q => 1 < n ∧ n < 2 ^ 20 ∧ 0 < a.length ∧ a.length * n.toNat ≤ sizeLine ∧ Q (.str (repS a n.toNat))
  | _, _, _ => False
theorem o_mulS {X : Cx} : OpD X (binaryOp .Mult) (oL mulSD) := by
  refine ⟨_, op_mulS, SO.of fun B μ m H v u dx dy Q QV M tx ty q k => ?_⟩
  unfold mulSD at q
  split at q
  · cases tx with
    | str h1 => cases ty with
      | int =>
        obtain ⟨q1, q2, q3, q4, q⟩ := q
        refine ⟨_, _, rfl, rfl, q1, q2, q3, q4, SO.pure M k (.str (okS_iff.mpr fun c hc => ?_)) q⟩
        rw [repS_tl] at hc
        obtain ⟨l, hl, hc⟩ := List.mem_flatten.mp hc
        rw [(List.mem_replicate.mp hl).2] at hc
        exact okS_iff.mp h1 c hc
  · exact q.elim
end Fs
set_option Elab.async false
set_option linter.all false
set_option maxRecDepth 100000
set_option maxHeartbeats 8000000
namespace Fs
open PySem PySem.Spec PyProof.Rows L2
theorem MemOk.grow {K : Frag} {B : Hp} {μ : List Addr} {m : Me} {H H' : Hp} (h : MemOk K B μ m H) (s : Same H H') : MemOk K B μ m H' :=
  ⟨fun a o e => s a o (h.le a o e), h.len, h.off, fun n a x e1 e2 e3 => OO.to (Same.refl _) (List.prefix_refl _) (fun o z => s a o z) (h.at_ n a x e1 e2 e3), h.inj, h.ntb⟩
theorem Stp.grow {B : Hp} {μ : List Addr} {m : Me} {H H' : Hp} (s : Same H H') : Stp B μ m H B μ m H' := ⟨Same.refl _, List.prefix_refl _, fun a o _ e _ => s a o e, fun _ _ n _ _ b => ⟨b, n⟩⟩
/-- the fields of an error of the class x -/
abbrev erF (x : Str) (fs : List (Str × D)) : List (Str × D) := fs ++ [(("code" : Str), D.str x)]
section
variable {X : Cx} {E : XK} {C : Addr} {k : Nat} {x f : Str} {p pos pos' : Pos}
def sRaise0 (C : Addr) (x : Str) : DTS := fun _ m N => N.xc ⟨C, erF x []⟩ m
theorem ds_raise0 (M : OexM X.prog X.w X.K X.mg X.base k C (spIni C 0 fun _ => [(("code" : Str), V.str x)])) (room : Room (k + 1) X.A) (hm : X.mg x = some (.ref C)) (hc : X.calm = true) (tk : Takes X (fun cls d _ H => E cls d H)) (ho : okS x = true := by decide +kernel) (hg : Gl X x := by rfl) (hdb : (x == ("__debug__" : Str)) = false := by decide) :
    DS X E (.Raise (some (.Call (.Name x p) [] [] pos)) none pos') (sRaise0 C x) := by
  refine ⟨_, ps_raise hc tk (pmk_o0 M room hm hg hdb), fun B μ en m σ H N D R hx T e => ?_⟩
  refine mk_ini rfl (by decide) fun d H' nd hd s => ?_
  exact hx B μ m H' ⟨C, erF x []⟩ d _ (Stp.grow s) (R.mem.grow s) hd (.cons (.str ho) .nil) T
def sRaise1 (C : Addr) (x f : Str) (ta : DTA) : DTS := fun en m N => ta en m (fun xs m1 => match xs with
  | [.v d] => N.xc ⟨C, erF x [(f, d)]⟩ m1
  | _ => False) N.xc
theorem ds_raise1 {e : Expr} {ta : DTA} (M : OexM X.prog X.w X.K X.mg X.base k C (spIni C 1 fun vs => [(f, vs.headD .non), (("code" : Str), V.str x)])) (room : Room (k + 1) X.A) (hm : X.mg x = some (.ref C)) (hc : X.calm = true) (tk : Takes X (fun cls d _ H => E cls d H)) (ha : DA X E [e] ta) (ho : okS x = true := by decide +kernel) (hg : Gl X x := by rfl) (hdb : (x == ("__debug__" : Str)) = false := by decide)
    (he : starEach [e] X.env = (false, eval e X.env) :: starEach [] X.env := by rfl) (hpl : (backTo pos (starEach [] X.env)).any (·.1) = false := by rfl) :
    DS X E (.Raise (some (.Call (.Name x p) [e] [] pos)) none pos') (sRaise1 C x f ta) := by
  obtain ⟨t1, p1, k1⟩ := ha.ex
  refine ⟨_, ps_raise hc tk (pmk_o M room hm p1 hg hdb he hpl), fun B μ en m σ H N D R hx T e => ?_⟩
  refine k1 B μ en m σ H _ _ _ R hx T fun B1 μ1 m1 H1 xs vs s1 R1 r q => ?_
  split at q
  · rename_i d
    cases r with
    | cons a t =>
      cases t
      refine mk_ini rfl (by decide) fun dd H' nd hd s => ?_
      have st := s1.trans R1.mem (Stp.grow s) R.mem.le
      exact hx B1 μ1 m1 H' ⟨C, erF x [(f, d)]⟩ dd _ st (R1.mem.grow s) hd (.cons a (.cons (.str ho) .nil)) q
  · exact q.elim
end
end Fs
set_option Elab.async false
set_option linter.all false
set_option maxRecDepth 100000
set_option maxHeartbeats 8000000
namespace Fs
open PySem PySem.Spec PyProof.Rows L2
/-- t looks the names up in the dict at D, one behind another, and goes on as r -/
def KwTo {α : Type} (D : Addr) : List (Str × Value) → Sem α → Sem α → Prop
  | [], t, r => t = r
  | q :: l, t, r => ∃ (β γ : Type) (k1 : Option Value → Sem β) (k2 : β → Sem γ) (k3 : γ → Sem α) (a : β), t = ((nsGet D q.1 >>= k1) >>= k2) >>= k3 ∧ k1 (some q.2) = pure a ∧ KwTo D l (k2 a >>= k3) r
theorem KwTo.one {α β γ : Type} {D : Addr} {q : Str × Value} {l : List (Str × Value)} {t r : Sem α} {k1 : Option Value → Sem β} {k2 : β → Sem γ} {k3 : γ → Sem α} {a : β} (h1 : t = ((nsGet D q.1 >>= k1) >>= k2) >>= k3) (h2 : k1 (some q.2) = pure a) (h3 : KwTo D l (k2 a >>= k3) r) : KwTo D (q :: l) t r := ⟨β, γ, k1, k2, k3, a, h1, h2, h3⟩
theorem KwTo.run {α : Type} {K : Frag} {M : Model} {A : Around} {E : Value → Shared → Prop} {s : Shared} {Q : α → Shared → Prop} {D : Addr} (X : K.In s.heap) : ∀ {l : List (Str × Value)} {t r : Sem α}, (∀ q ∈ l, PySem.W.nsIn K D q.1 = some (some q.2)) → KwTo D l t r → wpAny M A r Q E s → wpAny M A t Q E s
  | [], t, r, _, e, h => by
    rw [show t = r from e]
    exact h
  | q :: l, t, r, hl, e, h => by
    obtain ⟨β, γ, k1, k2, k3, a, rfl, e2, e3⟩ := e
    rw [bind_assoc]
    have l1 : PySem.W.Looks M s.heap (nsGet D q.1 >>= k1) a := (PySem.W.looks_nsIn X (hl q List.mem_cons_self)).andThen (PySem.W.Looks.of_pure e2)
    exact wpAny_bind (l1.here (KwTo.run X (fun p hp => hl p (List.mem_cons_of_mem _ hp)) e3 h))
/-- a function called with positional values and keywords ks -/
def FnRK (P : Program) (w : World) (K : Frag) (mg : Str → Option Value) (base : Heap) (k : Nat) (f : Addr) (ks : List Str) (sp : List V → List V → Hp → VK → Prop) : Prop :=
  ∀ (A : Around) (outer : List Env) (s : Shared) (H : Hp) (us ws : List Value) (vs zs : List V) (Q : VK), Room k A → Env0 P w K mg base A outer s H → Vals vs us → Vals zs ws → zs.length = ks.length → sp vs zs H Q →
    codeAny (model P w) A (.call (.ref f) ⟨us, ks.zip ws⟩) (CR CX0 outer P w H s Q E0) s
section
variable {P : Program} {w : World} {K : Frag} {mg : Str → Option Value} {base : Heap} {x qual : Str} {params : Arguments} {body : List Stmt} {scope : Scope} {kws : List (Str × V)} {f : Addr} {fd : FuncData} {N ps : List Str} {k : Nat}
theorem fnk_star {sp : List V → Hp → VK → Prop} (F : FunD K x qual params body scope [] kws f fd) (hk : kws ≠ []) (S : FnScope N ps scope) (ks : List Str) (ms : List (Str × V)) (hms : ∀ q ∈ ms, q ∈ kws) (g : {α : Type} → List α → List α → List α)
    (hrel : ∀ {zs mz : List V} {ws mv : List Value}, Vals zs ws → Vals mz mv → Vals (g zs mz) (g ws mv)) (hlen : ∀ (zs : List V), zs.length = ks.length → (g zs (ms.map (·.2))).length + 1 = ps.length)
    (hb : ∀ (D : Addr) (doc pm : Value) (an : Option Addr) (cdv ct : Value) (us ws mv : List Value), ws.length = ks.length → mv.length = ms.length →
      KwTo D ((ms.map (·.1)).zip mv) (bindArgs (PySem.W.fnOf x qual params body scope .none (.ref D) doc pm an cdv ct) ⟨us, ks.zip ws⟩) (newTuple us >>= fun t => pure (ps.zip (g ws mv ++ [t]))))
    (hbody : ∀ (cdv : Value) (A : Around) (outer : List Env) (s : Shared) (H : Hp) (vs : List V) (Q : VK), Room k (A.deeper (envOfC qual scope s.heap.objs.size f cdv)) → sp vs H Q →
      ∃ t, PSs (cxOf CX0 P w K mg base N qual scope f cdv A outer s H E0).nox body t ∧ t { nx := fun _ H' => Q .non H', rt := Q } (L2.start N vs) H) :
    FnRK P w K mg base (k + 1) f ks (fun vs zs H Q => vs.length ≤ sizeLine ∧ ∀ p, H p = none → sp (g zs (ms.map (·.2)) ++ [V.ref p]) (upd H p (.tup vs)) Q) := by
  intro A outer s H us ws vs zs Q hr e0 r rz lz hsp
  obtain ⟨hz, hq⟩ := hsp
  obtain ⟨oc, od, dV, kV, doc, pm, an, cdv, ct, osl, rfl, lk, hcd, hD, hK⟩ := F.ex
  rcases hD with ⟨_, rfl⟩ | ⟨e, _⟩
  case inr => exact absurd rfl e
  rcases hK with e | ⟨D, rfl, hkw⟩
  · exact absurd e hk
  obtain ⟨mv, hl, rk, hks⟩ := kwd_vals (ms := ms) fun q hm => hkw q (hms q hm)
  have hn : H s.heap.objs.size = none := e0.hok.fresh (Nat.le_refl _)
  have KX : K.In s.heap := e0.mod.kin.keeps fun b o e => (e0.bs b o e).1
  have hl2 : us.length ≤ sizeLine := by rw [← r.length]; exact hz
  refine StX.run_bnd lk hcd S hr e0 (G := fun xs H2 => ∃ p, H p = none ∧ xs = g zs (ms.map (·.2)) ++ [V.ref p] ∧ H2 = upd H p (.tup vs)) (fun A' Ex Q' h => ?_) fun s2 H2 xs ⟨p, hp, ex, eH⟩ hr' => ?_
  · refine KwTo.run KX hks (hb D doc pm an cdv ct us ws mv (by rw [← rz.length]; exact lz) hl) ?_
    refine wpAny_bind (wpAny_newTuple (wpAny_pure ?_) hl2)
    have new : ObjOk P w (upd H s.heap.objs.size (.tup vs)) (s.heap.push ({ cls := .type "tuple", data := .seq us.toArray } : Obj)) s.heap.objs.size (.tup vs) := ⟨hz, us, r, ⟨_, Heap.get?_push_size _ rfl, rfl, _, rfl⟩⟩
    have un := StX.un_laid (fs := frs outer) (s := s) (o := ({ cls := .type "tuple", data := .seq us.toArray } : Obj)) (u := .tup vs) hn
    exact h _ _ (g zs (ms.map (·.2)) ++ [V.ref s.heap.objs.size]) _ (StX.env0_laid e0 new) un rfl (fun e s' z => z.elim) ((hrel rz rk).append (.cons rfl .nil))
      (by rw [List.length_append]; exact hlen zs lz) ⟨_, hn, rfl, rfl⟩
  · subst ex eH
    obtain ⟨t, h1, h2⟩ := hbody cdv A outer s2 _ _ Q hr' (hq p hp)
    exact ⟨t, h1.nox, h2⟩
end
section
variable {X : Cx} {k : Nat} {f : Addr} {x : Str} {ks : List Str} {sp : List V → List V → Hp → VK → Prop} {p pos : Pos}
/-- f(e, .., k = v, ..) of such a function -/
def tCallK (m : Nat) (sp : List V → List V → Hp → VK → Prop) (t tk : TA) : TE := fun σ H Q => t σ H fun vs H1 => tk σ H1 fun zs H2 => zs.length = m ∧ sp vs zs H2 Q
theorem run_fnk {pins : List (Addr × Obj)} {σ : L2.St} {H : Hp} {s : Shared} {Q : VK} {us ws : List Value} {vs zs : List V} (F : FnRK X.prog X.w X.K X.mg X.base k f ks sp) (hr : Room k X.A) (I : Inv X pins σ H s) (r : Vals vs us) (rz : Vals zs ws) (l : zs.length = ks.length) (h : sp vs zs H Q) :
    wpAny (model X.prog X.w) X.A (call (.ref f) us (ks.zip ws)) (fun u s' => ∃ v H', Inv X pins σ H' s' ∧ RelV v u ∧ Q v H') X.xe s := by
  refine wpAny_call (codeAny_mono (F X.A X.stack s H us ws vs zs Q hr I.env0 r rz l h) ?_)
  intro z s2 hz
  cases z with
  | error e => exact (show False from hz).elim
  | ok fl =>
    cases fl with
    | ret u => exact I.after hz
    | next => exact (show False from hz).elim
    | brk => exact (show False from hz).elim
    | cont => exact (show False from hz).elim
variable {e : Expr} {es : List Expr} {kws : List Keyword} {t tk : TA}
/-- such a def of the module's top -/
structure GsK (P : Program) (w : World) (K : Frag) (mg : Str → Option Value) (base : Heap) (k : Nat) (x : Str) (ks : List Str) (sp : List V → List V → Hp → VK → Prop) : Prop where
  ex : ∃ f, mg x = some (.ref f) ∧ PySem.W.keepIn K (.ref f) = true ∧ FnRK P w K mg base k f ks sp
theorem pe_k (G : GsK X.prog X.w X.K X.mg X.base k x ks sp) (hr : Room k X.A) (ha : PA X (e :: es) t) (hkw : PK X kws tk) (hg : Gl X x := by rfl)
    (hall : (backToKw pos (keywordEach kws X.env)).all (·.1.isSome) = true := by rfl) (hks : (backToKw pos (keywordEach kws X.env)).filterMap (·.1) = ks := by rfl)
    (hdb : (x == ("__debug__" : Str)) = false := by decide) (he : starEach (e :: es) X.env = (false, eval e X.env) :: starEach es X.env := by rfl)
    (hpl : ((backTo pos (starEach (e :: es) X.env)).any (·.1) || (backToKw pos (keywordEach kws X.env)).any (·.1.isNone)) = false := by rfl) : PE X (.Call (.Name x p) (e :: es) kws pos) (tCallK ks.length sp t tk) := by
  obtain ⟨f, hm, hk, F⟩ := G.ex
  constructor
  intro pins s σ H Q I h
  refine wpAny_Call_Name_kw (ld_glob I hg hm ?_ hdb)
  refine PySem.W.callWith_KW (h₀ := X.base) I.ok.mod.kin hk hall (thn (ha.run pos pins s σ H _ I h) fun us s1 ⟨vs, H1, I1, r, q⟩ => ?_) hpl he
  refine thn (hkw.run pos pins s1 σ H1 _ I1 q) fun ws s2 ⟨zs, H2, I2, rz, l, q2⟩ => ⟨I2.kIn, ?_⟩
  rw [hks]
  exact run_fnk F hr I2 r rz l q2
theorem pe_kp (G : GsK X.prog X.w X.K X.mg X.base k x [] sp) (hr : Room k X.A) (ha : PA X (e :: es) t) (hg : Gl X x := by rfl) (hdb : (x == ("__debug__" : Str)) = false := by decide)
    (he : starEach (e :: es) X.env = (false, eval e X.env) :: starEach es X.env := by rfl) (hpl : (backTo pos (starEach es X.env)).any (·.1) = false := by rfl) : PE X (.Call (.Name x p) (e :: es) [] pos) (fun σ H Q => t σ H fun vs H1 => sp vs [] H1 Q) := by
  obtain ⟨f, hm, hk, F⟩ := G.ex
  constructor
  intro pins s σ H Q I h
  refine wpAny_Call_Name_kw (ld_glob I hg hm ?_ hdb)
  refine PySem.W.callWith_K (h₀ := X.base) I.ok.mod.kin hk (thn (ha.run pos pins s σ H _ I h) fun us s1 ⟨vs, H1, I1, r, q⟩ => ⟨I1.kIn, ?_⟩) he hpl
  exact run_fnk (ws := []) F hr I1 r .nil rfl q
theorem pe_k0 (G : GsK X.prog X.w X.K X.mg X.base k x [] sp) (hr : Room k X.A) (hg : Gl X x := by rfl) (hdb : (x == ("__debug__" : Str)) = false := by decide) : PE X (.Call (.Name x p) [] [] pos) (fun _ H Q => sp [] [] H Q) := by
  obtain ⟨f, hm, hk, F⟩ := G.ex
  constructor
  intro pins s σ H Q I h
  exact wpAny_Call_Name_kw (ld_glob I hg hm (PySem.W.callWith_K0 I.kIn hk (run_fnk (us := []) (ws := []) F hr I .nil .nil rfl h)) hdb)
end
end Fs
set_option Elab.async false
set_option linter.all false
set_option maxRecDepth 100000
set_option maxHeartbeats 8000000
namespace Fs
open PySem PySem.Spec PyProof.Rows L2
/-! ### constants -/
mutual
def conU (K : Frag) : Nat → Value → D → Bool
  | _, .none, .non => true
  | _, .bool b, .bl c => b == c
  | _, .int i _, .int j => decide (i = j)
  | _, .str x _, .str y => decide (x = y) && okS y
  | n + 1, .ref a, .tup ds => (match K.lookup a with
    | some ⟨.type c, _, .seq its _, _⟩ => decide (c = "tuple") && (decide (its.size ≤ sizeLine) && conUs K n its.toList ds)
    | _ => false)
  | _, _, _ => false
def conUs (K : Frag) : Nat → List Value → List D → Bool
  | _, [], [] => true
  | n, u :: us, d :: ds => conU K n u d && conUs K n us ds
  | _, _, _ => false
end
mutual
theorem conU_ok {K : Frag} : ∀ {n : Nat} {d : D} {u : Value}, conU K n u d = true → ∃ v, RelV v u ∧ ∀ B, Rv K B v d
  | n, .non, u, h => by
    cases u <;> first | exact ⟨.non, rfl, fun _ => .non⟩ | (exfalso; cases n <;> cases h)
  | n, .bl c, u, h => by
    cases u <;> first
      | (have h : (_ == c) = true := h
         exact ⟨.bl c, by rw [eq_of_beq h]; rfl, fun _ => .bl c⟩)
      | (exfalso; cases n <;> cases h)
  | n, .int j, u, h => by
    cases u <;> first
      | (have h := of_decide_eq_true (show decide (_ = j) = true from h)
         exact ⟨.int j, by rw [h]; exact ⟨_, rfl⟩, fun _ => .int j⟩)
      | (exfalso; cases n <;> cases h)
  | n, .str y, u, h => by
    cases u <;> first
      | (have h := Bool.and_eq_true_iff.mp (show (decide (_ = y) && okS y) = true from h)
         exact ⟨.str y, by rw [of_decide_eq_true h.1]; exact ⟨_, rfl⟩, fun _ => .str h.2⟩)
      | (exfalso; cases n <;> cases h)
  | n + 1, .tup ds, u, h => by
    cases u with
    | ref a =>
      have h : (match K.lookup a with
        | some ⟨.type c, _, .seq its _, _⟩ => decide (c = "tuple") && (decide (its.size ≤ sizeLine) && conUs K n its.toList ds)
        | _ => false) = true := h
      cases q : K.lookup a with
      | none =>
        rw [q] at h
        cases h
      | some o =>
        obtain ⟨oc, od, dt, osl⟩ := o
        rw [q] at h
        cases oc with
        | type c =>
          cases dt with
          | seq its k =>
            have h := Bool.and_eq_true_iff.mp (show (decide (c = "tuple") && (decide (its.size ≤ sizeLine) && conUs K n its.toList ds)) = true from h)
            have h2 := Bool.and_eq_true_iff.mp h.2
            obtain ⟨vs, r, hv⟩ := conUs_ok h2.2
            exact ⟨.ref a, rfl, fun B => .tup (.inr ⟨_, its, k, q, congrArg Value.type (of_decide_eq_true h.1), rfl, of_decide_eq_true h2.1, r⟩) (hv B)⟩
          | _ => cases h
        | _ => cases dt <;> cases h
    | _ => cases h
  | 0, .tup ds, u, h => by cases u <;> cases h
  | n, .ty _, u, h => by cases u <;> cases n <;> cases h
  | n, .fn _, u, h => by cases u <;> cases n <;> cases h
  | n, .lst _, u, h => by cases u <;> cases n <;> cases h
  | n, .dic _, u, h => by cases u <;> cases n <;> cases h
  | n, .obj _ _, u, h => by cases u <;> cases n <;> cases h
  | n, .exc _ _, u, h => by cases u <;> cases n <;> cases h
theorem conUs_ok {K : Frag} : ∀ {n : Nat} {ds : List D} {us : List Value}, conUs K n us ds = true → ∃ vs, Vals vs us ∧ ∀ B, RvL K B vs ds
  | _, [], [], _ => ⟨[], .nil, fun _ => .nil⟩
  | _, [], _ :: _, h => by cases h
  | _, _ :: _, [], h => by cases h
  | n, d :: ds, u :: us, h => by
    have h := Bool.and_eq_true_iff.mp (show (conU K n u d && conUs K n us ds) = true from h)
    obtain ⟨v, r, hv⟩ := conU_ok h.1
    obtain ⟨vs, rs, hvs⟩ := conUs_ok h.2
    exact ⟨v :: vs, .cons r rs, fun B => .cons (hv B) (hvs B)⟩
end
section
variable {X : Cx} {E : XK}
theorem d_con {n : Nat} {x : Str} {d : D} {u : Value} {pos : Pos} (hm : X.mg x = some u) (h : conU X.K n u d = true) (hg : Gl X x := by rfl) (hd : (x == ("__debug__" : Str)) = false := by decide) : DE X E (.Name x pos) (tK d) := by
  obtain ⟨v, r, hv⟩ := conU_ok h
  exact d_glob hm r hv hg hd
/-! ### starred items -/
def itemsOf : D → (List D → Prop) → Prop
  | .lst ds, Q => Q ds
  | .tup ds, Q => Q ds
  | _, _ => False
def tStr (te : DTE) (ta : DTA) : DTA := fun en m Q Qx => te en m (fun x m1 => look x m1 fun d => itemsOf d fun ds => ta en m1 (fun xs m2 => Q (ds.map .v ++ xs) m2) Qx) Qx
theorem RvL.ws' {K : Frag} {B : Hp} {μ : List Addr} {vs us : List V} {ds : List D} {xs : List W} (h : RvL K B vs ds) (r : RWs K B μ us xs) : RWs K B μ (vs ++ us) (ds.map .v ++ xs) := by
  induction vs generalizing ds with
  | nil => cases h; exact r
  | cons v vs ih => cases h with
    | cons a t => exact .cons (RW.d a) (ih t)
theorem da_star {e : Expr} {p : Pos} {es : List Expr} {te : DTE} {ta : DTA} (he : DE X E e te) (ha : DA X E es ta) (hs : starEach (.Starred e p :: es) X.env = (true, eval e X.env) :: starEach es X.env := by rfl) : DA X E (.Starred e p :: es) (tStr te ta) := by
  obtain ⟨t1, p1, k1⟩ := he.ex
  obtain ⟨t2, p2, k2⟩ := ha.ex
  refine ⟨_, StX.pa_star p1 p2 hs, fun B μ en m σ H Q Qx QV R hx T k => ?_⟩
  refine k1 B μ en m σ H _ Qx _ R hx T fun B1 μ1 m1 H1 x v s1 R1 r1 T1 => ?_
  obtain ⟨d, td, q2⟩ := look_ok R1.mem r1 T1
  unfold itemsOf at q2
  split at q2
  · obtain ⟨a, vs, rfl, hp, r⟩ := td
    refine ⟨a, vs, rfl, .inr (.inl (.inl hp)), ?_⟩
    refine k2 B1 μ1 en m1 σ H1 _ Qx _ R1 (hx.step s1 R1.mem R.mem.le) q2 fun B2 μ2 m2 H2 xs us s2 R2 r2 T2 => ?_
    exact k B2 μ2 m2 H2 _ _ (s1.trans R1.mem s2 R.mem.le) R2 ((r.to s2.same).ws' r2) T2
  · obtain ⟨a, vs, rfl, hp, r⟩ := td
    refine ⟨a, vs, rfl, .inl (R1.mem.le.tup hp), ?_⟩
    refine k2 B1 μ1 en m1 σ H1 _ Qx _ R1 (hx.step s1 R1.mem R.mem.le) q2 fun B2 μ2 m2 H2 xs us s2 R2 r2 T2 => ?_
    exact k B2 μ2 m2 H2 _ _ (s1.trans R1.mem s2 R.mem.le) R2 ((r.to s2.same).ws' r2) T2
  · exact q2.elim
end
end Fs
set_option Elab.async false
set_option linter.all false
set_option maxRecDepth 100000
set_option maxHeartbeats 8000000
namespace Fs
open PySem PySem.Spec PyProof.Rows L2
theorem slice_len (z : Str) (lo hi : Option Int) : (Txt.slice z lo hi).length ≤ z.length := by
  rw [← C8.cutS_slice]
  unfold cutS
  show (List.take _ (List.drop _ z.cps.toList)).toArray.size ≤ z.cps.size
  rw [List.size_toArray, List.length_take, List.length_drop, Array.length_toList]
  omega
abbrev s__law_of : Stmt := top 31
abbrev N__law_of : List Str := ["_law_bag_here", "_law_things"]
abbrev P__law_of : List Str := ["_law_bag_here", "_law_things"]
theorem sc__law_of : FnScope N__law_of P__law_of (defScope s__law_of) := ⟨rfl, rfl, rfl, by decide +kernel, rfl, by decide +kernel, by decide +kernel⟩
section
variable {P : Program} {w : World} {K : Frag} {mg : Str → Option Value} {base : Heap}
def spOfD : SpD := fun ws m Q _ => ∃ n x ds, ws = [.loc n, .v x] ∧ m[n]? = some .bag ∧ (x = .lst ds ∨ x = .tup ds) ∧ ds ≠ [] ∧ ds.length < 2 ^ 64 ∧ ∀ d ∈ ds, Q (.v d) m
theorem dd__law_of (G : Gs K mg "_law_of" s__law_of) (g__law_pull : Gd P w K mg base (L2.CX P w) 1 "_law_pull" P__law_pull (lift K spPullD)) (m_len : mg "len" = none) : Gd P w K mg base (L2.CX P w) 2 "_law_of" P__law_of (lift K spOfD) := by
  refine Fo.gd (fo_d sc__law_of (fun ws m Q Qx h => ?_) (fun f cdv A outer s H E hr => ⟨_, (dss_one (ds_ret (d_ix (dv 1) (d_call g__law_pull (hr.mono (by omega)) (passE (takes_of rfl rfl rfl rfl)) (da_cons (dv 0) (da_cons (d_len m_len (da_cons (dv 1) da_nil)) da_nil)))))), fun ws m Qd Qx h => ?_⟩) [] []) G (fun _ _ _ _ _ _ us hl => match us, hl with | [_, _], _ => rfl)
  · obtain ⟨n, x, ds, rfl, _⟩ := h
    rfl
  · obtain ⟨n, x, ds, rfl, hm, hx, h0, h1, q⟩ := h
    have hl : 0 < ds.length := List.length_pos_iff.mpr h0
    rcases hx with rfl | rfl
    · refine ⟨n, ds.length, rfl, hm, by omega, by omega, fun r r0 r1 => ?_⟩
      have z := atI_i (xs := ds) r0 (by omega)
      exact ⟨_, z, List.prefix_refl _, q _ (atI_mem z)⟩
    · refine ⟨n, ds.length, rfl, hm, by omega, by omega, fun r r0 r1 => ?_⟩
      have z := atI_i (xs := ds) r0 (by omega)
      exact ⟨_, z, List.prefix_refl _, q _ (atI_mem z)⟩
end
end Fs
set_option Elab.async false
set_option linter.all false
set_option maxRecDepth 100000
set_option maxHeartbeats 8000000
namespace Fs
open PySem PySem.Spec PyProof.Rows L2
abbrev s__law_same : Stmt := top 32
abbrev N__law_same : List Str := ["_law_found", "_law_due", "_law_k", "_law_key"]
abbrev P__law_same : List Str := ["_law_found", "_law_due"]
abbrev O__law_same_0 : List (Str × Nat) := [("_law_k", 2)]
abbrev O__law_same_1 : List (Str × Nat) := [("_law_key", 3)]
theorem sc__law_same : FnScope N__law_same P__law_same (defScope s__law_same) := ⟨rfl, rfl, rfl, by decide +kernel, rfl, by decide +kernel, by decide +kernel⟩
section
variable {P : Program} {w : World} {K : Frag} {mg : Str → Option Value} {base : Heap}
def flatA : D → Bool
  | .non | .bl _ | .int _ | .str _ => true
  | _ => false
/-- what _law_same walks: lists and tuples, fewer than n levels -/
def fitD : Nat → D → Prop
  | 0, _ => False
  | n + 1, .lst ds => ds.length < 2 ^ 20 ∧ ∀ d ∈ ds, fitD n d
  | n + 1, .tup ds => ds.length < 2 ^ 20 ∧ ∀ d ∈ ds, fitD n d
  | _ + 1, d => flatA d = true
theorem fit_mono : ∀ {n : Nat} {d : D}, fitD n d → fitD (n + 1) d
  | 0, _, h => h.elim
  | n + 1, .lst _, h => ⟨h.1, fun d hd => fit_mono (h.2 d hd)⟩
  | n + 1, .tup _, h => ⟨h.1, fun d hd => fit_mono (h.2 d hd)⟩
  | n + 1, .non, h => h
  | n + 1, .bl _, h => h
  | n + 1, .int _, h => h
  | n + 1, .str _, h => h
  | n + 1, .ty _, h => h
  | n + 1, .fn _, h => h
  | n + 1, .dic _, h => h
  | n + 1, .obj _ _, h => h
  | n + 1, .exc _ _, h => h
theorem fit_tup {n : Nat} {ds : List D} (h1 : ds.length < 2 ^ 20) (h2 : ∀ d ∈ ds, fitD n d) : fitD (n + 1) (.tup ds) := ⟨h1, h2⟩
def spSameD (n : Nat) : SpD := fun ws m Q _ => ∃ d, ws = [.v d, .v d] ∧ fitD n d ∧ Q (.v (.bl true)) m
theorem bools_tr {Q : List Bool → Prop} : ∀ n : Nat, Q (List.replicate n true) → bools (List.replicate n (.bl true)) Q
  | 0, h => h
  | n + 1, h => bools_tr (Q := fun bs => Q (true :: bs)) n h
theorem all2_tr {i : Nat} {its ys : List D} (h : All2 (fun _ _ y => y = .bl true) i its ys) : ys = List.replicate its.length (.bl true) := by
  induction h with
  | nil => rfl
  | cons r _ ih => rw [r, ih, List.length_cons, List.replicate_succ]
theorem dd__law_same (G : Gs K mg "_law_same" s__law_same) (m_isinstance : mg "isinstance" = none) (m_tuple : mg "tuple" = none) (m_list : mg "list" = none) (m_all : mg "all" = none) (m_range : mg "range" = none) (m_len : mg "len" = none) (m_dict : mg "dict" = none) (m_int : mg "int" = none) (m_bool : mg "bool" = none) (m_str : mg "str" = none) :
    ∀ n : Nat, Gd P w K mg base (L2.CX P w) (n + 1) "_law_same" P__law_same (lift K (spSameD n)) := by
  intro n
  induction n with
  | zero =>
    refine Fo.gd (fo_okX sc__law_same (fun vs H Q E h => ?_) (fun f cdv A outer s H vs Q E hr h => ?_)) G (fun _ _ _ _ _ _ us hl => match us, hl with | [_, _], _ => rfl)
    · obtain ⟨_, _, _, _, _, _, _, r, ⟨_, _, f, _⟩, _⟩ := h
      exact f.elim
    · obtain ⟨_, _, _, _, _, _, _, r, ⟨_, _, f, _⟩, _⟩ := h
      exact f.elim
  | succ n g__law_same =>
  refine Fo.gd (fo_d sc__law_same (fun ws m Q Qx h => ?_) (fun f cdv A outer s H E hr => ⟨_, (dss_cons (ds_if (dt_val (d_isi2 m_isinstance (dv 1) (pe_bltn (v := .ty "list") (by rfl) m_list (by decide +kernel) rfl) (pe_bltn (v := .ty "tuple") (by rfl) m_tuple (by decide +kernel) rfl)))
      (dss_cons (ds_if (DW.dt (dw_or (dt_cmp (o_ne (u64 hr)) (d_isi m_isinstance (da_cons (dv 0) (da_cons (d_ty (n := "list") m_list (by decide +kernel)) da_nil))) (d_isi m_isinstance (da_cons (dv 1) (da_cons (d_ty (n := "list") m_list (by decide +kernel)) da_nil))) (nomark _)) (dw_or1 (dt_cmp (o_ne (u64 hr)) (d_isi m_isinstance (da_cons (dv 0) (da_cons (d_ty (n := "tuple") m_tuple (by decide +kernel)) da_nil))) (d_isi m_isinstance (da_cons (dv 1) (da_cons (d_ty (n := "tuple") m_tuple (by decide +kernel)) da_nil))) (nomark _)))))
        (dss_one (ds_ret d_bl))
        dss_nil)
      (dss_one (ds_ret (d_and (d_cmp (o_eq (u64 hr)) (d_len m_len (da_cons (dv 0) da_nil)) (d_len m_len (da_cons (dv 1) da_nil)) (nomark _)) (d_one (d_all rfl m_all (da_cons (d_lc (own := O__law_same_0) rfl sc__law_same.nd (di_range1 m_range (da_cons (d_len m_len (da_cons (dv 1) da_nil)) da_nil)) (blkOk_by (own := O__law_same_0) (N := N__law_same) (sc := defScope s__law_same) (by decide +kernel)) (fun _ _ _ _ _ => (dg_name (i := 2) sc__law_same.nd rfl (.inl rfl))) (fun _ _ _ _ _ => dts_nil) (fun _ _ _ _ _ => (d_call g__law_same (hr.mono (by omega)) passF (da_cons (d_ix (dv 0) (dv 2)) (da_cons (d_ix (dv 1) (dv 2)) da_nil))))) da_nil)))))))
      dss_nil)
    (dss_cons (ds_if (dt_val (d_isi m_isinstance (da_cons (dv 1) (da_cons (d_ty (n := "dict") m_dict (by decide +kernel)) da_nil))))
      dss_never
      dss_nil)
    (dss_cons (ds_if (DW.dt (dw_or (dt_cmp o_is (dv 1) d_non (nomark _)) (dw_or1 (dt_cmp o_is (dv 0) d_non (nomark _)))))
      (dss_one (ds_ret (d_and (d_cmp o_is (dv 0) d_non (nomark _)) (d_one (d_cmp o_is (dv 1) d_non (nomark _))))))
      dss_nil)
    (dss_cons (ds_if (DW.dt (dw_or (dt_cmp (o_ne (u64 hr)) (d_isi m_isinstance (da_cons (dv 1) (da_cons (d_ty (n := "bool") m_bool (by decide +kernel)) da_nil))) (d_isi m_isinstance (da_cons (dv 0) (da_cons (d_ty (n := "bool") m_bool (by decide +kernel)) da_nil))) (nomark _)) (dw_or1 (dt_cmp (o_ne (u64 hr)) (d_isi m_isinstance (da_cons (dv 1) (da_cons (d_ty (n := "int") m_int (by decide +kernel)) da_nil))) (d_isi m_isinstance (da_cons (dv 0) (da_cons (d_ty (n := "int") m_int (by decide +kernel)) da_nil))) (nomark _)))))
      (dss_one (ds_ret d_bl))
      dss_nil)
    (dss_one (ds_ret (d_and (d_cmp (o_eq (u64 hr)) (d_isi m_isinstance (da_cons (dv 1) (da_cons (d_ty (n := "str") m_str (by decide +kernel)) da_nil))) (d_isi m_isinstance (da_cons (dv 0) (da_cons (d_ty (n := "str") m_str (by decide +kernel)) da_nil))) (nomark _)) (d_one (d_cmp (o_eq (u64 hr)) (dv 0) (dv 1) (nomark _)))))))))), fun ws m Qd Qx h => ?_⟩) [] []) G (fun _ _ _ _ _ _ us hl => match us, hl with | [_, _], _ => rfl)
  · obtain ⟨_, rfl, _⟩ := h
    rfl
  · obtain ⟨d, rfl, hf, q⟩ := h
    have ln := sizeLine_eq
    have lp : ∀ (x : D) (ds : List D) (Q : W → Me → Prop) (g : DTG) (te : DTE) (en : En), ds.length < 2 ^ 20 → (∀ j (Qt : W → Me → Prop), (hj : j < ds.length) → Qt (.v (.bl true)) m → g (.v (.int (0 + (j : Nat)))) en m fun en1 m1 => te en1 m1 Qt noX) → Q (.v (.lst (List.replicate ds.length (.bl true)))) m → lcL g tYs te en (rngD 0 ds.length) [] m Q := fun x ds Q g te en hl h k => by
      refine lcL_all (fun _ _ y => y = .bl true) 0 (by rw [rngD_len]; show 0 + _ ≤ _; omega) (fun j d Qt hd hq => ?_) fun ys hys => ?_
      · obtain ⟨rfl, hj⟩ := rngD_at hd
        exact h j Qt hj (hq _ rfl)
      · rw [all2_tr hys, rngD_len]
        exact k
    cases d with
    | lst ds =>
      obtain ⟨h1, h2⟩ := hf
      refine ⟨rfl, rfl, rfl, rfl, rfl, Nat.zero_le _, Nat.zero_le _, rfl, rfl, rfl, rfl, Nat.zero_le _, Nat.zero_le _, rfl, rfl, Nat.zero_le _, Nat.zero_le _, ite_of (by show ((ds.length : Int) == (ds.length : Int)) = true; simp) ?_⟩
      refine ⟨by omega, by omega, lp (.lst ds) ds _ _ _ _ h1 (fun j Qt hj hq => ?_) ?_⟩
      · have a := atI_i (xs := ds) (i := (0 : Int) + (j : Nat)) (by omega) (by omega)
        exact ⟨_, a, _, a, _, rfl, h2 _ (atI_mem a), hq⟩
      · refine bools_tr _ ⟨List.prefix_refl _, ?_⟩
        have : (List.replicate ds.length true).all id = true := by simp
        show Qd (.v (.bl ((List.replicate ds.length true).all id))) m
        rw [this]
        exact q
    | tup ds =>
      obtain ⟨h1, h2⟩ := hf
      refine ⟨rfl, rfl, rfl, rfl, rfl, Nat.zero_le _, Nat.zero_le _, rfl, rfl, rfl, rfl, Nat.zero_le _, Nat.zero_le _, rfl, rfl, Nat.zero_le _, Nat.zero_le _, ite_of (by show ((ds.length : Int) == (ds.length : Int)) = true; simp) ?_⟩
      refine ⟨by omega, by omega, lp (.tup ds) ds _ _ _ _ h1 (fun j Qt hj hq => ?_) ?_⟩
      · have a := atI_i (xs := ds) (i := (0 : Int) + (j : Nat)) (by omega) (by omega)
        exact ⟨_, a, _, a, _, rfl, h2 _ (atI_mem a), hq⟩
      · refine bools_tr _ ⟨List.prefix_refl _, ?_⟩
        have : (List.replicate ds.length true).all id = true := by simp
        show Qd (.v (.bl ((List.replicate ds.length true).all id))) m
        rw [this]
        exact q
    | non => exact ⟨rfl, rfl, rfl, rfl, rfl, List.prefix_refl _, q⟩
    | bl b =>
      refine ⟨rfl, rfl, rfl, rfl, rfl, rfl, rfl, rfl, Nat.zero_le _, Nat.zero_le _, rfl, rfl, rfl, rfl, Nat.zero_le _, Nat.zero_le _, rfl, rfl, rfl, rfl, Nat.zero_le _, Nat.zero_le _, rfl, rfl, Nat.zero_le _, Nat.zero_le _, List.prefix_refl _, ?_⟩
      have e : deq (.bl b) (.bl b) = true := by show (b == b) = true; simp
      show Qd (.v (.bl (deq (.bl b) (.bl b)))) m
      rw [e]
      exact q
    | int b =>
      refine ⟨rfl, rfl, rfl, rfl, rfl, rfl, rfl, rfl, Nat.zero_le _, Nat.zero_le _, rfl, rfl, rfl, rfl, Nat.zero_le _, Nat.zero_le _, rfl, rfl, rfl, rfl, Nat.zero_le _, Nat.zero_le _, rfl, rfl, Nat.zero_le _, Nat.zero_le _, List.prefix_refl _, ?_⟩
      have e : deq (.int b) (.int b) = true := by show (b == b) = true; simp
      show Qd (.v (.bl (deq (.int b) (.int b)))) m
      rw [e]
      exact q
    | str b =>
      refine ⟨rfl, rfl, rfl, rfl, rfl, rfl, rfl, rfl, Nat.zero_le _, Nat.zero_le _, rfl, rfl, rfl, rfl, Nat.zero_le _, Nat.zero_le _, rfl, rfl, rfl, rfl, Nat.zero_le _, Nat.zero_le _, rfl, rfl, Nat.zero_le _, Nat.zero_le _, List.prefix_refl _, ?_⟩
      have e : deq (.str b) (.str b) = true := by show (b == b) = true; simp
      show Qd (.v (.bl (deq (.str b) (.str b)))) m
      rw [e]
      exact q
    | _ => cases hf
end
end Fs
set_option Elab.async false
set_option linter.all false
set_option maxRecDepth 100000
set_option maxHeartbeats 8000000
namespace Fs
open PySem PySem.Spec PyProof.Rows L2
section
variable {X : Cx} {E : XK}
def gLs (n : Nat) (t : DTGs) : DTG := fun x en m Q => match x with
  | .v (.lst ds) => ds.length = n ∧ t (ds.map .v) en m Q
  | _ => False
theorem dg_lst {es : List Expr} {k : Nat} {t : DTGs} {n : Nat} {is : List Nat} {pos : Pos} (hc : X.calm = true) (h : DGs X es is t) (hn : (assignEach es X.env).length = n := by rfl) (hst : (assignEach es X.env).findIdx? (·.1) = none := by rfl) : DG X (.Tuple es k pos) is (gLs n t) := by
  obtain ⟨t1, p1, k1⟩ := h.ex
  refine ⟨_, pg_lst hc p1 hn hst, fun B μ en m σ H x v Q QV R r T k => ?_⟩
  unfold gLs at T
  split at T
  · rename_i ds
    obtain ⟨hl, T⟩ := T
    cases r with
    | lst hs hr => exact ⟨_, _, rfl, .inl (.inl (R.mem.le _ _ hs)), by rw [hr.len]; exact hl, k1 B μ en m σ H _ _ _ _ R hr.ws T k⟩
  · exact T.elim
def aIns : DMt := fun x xs m Q => match x, xs with
  | .loc n, [.v (.int i), .v d] => lstAt m n fun ds => ds.length < sizeLine ∧ 0 ≤ i ∧ i < 2 ^ 63 ∧ Q .non (m.set n (.lst (ds.take i.toNat ++ [d] ++ ds.drop i.toNat)))
  | _, _ => False
theorem aIns_ok : SM X (fun x vs H Q => ∃ (l : Addr) (xs : List V) (i : Int) (y : V), x = .ref l ∧ vs = [.int i, y] ∧ H l = some (.lst xs) ∧ xs.length < sizeLine ∧ 0 ≤ i ∧ i < 2 ^ 63 ∧
    Q .non (upd H l (.lst (xs.take i.toNat ++ [y] ++ xs.drop i.toNat)))) aIns := by
  intro B μ m H x xs v vs Q QV M r rs q k
  unfold aIns at q
  split at q
  · rename_i n i d
    obtain ⟨ds, hm, q⟩ := lstAt_ok q
    obtain ⟨a, rfl, ha⟩ := r
    obtain ⟨us, hv, rl⟩ := M.at_ n a _ ha hm rfl
    cases rs with
    | cons ri r2 =>
      cases (show Rv X.K B _ (.int i) from ri)
      cases r2 with
      | cons rd rn =>
        cases rn
        rename_i vd
        have kp : ∀ b o, b ≠ a → H b = some o → upd H a (.lst (us.take i.toNat ++ [vd] ++ us.drop i.toNat)) b = some o := fun b o c e => by rw [upd_ne c]; exact e
        refine ⟨a, us, i, vd, rfl, rfl, hv, by rw [rl.len]; exact q.1, q.2.1, q.2.2.1, ?_⟩
        have new : OO X.K B μ (upd H a (.lst (us.take i.toNat ++ [vd] ++ us.drop i.toNat))) a (.lst (ds.take i.toNat ++ [d] ++ ds.drop i.toNat)) := ⟨_, upd_same, ((rl.take _).append (.one rd)).append (rl.drop _)⟩
        exact k B _ _ .non _ (Stp.store ha hm rfl kp) (M.store ha hm rfl rfl kp new) .non q.2.2.2
  · exact q.elim
theorem d_insert {o e e2 : Expr} {to : DTE} {ta : DTA} {apos pos : Pos} (ho : DE X E o to) (ha : DA X E [e, e2] ta) (hb : attributeBase o "insert" X.env (eval o X.env) = eval o X.env := by rfl)
    (hfew : ((backTo pos (starEach [e, e2] X.env)).all (fun x => !x.1) && (backToKw pos (keywordEach [] X.env)).all (fun x => x.1.isSome)
      && decide ([e, e2].length + ([] : List Keyword).length + (if ([] : List Keyword).isEmpty then 0 else 1) < 30)) = true := by rfl)
    (hline : (apos.endLine == pos.line) = true := by rfl) (hs : starEach [e, e2] X.env = (false, eval e X.env) :: starEach [e2] X.env := by rfl) (hplain : (backTo pos (starEach [e2] X.env)).any (·.1) = false := by rfl) :
    DE X E (.Call (.Attribute o "insert" apos) [e, e2] [] pos) (tMe isOl aIns to ta) := d_bm PySem.F.plainAttrs_list PySem.F.slot_list_insert PySem.F.type_list_insert L2.mt_insert aIns_ok isOl_ok ho ha hb hfew hline hs hplain
end
section
variable {X : Cx} {E : XK} {a b : Expr} {ta tb : DTE} {pos : Pos}
def catD : D → D → (List D → Prop) → Prop
  | .lst p, .lst q, Q => p.length + q.length ≤ sizeLine ∧ Q (p ++ q)
  | _, _, _ => False
/-- a + b, lists: an own list -/
def tAddO (ta tb : DTE) : DTE := fun en m Q Qx => ta en m (fun x m1 => tb en m1 (fun y m2 => look x m2 fun dx => look y m2 fun dy => catD dx dy fun ds => Q (.loc m2.length) (m2 ++ [.lst ds])) Qx) Qx
theorem d_addO (ha : DE X E a ta) (hb : DE X E b tb) : DE X E (.BinOp a .Add b pos) (tAddO ta tb) := by
  obtain ⟨t1, p1, k1⟩ := ha.ex
  obtain ⟨t2, p2, k2⟩ := hb.ex
  refine ⟨_, pe_op op_cat p1 p2, fun B μ en m σ H Q Qx QV R hx T k => ?_⟩
  refine k1 B μ en m σ H _ Qx _ R hx T fun B0 μ0 m0 H0 x v s0 R0 r0 q0 => ?_
  refine k2 B0 μ0 en m0 σ H0 _ Qx _ R0 (hx.step s0 R0.mem R.mem.le) q0 fun B1 μ1 m1 H1 y u s1' R1 r1 q1 => ?_
  have s1 := s0.trans R0.mem s1' R.mem.le
  obtain ⟨dx, tx, q2⟩ := look_ok R1.mem (r0.to s1'.same s1'.pre) q1
  obtain ⟨dy, ty, q⟩ := look_ok R1.mem r1 q2
  unfold catD at q
  split at q
  · rename_i ds es
    obtain ⟨ax, vs, rfl, h1, rl1⟩ := tx
    obtain ⟨ay, us, rfl, h2, rl2⟩ := ty
    have rl := rl1.append rl2
    refine ⟨ax, ay, vs, us, rfl, rfl, h1, h2, by rw [rl1.len, rl2.len]; exact q.1, fun p np => ?_⟩
    have kp : ∀ a o, a ≠ p → H1 a = some o → upd H1 p (.lst (vs ++ us)) a = some o := fun a o c e => by rw [upd_ne c]; exact e
    have sl := Stp.push R1.mem np (m := .lst (ds ++ es)) kp
    have st := s1.trans R1.mem sl R.mem.le
    have mo := R1.mem.push np (m := .lst (ds ++ es)) (fun a o e => kp a o (ne_of_none (R1.mem.le a o e) np) (R1.mem.le a o e)) kp ⟨vs ++ us, upd_same, rl⟩
    refine k _ _ _ _ (.loc m1.length) _ st (R.stp st mo) ⟨p, rfl, ?_⟩ q.2
    rw [← R1.mem.len]
    simp
  · exact q.elim
end
theorem empty_app (z : Str) : Str.empty ++ z = z := by
  cases z with
  | mk a =>
    show (⟨#[] ++ a⟩ : Str) = ⟨a⟩
    simp
theorem app_assoc (x y z : Str) : (x ++ y) ++ z = x ++ (y ++ z) := by
  cases x with | mk a => cases y with | mk b => cases z with | mk c =>
    show (⟨(a ++ b) ++ c⟩ : Str) = ⟨a ++ (b ++ c)⟩
    rw [Array.append_assoc]
end Fs
set_option Elab.async false
set_option linter.all false
set_option maxRecDepth 100000
set_option maxHeartbeats 8000000
namespace Fs
open PySem PySem.Spec PyProof.Rows L2
section
variable {X : Cx} {E : XK} {o e : Expr} {to : DTE} {ta : DTA} {apos cpos : Pos}
def ssF (f : Str → Str → D) (a : Str) : D → (D → Prop) → Prop
  | .str b, Q => Q (f a b)
  | _, _ => False
theorem d_startswith (ho : DE X E o to) (ha : DA X E [e] ta)
    (hbase : attributeBase o "startswith" X.env (eval o X.env) = eval o X.env := by rfl)
    (hfew : ((backTo cpos (starEach [e] X.env)).all (fun x => !x.1) && (backToKw cpos (keywordEach [] X.env)).all (fun x => x.1.isSome)
      && decide ([e].length + ([] : List Keyword).length + (if ([] : List Keyword).isEmpty then 0 else 1) < 30)) = true := by rfl)
    (hline : (apos.endLine == cpos.line) = true := by rfl) (hs : starEach [e] X.env = (false, eval e X.env) :: starEach [] X.env := by rfl) (hplain : (backTo cpos (starEach [] X.env)).any (·.1) = false := by rfl) :
    DE X E (.Call (.Attribute o "startswith" apos) [e] [] cpos) (tMe isSt (m1 (ssF fun a b => .bl (Txt.startswith a b))) to ta) :=
  d_bm PySem.F.plainAttrs_str PySem.F.slot_str_startswith PySem.F.type_str_startswith mt_startswith (SM.of1 fun B μ m H a v d Q QV M ha td q k => by
    cases d with
    | str b =>
      cases td
      exact ⟨a, b, rfl, rfl, SO.pure M k (.bl _) q⟩
    | _ => exact q.elim) isSt_ok ho ha hbase hfew hline hs hplain
theorem d_endswith (ho : DE X E o to) (ha : DA X E [e] ta)
    (hbase : attributeBase o "endswith" X.env (eval o X.env) = eval o X.env := by rfl)
    (hfew : ((backTo cpos (starEach [e] X.env)).all (fun x => !x.1) && (backToKw cpos (keywordEach [] X.env)).all (fun x => x.1.isSome)
      && decide ([e].length + ([] : List Keyword).length + (if ([] : List Keyword).isEmpty then 0 else 1) < 30)) = true := by rfl)
    (hline : (apos.endLine == cpos.line) = true := by rfl) (hs : starEach [e] X.env = (false, eval e X.env) :: starEach [] X.env := by rfl) (hplain : (backTo cpos (starEach [] X.env)).any (·.1) = false := by rfl) :
    DE X E (.Call (.Attribute o "endswith" apos) [e] [] cpos) (tMe isSt (m1 (ssF fun a b => .bl (Txt.endswith a b))) to ta) :=
  d_bm PySem.F.plainAttrs_str PySem.F.slot_str_endswith PySem.F.type_str_endswith mt_endswith (SM.of1 fun B μ m H a v d Q QV M ha td q k => by
    cases d with
    | str b =>
      cases td
      exact ⟨a, b, rfl, rfl, SO.pure M k (.bl _) q⟩
    | _ => exact q.elim) isSt_ok ho ha hbase hfew hline hs hplain
theorem d_count (ho : DE X E o to) (ha : DA X E [e] ta)
    (hbase : attributeBase o "count" X.env (eval o X.env) = eval o X.env := by rfl)
    (hfew : ((backTo cpos (starEach [e] X.env)).all (fun x => !x.1) && (backToKw cpos (keywordEach [] X.env)).all (fun x => x.1.isSome)
      && decide ([e].length + ([] : List Keyword).length + (if ([] : List Keyword).isEmpty then 0 else 1) < 30)) = true := by rfl)
    (hline : (apos.endLine == cpos.line) = true := by rfl) (hs : starEach [e] X.env = (false, eval e X.env) :: starEach [] X.env := by rfl) (hplain : (backTo cpos (starEach [] X.env)).any (·.1) = false := by rfl) :
    DE X E (.Call (.Attribute o "count" apos) [e] [] cpos) (tMe isSt (m1 (ssF fun a b => .int (Txt.count a b))) to ta) :=
  d_bm PySem.F.plainAttrs_str PySem.F.slot_str_count PySem.F.type_str_count mt_count (SM.of1 fun B μ m H a v d Q QV M ha td q k => by
    cases d with
    | str b =>
      cases td
      exact ⟨a, b, rfl, rfl, SO.pure M k (.int _) q⟩
    | _ => exact q.elim) isSt_ok ho ha hbase hfew hline hs hplain
end
end Fs
set_option Elab.async false
set_option linter.all false
set_option maxRecDepth 100000
set_option maxHeartbeats 8000000
namespace Fs
open PySem PySem.Spec PyProof.Rows L2
theorem spl_sub (S : List Nat) : ∀ (l : List Nat) (k : Nat) (acc : List Nat), ∀ p ∈ TL.spl S k acc l, ∀ c ∈ p, c ∈ acc ∨ c ∈ l
  | [], k, acc, p, hp, c, hc => by
    have hp : p ∈ [acc] := by cases k <;> exact hp
    rw [List.mem_singleton.mp hp] at hc
    exact .inl hc
  | x :: l, 0, acc, p, hp, c, hc => by
    have hp : p ∈ (if TL.pre S (x :: l) = true then acc :: TL.spl S (S.length - 1) [] l else TL.spl S 0 (acc ++ [x]) l) := hp
    by_cases h : TL.pre S (x :: l) = true
    · rw [if_pos h] at hp
      rcases List.mem_cons.mp hp with e | hp
      · rw [e] at hc
        exact .inl hc
      · rcases spl_sub S l _ [] p hp c hc with z | z
        · cases z
        · exact .inr (List.mem_cons_of_mem _ z)
    · rw [if_neg h] at hp
      rcases spl_sub S l 0 (acc ++ [x]) p hp c hc with z | z
      · rcases List.mem_append.mp z with z | z
        · exact .inl z
        · rw [List.mem_singleton.mp z]
          exact .inr List.mem_cons_self
      · exact .inr (List.mem_cons_of_mem _ z)
  | x :: l, k + 1, acc, p, hp, c, hc => by
    have hp : p ∈ TL.spl S k acc l := hp
    rcases spl_sub S l k acc p hp c hc with z | z
    · exact .inl z
    · exact .inr (List.mem_cons_of_mem _ z)
theorem okS_split {a b : Str} (ha : okS a = true) (hb : TL.tl b ≠ []) (hk : ¬ Builtin.Str.strKind a < Builtin.Str.strKind b) : ∀ z ∈ Txt.split a b, okS z = true := fun z hz => by
  refine okS_iff.mpr fun c hc => ?_
  have h : TL.tl z ∈ (Txt.split a b).map TL.tl := List.mem_map_of_mem hz
  rw [TL.split_spl a b hb hk] at h
  rcases spl_sub _ _ _ _ _ h c hc with e | e
  · cases e
  · exact okS_iff.mp ha c e
theorem rvL_strs {K : Frag} {B : Hp} : ∀ {zs : List Str}, (∀ z ∈ zs, okS z = true) → RvL K B (zs.map V.str) (zs.map D.str)
  | [], _ => .nil
  | z :: zs, h => .cons (.str (h z List.mem_cons_self)) (rvL_strs fun y hy => h y (List.mem_cons_of_mem _ hy))
section
variable {X : Cx} {E : XK} {o e : Expr} {to : DTE} {ta : DTA} {apos cpos : Pos}
def spF (a : Str) : D → (D → Prop) → Prop
  | .str b, Q => b.cps.all (· < 256) = true ∧ TL.tl b ≠ [] ∧ a.length + 2 ≤ sizeLine ∧ Q (.lst ((Txt.split a b).map .str))
  | _, _ => False
theorem d_split (ho : DE X E o to) (ha : DA X E [e] ta)
    (hbase : attributeBase o "split" X.env (eval o X.env) = eval o X.env := by rfl)
    (hfew : ((backTo cpos (starEach [e] X.env)).all (fun x => !x.1) && (backToKw cpos (keywordEach [] X.env)).all (fun x => x.1.isSome)
      && decide ([e].length + ([] : List Keyword).length + (if ([] : List Keyword).isEmpty then 0 else 1) < 30)) = true := by rfl)
    (hline : (apos.endLine == cpos.line) = true := by rfl) (hs : starEach [e] X.env = (false, eval e X.env) :: starEach [] X.env := by rfl) (hplain : (backTo cpos (starEach [] X.env)).any (·.1) = false := by rfl) :
    DE X E (.Call (.Attribute o "split" apos) [e] [] cpos) (tMe isSt (m1 spF) to ta) :=
  d_bm PySem.F.plainAttrs_str PySem.F.slot_str_split PySem.F.type_str_split mt_split (SM.of1 fun B μ m H a v d Q QV M ha td q k => by
    cases d with
    | str b =>
      cases td
      obtain ⟨q1, q2, q3, q⟩ := q
      refine ⟨a, b, rfl, rfl, ?_, q3, fun p np => SO.new M k np (new_lst M np (rvL_strs (okS_split ha q2 (TL.kind_ok q1)))) q⟩
      cases hz : b.length with
      | zero => exact absurd ((TL.len0_tl b).mp hz) q2
      | succ n => rfl
    | _ => exact q.elim) isSt_ok ho ha hbase hfew hline hs hplain
end
end Fs
set_option Elab.async false
set_option linter.all false
set_option maxRecDepth 100000
set_option maxHeartbeats 8000000
namespace Fs
open PySem PySem.Spec PyProof.Rows L2
abbrev s_law : Stmt := top 38
abbrev N_law : List Str := ["_law_script", "_law_bag_here", "_law_n", "_law_m", "_law_errors_here", "_law_words", "_law_first", "_law_turn", "_law_k", "_law_e", "_law_bases", "_law_due", "_law_j"]
abbrev P_law : List Str := ["_law_script"]
abbrev O_law_0 : List (Str × Nat) := [("_law_j", 12)]
theorem sc_law : FnScope N_law P_law (defScope s_law) := ⟨rfl, rfl, rfl, by decide +kernel, rfl, by decide +kernel, by decide +kernel⟩
/-- the law ends and gives True -/
def lawN : Dn := ⟨fun _ _ => False, fun x _ => x = .v (.bl true), fun _ _ => False, fun _ _ => False, noX⟩
/-- the law's slots behind its first statement -/
abbrev bagE (n : Nat) : En := none :: some (.loc 0) :: List.replicate n none
theorem bagE_at {n i : Nat} {x : W} {p : Addr} {σ : L2.St} (e : (bagE n)[i]? = some (some x)) (h : σ[1]? = some (some (.ref p))) : x = .loc 0 ∧ σ[i]? = some (some (.ref p)) := by
  match i, e with
  | 0, e => cases e
  | 1, e =>
    have e : some (some (W.loc 0)) = some (some x) := e
    cases e
    exact ⟨rfl, h⟩
  | i + 2, e =>
    have e : (List.replicate n none)[i]? = some (some x) := e
    rw [List.getElem?_replicate] at e
    split at e <;> cases e
section
variable {P : Program} {w : World} {K : Frag} {mg : Str → Option Value} {base : Heap}
theorem law_start {X : Cx} {t2 : TS} {T : DTS} {p l : Addr} {H1 : Hp} {Q : VK} {σ : L2.St} {en : En} (hs : SS X E0 t2 T) (B1 : BagAt H1 p l) (hl : σ.length = en.length) (he : ∀ (i : Nat) (x : W), en[i]? = some (some x) → x = .loc 0 ∧ σ[i]? = some (some (.ref p))) (hT : T en [.bag] lawN) (q : ∀ H', Q (.bl true) H') (D : Ends) (hD : D.rt = Q) : t2 D σ H1 := by
  obtain ⟨i, rs, sd, ns, e1, e2, e3⟩ := B1.ex
  have lp : l ≠ p := fun z => by
    subst z
    rw [e2] at e1
    cases ns <;> cases e1
  let B : Hp := fun b => if b = l then some (.lst (ns.map V.int)) else none
  have bl : B l = some (.lst (ns.map V.int)) := if_pos rfl
  have M : MemOk X.K B [p] [.bag] H1 := by
    refine ⟨fun a o e => ?_, rfl, fun a l' => ?_, fun n a m ea em _ => ?_, fun n k a m m' ea ek _ _ _ _ => ?_, fun a ps e => ?_⟩
    · have e : (if a = l then some (HO.lst (ns.map V.int)) else none) = some o := e
      by_cases c : a = l
      · rw [if_pos c] at e
        cases e
        rw [c]
        exact e2
      · rw [if_neg c] at e
        cases e
    · obtain ⟨n, m, ea, _⟩ := l'
      have ez : a = p := by
        cases n with
        | zero => simpa using ea.symm
        | succ n => simp at ea
      subst ez
      exact if_neg (fun z => lp z.symm)
    · have ez : a = p ∧ m = .bag := by
        cases n with
        | zero => exact ⟨by simpa using ea.symm, by simpa using em.symm⟩
        | succ n => simp at ea
      obtain ⟨rfl, rfl⟩ := ez
      exact ⟨l, i, rs, sd, ns, e1, bl, e3⟩
    · have e1 : n = 0 := by
        cases n with
        | zero => rfl
        | succ n => simp at ea
      have e2 : k = 0 := by
        cases k with
        | zero => rfl
        | succ n => simp at ek
      rw [e1, e2]
    · have e : (if a = l then some (HO.lst (ns.map V.int)) else none) = some (.tbl ps) := e
      by_cases c : a = l
      · rw [if_pos c] at e
        cases e
      · rw [if_neg c] at e
        cases e
  refine hs B [p] en [.bag] σ H1 lawN D ⟨M, hl, fun i x e => ?_⟩ ExOf.no hT ⟨fun _ _ _ _ _ _ _ _ z => z.elim, fun B' μ' m' H' x v s M' r z => ?_, fun _ _ _ _ _ _ _ _ z => z.elim, fun _ _ _ _ _ _ _ _ z => z.elim⟩
  · obtain ⟨rfl, h⟩ := he i x e
    exact ⟨_, h, p, rfl, rfl⟩
  · have z : x = .v (.bl true) := z
    subst z
    cases (show Rv X.K B' v (.bl true) from r)
    rw [hD]
    exact q H'
theorem tabB_nil {B H : Hp} {a : Addr} {q : Str} (h : H a = some (.tbl #[])) : TabB B H a q := ⟨#[], h, trivial, fun pos cv hc => by cases hc⟩
/-- .. where the law makes lambdas -/
theorem law_startT {X : Cx} {t2 : TS} {T : DTS} {p l PT : Addr} {qT : Str} {H1 : Hp} {Q : VK} {σ : L2.St} {en : En} (hs : SS X E0 t2 T) (B1 : BagAt H1 p l) (hP : H1 PT = some (.tbl #[])) (hl : σ.length = en.length) (he : ∀ (i : Nat) (x : W), en[i]? = some (some x) → x = .loc 0 ∧ σ[i]? = some (some (.ref p))) (hT : T en [.bag, .tab PT qT] lawN) (q : ∀ H', Q (.bl true) H') (D : Ends) (hD : D.rt = Q) : t2 D σ H1 := by
  obtain ⟨i, rs, sd, ns, e1, e2, e3⟩ := B1.ex
  have lp : l ≠ p := fun z => by
    subst z
    rw [e2] at e1
    cases ns <;> cases e1
  have pP : p ≠ PT := fun z => by
    subst z
    rw [e1] at hP
    cases hP
  have lP : l ≠ PT := fun z => by
    subst z
    rw [e2] at hP
    cases hP
  let B : Hp := fun b => if b = l then some (.lst (ns.map V.int)) else none
  have bl : B l = some (.lst (ns.map V.int)) := if_pos rfl
  have two : ∀ {n : Nat} {a : Addr} {m : MO}, [p, PT][n]? = some a → [MO.bag, .tab PT qT][n]? = some m → (n = 0 ∧ a = p ∧ m = .bag) ∨ (n = 1 ∧ a = PT ∧ m = .tab PT qT) := fun {n a m} ea em => by
    match n with
    | 0 =>
      left
      exact ⟨rfl, by simpa using ea.symm, by simpa using em.symm⟩
    | 1 =>
      right
      exact ⟨rfl, by simpa using ea.symm, by simpa using em.symm⟩
    | n + 2 => simp at ea
  have M : MemOk X.K B [p, PT] [.bag, .tab PT qT] H1 := by
    refine ⟨fun a o e => ?_, rfl, fun a l' => ?_, fun n a m ea em _ => ?_, fun n k a m m' ea ek em ek' _ _ => ?_, fun a ps e => ?_⟩
    · have e : (if a = l then some (HO.lst (ns.map V.int)) else none) = some o := e
      by_cases c : a = l
      · rw [if_pos c] at e
        cases e
        rw [c]
        exact e2
      · rw [if_neg c] at e
        cases e
    · obtain ⟨n, m, ea, em, _⟩ := l'
      rcases two ea em with ⟨_, rfl, _⟩ | ⟨_, rfl, _⟩
      · exact if_neg (fun z => lp z.symm)
      · exact if_neg (fun z => lP z.symm)
    · rcases two ea em with ⟨_, rfl, rfl⟩ | ⟨_, rfl, rfl⟩
      · exact ⟨l, i, rs, sd, ns, e1, bl, e3⟩
      · exact ⟨rfl, tabB_nil hP⟩
    · rcases two ea em with ⟨h0, h1, _⟩ | ⟨h0, h1, _⟩
      · rcases two ek ek' with ⟨k0, k1, _⟩ | ⟨k0, k1, _⟩
        · rw [h0, k0]
        · exact absurd (h1.symm.trans k1) pP
      · rcases two ek ek' with ⟨k0, k1, _⟩ | ⟨k0, k1, _⟩
        · exact absurd (k1.symm.trans h1) pP
        · rw [h0, k0]
    · have e : (if a = l then some (HO.lst (ns.map V.int)) else none) = some (.tbl ps) := e
      by_cases c : a = l
      · rw [if_pos c] at e
        cases e
      · rw [if_neg c] at e
        cases e
  refine hs B [p, PT] en [.bag, .tab PT qT] σ H1 lawN D ⟨M, hl, fun i x e => ?_⟩ ExOf.no hT ⟨fun _ _ _ _ _ _ _ _ z => z.elim, fun B' μ' m' H' x v s M' r z => ?_, fun _ _ _ _ _ _ _ _ z => z.elim, fun _ _ _ _ _ _ _ _ z => z.elim⟩
  · obtain ⟨rfl, h⟩ := he i x e
    exact ⟨_, h, p, rfl, rfl⟩
  · have z : x = .v (.bl true) := z
    subst z
    cases (show Rv X.K B' v (.bl true) from r)
    rw [hD]
    exact q H'
end
end Fs
set_option Elab.async false
set_option linter.all false
set_option maxRecDepth 100000
set_option maxHeartbeats 8000000
namespace Fs
open PySem PySem.Spec PyProof.Rows L2
section
variable {P : Program} {w : World} {K : Frag} {mg : Str → Option Value} {base : Heap}
abbrev s_InvalidFrame___init__ : Stmt := inClass (top 3) 0
abbrev N_InvalidFrame___init__ : List Str := ["self"]
abbrev P_InvalidFrame___init__ : List Str := ["self"]
theorem sc_InvalidFrame : FnScope N_InvalidFrame___init__ P_InvalidFrame___init__ (defScope s_InvalidFrame___init__) := ⟨rfl, rfl, rfl, by decide +kernel, rfl, by decide +kernel, by decide +kernel⟩
theorem ini_InvalidFrame {C : Addr} {q : Str} {f : Addr} {fd : FuncData} (D : FunD K "__init__" q (defArgs s_InvalidFrame___init__) (defBody s_InvalidFrame___init__) (defScope s_InvalidFrame___init__) [] [] f fd) (T : ErrC K C) : FnOk P w K mg base CX0 1 f fd ["self"] (spIni C 0 fun _ => [("code", .str "InvalidFrame")]) := by
  refine D.ok sc_InvalidFrame (fun vs H Q E h => ?_) (fun cdv A outer s H vs Q E hr h => ?_)
  · obtain ⟨a, ws, rfl, hl, _⟩ := h
    rw [List.length_cons, hl]
    rfl
  obtain ⟨a, ws, rfl, hl, ha, q⟩ := h
  cases ws with
  | cons x xs => cases hl
  | nil =>
    refine ⟨_, PSs.nox (pss_one (ps_ost (pv 0) pe_str)), ?_⟩
    refine ⟨_, rfl, a, C, rfl, T.ox, T.ex.no _ (by simp [namesE]), .inl ⟨ha, fun d nd da => ?_⟩⟩
    refine q d _ nd da upd_same (by rw [upd_ne da, upd_same]) fun b o hb e => ?_
    rw [upd_ne hb, upd_ne (ne_of_none e nd)]
    exact e
abbrev s_InvalidExpression___init__ : Stmt := inClass (top 6) 0
abbrev N_InvalidExpression___init__ : List Str := ["self"]
abbrev P_InvalidExpression___init__ : List Str := ["self"]
theorem sc_InvalidExpression : FnScope N_InvalidExpression___init__ P_InvalidExpression___init__ (defScope s_InvalidExpression___init__) := ⟨rfl, rfl, rfl, by decide +kernel, rfl, by decide +kernel, by decide +kernel⟩
theorem ini_InvalidExpression {C : Addr} {q : Str} {f : Addr} {fd : FuncData} (D : FunD K "__init__" q (defArgs s_InvalidExpression___init__) (defBody s_InvalidExpression___init__) (defScope s_InvalidExpression___init__) [] [] f fd) (T : ErrC K C) : FnOk P w K mg base CX0 1 f fd ["self"] (spIni C 0 fun _ => [("code", .str "InvalidExpression")]) := by
  refine D.ok sc_InvalidExpression (fun vs H Q E h => ?_) (fun cdv A outer s H vs Q E hr h => ?_)
  · obtain ⟨a, ws, rfl, hl, _⟩ := h
    rw [List.length_cons, hl]
    rfl
  obtain ⟨a, ws, rfl, hl, ha, q⟩ := h
  cases ws with
  | cons x xs => cases hl
  | nil =>
    refine ⟨_, PSs.nox (pss_one (ps_ost (pv 0) pe_str)), ?_⟩
    refine ⟨_, rfl, a, C, rfl, T.ox, T.ex.no _ (by simp [namesE]), .inl ⟨ha, fun d nd da => ?_⟩⟩
    refine q d _ nd da upd_same (by rw [upd_ne da, upd_same]) fun b o hb e => ?_
    rw [upd_ne hb, upd_ne (ne_of_none e nd)]
    exact e
abbrev s_NoSizes___init__ : Stmt := inClass (top 8) 0
abbrev N_NoSizes___init__ : List Str := ["self"]
abbrev P_NoSizes___init__ : List Str := ["self"]
theorem sc_NoSizes : FnScope N_NoSizes___init__ P_NoSizes___init__ (defScope s_NoSizes___init__) := ⟨rfl, rfl, rfl, by decide +kernel, rfl, by decide +kernel, by decide +kernel⟩
theorem ini_NoSizes {C : Addr} {q : Str} {f : Addr} {fd : FuncData} (D : FunD K "__init__" q (defArgs s_NoSizes___init__) (defBody s_NoSizes___init__) (defScope s_NoSizes___init__) [] [] f fd) (T : ErrC K C) : FnOk P w K mg base CX0 1 f fd ["self"] (spIni C 0 fun _ => [("code", .str "NoSizes")]) := by
  refine D.ok sc_NoSizes (fun vs H Q E h => ?_) (fun cdv A outer s H vs Q E hr h => ?_)
  · obtain ⟨a, ws, rfl, hl, _⟩ := h
    rw [List.length_cons, hl]
    rfl
  obtain ⟨a, ws, rfl, hl, ha, q⟩ := h
  cases ws with
  | cons x xs => cases hl
  | nil =>
    refine ⟨_, PSs.nox (pss_one (ps_ost (pv 0) pe_str)), ?_⟩
    refine ⟨_, rfl, a, C, rfl, T.ox, T.ex.no _ (by simp [namesE]), .inl ⟨ha, fun d nd da => ?_⟩⟩
    refine q d _ nd da upd_same (by rw [upd_ne da, upd_same]) fun b o hb e => ?_
    rw [upd_ne hb, upd_ne (ne_of_none e nd)]
    exact e
abbrev s_InvalidClaim___init__ : Stmt := inClass (top 9) 0
abbrev N_InvalidClaim___init__ : List Str := ["self"]
abbrev P_InvalidClaim___init__ : List Str := ["self"]
theorem sc_InvalidClaim : FnScope N_InvalidClaim___init__ P_InvalidClaim___init__ (defScope s_InvalidClaim___init__) := ⟨rfl, rfl, rfl, by decide +kernel, rfl, by decide +kernel, by decide +kernel⟩
theorem ini_InvalidClaim {C : Addr} {q : Str} {f : Addr} {fd : FuncData} (D : FunD K "__init__" q (defArgs s_InvalidClaim___init__) (defBody s_InvalidClaim___init__) (defScope s_InvalidClaim___init__) [] [] f fd) (T : ErrC K C) : FnOk P w K mg base CX0 1 f fd ["self"] (spIni C 0 fun _ => [("code", .str "InvalidClaim")]) := by
  refine D.ok sc_InvalidClaim (fun vs H Q E h => ?_) (fun cdv A outer s H vs Q E hr h => ?_)
  · obtain ⟨a, ws, rfl, hl, _⟩ := h
    rw [List.length_cons, hl]
    rfl
  obtain ⟨a, ws, rfl, hl, ha, q⟩ := h
  cases ws with
  | cons x xs => cases hl
  | nil =>
    refine ⟨_, PSs.nox (pss_one (ps_ost (pv 0) pe_str)), ?_⟩
    refine ⟨_, rfl, a, C, rfl, T.ox, T.ex.no _ (by simp [namesE]), .inl ⟨ha, fun d nd da => ?_⟩⟩
    refine q d _ nd da upd_same (by rw [upd_ne da, upd_same]) fun b o hb e => ?_
    rw [upd_ne hb, upd_ne (ne_of_none e nd)]
    exact e
abbrev s_NotHeld___init__ : Stmt := inClass (top 11) 0
abbrev N_NotHeld___init__ : List Str := ["self"]
abbrev P_NotHeld___init__ : List Str := ["self"]
theorem sc_NotHeld : FnScope N_NotHeld___init__ P_NotHeld___init__ (defScope s_NotHeld___init__) := ⟨rfl, rfl, rfl, by decide +kernel, rfl, by decide +kernel, by decide +kernel⟩
theorem ini_NotHeld {C : Addr} {q : Str} {f : Addr} {fd : FuncData} (D : FunD K "__init__" q (defArgs s_NotHeld___init__) (defBody s_NotHeld___init__) (defScope s_NotHeld___init__) [] [] f fd) (T : ErrC K C) : FnOk P w K mg base CX0 1 f fd ["self"] (spIni C 0 fun _ => [("code", .str "NotHeld")]) := by
  refine D.ok sc_NotHeld (fun vs H Q E h => ?_) (fun cdv A outer s H vs Q E hr h => ?_)
  · obtain ⟨a, ws, rfl, hl, _⟩ := h
    rw [List.length_cons, hl]
    rfl
  obtain ⟨a, ws, rfl, hl, ha, q⟩ := h
  cases ws with
  | cons x xs => cases hl
  | nil =>
    refine ⟨_, PSs.nox (pss_one (ps_ost (pv 0) pe_str)), ?_⟩
    refine ⟨_, rfl, a, C, rfl, T.ox, T.ex.no _ (by simp [namesE]), .inl ⟨ha, fun d nd da => ?_⟩⟩
    refine q d _ nd da upd_same (by rw [upd_ne da, upd_same]) fun b o hb e => ?_
    rw [upd_ne hb, upd_ne (ne_of_none e nd)]
    exact e
abbrev s_OtherThings___init__ : Stmt := inClass (top 12) 0
abbrev N_OtherThings___init__ : List Str := ["self"]
abbrev P_OtherThings___init__ : List Str := ["self"]
theorem sc_OtherThings : FnScope N_OtherThings___init__ P_OtherThings___init__ (defScope s_OtherThings___init__) := ⟨rfl, rfl, rfl, by decide +kernel, rfl, by decide +kernel, by decide +kernel⟩
theorem ini_OtherThings {C : Addr} {q : Str} {f : Addr} {fd : FuncData} (D : FunD K "__init__" q (defArgs s_OtherThings___init__) (defBody s_OtherThings___init__) (defScope s_OtherThings___init__) [] [] f fd) (T : ErrC K C) : FnOk P w K mg base CX0 1 f fd ["self"] (spIni C 0 fun _ => [("code", .str "OtherThings")]) := by
  refine D.ok sc_OtherThings (fun vs H Q E h => ?_) (fun cdv A outer s H vs Q E hr h => ?_)
  · obtain ⟨a, ws, rfl, hl, _⟩ := h
    rw [List.length_cons, hl]
    rfl
  obtain ⟨a, ws, rfl, hl, ha, q⟩ := h
  cases ws with
  | cons x xs => cases hl
  | nil =>
    refine ⟨_, PSs.nox (pss_one (ps_ost (pv 0) pe_str)), ?_⟩
    refine ⟨_, rfl, a, C, rfl, T.ox, T.ex.no _ (by simp [namesE]), .inl ⟨ha, fun d nd da => ?_⟩⟩
    refine q d _ nd da upd_same (by rw [upd_ne da, upd_same]) fun b o hb e => ?_
    rw [upd_ne hb, upd_ne (ne_of_none e nd)]
    exact e
abbrev s_TooLarge___init__ : Stmt := inClass (top 13) 0
abbrev N_TooLarge___init__ : List Str := ["self"]
abbrev P_TooLarge___init__ : List Str := ["self"]
theorem sc_TooLarge : FnScope N_TooLarge___init__ P_TooLarge___init__ (defScope s_TooLarge___init__) := ⟨rfl, rfl, rfl, by decide +kernel, rfl, by decide +kernel, by decide +kernel⟩
theorem ini_TooLarge {C : Addr} {q : Str} {f : Addr} {fd : FuncData} (D : FunD K "__init__" q (defArgs s_TooLarge___init__) (defBody s_TooLarge___init__) (defScope s_TooLarge___init__) [] [] f fd) (T : ErrC K C) : FnOk P w K mg base CX0 1 f fd ["self"] (spIni C 0 fun _ => [("code", .str "TooLarge")]) := by
  refine D.ok sc_TooLarge (fun vs H Q E h => ?_) (fun cdv A outer s H vs Q E hr h => ?_)
  · obtain ⟨a, ws, rfl, hl, _⟩ := h
    rw [List.length_cons, hl]
    rfl
  obtain ⟨a, ws, rfl, hl, ha, q⟩ := h
  cases ws with
  | cons x xs => cases hl
  | nil =>
    refine ⟨_, PSs.nox (pss_one (ps_ost (pv 0) pe_str)), ?_⟩
    refine ⟨_, rfl, a, C, rfl, T.ox, T.ex.no _ (by simp [namesE]), .inl ⟨ha, fun d nd da => ?_⟩⟩
    refine q d _ nd da upd_same (by rw [upd_ne da, upd_same]) fun b o hb e => ?_
    rw [upd_ne hb, upd_ne (ne_of_none e nd)]
    exact e
abbrev s_TooMany___init__ : Stmt := inClass (top 4) 0
abbrev N_TooMany___init__ : List Str := ["self", "most"]
abbrev P_TooMany___init__ : List Str := ["self", "most"]
theorem sc_TooMany : FnScope N_TooMany___init__ P_TooMany___init__ (defScope s_TooMany___init__) := ⟨rfl, rfl, rfl, by decide +kernel, rfl, by decide +kernel, by decide +kernel⟩
theorem ini_TooMany {C : Addr} {q : Str} {f : Addr} {fd : FuncData} (D : FunD K "__init__" q (defArgs s_TooMany___init__) (defBody s_TooMany___init__) (defScope s_TooMany___init__) [] [] f fd) (T : ErrC K C) : FnOk P w K mg base CX0 1 f fd ["self", "most"] (spIni C 1 fun vs => [("most", vs.headD .non), ("code", .str "TooMany")]) := by
  refine D.ok sc_TooMany (fun vs H Q E h => ?_) (fun cdv A outer s H vs Q E hr h => ?_)
  · obtain ⟨a, ws, rfl, hl, _⟩ := h
    rw [List.length_cons, hl]
    rfl
  obtain ⟨a, ws, rfl, hl, ha, q⟩ := h
  match ws, hl with
  | [x], _ =>
    refine ⟨_, PSs.nox (pss_cons (ps_ost (pv 0) pe_str) (pss_one (ps_ost (pv 0) (pv 1)))), ?_⟩
    refine ⟨_, rfl, a, C, rfl, T.ox, T.ex.no _ (by simp [namesE]), .inl ⟨ha, fun d nd da => ?_⟩⟩
    refine ⟨_, rfl, _, rfl, a, C, rfl, T.ox, T.ex.no _ (by simp [namesE]), .inr ⟨d, _, upd_same, (by rw [upd_ne da, upd_same]), (by simp), ?_⟩⟩
    refine q d _ nd da (by rw [upd_ne da.symm, upd_same]) upd_same fun b o hb e => ?_
    rw [upd_ne (ne_of_none e nd), upd_ne hb, upd_ne (ne_of_none e nd)]
    exact e
abbrev s_InvalidSizes___init__ : Stmt := inClass (top 5) 0
abbrev N_InvalidSizes___init__ : List Str := ["self", "name"]
abbrev P_InvalidSizes___init__ : List Str := ["self", "name"]
theorem sc_InvalidSizes : FnScope N_InvalidSizes___init__ P_InvalidSizes___init__ (defScope s_InvalidSizes___init__) := ⟨rfl, rfl, rfl, by decide +kernel, rfl, by decide +kernel, by decide +kernel⟩
theorem ini_InvalidSizes {C : Addr} {q : Str} {f : Addr} {fd : FuncData} (D : FunD K "__init__" q (defArgs s_InvalidSizes___init__) (defBody s_InvalidSizes___init__) (defScope s_InvalidSizes___init__) [] [] f fd) (T : ErrC K C) : FnOk P w K mg base CX0 1 f fd ["self", "name"] (spIni C 1 fun vs => [("name", vs.headD .non), ("code", .str "InvalidSizes")]) := by
  refine D.ok sc_InvalidSizes (fun vs H Q E h => ?_) (fun cdv A outer s H vs Q E hr h => ?_)
  · obtain ⟨a, ws, rfl, hl, _⟩ := h
    rw [List.length_cons, hl]
    rfl
  obtain ⟨a, ws, rfl, hl, ha, q⟩ := h
  match ws, hl with
  | [x], _ =>
    refine ⟨_, PSs.nox (pss_cons (ps_ost (pv 0) pe_str) (pss_one (ps_ost (pv 0) (pv 1)))), ?_⟩
    refine ⟨_, rfl, a, C, rfl, T.ox, T.ex.no _ (by simp [namesE]), .inl ⟨ha, fun d nd da => ?_⟩⟩
    refine ⟨_, rfl, _, rfl, a, C, rfl, T.ox, T.ex.no _ (by simp [namesE]), .inr ⟨d, _, upd_same, (by rw [upd_ne da, upd_same]), (by simp), ?_⟩⟩
    refine q d _ nd da (by rw [upd_ne da.symm, upd_same]) upd_same fun b o hb e => ?_
    rw [upd_ne (ne_of_none e nd), upd_ne hb, upd_ne (ne_of_none e nd)]
    exact e
abbrev s_InvalidFact___init__ : Stmt := inClass (top 7) 0
abbrev N_InvalidFact___init__ : List Str := ["self", "index"]
abbrev P_InvalidFact___init__ : List Str := ["self", "index"]
theorem sc_InvalidFact : FnScope N_InvalidFact___init__ P_InvalidFact___init__ (defScope s_InvalidFact___init__) := ⟨rfl, rfl, rfl, by decide +kernel, rfl, by decide +kernel, by decide +kernel⟩
theorem ini_InvalidFact {C : Addr} {q : Str} {f : Addr} {fd : FuncData} (D : FunD K "__init__" q (defArgs s_InvalidFact___init__) (defBody s_InvalidFact___init__) (defScope s_InvalidFact___init__) [] [] f fd) (T : ErrC K C) : FnOk P w K mg base CX0 1 f fd ["self", "index"] (spIni C 1 fun vs => [("index", vs.headD .non), ("code", .str "InvalidFact")]) := by
  refine D.ok sc_InvalidFact (fun vs H Q E h => ?_) (fun cdv A outer s H vs Q E hr h => ?_)
  · obtain ⟨a, ws, rfl, hl, _⟩ := h
    rw [List.length_cons, hl]
    rfl
  obtain ⟨a, ws, rfl, hl, ha, q⟩ := h
  match ws, hl with
  | [x], _ =>
    refine ⟨_, PSs.nox (pss_cons (ps_ost (pv 0) pe_str) (pss_one (ps_ost (pv 0) (pv 1)))), ?_⟩
    refine ⟨_, rfl, a, C, rfl, T.ox, T.ex.no _ (by simp [namesE]), .inl ⟨ha, fun d nd da => ?_⟩⟩
    refine ⟨_, rfl, _, rfl, a, C, rfl, T.ox, T.ex.no _ (by simp [namesE]), .inr ⟨d, _, upd_same, (by rw [upd_ne da, upd_same]), (by simp), ?_⟩⟩
    refine q d _ nd da (by rw [upd_ne da.symm, upd_same]) upd_same fun b o hb e => ?_
    rw [upd_ne (ne_of_none e nd), upd_ne hb, upd_ne (ne_of_none e nd)]
    exact e
abbrev s_UnknownThing___init__ : Stmt := inClass (top 10) 0
abbrev N_UnknownThing___init__ : List Str := ["self", "name"]
abbrev P_UnknownThing___init__ : List Str := ["self", "name"]
theorem sc_UnknownThing : FnScope N_UnknownThing___init__ P_UnknownThing___init__ (defScope s_UnknownThing___init__) := ⟨rfl, rfl, rfl, by decide +kernel, rfl, by decide +kernel, by decide +kernel⟩
theorem ini_UnknownThing {C : Addr} {q : Str} {f : Addr} {fd : FuncData} (D : FunD K "__init__" q (defArgs s_UnknownThing___init__) (defBody s_UnknownThing___init__) (defScope s_UnknownThing___init__) [] [] f fd) (T : ErrC K C) : FnOk P w K mg base CX0 1 f fd ["self", "name"] (spIni C 1 fun vs => [("name", vs.headD .non), ("code", .str "UnknownThing")]) := by
  refine D.ok sc_UnknownThing (fun vs H Q E h => ?_) (fun cdv A outer s H vs Q E hr h => ?_)
  · obtain ⟨a, ws, rfl, hl, _⟩ := h
    rw [List.length_cons, hl]
    rfl
  obtain ⟨a, ws, rfl, hl, ha, q⟩ := h
  match ws, hl with
  | [x], _ =>
    refine ⟨_, PSs.nox (pss_cons (ps_ost (pv 0) pe_str) (pss_one (ps_ost (pv 0) (pv 1)))), ?_⟩
    refine ⟨_, rfl, a, C, rfl, T.ox, T.ex.no _ (by simp [namesE]), .inl ⟨ha, fun d nd da => ?_⟩⟩
    refine ⟨_, rfl, _, rfl, a, C, rfl, T.ox, T.ex.no _ (by simp [namesE]), .inr ⟨d, _, upd_same, (by rw [upd_ne da, upd_same]), (by simp), ?_⟩⟩
    refine q d _ nd da (by rw [upd_ne da.symm, upd_same]) upd_same fun b o hb e => ?_
    rw [upd_ne (ne_of_none e nd), upd_ne hb, upd_ne (ne_of_none e nd)]
    exact e
abbrev s_InvalidName___init__ : Stmt := inClass (top 15) 0
abbrev N_InvalidName___init__ : List Str := ["self", "name"]
abbrev P_InvalidName___init__ : List Str := ["self", "name"]
theorem sc_InvalidName : FnScope N_InvalidName___init__ P_InvalidName___init__ (defScope s_InvalidName___init__) := ⟨rfl, rfl, rfl, by decide +kernel, rfl, by decide +kernel, by decide +kernel⟩
theorem ini_InvalidName {C : Addr} {q : Str} {f : Addr} {fd : FuncData} (D : FunD K "__init__" q (defArgs s_InvalidName___init__) (defBody s_InvalidName___init__) (defScope s_InvalidName___init__) [] [] f fd) (T : ErrC K C) : FnOk P w K mg base CX0 1 f fd ["self", "name"] (spIni C 1 fun vs => [("name", vs.headD .non), ("code", .str "InvalidName")]) := by
  refine D.ok sc_InvalidName (fun vs H Q E h => ?_) (fun cdv A outer s H vs Q E hr h => ?_)
  · obtain ⟨a, ws, rfl, hl, _⟩ := h
    rw [List.length_cons, hl]
    rfl
  obtain ⟨a, ws, rfl, hl, ha, q⟩ := h
  match ws, hl with
  | [x], _ =>
    refine ⟨_, PSs.nox (pss_cons (ps_ost (pv 0) pe_str) (pss_one (ps_ost (pv 0) (pv 1)))), ?_⟩
    refine ⟨_, rfl, a, C, rfl, T.ox, T.ex.no _ (by simp [namesE]), .inl ⟨ha, fun d nd da => ?_⟩⟩
    refine ⟨_, rfl, _, rfl, a, C, rfl, T.ox, T.ex.no _ (by simp [namesE]), .inr ⟨d, _, upd_same, (by rw [upd_ne da, upd_same]), (by simp), ?_⟩⟩
    refine q d _ nd da (by rw [upd_ne da.symm, upd_same]) upd_same fun b o hb e => ?_
    rw [upd_ne (ne_of_none e nd), upd_ne hb, upd_ne (ne_of_none e nd)]
    exact e
abbrev s_DuplicateName___init__ : Stmt := inClass (top 16) 0
abbrev N_DuplicateName___init__ : List Str := ["self", "name"]
abbrev P_DuplicateName___init__ : List Str := ["self", "name"]
theorem sc_DuplicateName : FnScope N_DuplicateName___init__ P_DuplicateName___init__ (defScope s_DuplicateName___init__) := ⟨rfl, rfl, rfl, by decide +kernel, rfl, by decide +kernel, by decide +kernel⟩
theorem ini_DuplicateName {C : Addr} {q : Str} {f : Addr} {fd : FuncData} (D : FunD K "__init__" q (defArgs s_DuplicateName___init__) (defBody s_DuplicateName___init__) (defScope s_DuplicateName___init__) [] [] f fd) (T : ErrC K C) : FnOk P w K mg base CX0 1 f fd ["self", "name"] (spIni C 1 fun vs => [("name", vs.headD .non), ("code", .str "DuplicateName")]) := by
  refine D.ok sc_DuplicateName (fun vs H Q E h => ?_) (fun cdv A outer s H vs Q E hr h => ?_)
  · obtain ⟨a, ws, rfl, hl, _⟩ := h
    rw [List.length_cons, hl]
    rfl
  obtain ⟨a, ws, rfl, hl, ha, q⟩ := h
  match ws, hl with
  | [x], _ =>
    refine ⟨_, PSs.nox (pss_cons (ps_ost (pv 0) pe_str) (pss_one (ps_ost (pv 0) (pv 1)))), ?_⟩
    refine ⟨_, rfl, a, C, rfl, T.ox, T.ex.no _ (by simp [namesE]), .inl ⟨ha, fun d nd da => ?_⟩⟩
    refine ⟨_, rfl, _, rfl, a, C, rfl, T.ox, T.ex.no _ (by simp [namesE]), .inr ⟨d, _, upd_same, (by rw [upd_ne da, upd_same]), (by simp), ?_⟩⟩
    refine q d _ nd da (by rw [upd_ne da.symm, upd_same]) upd_same fun b o hb e => ?_
    rw [upd_ne (ne_of_none e nd), upd_ne hb, upd_ne (ne_of_none e nd)]
    exact e
abbrev s_WrongKind___init__ : Stmt := inClass (top 17) 0
abbrev N_WrongKind___init__ : List Str := ["self", "name"]
abbrev P_WrongKind___init__ : List Str := ["self", "name"]
theorem sc_WrongKind : FnScope N_WrongKind___init__ P_WrongKind___init__ (defScope s_WrongKind___init__) := ⟨rfl, rfl, rfl, by decide +kernel, rfl, by decide +kernel, by decide +kernel⟩
theorem ini_WrongKind {C : Addr} {q : Str} {f : Addr} {fd : FuncData} (D : FunD K "__init__" q (defArgs s_WrongKind___init__) (defBody s_WrongKind___init__) (defScope s_WrongKind___init__) [] [] f fd) (T : ErrC K C) : FnOk P w K mg base CX0 1 f fd ["self", "name"] (spIni C 1 fun vs => [("name", vs.headD .non), ("code", .str "WrongKind")]) := by
  refine D.ok sc_WrongKind (fun vs H Q E h => ?_) (fun cdv A outer s H vs Q E hr h => ?_)
  · obtain ⟨a, ws, rfl, hl, _⟩ := h
    rw [List.length_cons, hl]
    rfl
  obtain ⟨a, ws, rfl, hl, ha, q⟩ := h
  match ws, hl with
  | [x], _ =>
    refine ⟨_, PSs.nox (pss_cons (ps_ost (pv 0) pe_str) (pss_one (ps_ost (pv 0) (pv 1)))), ?_⟩
    refine ⟨_, rfl, a, C, rfl, T.ox, T.ex.no _ (by simp [namesE]), .inl ⟨ha, fun d nd da => ?_⟩⟩
    refine ⟨_, rfl, _, rfl, a, C, rfl, T.ox, T.ex.no _ (by simp [namesE]), .inr ⟨d, _, upd_same, (by rw [upd_ne da, upd_same]), (by simp), ?_⟩⟩
    refine q d _ nd da (by rw [upd_ne da.symm, upd_same]) upd_same fun b o hb e => ?_
    rw [upd_ne (ne_of_none e nd), upd_ne hb, upd_ne (ne_of_none e nd)]
    exact e
abbrev s_InUse___init__ : Stmt := inClass (top 18) 0
abbrev N_InUse___init__ : List Str := ["self", "claim"]
abbrev P_InUse___init__ : List Str := ["self", "claim"]
theorem sc_InUse : FnScope N_InUse___init__ P_InUse___init__ (defScope s_InUse___init__) := ⟨rfl, rfl, rfl, by decide +kernel, rfl, by decide +kernel, by decide +kernel⟩
theorem ini_InUse {C : Addr} {q : Str} {f : Addr} {fd : FuncData} (D : FunD K "__init__" q (defArgs s_InUse___init__) (defBody s_InUse___init__) (defScope s_InUse___init__) [] [] f fd) (T : ErrC K C) : FnOk P w K mg base CX0 1 f fd ["self", "claim"] (spIni C 1 fun vs => [("claim", vs.headD .non), ("code", .str "InUse")]) := by
  refine D.ok sc_InUse (fun vs H Q E h => ?_) (fun cdv A outer s H vs Q E hr h => ?_)
  · obtain ⟨a, ws, rfl, hl, _⟩ := h
    rw [List.length_cons, hl]
    rfl
  obtain ⟨a, ws, rfl, hl, ha, q⟩ := h
  match ws, hl with
  | [x], _ =>
    refine ⟨_, PSs.nox (pss_cons (ps_ost (pv 0) pe_str) (pss_one (ps_ost (pv 0) (pv 1)))), ?_⟩
    refine ⟨_, rfl, a, C, rfl, T.ox, T.ex.no _ (by simp [namesE]), .inl ⟨ha, fun d nd da => ?_⟩⟩
    refine ⟨_, rfl, _, rfl, a, C, rfl, T.ox, T.ex.no _ (by simp [namesE]), .inr ⟨d, _, upd_same, (by rw [upd_ne da, upd_same]), (by simp), ?_⟩⟩
    refine q d _ nd da (by rw [upd_ne da.symm, upd_same]) upd_same fun b o hb e => ?_
    rw [upd_ne (ne_of_none e nd), upd_ne hb, upd_ne (ne_of_none e nd)]
    exact e
abbrev s_Full___init__ : Stmt := inClass (top 19) 0
abbrev N_Full___init__ : List Str := ["self", "most"]
abbrev P_Full___init__ : List Str := ["self", "most"]
theorem sc_Full : FnScope N_Full___init__ P_Full___init__ (defScope s_Full___init__) := ⟨rfl, rfl, rfl, by decide +kernel, rfl, by decide +kernel, by decide +kernel⟩
theorem ini_Full {C : Addr} {q : Str} {f : Addr} {fd : FuncData} (D : FunD K "__init__" q (defArgs s_Full___init__) (defBody s_Full___init__) (defScope s_Full___init__) [] [] f fd) (T : ErrC K C) : FnOk P w K mg base CX0 1 f fd ["self", "most"] (spIni C 1 fun vs => [("most", vs.headD .non), ("code", .str "Full")]) := by
  refine D.ok sc_Full (fun vs H Q E h => ?_) (fun cdv A outer s H vs Q E hr h => ?_)
  · obtain ⟨a, ws, rfl, hl, _⟩ := h
    rw [List.length_cons, hl]
    rfl
  obtain ⟨a, ws, rfl, hl, ha, q⟩ := h
  match ws, hl with
  | [x], _ =>
    refine ⟨_, PSs.nox (pss_cons (ps_ost (pv 0) pe_str) (pss_one (ps_ost (pv 0) (pv 1)))), ?_⟩
    refine ⟨_, rfl, a, C, rfl, T.ox, T.ex.no _ (by simp [namesE]), .inl ⟨ha, fun d nd da => ?_⟩⟩
    refine ⟨_, rfl, _, rfl, a, C, rfl, T.ox, T.ex.no _ (by simp [namesE]), .inr ⟨d, _, upd_same, (by rw [upd_ne da, upd_same]), (by simp), ?_⟩⟩
    refine q d _ nd da (by rw [upd_ne da.symm, upd_same]) upd_same fun b o hb e => ?_
    rw [upd_ne (ne_of_none e nd), upd_ne hb, upd_ne (ne_of_none e nd)]
    exact e
abbrev s_InvalidCommand___init__ : Stmt := inClass (top 20) 0
abbrev N_InvalidCommand___init__ : List Str := ["self", "word"]
abbrev P_InvalidCommand___init__ : List Str := ["self", "word"]
theorem sc_InvalidCommand : FnScope N_InvalidCommand___init__ P_InvalidCommand___init__ (defScope s_InvalidCommand___init__) := ⟨rfl, rfl, rfl, by decide +kernel, rfl, by decide +kernel, by decide +kernel⟩
theorem ini_InvalidCommand {C : Addr} {q : Str} {f : Addr} {fd : FuncData} (D : FunD K "__init__" q (defArgs s_InvalidCommand___init__) (defBody s_InvalidCommand___init__) (defScope s_InvalidCommand___init__) [] [] f fd) (T : ErrC K C) : FnOk P w K mg base CX0 1 f fd ["self", "word"] (spIni C 1 fun vs => [("word", vs.headD .non), ("code", .str "InvalidCommand")]) := by
  refine D.ok sc_InvalidCommand (fun vs H Q E h => ?_) (fun cdv A outer s H vs Q E hr h => ?_)
  · obtain ⟨a, ws, rfl, hl, _⟩ := h
    rw [List.length_cons, hl]
    rfl
  obtain ⟨a, ws, rfl, hl, ha, q⟩ := h
  match ws, hl with
  | [x], _ =>
    refine ⟨_, PSs.nox (pss_cons (ps_ost (pv 0) pe_str) (pss_one (ps_ost (pv 0) (pv 1)))), ?_⟩
    refine ⟨_, rfl, a, C, rfl, T.ox, T.ex.no _ (by simp [namesE]), .inl ⟨ha, fun d nd da => ?_⟩⟩
    refine ⟨_, rfl, _, rfl, a, C, rfl, T.ox, T.ex.no _ (by simp [namesE]), .inr ⟨d, _, upd_same, (by rw [upd_ne da, upd_same]), (by simp), ?_⟩⟩
    refine q d _ nd da (by rw [upd_ne da.symm, upd_same]) upd_same fun b o hb e => ?_
    rw [upd_ne (ne_of_none e nd), upd_ne hb, upd_ne (ne_of_none e nd)]
    exact e
abbrev s_InvalidLimit___init__ : Stmt := inClass (top 22) 0
abbrev N_InvalidLimit___init__ : List Str := ["self", "limit"]
abbrev P_InvalidLimit___init__ : List Str := ["self", "limit"]
theorem sc_InvalidLimit : FnScope N_InvalidLimit___init__ P_InvalidLimit___init__ (defScope s_InvalidLimit___init__) := ⟨rfl, rfl, rfl, by decide +kernel, rfl, by decide +kernel, by decide +kernel⟩
theorem ini_InvalidLimit {C : Addr} {q : Str} {f : Addr} {fd : FuncData} (D : FunD K "__init__" q (defArgs s_InvalidLimit___init__) (defBody s_InvalidLimit___init__) (defScope s_InvalidLimit___init__) [] [] f fd) (T : ErrC K C) : FnOk P w K mg base CX0 1 f fd ["self", "limit"] (spIni C 1 fun vs => [("limit", vs.headD .non), ("code", .str "InvalidLimit")]) := by
  refine D.ok sc_InvalidLimit (fun vs H Q E h => ?_) (fun cdv A outer s H vs Q E hr h => ?_)
  · obtain ⟨a, ws, rfl, hl, _⟩ := h
    rw [List.length_cons, hl]
    rfl
  obtain ⟨a, ws, rfl, hl, ha, q⟩ := h
  match ws, hl with
  | [x], _ =>
    refine ⟨_, PSs.nox (pss_cons (ps_ost (pv 0) pe_str) (pss_one (ps_ost (pv 0) (pv 1)))), ?_⟩
    refine ⟨_, rfl, a, C, rfl, T.ox, T.ex.no _ (by simp [namesE]), .inl ⟨ha, fun d nd da => ?_⟩⟩
    refine ⟨_, rfl, _, rfl, a, C, rfl, T.ox, T.ex.no _ (by simp [namesE]), .inr ⟨d, _, upd_same, (by rw [upd_ne da, upd_same]), (by simp), ?_⟩⟩
    refine q d _ nd da (by rw [upd_ne da.symm, upd_same]) upd_same fun b o hb e => ?_
    rw [upd_ne (ne_of_none e nd), upd_ne hb, upd_ne (ne_of_none e nd)]
    exact e
abbrev s_ParseError___init__ : Stmt := inClass (top 23) 0
abbrev N_ParseError___init__ : List Str := ["self", "line"]
abbrev P_ParseError___init__ : List Str := ["self", "line"]
theorem sc_ParseError : FnScope N_ParseError___init__ P_ParseError___init__ (defScope s_ParseError___init__) := ⟨rfl, rfl, rfl, by decide +kernel, rfl, by decide +kernel, by decide +kernel⟩
theorem ini_ParseError {C : Addr} {q : Str} {f : Addr} {fd : FuncData} (D : FunD K "__init__" q (defArgs s_ParseError___init__) (defBody s_ParseError___init__) (defScope s_ParseError___init__) [] [] f fd) (T : ErrC K C) : FnOk P w K mg base CX0 1 f fd ["self", "line"] (spIni C 1 fun vs => [("line", vs.headD .non), ("code", .str "ParseError")]) := by
  refine D.ok sc_ParseError (fun vs H Q E h => ?_) (fun cdv A outer s H vs Q E hr h => ?_)
  · obtain ⟨a, ws, rfl, hl, _⟩ := h
    rw [List.length_cons, hl]
    rfl
  obtain ⟨a, ws, rfl, hl, ha, q⟩ := h
  match ws, hl with
  | [x], _ =>
    refine ⟨_, PSs.nox (pss_cons (ps_ost (pv 0) pe_str) (pss_one (ps_ost (pv 0) (pv 1)))), ?_⟩
    refine ⟨_, rfl, a, C, rfl, T.ox, T.ex.no _ (by simp [namesE]), .inl ⟨ha, fun d nd da => ?_⟩⟩
    refine ⟨_, rfl, _, rfl, a, C, rfl, T.ox, T.ex.no _ (by simp [namesE]), .inr ⟨d, _, upd_same, (by rw [upd_ne da, upd_same]), (by simp), ?_⟩⟩
    refine q d _ nd da (by rw [upd_ne da.symm, upd_same]) upd_same fun b o hb e => ?_
    rw [upd_ne (ne_of_none e nd), upd_ne hb, upd_ne (ne_of_none e nd)]
    exact e
end
end Fs
set_option Elab.async false
set_option linter.all false
set_option maxRecDepth 100000
set_option maxHeartbeats 8000000
namespace Fs
open PySem PySem.Spec PyProof.Rows L2
/-! ### what the written part says of an own error class, over any built-in error -/
structure OexG (K : Frag) (C : Addr) : Prop where
  cls : ∃ (bt newId initId : String) (bmB : List Value) (nm q : Str) (N : Addr) (bs bm : List Value) (sn : List Str) (sub : List Value) (ab : Bool) (col : Option Bool) (dd : Option Addr) (k0 k1 k2 k3 k5 : Option Value),
    ExcBaseFacts bt newId initId bmB ∧ StoreFacts bt bmB "object.__setattr__" "object" ∧ K.lookup C = some (excClassObj nm q C N bs bm true sn sub ab col dd k0 k1 k2 k3 k5 newId) ∧ PySem.W.excTail bmB bm = true
  sa : PySem.W.findIn K (.ref C) "__setattr__" = some (some (.builtin "object.__setattr__"))
  kC : PySem.W.keepIn K (.ref C) = true
theorem excTail_VE : ∀ l : List Value, PySem.HandSPX.refsVE l = true → PySem.W.excTail PySem.HandSPX.veTail l = true := by
  intro l
  induction l with
  | nil => intro e; exact absurd e (by decide)
  | cons a r ih =>
    intro e
    rcases PySem.HandSPX.refsVE_cases (a :: r) e with ⟨c, r', q, h⟩ | q
    · obtain ⟨rfl, rfl⟩ := List.cons.inj q
      exact ih h
    · rw [q]
      decide +kernel
theorem exG {K : Frag} {C : Addr} (T : OexC K C) : OexG K C := by
  obtain ⟨nm, q, N, bs, bm, sn, sub, ab, col, dd, k0, k1, k2, k3, k5, hC, hbm⟩ := T.cls
  exact ⟨⟨"ValueError", "ValueError.__new__", "ValueError.__init__", PySem.HandSPX.veTail, nm, q, N, bs, bm, sn, sub, ab, col, dd, k0, k1, k2, k3, k5, _root_.PySem.F.excBase_ValueError, _root_.PySem.F.store_ValueError, hC, excTail_VE _ hbm⟩, T.sa, T.kC⟩
section
variable {X : Cx} {pins : List (Addr × Obj)} {σ : L2.St} {H : Hp} {s : Shared} {a C dx : Addr} {f : Str} {y : V} {u : Value} {fs : List (Str × V)} {Q : Unit → Shared → Prop} {E : Value → Shared → Prop} {A : Around}
theorem taker_none {K : Frag} (h : PySem.W.findIn K (.ref C) f = some none) : PySem.W.takerIn K C f = some none := by
  unfold PySem.W.takerIn
  rw [h]
  rfl
/-- the first field -/
theorem gst_new (T : OexG X.K C) (I : Inv X pins σ H s) (e : H a = some (exo a C none)) (hno : PySem.W.findIn X.K (.ref C) f = some none) (ry : RelV y u)
    (h : ∀ dx s', H dx = none → dx ≠ a → Inv X pins σ (upd (upd H dx (exd dx [(f, y)])) a (exo a C (some dx))) s' → Q () s') : wpAny (model X.prog X.w) A (setAttr (.ref a) f u) Q E s := by
  obtain ⟨bt, ni, ii, bmB, nm, q, N, bs, bm, sn, sub, ab, col, dd, k0, k1, k2, k3, k5, _, SF, hC, hT⟩ := T.cls
  have hcl : PySem.W.clsIn X.K C = some ({ name := nm, bases := bs, mro := .ref C :: bm, ns := N, qualname := q, hasDict := true, slotNames := sn, subclasses := sub, abstract := ab, collection := col, hasDel := false } : ClassData) := by
    unfold PySem.W.clsIn
    rw [hC]
  obtain ⟨t1, ho⟩ := exo_at I.hok e
  obtain ⟨hp, g, d, t, os⟩ := s
  have IA : PySem.W.InstAt hp a ({ cls := .ref C, dict := none, data := .fields #[.ref t1, .none, .none, .none, .bool false, .none] } : Obj) C none := ⟨ho, rfl, rfl, trivial⟩
  have over : PySem.W.excOver X.K C bmB = true := by
    simp [PySem.W.excOver, hcl, hT]
  refine PySem.W.set_plain I.kIn IA T.sa ?_
  refine PySem.W.osa_openX (od := none) SF I.kIn IA over (taker_none hno) fun b => ?_
  refine wpAny_bind (wpAny_pure (wpAny_bind (PySem.W.instanceDict_exc ho (PySem.W.looks_clsIn I.kIn hcl) rfl ?_)))
  have az : a ≠ hp.objs.size := Nat.ne_of_lt (Heap.lt_size ho)
  show wpAny _ _ (PySem.Builtin.ObjectAttr.storeInDict hp.objs.size _ f u) _ _ _
  refine PySem.HandSPX.store_in_new ⟨_, #[], _, (Heap.get?_update_ne _ _ _ _ az.symm).trans (Heap.get?_push_at rfl rfl), rfl, fun e he => absurd he (by simp), fun _ => rfl⟩ fun h' tk' hn hs => ?_
  have k : ∀ b o, b ≠ a → hp.get? b = some o → h'.get? b = some o := fun b o hb q =>
    (hs.2 b (Nat.ne_of_lt (Heap.lt_size q))).trans ((Heap.get?_update_ne _ _ _ _ hb).trans (Heap.get?_push_of_some _ q))
  have hx : h'.get? a = some ({ cls := .ref C, dict := some hp.objs.size, data := .fields #[.ref t1, .none, .none, .none, .bool false, .none] } : Obj) :=
    (hs.2 a az).trans (Heap.get?_update_self _ (Heap.get?_push_of_some _ ho) rfl)
  have nH : H hp.objs.size = none := I.hok.fresh (Nat.le_refl _)
  have nd : ∀ {b : Addr} {o : Obj}, hp.get? b = some o → b ≠ hp.objs.size := fun {b o} q => Nat.ne_of_lt (Heap.lt_size q)
  have na : ∀ {b : Addr}, H b = none → b ≠ a := fun {b} n z => by
    subst z
    rw [e] at n
    exact nomatch n
  have U : Un X.fs [] H (upd (upd H hp.objs.size (exd hp.objs.size [(f, y)])) a (exo a C (some hp.objs.size))) hp h' := by
    refine ⟨fun b o q n _ _ => k b o (na n) q, fun b o q n _ _ => ⟨o.slots, k b o (na n) q⟩, fun b o q n _ => ?_, fun b o q _ => ?_, fun b xs q => ?_, fun b o v q => ?_, fun b ps q => ?_⟩
    · rw [upd_ne (na n), upd_ne (nd q)]
      exact n
    · by_cases hb : b = a
      · subst hb
        exact ⟨_, hx⟩
      · exact ⟨o, k b o hb q⟩
    · rw [upd_ne (at_ne e q exo_tup), upd_ne (ne_of_none q nH)]
      exact q
    · rw [upd_ne (at_ne e q exo_frz), upd_ne (ne_of_none q nH)]
      exact q
    · refine ⟨#[], ?_⟩
      rw [upd_ne (at_ne e q exo_tbl), upd_ne (ne_of_none q nH), q]
      simp
  refine h _ _ nH az.symm (I.un (t' := tk') U fun b o q => ?_)
  by_cases hb : b = a
  · subst hb
    rw [upd_same] at q
    cases q
    exact exo_ok hx
  · rw [upd_ne hb] at q
    by_cases hd : b = hp.objs.size
    · subst hd
      rw [upd_same] at q
      cases q
      exact exd_ok hn (relO_put (fs := []) ry fun g => True.intro)
    · rw [upd_ne hd] at q
      refine (I.hok b o q).stay (fun c v hc z => k c v ?_ z) (fun c hc => ?_) (fun c xs hc => ?_)
      · rcases hc with hc | hc
        · subst hc
          exact hb
        · exact at_ne e hc exo_own
      · rw [upd_ne (at_ne e hc exo_own), upd_ne (ne_of_none hc nH)]
        exact hc
      · rw [upd_ne (at_ne e hc exo_tup), upd_ne (ne_of_none hc nH)]
        exact hc
end
section
variable {X : Cx} {pins : List (Addr × Obj)} {σ : L2.St} {H : Hp} {s : Shared} {a C dx : Addr} {f : Str} {y : V} {u : Value} {fs : List (Str × V)} {Q : Unit → Shared → Prop} {E : Value → Shared → Prop} {A : Around}
/-- a further field -/
theorem gst_old (T : OexG X.K C) (I : Inv X pins σ H s) (e : H a = some (exo a C (some dx))) (ed : H dx = some (exd dx fs)) (hl : fs.length ≤ 900) (hno : PySem.W.findIn X.K (.ref C) f = some none) (ry : RelV y u)
    (h : ∀ s', Inv X pins σ (upd H dx (exd dx ((f, y) :: fs))) s' → Q () s') : wpAny (model X.prog X.w) A (setAttr (.ref a) f u) Q E s := by
  obtain ⟨bt, ni, ii, bmB, nm, q, N, bs, bm, sn, sub, ab, col, dd, k0, k1, k2, k3, k5, _, SF, hC, hT⟩ := T.cls
  have hcl : PySem.W.clsIn X.K C = some ({ name := nm, bases := bs, mro := .ref C :: bm, ns := N, qualname := q, hasDict := true, slotNames := sn, subclasses := sub, abstract := ab, collection := col, hasDel := false } : ClassData) := by
    unfold PySem.W.clsIn
    rw [hC]
  obtain ⟨t1, ho⟩ := exo_at I.hok e
  obtain ⟨mA, hns, rel⟩ := exd_at I.hok ed
  obtain ⟨hp, g, d, t, os⟩ := s
  obtain ⟨oD, _, _, hoD, _, _⟩ := hns.count (within_of rel)
  have IA : PySem.W.InstAt hp a ({ cls := .ref C, dict := some dx, data := .fields #[.ref t1, .none, .none, .none, .bool false, .none] } : Obj) C (some oD) := ⟨ho, rfl, rfl, hoD⟩
  have over : PySem.W.excOver X.K C bmB = true := by
    simp [PySem.W.excOver, hcl, hT]
  refine PySem.W.set_plain I.kIn IA T.sa ?_
  refine PySem.W.osa_openX (od := some oD) SF I.kIn IA over (taker_none hno) fun b => ?_
  obtain ⟨cd, hc, hh⟩ : ∃ cd : ClassData, PySem.W.clsIn X.K C = some cd ∧ cd.hasDict = true := ⟨_, hcl, rfl⟩
  have st : ∀ {A' Q' E' s'} , s'.heap = hp → Q' (some dx) s' → wpAny (model X.prog X.w) A' (PySem.Builtin.ObjectAttr.ownDictForStores (.ref a)) Q' E' s' := fun {A' Q' E' s'} eq q => by
    have ho' : s'.heap.get? a = _ := eq ▸ ho
    have kin : X.K.In s'.heap := eq ▸ I.kIn
    refine wpAny_bind (wpAny_loadPart ho' (wpAny_bind ((PySem.W.looks_clsIn kin hc).here ?_)))
    rw [hh]
    exact wpAny_pure (a := some dx) q
  refine wpAny_bind (wpAny_pure (wpAny_bind (st rfl ?_)))
  refine PySem.OEX.store_in_old hns (within_of rel) (by rw [List.length_map]; omega) fun h' tk' hn hs => ?_
  have k : ∀ b o, b ≠ dx → hp.get? b = some o → h'.get? b = some o := fun b o hb q => (hs.2 b hb).trans q
  have hd : ∃ o, h'.get? dx = some o := hn.elim fun o z => z.elim fun _ z => z.elim fun _ z => ⟨o, z.1⟩
  exact h _ (I.write (t' := tk') (x := dx) (e := dx) (o := exd dx ((f, y) :: fs)) (by rw [ed]; exact True.intro) (.inl rfl) k hd (exd_ok hn (relO_put ry rel)))
end
/-- o.f = e, o an exception that was just made -/
def tGst (K : Frag) (f : Str) (to te : TE) : TS := fun D σ H => te σ H fun y H1 => to σ H1 fun x H2 => ∃ a C : Addr, x = .ref a ∧ OexG K C ∧ PySem.W.findIn K (.ref C) f = some none ∧
  ((H2 a = some (exo a C none) ∧ ∀ dx, H2 dx = none → dx ≠ a → D.nx σ (upd (upd H2 dx (exd dx [(f, y)])) a (exo a C (some dx)))) ∨
    ∃ (dx : Addr) (fs : List (Str × V)), H2 a = some (exo a C (some dx)) ∧ H2 dx = some (exd dx fs) ∧ fs.length ≤ 900 ∧ D.nx σ (upd H2 dx (exd dx ((f, y) :: fs))))
theorem ps_gst {X : Cx} {o e : Expr} {to te : TE} {f : Str} {p' pos : Pos} (ho : PE X o to) (he : PE X e te) (hs : swapsWith e (some (.Attribute o f p')) pos.line X.env = pure false := by rfl) : PS X (.Assign [.Attribute o f p'] e pos) (tGst X.K f to te) := by
  constructor
  intro pins s σ H D I h
  refine plainObj_wpAny_Assign_Attribute (thn (he.run pins s σ H _ I h) ?_) hs
  rintro v s1 ⟨y, H1, I1, r1, q1⟩
  refine thn (ho.run pins s1 σ H1 _ I1 q1) ?_
  rintro u s2 ⟨x, H2, I2, r2, a, C, rfl, T, hno, q⟩
  cases (show u = Value.ref a from r2)
  rcases q with ⟨ea, q⟩ | ⟨dx, fs, ea, ed, hl, q⟩
  · exact gst_new T I2 ea hno r1 fun dx s' n ne J => ⟨σ, _, J, q dx n ne⟩
  · exact gst_old T I2 ea ed hl hno r1 fun s' J => ⟨σ, _, J, q⟩
/-! ### C(..) as a value -/
def rMkE (C : Addr) (sp : Sp) : List V → Hp → VK → Prop := fun vs H1 Q => vs.length ≤ 1000 ∧ ∀ a, H1 a = none → sp (.ref a :: vs) (upd H1 a (exo a C none))
  (fun v H2 => v = .non ∧ Q (.ref a) H2) E0
/-- a class that is made so -/
structure OexV (P : Program) (w : World) (K : Frag) (mg : Str → Option Value) (base : Heap) (k : Nat) (C : Addr) (sp : Sp) : Prop where
  cls : OexG K C
  ini : ∃ fI fd ps, PySem.W.findIn K (.ref C) "__init__" = some (some (.ref fI)) ∧ PySem.W.typeIn K (.ref fI) = some (.type "function") ∧ FnOk P w K mg base CX0 k fI fd ps sp ∧ Binds K fd ps []
theorem OexM.v {P : Program} {w : World} {K : Frag} {mg : Str → Option Value} {base : Heap} {k : Nat} {C : Addr} {sp : Sp} (M : OexM P w K mg base k C sp) : OexV P w K mg base k C sp := ⟨exG M.cls, M.ini⟩
section
variable {X : Cx} {pins : List (Addr × Obj)} {σ : L2.St} {H1 : Hp} {s1 : Shared} {C : Addr} {k : Nat} {sp : Sp} {x : Str} {p pos : Pos}
theorem made_callE {us : List Value} {vs : List V} {Q : VK} (M : OexV X.prog X.w X.K X.mg X.base k C sp) (room : Room (k + 1) X.A) (I : Inv X pins σ H1 s1) (r : Vals vs us) (h : rMkE C sp vs H1 Q) :
    wpAny (model X.prog X.w) X.A (call (.ref C) us) (EP X pins σ Q) X.xe s1 := by
  obtain ⟨fI, fd, ps, iC, tI, F, bind⟩ := M.ini
  obtain ⟨bt, ni, ii, bmB, nm, q, N, bs, bm, sn, sub, ab, col, dd, k0, k1, k2, k3, k5, FB, SF, hC, hT⟩ := M.cls.cls
  obtain ⟨small, want⟩ := h
  obtain ⟨hp, g, dr, tk, os⟩ := s1
  have le1 : hp.objs.size ≤ hp.objs.size + 1 := Nat.le_succ _
  have hq := want (hp.objs.size + 1) (I.hok.fresh le1)
  have more : ∀ b o, hp.get? b = some o → ((hp.push (PySem.W.kdv_tup us)).push (PySem.HandSPX.excO C hp.objs.size)).get? b = some o := fun b o e => Heap.get?_push_of_some _ (Heap.get?_push_of_some _ e)
  have new : ((hp.push (PySem.W.kdv_tup us)).push (PySem.HandSPX.excO C hp.objs.size)).get? (hp.objs.size + 1) = some (PySem.HandSPX.excO C hp.objs.size) := by heap_get
  have J : Inv X pins σ (upd H1 (hp.objs.size + 1) (exo (hp.objs.size + 1) C none)) ⟨(hp.push (PySem.W.kdv_tup us)).push (PySem.HandSPX.excO C hp.objs.size), g, dr, tk, os⟩ :=
    I.laid (t' := tk) (a := hp.objs.size + 1) (h' := (hp.push (PySem.W.kdv_tup us)).push (PySem.HandSPX.excO C hp.objs.size)) more le1 (exo_ok new)
  have rv : Vals (V.ref (hp.objs.size + 1) :: vs) (Value.ref (hp.objs.size + 1) :: us) := .cons rfl r
  have nps : (Value.ref (hp.objs.size + 1) :: us).length = ps.length := by
    rw [← rv.length]
    exact F.len _ _ _ _ hq
  have bt' : BindsTo (⟨(hp.push (PySem.W.kdv_tup us)).push (PySem.HandSPX.excO C hp.objs.size), g, dr, tk, os⟩ : Shared) fd ⟨Value.ref (hp.objs.size + 1) :: us, []⟩ (ps.zip (Value.ref (hp.objs.size + 1) :: us)) := by
    have z := bind ⟨(hp.push (PySem.W.kdv_tup us)).push (PySem.HandSPX.excO C hp.objs.size), g, dr, tk, os⟩ (Value.ref (hp.objs.size + 1) :: us) J.kIn (by rw [List.append_nil]; exact nps)
    rw [List.append_nil] at z
    exact z
  have uz : us.length ≤ sizeLine := by
    rw [← Paired.length r, sizeLine_eq]
    omega
  refine wpAny_call (PySem.HandSPX.call_own FB (fun Y => PySem.W.excTail_contains Y bm hT) (I.kIn _ _ hC) (PySem.W.looks_findIn I.kIn iC) (fun self => PySem.W.bind_fn I.kIn self tI) uz
    (codeAny_mono (F.run _ X.stack _ _ ⟨Value.ref (hp.objs.size + 1) :: us, []⟩ (Value.ref (hp.objs.size + 1) :: us) _ _ E0 (room.make C us []) (J.env0.make C us []) bt' rv hq) ?_))
  intro z s2 hz
  cases z with
  | error er => exact (show False from hz).elim
  | ok fl =>
    cases fl with
    | ret u =>
      obtain ⟨v, H2, os2, bare2, un2, hok2, rv2, ev, q2⟩ := hz
      subst ev
      exact ⟨rv2, .ref (hp.objs.size + 1), H2, J.call' (ch := []) os2 un2 hok2 bare2 (fun b z => absurd z (by simp)), rfl, q2⟩
    | next => exact (show False from hz).elim
    | brk => exact (show False from hz).elim
    | cont => exact (show False from hz).elim
theorem pe_mkE0 (M : OexV X.prog X.w X.K X.mg X.base k C sp) (room : Room (k + 1) X.A) (hm : X.mg x = some (.ref C)) (hg : Gl X x := by rfl) (hdb : (x == ("__debug__" : Str)) = false := by decide) :
    PE X (.Call (.Name x p) [] [] pos) (fun σ H Q => rMkE C sp [] H Q) := by
  constructor
  intro pins s σ H Q I h
  exact wpAny_Call_Name_kw (ld_glob I hg hm (PySem.W.callWith_K0 I.kIn M.cls.kC (made_callE (us := []) M room I .nil h)) hdb)
theorem pe_mkE {e : Expr} {es : List Expr} {ta : TA} (M : OexV X.prog X.w X.K X.mg X.base k C sp) (room : Room (k + 1) X.A) (hm : X.mg x = some (.ref C)) (ha : PA X (e :: es) ta) (hg : Gl X x := by rfl) (hdb : (x == ("__debug__" : Str)) = false := by decide)
    (he : starEach (e :: es) X.env = (false, eval e X.env) :: starEach es X.env := by rfl) (hpl : (backTo pos (starEach es X.env)).any (·.1) = false := by rfl) :
    PE X (.Call (.Name x p) (e :: es) [] pos) (fun σ H Q => ta σ H fun vs H1 => rMkE C sp vs H1 Q) := by
  constructor
  intro pins s σ H Q I h
  refine wpAny_Call_Name_kw (ld_glob I hg hm (PySem.W.callWith_K (h₀ := X.base) I.ok.mod.kin M.cls.kC (thn (ha.run pos pins s σ H _ I h) ?_) he hpl) hdb)
  rintro us s1 ⟨vs, H1, I1, r, q⟩
  exact ⟨I1.kIn, made_callE M room I1 r q⟩
end
/-- the new exception lies beside all data -/
theorem exc_laid {K : Frag} {B : Hp} {μ : List Addr} {m : Me} {H H2 : Hp} {a d C : Addr} {fs : List (Str × V)} (M : MemOk K B μ m H) (na : H a = none) (nd : H d = none) (da : d ≠ a) (ea : H2 a = some (exo a C (some d))) (ed : H2 d = some (exd d fs)) (keep : ∀ b o, b ≠ a → H b = some o → H2 b = some o) :
    ∃ B2, Stp B μ m H B2 μ m H2 ∧ MemOk K B2 μ m H2 ∧ B2 a = some (exo a C (some d)) ∧ B2 d = some (exd d fs) := by
  have M1 := M.laid (o := exo a C (some d)) na (fun _ z => nomatch z)
  have s1 := Stp.laid M (o := exo a C (some d)) na
  have nd1 : upd H a (exo a C (some d)) d = none := by
    rw [upd_ne da]
    exact nd
  have M2 := M1.laid (o := exd d fs) nd1 (fun _ z => nomatch z)
  have s2 := Stp.laid M1 (o := exd d fs) nd1
  have g : Same (upd (upd H a (exo a C (some d))) d (exd d fs)) H2 := fun b o z => by
    by_cases hd : b = d
    · subst hd
      rw [upd_same] at z
      cases z
      exact ed
    · rw [upd_ne hd] at z
      by_cases hb : b = a
      · subst hb
        rw [upd_same] at z
        cases z
        exact ea
      · rw [upd_ne hb] at z
        exact keep b o hb z
  refine ⟨_, (s1.trans M1 s2 M.le).trans M2 (Stp.grow g) M.le, M2.grow g, ?_, upd_same⟩
  rw [upd_ne da.symm]
  exact upd_same
section
variable {X : Cx} {E : XK} {C : Addr} {k n : Nat} {x : Str} {p pos : Pos} {fs : List V → List (Str × V)} {fsD : List D → List (Str × D)}
theorem rMkE_ok {K : Frag} {B : Hp} {μ : List Addr} {m : Me} {H : Hp} {vs : List V} {ds : List D} {QV : VK} (M : MemOk K B μ m H) (r : RvL K B vs ds) (hn : vs.length = n) (h1 : n ≤ 1000) (hfs : ∀ (B : Hp) vs ds, RvL K B vs ds → vs.length = n → RvF K B (fs vs) (fsD ds))
    (q : ∀ B' H' v, Stp B μ m H B' μ m H' → MemOk K B' μ m H' → Rv K B' v (.exc C (fsD ds)) → QV v H') : rMkE C (spIni C n fs) vs H QV := by
  refine ⟨by omega, fun a na => ⟨a, vs, rfl, hn, upd_same, fun d H' nd da ea ed keep => ⟨rfl, ?_⟩⟩⟩
  rw [upd_ne da] at nd
  obtain ⟨B2, st, M2, ha, hd⟩ := exc_laid M na nd da ea ed fun b o hb e => keep b o hb (by rw [upd_ne hb]; exact e)
  exact q B2 H' _ st M2 (.exc ha hd (hfs B2 vs ds (r.to st.same) hn))
def tExc (C : Addr) (n : Nat) (fsD : List D → List (Str × D)) (ta : DTA) : DTE := fun en m Q Qx => ta en m (fun xs m1 => oDs xs fun ds => ds.length = n ∧ Q (.v (.exc C (fsD ds))) m1) Qx
theorem d_exc0 (M : OexV X.prog X.w X.K X.mg X.base k C (spIni C 0 fs)) (room : Room (k + 1) X.A) (hm : X.mg x = some (.ref C)) (hfs : ∀ (B : Hp), RvF X.K B (fs []) (fsD [])) (hg : Gl X x := by rfl) (hdb : (x == ("__debug__" : Str)) = false := by decide) :
    DE X E (.Call (.Name x p) [] [] pos) (fun _ m Q _ => Q (.v (.exc C (fsD []))) m) := by
  refine ⟨_, pe_mkE0 M room hm hg hdb, fun B μ en m σ H Q Qx QV R hx T kk => ?_⟩
  refine rMkE_ok (fsD := fsD) R.mem .nil rfl (by decide) (fun B vs ds r hl => ?_) fun B' H' v st M' r => kk B' μ m H' _ v st (R.stp st M') (RW.d r) T
  cases r with
  | nil => exact hfs B
  | cons _ _ => cases hl
theorem d_exc {e : Expr} {es : List Expr} {ta : DTA} (M : OexV X.prog X.w X.K X.mg X.base k C (spIni C n fs)) (room : Room (k + 1) X.A) (hm : X.mg x = some (.ref C)) (h1 : n ≤ 1000) (hfs : ∀ (B : Hp) vs ds, RvL X.K B vs ds → vs.length = n → RvF X.K B (fs vs) (fsD ds)) (ha : DA X E (e :: es) ta) (hg : Gl X x := by rfl) (hdb : (x == ("__debug__" : Str)) = false := by decide)
    (he : starEach (e :: es) X.env = (false, eval e X.env) :: starEach es X.env := by rfl) (hpl : (backTo pos (starEach es X.env)).any (·.1) = false := by rfl) :
    DE X E (.Call (.Name x p) (e :: es) [] pos) (tExc C n fsD ta) := by
  obtain ⟨t1, p1, k1⟩ := ha.ex
  refine ⟨_, pe_mkE M room hm p1 hg hdb he hpl, fun B μ en m σ H Q Qx QV R hx T kk => ?_⟩
  refine k1 B μ en m σ H _ Qx _ R hx T fun B1 μ1 m1 H1 xs vs s1 R1 r q => ?_
  obtain ⟨ds, rl, hl, q⟩ := oDs_ok r q
  refine rMkE_ok (fsD := fsD) R1.mem rl (by rw [rl.len, hl]) h1 hfs fun B' H' v st M' rr => ?_
  have st2 := s1.trans R1.mem st R.mem.le
  exact kk B' μ1 m1 H' _ v st2 (R1.stp st M') (RW.d rr) q
end
/-! ### what is read off the written part -/
def oexgB (K : Frag) (C : Addr) (bmB : List Value) (newId : String) : Bool := match K.lookup C with
  | some o => (match o.cls, o.data, o.slots.toList with
    | .type t, .cls d, [_, _, _, _, some (.builtin b), _] => (match d.mro with
      | .ref c :: bm => decide (t = "type") && decide (b = newId) && decide (c = C) && d.hasDict && !d.hasDel && PySem.W.excTail bmB bm
      | _ => false)
    | _, _, _ => false)
  | none => false
theorem oexgB_ok {K : Frag} {C : Addr} {bmB : List Value} {newId : String} (h : oexgB K C bmB newId = true) : ∃ nm q N bs bm sn sub ab col dd k0 k1 k2 k3 k5, K.lookup C = some (excClassObj nm q C N bs bm true sn sub ab col dd k0 k1 k2 k3 k5 newId) ∧ PySem.W.excTail bmB bm = true := by
  unfold oexgB at h
  split at h
  · rename_i o ho
    split at h
    · rename_i t d k0 k1 k2 k3 b k5 e1 e2 e3
      split at h
      · rename_i c bm e4
        simp only [Bool.and_eq_true, decide_eq_true_eq, Bool.not_eq_true'] at h
        obtain ⟨⟨⟨⟨⟨rfl, rfl⟩, rfl⟩, h4⟩, h5⟩, h6⟩ := h
        obtain ⟨oc, od, dt, sl⟩ := o
        obtain ⟨nm, bs, mro, ns, qn, hd, sn, sub, ab, col, del⟩ := d
        obtain ⟨sl⟩ := sl
        dsimp only at e1 e2 e3 e4 h4 h5
        subst e1 e2 e3 e4 h4 h5
        exact ⟨nm, qn, ns, bs, bm, sn, sub, ab, col, od, k0, k1, k2, k3, k5, ho, h6⟩
      · cases h
    · cases h
  · cases h
abbrev leTail : List Value := [.type "LookupError", .type "Exception", .type "BaseException", .type "object"]
abbrev ieTail : List Value := [.type "IndexError", .type "LookupError", .type "Exception", .type "BaseException", .type "object"]
structure ErrG (K : Frag) (C : Addr) : Prop where
  og : OexG K C
  ex : ExK K C
theorem errG {K : Frag} {C : Addr} (T : ErrC K C) : ErrG K C := ⟨exG T.ox, T.ex⟩
def restgB (K : Frag) (C : Addr) : Bool := decide (PySem.W.findIn K (.ref C) "__setattr__" = some (some (.builtin "object.__setattr__"))) && (PySem.W.keepIn K (.ref C) && (xfB K C && (namesE.all fun n => decide (PySem.W.findIn K (.ref C) n = some none))))
def lookB (K : Frag) (C : Addr) : Bool := oexgB K C leTail "LookupError.__new__" && restgB K C
def indxB (K : Frag) (C : Addr) : Bool := oexgB K C ieTail "IndexError.__new__" && restgB K C
theorem lookB_ok {K : Frag} {C : Addr} (h : lookB K C = true) : ErrG K C := by
  unfold lookB restgB at h
  simp only [Bool.and_eq_true, decide_eq_true_eq, List.all_eq_true] at h
  obtain ⟨h1, h2, h5, h6, h7⟩ := h
  obtain ⟨nm, q, N, bs, bm, sn, sub, ab, col, dd, k0, k1, k2, k3, k5, hC, hbm⟩ := oexgB_ok h1
  exact ⟨⟨⟨"LookupError", "LookupError.__new__", "LookupError.__init__", leTail, nm, q, N, bs, bm, sn, sub, ab, col, dd, k0, k1, k2, k3, k5, _root_.PySem.F.excBase_LookupError, _root_.PySem.F.store_LookupError, hC, hbm⟩, h2, h5⟩, ⟨xfB_ok h6, h7⟩⟩
theorem indxB_ok {K : Frag} {C : Addr} (h : indxB K C = true) : ErrG K C := by
  unfold indxB restgB at h
  simp only [Bool.and_eq_true, decide_eq_true_eq, List.all_eq_true] at h
  obtain ⟨h1, h2, h5, h6, h7⟩ := h
  obtain ⟨nm, q, N, bs, bm, sn, sub, ab, col, dd, k0, k1, k2, k3, k5, hC, hbm⟩ := oexgB_ok h1
  exact ⟨⟨⟨"IndexError", "IndexError.__new__", "IndexError.__init__", ieTail, nm, q, N, bs, bm, sn, sub, ab, col, dd, k0, k1, k2, k3, k5, _root_.PySem.F.excBase_IndexError, _root_.PySem.F.store_IndexError, hC, hbm⟩, h2, h5⟩, ⟨xfB_ok h6, h7⟩⟩
/-- isinstance: what is asked of the class C, the classes cs, the answers bs -/
def excCB (K : Frag) (D : Addr) : Bool := decide (PySem.W.findIn K (.ref D) "__getattribute__" = some (some (.builtin "BaseException.__getattribute__"))) && (decide (PySem.W.findIn K (.ref D) "__getattr__" = some none) && (decide (PySem.W.subIn K (.ref D) (.type "BaseException") = some true) &&
  (PySem.W.hasDictIn K D && (decide (PySem.W.findIn K (.ref D) "__class__" = some (some (.builtin "object.__class__"))) && (decide (PySem.W.specialIn K (.builtin "object.__class__") "__get__" = some (some (.builtin "getset_descriptor.__get__"))) && (decide (PySem.W.takesIn K (.builtin "object.__class__") = some true) && decide (PySem.W.mroIn K D (.type "object") = some true)))))))
theorem excCB_ok {K : Frag} {D : Addr} (h : excCB K D = true) : ExcC K D := by
  unfold excCB at h
  simp only [Bool.and_eq_true, decide_eq_true_eq] at h
  obtain ⟨h1, h2, h3, h4, h5, h6, h7, h8⟩ := h
  exact ⟨h1, h2, h3, h4, h5, h6, h7, h8⟩
/-! ### a field of an exception -/
def tXo (K : Frag) (n : Str) (te : TE) : TE := fun σ H Q => te σ H fun x H1 => ∃ (a C d : Addr) (fs : List (Str × V)) (v : V), x = .ref a ∧ H1 a = some (exo a C (some d)) ∧ H1 d = some (exd d fs) ∧ XfC K C ∧ PySem.W.findIn K (.ref C) n = some none ∧ fs.lookup n = some v ∧ Q v H1
theorem pe_xo {X : Cx} {n : Str} {e : Expr} {te : TE} {pos : Pos} (he : PE X e te) (hb : attributeBase e n X.env (eval e X.env) = eval e X.env := by rfl) : PE X (.Attribute e n pos) (tXo X.K n te) := by
  constructor
  intro pins s σ H Q I h
  refine attr_of hb (thn (he.run pins s σ H _ I h) ?_)
  rintro u s1 ⟨x, H1, I1, rx, a, C, d, fs, v, rfl, ea, ed, T, no, hv, q⟩
  cases (show u = Value.ref a from rx)
  obtain ⟨t1, ho⟩ := exo_at I1.hok ea
  obtain ⟨mA, hns, hr⟩ := exd_at I1.hok ed
  obtain ⟨od, hd, hlk⟩ := lookIn_ns hns
  obtain ⟨u, hu, ru⟩ := RelO.some_of (v := v) (o := mA n) (by have z := hr n; rw [hv] at z; exact z)
  have inst : PySem.W.InstAt s1.heap a ({ cls := .ref C, dict := some d, data := .fields #[.ref t1, .none, .none, .none, .bool false, .none] } : Obj) C (some od) := ⟨ho, rfl, rfl, hd⟩
  exact HandSPX.exc_get I1.kIn inst T.ga T.gg T.exC (PySem.W.findObj_own T.hdC no rfl (by rw [hlk, hu])) (handed_of ru) ⟨v, H1, I1.tok _, ru, q⟩
def xfD (K : Frag) (n : Str) : D → (D → Prop) → Prop
  | .exc C fs, Q => XfC K C ∧ PySem.W.findIn K (.ref C) n = some none ∧ ∃ d, fs.lookup n = some d ∧ Q d
  | _, _ => False
def tXf1 (K : Frag) (n : Str) (te : DTE) : DTE := fun en m Q Qx => te en m (fun x m1 => oD x fun d => xfD K n d fun r => Q (.v r) m1) Qx
/-! ### isinstance of an exception -/
def rIsX (K : Frag) : List V → Hp → VK → Prop := fun xs H Q => ∃ (a C d : Addr) (fs : List (Str × V)) (c : V) (cv : Value) (b : Bool), xs = [.ref a, c] ∧ H a = some (exo a C (some d)) ∧ H d = some (exd d fs) ∧ ExcC K C ∧ ClsV c cv ∧ PySem.W.kitOne K (.ref C) cv = some b ∧ Q (.bl b) H
theorem call_isX {X : Cx} : CallR X (.builtin "isinstance") (rIsX X.K) := by
  intro pins s σ H xs us Q I r h
  obtain ⟨a, D, d, fs, c, cv, b, rfl, ea, ed, C, hcv, e, q⟩ := h
  obtain ⟨u1, u2, rfl, r1, r2⟩ := vals2 r
  have e2 := hcv.eq r2
  subst e2
  cases (show u1 = Value.ref a from r1)
  obtain ⟨t1, ho⟩ := exo_at I.hok ea
  obtain ⟨mA, hns, hr⟩ := exd_at I.hok ed
  obtain ⟨od, hd, hlk⟩ := lookIn_ns hns
  have J : PySem.W.InstAt s.heap a ({ cls := .ref D, dict := some d, data := .fields #[.ref t1, .none, .none, .none, .bool false, .none] } : Obj) D (some od) := ⟨ho, rfl, rfl, hd⟩
  have hcl : (PySem.W.clsIn X.K D).isSome = true := by
    obtain ⟨cd, hc, _⟩ := PySem.W.any_some C.hd
    rw [hc]
    rfl
  exact PySem.W.kia_one (PySem.W.kitx_exc hcl C.hg C.hk C.hs C.ha C.hn C.ht C.hm) I.kIn J e (fun z => nomatch z) fun tk => ⟨.bl b, H, I.tok tk, rfl, q⟩
def isXD (K : Frag) : F2 := fun x c Q => match x, c with
  | .exc C _, .fn T => ∃ b, ExcC K C ∧ PySem.W.kitOne K (.ref C) (.ref T) = some b ∧ Q (.bl b)
  | .exc C _, .ty n => ∃ b, ExcC K C ∧ PySem.W.kitOne K (.ref C) (.type n) = some b ∧ Q (.bl b)
  | _, _ => False
section
variable {X : Cx} {E : XK}
theorem d_xfld {n : Str} {e : Expr} {te : DTE} {pos : Pos} (he : DE X E e te) (hb : attributeBase e n X.env (eval e X.env) = eval e X.env := by rfl) : DE X E (.Attribute e n pos) (tXf1 X.K n te) := by
  obtain ⟨t1, p1, k1⟩ := he.ex
  refine ⟨_, pe_xo p1 hb, fun B μ en m σ H Q Qx QV R hx T kk => ?_⟩
  refine k1 B μ en m σ H _ Qx _ R hx T fun B1 μ1 m1 H1 x v s1 R1 r q => ?_
  cases x with
  | loc _ => exact q.elim
  | v d =>
    have q : xfD X.K n d (fun r => Q (.v r) m1) := q
    have r : Rv X.K B1 v d := r
    cases d with
    | exc C fs =>
      cases r with
      | exc ha hd rf =>
        obtain ⟨xf, no, d, hl, q⟩ := q
        obtain ⟨v, hv, rv⟩ := rf.look hl
        exact ⟨_, C, _, _, v, rfl, R1.mem.le _ _ ha, R1.mem.le _ _ hd, xf, no, hv, kk B1 μ1 m1 H1 (.v d) v s1 R1 (RW.d rv) q⟩
    | _ => exact q.elim
theorem c_isX : SC X (rIsX X.K) (c2 (isXD X.K)) := SC.of2 fun B μ m H v u d e Q QV M td te q k => by
  cases d with
  | exc C fs =>
    have td : Rv X.K B v (.exc C fs) := td
    cases td with
    | exc ha hd rf =>
      cases e with
      | fn T =>
        cases (show Rv X.K B u (.fn T) from te)
        obtain ⟨b, xc, hk, q⟩ := q
        exact ⟨_, C, _, _, _, _, b, rfl, M.le _ _ ha, M.le _ _ hd, xc, .own T, hk, SO.pure M k (.bl _) q⟩
      | ty n =>
        cases (show Rv X.K B u (.ty n) from te)
        obtain ⟨b, xc, hk, q⟩ := q
        exact ⟨_, C, _, _, _, _, b, rfl, M.le _ _ ha, M.le _ _ hd, xc, .ty n, hk, SO.pure M k (.bl _) q⟩
      | _ => exact q.elim
  | _ => exact q.elim
theorem d_isX {e e2 : Expr} {ta : DTA} {p pos : Pos} (hm : X.mg "isinstance" = none) (ha : DA X E [e, e2] ta) (hg : Gl X "isinstance" := by rfl) (he : starEach [e, e2] X.env = (false, eval e X.env) :: starEach [e2] X.env := by rfl) (hpl : (backTo pos (starEach [e2] X.env)).any (·.1) = false := by rfl) : DE X E (.Call (.Name "isinstance" p) [e, e2] [] pos) (tCa (c2 (isXD X.K)) ta) :=
  d_fn call_isX c_isX hm (by decide +kernel) ha hg (by decide) (by decide) he hpl
end
end Fs
set_option Elab.async false
set_option linter.all false
set_option maxRecDepth 100000
set_option maxHeartbeats 8000000
namespace Fs
open PySem PySem.Spec PyProof.Rows L2
section
variable {P : Program} {w : World} {K : Frag} {mg : Str → Option Value} {base : Heap}
abbrev s_NothingLeft___init__ : Stmt := inClass (top 27) 0
abbrev N_NothingLeft___init__ : List Str := ["self"]
abbrev P_NothingLeft___init__ : List Str := ["self"]
theorem sc_NothingLeft : FnScope N_NothingLeft___init__ P_NothingLeft___init__ (defScope s_NothingLeft___init__) := ⟨rfl, rfl, rfl, by decide +kernel, rfl, by decide +kernel, by decide +kernel⟩
theorem inig_NothingLeft {C : Addr} {q : Str} {f : Addr} {fd : FuncData} (D : FunD K "__init__" q (defArgs s_NothingLeft___init__) (defBody s_NothingLeft___init__) (defScope s_NothingLeft___init__) [] [] f fd) (T : ErrG K C) : FnOk P w K mg base CX0 1 f fd ["self"] (spIni C 0 fun _ => [("code", .str "NothingLeft")]) := by
  refine D.ok sc_NothingLeft (fun vs H Q E h => ?_) (fun cdv A outer s H vs Q E hr h => ?_)
  · obtain ⟨a, ws, rfl, hl, _⟩ := h
    rw [List.length_cons, hl]
    rfl
  obtain ⟨a, ws, rfl, hl, ha, q⟩ := h
  cases ws with
  | cons x xs => cases hl
  | nil =>
    refine ⟨_, PSs.nox (pss_one (ps_gst (pv 0) pe_str)), ?_⟩
    refine ⟨_, rfl, a, C, rfl, T.og, T.ex.no _ (by simp [namesE]), .inl ⟨ha, fun d nd da => ?_⟩⟩
    refine q d _ nd da upd_same (by rw [upd_ne da, upd_same]) fun b o hb e => ?_
    rw [upd_ne hb, upd_ne (ne_of_none e nd)]
    exact e
abbrev s_Stopped___init__ : Stmt := inClass (top 21) 0
abbrev N_Stopped___init__ : List Str := ["self", "index", "cause"]
abbrev P_Stopped___init__ : List Str := ["self", "index", "cause"]
theorem sc_Stopped : FnScope N_Stopped___init__ P_Stopped___init__ (defScope s_Stopped___init__) := ⟨rfl, rfl, rfl, by decide +kernel, rfl, by decide +kernel, by decide +kernel⟩
theorem inig_Stopped {C : Addr} {q : Str} {f : Addr} {fd : FuncData} (D : FunD K "__init__" q (defArgs s_Stopped___init__) (defBody s_Stopped___init__) (defScope s_Stopped___init__) [] [] f fd) (T : ErrG K C) : FnOk P w K mg base CX0 1 f fd ["self", "index", "cause"] (spIni C 2 fun vs => [("cause", vs.tail.headD .non), ("index", vs.headD .non), ("code", .str "Stopped")]) := by
  refine D.ok sc_Stopped (fun vs H Q E h => ?_) (fun cdv A outer s H vs Q E hr h => ?_)
  · obtain ⟨a, ws, rfl, hl, _⟩ := h
    rw [List.length_cons, hl]
    rfl
  obtain ⟨a, ws, rfl, hl, ha, q⟩ := h
  match ws, hl with
  | [x, y], _ =>
    refine ⟨_, PSs.nox (pss_cons (ps_gst (pv 0) pe_str) (pss_cons (ps_gst (pv 0) (pv 1)) (pss_one (ps_gst (pv 0) (pv 2))))), ?_⟩
    refine ⟨_, rfl, a, C, rfl, T.og, T.ex.no _ (by simp [namesE]), .inl ⟨ha, fun d nd da => ?_⟩⟩
    refine ⟨_, rfl, _, rfl, a, C, rfl, T.og, T.ex.no _ (by simp [namesE]), .inr ⟨d, _, upd_same, (by rw [upd_ne da, upd_same]), (by simp), ?_⟩⟩
    refine ⟨_, rfl, _, rfl, a, C, rfl, T.og, T.ex.no _ (by simp [namesE]), .inr ⟨d, _, (by rw [upd_ne da.symm, upd_same]), upd_same, (by simp), ?_⟩⟩
    refine q d _ nd da (by rw [upd_ne da.symm, upd_ne da.symm, upd_same]) upd_same fun b o hb e => ?_
    rw [upd_ne (ne_of_none e nd), upd_ne (ne_of_none e nd), upd_ne hb, upd_ne (ne_of_none e nd)]
    exact e
abbrev s_UnknownName___init__ : Stmt := inClass (top 25) 0
abbrev N_UnknownName___init__ : List Str := ["self", "name"]
abbrev P_UnknownName___init__ : List Str := ["self", "name"]
theorem sc_UnknownName : FnScope N_UnknownName___init__ P_UnknownName___init__ (defScope s_UnknownName___init__) := ⟨rfl, rfl, rfl, by decide +kernel, rfl, by decide +kernel, by decide +kernel⟩
theorem inig_UnknownName {C : Addr} {q : Str} {f : Addr} {fd : FuncData} (D : FunD K "__init__" q (defArgs s_UnknownName___init__) (defBody s_UnknownName___init__) (defScope s_UnknownName___init__) [] [] f fd) (T : ErrG K C) : FnOk P w K mg base CUnknownName0 1 f fd ["self", "name"] (spIni C 1 fun vs => [("name", vs.headD .non), ("code", .str "UnknownName")]) := by
  refine D.ok sc_UnknownName (fun vs H Q E h => ?_) (fun cdv A outer s H vs Q E hr h => ?_)
  · obtain ⟨a, ws, rfl, hl, _⟩ := h
    rw [List.length_cons, hl]
    rfl
  obtain ⟨a, ws, rfl, hl, ha, q⟩ := h
  match ws, hl with
  | [x], _ =>
    refine ⟨_, PSs.nox (pss_cons (ps_gst (pv 0) pe_str) (pss_one (ps_gst (pv 0) (pv 1)))), ?_⟩
    refine ⟨_, rfl, a, C, rfl, T.og, T.ex.no _ (by simp [namesE]), .inl ⟨ha, fun d nd da => ?_⟩⟩
    refine ⟨_, rfl, _, rfl, a, C, rfl, T.og, T.ex.no _ (by simp [namesE]), .inr ⟨d, _, upd_same, (by rw [upd_ne da, upd_same]), (by simp), ?_⟩⟩
    refine q d _ nd da (by rw [upd_ne da.symm, upd_same]) upd_same fun b o hb e => ?_
    rw [upd_ne (ne_of_none e nd), upd_ne hb, upd_ne (ne_of_none e nd)]
    exact e
abbrev s_UnknownClaim___init__ : Stmt := inClass (top 26) 0
abbrev N_UnknownClaim___init__ : List Str := ["self", "claim"]
abbrev P_UnknownClaim___init__ : List Str := ["self", "claim"]
theorem sc_UnknownClaim : FnScope N_UnknownClaim___init__ P_UnknownClaim___init__ (defScope s_UnknownClaim___init__) := ⟨rfl, rfl, rfl, by decide +kernel, rfl, by decide +kernel, by decide +kernel⟩
theorem inig_UnknownClaim {C : Addr} {q : Str} {f : Addr} {fd : FuncData} (D : FunD K "__init__" q (defArgs s_UnknownClaim___init__) (defBody s_UnknownClaim___init__) (defScope s_UnknownClaim___init__) [] [] f fd) (T : ErrG K C) : FnOk P w K mg base CUnknownClaim0 1 f fd ["self", "claim"] (spIni C 1 fun vs => [("claim", vs.headD .non), ("code", .str "UnknownClaim")]) := by
  refine D.ok sc_UnknownClaim (fun vs H Q E h => ?_) (fun cdv A outer s H vs Q E hr h => ?_)
  · obtain ⟨a, ws, rfl, hl, _⟩ := h
    rw [List.length_cons, hl]
    rfl
  obtain ⟨a, ws, rfl, hl, ha, q⟩ := h
  match ws, hl with
  | [x], _ =>
    refine ⟨_, PSs.nox (pss_cons (ps_gst (pv 0) pe_str) (pss_one (ps_gst (pv 0) (pv 1)))), ?_⟩
    refine ⟨_, rfl, a, C, rfl, T.og, T.ex.no _ (by simp [namesE]), .inl ⟨ha, fun d nd da => ?_⟩⟩
    refine ⟨_, rfl, _, rfl, a, C, rfl, T.og, T.ex.no _ (by simp [namesE]), .inr ⟨d, _, upd_same, (by rw [upd_ne da, upd_same]), (by simp), ?_⟩⟩
    refine q d _ nd da (by rw [upd_ne da.symm, upd_same]) upd_same fun b o hb e => ?_
    rw [upd_ne (ne_of_none e nd), upd_ne hb, upd_ne (ne_of_none e nd)]
    exact e
end
end Fs
set_option Elab.async false
set_option linter.all false
set_option maxRecDepth 100000
set_option maxHeartbeats 8000000
namespace Fs
open PySem PySem.Spec PyProof.Rows L2
inductive Ek where
  | z | o (f : Str) | two
deriving DecidableEq
abbrev tbl25 : List (Str × Ek) := [(("InvalidRatio" : Str), Ek.z), (("InvalidFrame" : Str), Ek.z), (("TooMany" : Str), Ek.o "most"), (("InvalidSizes" : Str), Ek.o "name"), (("InvalidExpression" : Str), Ek.z), (("InvalidFact" : Str), Ek.o "index"), (("NoSizes" : Str), Ek.z), (("InvalidClaim" : Str), Ek.z), (("UnknownThing" : Str), Ek.o "name"), (("NotHeld" : Str), Ek.z), (("OtherThings" : Str), Ek.z), (("TooLarge" : Str), Ek.z), (("InvalidText" : Str), Ek.o "at"), (("InvalidName" : Str), Ek.o "name"), (("DuplicateName" : Str), Ek.o "name"), (("WrongKind" : Str), Ek.o "name"), (("InUse" : Str), Ek.o "claim"), (("Full" : Str), Ek.o "most"), (("InvalidCommand" : Str), Ek.o "word"), (("Stopped" : Str), Ek.two), (("InvalidLimit" : Str), Ek.o "limit"), (("ParseError" : Str), Ek.o "line"), (("UnknownName" : Str), Ek.o "name"), (("UnknownClaim" : Str), Ek.o "claim"), (("NothingLeft" : Str), Ek.z)]
abbrev names25 : List Str := ["InvalidRatio", "InvalidFrame", "TooMany", "InvalidSizes", "InvalidExpression", "InvalidFact", "NoSizes", "InvalidClaim", "UnknownThing", "NotHeld", "OtherThings", "TooLarge", "InvalidText", "InvalidName", "DuplicateName", "WrongKind", "InUse", "Full", "InvalidCommand", "Stopped", "InvalidLimit", "ParseError", "UnknownName", "UnknownClaim", "NothingLeft"]
def fsE (n u : D) : Str × Ek → List (Str × D)
  | (x, .z) => [(("code" : Str), .str x)]
  | (x, .o f) => [(f, n), (("code" : Str), .str x)]
  | (x, .two) => [(("cause" : Str), u), (("index" : Str), n), (("code" : Str), .str x)]
def excE (K : Frag) (n u : D) (e : Str × Ek) : D := .exc (He.ga K e.1) (fsE n u e)
def fldR (n u : D) : Ek → D
  | .z => .non
  | .o _ => n
  | .two => .tup [n, u]
/-- what the classes are, as the law finds them -/
structure ErrsM (P : Program) (w : World) (K : Frag) (mg : Str → Option Value) (base : Heap) : Prop where
  c : ∀ x ∈ names25, mg x = some (.ref (He.ga K x))
  z : ∀ x, (x, Ek.z) ∈ tbl25 → OexV P w K mg base 1 (He.ga K x) (spIni (He.ga K x) 0 fun _ => [(("code" : Str), V.str x)])
  o : ∀ x f, (x, Ek.o f) ∈ tbl25 → OexV P w K mg base 1 (He.ga K x) (spIni (He.ga K x) 1 fun vs => [(f, vs.headD .non), (("code" : Str), V.str x)])
  t : OexV P w K mg base 1 (He.ga K "Stopped") (spIni (He.ga K "Stopped") 2 fun vs => [(("cause" : Str), vs.tail.headD .non), (("index" : Str), vs.headD .non), (("code" : Str), V.str "Stopped")])
section
variable {X : Cx} {E : XK} {p pos : Pos}
theorem d_e0 {x : Str} (HM : ErrsM X.prog X.w X.K X.mg X.base) (room : Room 2 X.A) (hx : (x, Ek.z) ∈ tbl25 := by decide +kernel) (hn : x ∈ names25 := by decide +kernel) (ho : okS x = true := by decide +kernel) (hg : Gl X x := by rfl) (hdb : (x == ("__debug__" : Str)) = false := by decide) :
    DE X E (.Call (.Name x p) [] [] pos) (fun _ m Q _ => Q (.v (.exc (He.ga X.K x) [(("code" : Str), .str x)])) m) :=
  d_exc0 (fsD := fun _ => [(("code" : Str), .str x)]) (HM.z x hx) room (HM.c x hn) (fun B => .cons (.str ho) .nil) hg hdb
theorem d_e1 {x f : Str} {e : Expr} {ta : DTA} (HM : ErrsM X.prog X.w X.K X.mg X.base) (room : Room 2 X.A) (ha : DA X E [e] ta) (hx : (x, Ek.o f) ∈ tbl25 := by decide +kernel) (hn : x ∈ names25 := by decide +kernel) (ho : okS x = true := by decide +kernel) (hg : Gl X x := by rfl) (hdb : (x == ("__debug__" : Str)) = false := by decide)
    (he : starEach [e] X.env = (false, eval e X.env) :: starEach [] X.env := by rfl) (hpl : (backTo pos (starEach [] X.env)).any (·.1) = false := by rfl) :
    DE X E (.Call (.Name x p) [e] [] pos) (tExc (He.ga X.K x) 1 (fun ds => [(f, ds.headD .non), (("code" : Str), .str x)]) ta) :=
  d_exc (HM.o x f hx) room (HM.c x hn) (by decide) (fun B vs ds r hl => match r, hl with | .cons a .nil, _ => .cons a (.cons (.str ho) .nil)) ha hg hdb he hpl
theorem d_e2 {e e2 : Expr} {ta : DTA} (HM : ErrsM X.prog X.w X.K X.mg X.base) (room : Room 2 X.A) (ha : DA X E [e, e2] ta) (hg : Gl X "Stopped" := by rfl)
    (he : starEach [e, e2] X.env = (false, eval e X.env) :: starEach [e2] X.env := by rfl) (hpl : (backTo pos (starEach [e2] X.env)).any (·.1) = false := by rfl) :
    DE X E (.Call (.Name "Stopped" p) [e, e2] [] pos) (tExc (He.ga X.K "Stopped") 2 (fun ds => [(("cause" : Str), ds.tail.headD .non), (("index" : Str), ds.headD .non), (("code" : Str), .str "Stopped")]) ta) :=
  d_exc HM.t room (HM.c "Stopped" (by decide +kernel)) (by decide) (fun B vs ds r hl => match r, hl with | .cons a (.cons b .nil), _ => .cons b (.cons a (.cons (.str (by decide +kernel)) .nil))) ha hg (by decide) he hpl
end
section
variable {P : Program} {w : World} {K : Frag} {mg : Str → Option Value} {base : Heap}
def spErrs (K : Frag) : SpD := fun ws m Q _ => ∃ n u, ws = [.v n, .v u] ∧ Q (.v (.lst (tbl25.map (excE K n u)))) m
abbrev s__law_errors : Stmt := top 34
abbrev N__law_errors : List Str := ["_law_n", "_law_m", "_law_found"]
abbrev P__law_errors : List Str := ["_law_n", "_law_m"]
theorem sc__law_errors : FnScope N__law_errors P__law_errors (defScope s__law_errors) := ⟨rfl, rfl, rfl, by decide +kernel, rfl, by decide +kernel, by decide +kernel⟩
theorem dd__law_errors (G : Gs K mg "_law_errors" s__law_errors) (HM : ErrsM P w K mg base) : Gd P w K mg base (L2.CX P w) 3 "_law_errors" P__law_errors (lift K (spErrs K)) := by
  refine Fo.gd (fo_d sc__law_errors (fun ws m Q Qx h => ?_) (fun f cdv A outer s H E hr => ⟨_, (dss_cons (ds_set (i := 2) sc__law_errors.nd rfl (.inl rfl) (d_lst (da_cons (d_e0 HM (hr.mono (by omega))) (da_cons (d_e0 HM (hr.mono (by omega))) (da_cons (d_e1 (f := "most") HM (hr.mono (by omega)) (da_cons (dv 0) da_nil)) (da_cons (d_e1 (f := "name") HM (hr.mono (by omega)) (da_cons (dv 0) da_nil)) (da_cons (d_e0 HM (hr.mono (by omega))) (da_cons (d_e1 (f := "index") HM (hr.mono (by omega)) (da_cons (dv 0) da_nil)) (da_cons (d_e0 HM (hr.mono (by omega))) (da_cons (d_e0 HM (hr.mono (by omega))) da_nil))))))))))
    (dss_cons (ds_set (i := 2) sc__law_errors.nd rfl (.inl rfl) (d_op o_add (dv 2) (d_lst (da_cons (d_e1 (f := "name") HM (hr.mono (by omega)) (da_cons (dv 0) da_nil)) (da_cons (d_e0 HM (hr.mono (by omega))) (da_cons (d_e0 HM (hr.mono (by omega))) (da_cons (d_e0 HM (hr.mono (by omega))) (da_cons (d_e1 (f := "at") HM (hr.mono (by omega)) (da_cons (dv 0) da_nil)) (da_cons (d_e1 (f := "name") HM (hr.mono (by omega)) (da_cons (dv 0) da_nil)) (da_cons (d_e1 (f := "name") HM (hr.mono (by omega)) (da_cons (dv 0) da_nil)) (da_cons (d_e1 (f := "name") HM (hr.mono (by omega)) (da_cons (dv 0) da_nil)) (da_cons (d_e1 (f := "claim") HM (hr.mono (by omega)) (da_cons (dv 0) da_nil)) da_nil))))))))))))
    (dss_one (ds_ret (d_op o_add (dv 2) (d_lst (da_cons (d_e1 (f := "most") HM (hr.mono (by omega)) (da_cons (dv 0) da_nil)) (da_cons (d_e1 (f := "word") HM (hr.mono (by omega)) (da_cons (dv 0) da_nil)) (da_cons (d_e2 HM (hr.mono (by omega)) (da_cons (dv 0) (da_cons (dv 1) da_nil))) (da_cons (d_e1 (f := "limit") HM (hr.mono (by omega)) (da_cons (dv 0) da_nil)) (da_cons (d_e1 (f := "line") HM (hr.mono (by omega)) (da_cons (dv 0) da_nil)) (da_cons (d_e1 (f := "name") HM (hr.mono (by omega)) (da_cons (dv 0) da_nil)) (da_cons (d_e1 (f := "claim") HM (hr.mono (by omega)) (da_cons (dv 0) da_nil)) (da_cons (d_e0 HM (hr.mono (by omega))) da_nil)))))))))))))), fun ws m Qd Qx h => ?_⟩) [] []) G (fun _ _ _ _ _ _ us hl => match us, hl with | [_, _], _ => rfl)
  · obtain ⟨n, u, rfl, _⟩ := h
    rfl
  obtain ⟨n, u, rfl, q⟩ := h
  exact ⟨rfl, rfl, rfl, (by show 8 ≤ sizeLine; decide), rfl, rfl, rfl, rfl, rfl, rfl, (by show 9 ≤ sizeLine; decide), (by show 17 ≤ sizeLine; decide), rfl, rfl, rfl, rfl, rfl, rfl, rfl, (by show 8 ≤ sizeLine; decide), (by show 25 ≤ sizeLine; decide), ⟨List.prefix_refl _, q⟩⟩
def codesD : List D := names25.map .str
def sp_codesD : SpD := fun ws m Q _ => ws = [] ∧ Q (.v (.lst codesD)) m
abbrev s__law_codes : Stmt := top 35
abbrev N__law_codes : List Str := ["_law_words"]
abbrev P__law_codes : List Str := []
theorem sc__law_codes : FnScope N__law_codes P__law_codes (defScope s__law_codes) := ⟨rfl, rfl, rfl, by decide +kernel, rfl, by decide +kernel, by decide +kernel⟩
theorem dd__law_codes (G : Gs K mg "_law_codes" s__law_codes) : Gd P w K mg base (L2.CX P w) 1 "_law_codes" P__law_codes (lift K sp_codesD) := by
  refine Fo.gd (fo_d sc__law_codes (fun ws m Q Qx h => ?_) (fun f cdv A outer s H E hr => ⟨_, (dss_cons (ds_set (i := 0) sc__law_codes.nd rfl (.inl rfl) d_str)
    (dss_cons (ds_set (i := 0) sc__law_codes.nd rfl (.inl rfl) (d_op o_add (dv 0) d_str))
    (dss_cons (ds_set (i := 0) sc__law_codes.nd rfl (.inl rfl) (d_op o_add (dv 0) d_str))
    (dss_cons (ds_set (i := 0) sc__law_codes.nd rfl (.inl rfl) (d_op o_add (dv 0) d_str))
    (dss_cons (ds_set (i := 0) sc__law_codes.nd rfl (.inl rfl) (d_op o_add (dv 0) d_str))
    (dss_one (ds_ret (d_split (dv 0) (da_cons d_str da_nil))))))))), fun ws m Qd Qx h => ?_⟩) [] []) G (fun _ _ _ _ _ _ us hl => match us, hl with | [], _ => rfl)
  · obtain ⟨rfl, _⟩ := h
    rfl
  obtain ⟨rfl, q⟩ := h
  have hz : ∀ t : List Str, t = names25 → Qd (.v (.lst (t.map .str))) m := fun t e => e ▸ q
  refine ⟨(by decide +kernel), (by decide +kernel), (by decide +kernel), (by decide +kernel), trivial, (by decide +kernel), (by decide +kernel), (by decide +kernel), ?_⟩
  refine ⟨List.prefix_refl _, ?_⟩
  refine hz _ ?_
  decide +kernel
abbrev plain9 : List Str := ["InvalidRatio", "InvalidFrame", "InvalidExpression", "NoSizes", "InvalidClaim", "NotHeld", "OtherThings", "TooLarge", "NothingLeft"]
def plainsD : List D := plain9.map .str
def sp_plainsD : SpD := fun ws m Q _ => ws = [] ∧ Q (.v (.lst plainsD)) m
abbrev s__law_plain_codes : Stmt := top 36
abbrev N__law_plain_codes : List Str := ["_law_words"]
abbrev P__law_plain_codes : List Str := []
theorem sc__law_plain_codes : FnScope N__law_plain_codes P__law_plain_codes (defScope s__law_plain_codes) := ⟨rfl, rfl, rfl, by decide +kernel, rfl, by decide +kernel, by decide +kernel⟩
theorem dd__law_plain_codes (G : Gs K mg "_law_plain_codes" s__law_plain_codes) : Gd P w K mg base (L2.CX P w) 1 "_law_plain_codes" P__law_plain_codes (lift K sp_plainsD) := by
  refine Fo.gd (fo_d sc__law_plain_codes (fun ws m Q Qx h => ?_) (fun f cdv A outer s H E hr => ⟨_, (dss_cons (ds_set (i := 0) sc__law_plain_codes.nd rfl (.inl rfl) d_str)
    (dss_one (ds_ret (d_split (d_op o_add (dv 0) d_str) (da_cons d_str da_nil))))), fun ws m Qd Qx h => ?_⟩) [] []) G (fun _ _ _ _ _ _ us hl => match us, hl with | [], _ => rfl)
  · obtain ⟨rfl, _⟩ := h
    rfl
  obtain ⟨rfl, q⟩ := h
  have hz : ∀ t : List Str, t = plain9 → Qd (.v (.lst (t.map .str))) m := fun t e => e ▸ q
  refine ⟨(by decide +kernel), trivial, (by decide +kernel), (by decide +kernel), (by decide +kernel), ?_⟩
  refine ⟨List.prefix_refl _, ?_⟩
  refine hz _ ?_
  decide +kernel
def flagsD (k : Nat) : List D := (List.range 25).map fun j => .bl (decide (j = k))
def spFlags (K : Frag) : SpD := fun ws m Q _ => ∃ C fs k, ws = [.v (.exc C fs)] ∧ ExcC K C ∧ (∀ j x, names25[j]? = some x → PySem.W.kitOne K (.ref C) (.ref (He.ga K x)) = some (decide (j = k))) ∧ Q (.v (.lst (flagsD k))) m
abbrev s__law_flags : Stmt := top 37
abbrev N__law_flags : List Str := ["_law_e", "_law_found"]
abbrev P__law_flags : List Str := ["_law_e"]
theorem sc__law_flags : FnScope N__law_flags P__law_flags (defScope s__law_flags) := ⟨rfl, rfl, rfl, by decide +kernel, rfl, by decide +kernel, by decide +kernel⟩
theorem dd__law_flags (G : Gs K mg "_law_flags" s__law_flags) (HM : ErrsM P w K mg base) (m_isinstance : mg "isinstance" = none) : Gd P w K mg base (L2.CX P w) 1 "_law_flags" P__law_flags (lift K (spFlags K)) := by
  refine Fo.gd (fo_d sc__law_flags (fun ws m Q Qx h => ?_) (fun f cdv A outer s H E hr => ⟨_, (dss_cons (ds_set (i := 1) sc__law_flags.nd rfl (.inl rfl) (d_lst (da_cons (d_isX m_isinstance (da_cons (dv 0) (da_cons (d_glob (HM.c "InvalidRatio" (by decide +kernel)) (v := .ref (He.ga K "InvalidRatio")) rfl (fun _ => .fn _)) da_nil))) (da_cons (d_isX m_isinstance (da_cons (dv 0) (da_cons (d_glob (HM.c "InvalidFrame" (by decide +kernel)) (v := .ref (He.ga K "InvalidFrame")) rfl (fun _ => .fn _)) da_nil))) (da_cons (d_isX m_isinstance (da_cons (dv 0) (da_cons (d_glob (HM.c "TooMany" (by decide +kernel)) (v := .ref (He.ga K "TooMany")) rfl (fun _ => .fn _)) da_nil))) (da_cons (d_isX m_isinstance (da_cons (dv 0) (da_cons (d_glob (HM.c "InvalidSizes" (by decide +kernel)) (v := .ref (He.ga K "InvalidSizes")) rfl (fun _ => .fn _)) da_nil))) (da_cons (d_isX m_isinstance (da_cons (dv 0) (da_cons (d_glob (HM.c "InvalidExpression" (by decide +kernel)) (v := .ref (He.ga K "InvalidExpression")) rfl (fun _ => .fn _)) da_nil))) da_nil)))))))
    (dss_cons (ds_set (i := 1) sc__law_flags.nd rfl (.inl rfl) (d_op o_add (dv 1) (d_lst (da_cons (d_isX m_isinstance (da_cons (dv 0) (da_cons (d_glob (HM.c "InvalidFact" (by decide +kernel)) (v := .ref (He.ga K "InvalidFact")) rfl (fun _ => .fn _)) da_nil))) (da_cons (d_isX m_isinstance (da_cons (dv 0) (da_cons (d_glob (HM.c "NoSizes" (by decide +kernel)) (v := .ref (He.ga K "NoSizes")) rfl (fun _ => .fn _)) da_nil))) (da_cons (d_isX m_isinstance (da_cons (dv 0) (da_cons (d_glob (HM.c "InvalidClaim" (by decide +kernel)) (v := .ref (He.ga K "InvalidClaim")) rfl (fun _ => .fn _)) da_nil))) (da_cons (d_isX m_isinstance (da_cons (dv 0) (da_cons (d_glob (HM.c "UnknownThing" (by decide +kernel)) (v := .ref (He.ga K "UnknownThing")) rfl (fun _ => .fn _)) da_nil))) (da_cons (d_isX m_isinstance (da_cons (dv 0) (da_cons (d_glob (HM.c "NotHeld" (by decide +kernel)) (v := .ref (He.ga K "NotHeld")) rfl (fun _ => .fn _)) da_nil))) da_nil))))))))
    (dss_cons (ds_set (i := 1) sc__law_flags.nd rfl (.inl rfl) (d_op o_add (dv 1) (d_lst (da_cons (d_isX m_isinstance (da_cons (dv 0) (da_cons (d_glob (HM.c "OtherThings" (by decide +kernel)) (v := .ref (He.ga K "OtherThings")) rfl (fun _ => .fn _)) da_nil))) (da_cons (d_isX m_isinstance (da_cons (dv 0) (da_cons (d_glob (HM.c "TooLarge" (by decide +kernel)) (v := .ref (He.ga K "TooLarge")) rfl (fun _ => .fn _)) da_nil))) (da_cons (d_isX m_isinstance (da_cons (dv 0) (da_cons (d_glob (HM.c "InvalidText" (by decide +kernel)) (v := .ref (He.ga K "InvalidText")) rfl (fun _ => .fn _)) da_nil))) (da_cons (d_isX m_isinstance (da_cons (dv 0) (da_cons (d_glob (HM.c "InvalidName" (by decide +kernel)) (v := .ref (He.ga K "InvalidName")) rfl (fun _ => .fn _)) da_nil))) (da_cons (d_isX m_isinstance (da_cons (dv 0) (da_cons (d_glob (HM.c "DuplicateName" (by decide +kernel)) (v := .ref (He.ga K "DuplicateName")) rfl (fun _ => .fn _)) da_nil))) da_nil))))))))
    (dss_cons (ds_set (i := 1) sc__law_flags.nd rfl (.inl rfl) (d_op o_add (dv 1) (d_lst (da_cons (d_isX m_isinstance (da_cons (dv 0) (da_cons (d_glob (HM.c "WrongKind" (by decide +kernel)) (v := .ref (He.ga K "WrongKind")) rfl (fun _ => .fn _)) da_nil))) (da_cons (d_isX m_isinstance (da_cons (dv 0) (da_cons (d_glob (HM.c "InUse" (by decide +kernel)) (v := .ref (He.ga K "InUse")) rfl (fun _ => .fn _)) da_nil))) (da_cons (d_isX m_isinstance (da_cons (dv 0) (da_cons (d_glob (HM.c "Full" (by decide +kernel)) (v := .ref (He.ga K "Full")) rfl (fun _ => .fn _)) da_nil))) (da_cons (d_isX m_isinstance (da_cons (dv 0) (da_cons (d_glob (HM.c "InvalidCommand" (by decide +kernel)) (v := .ref (He.ga K "InvalidCommand")) rfl (fun _ => .fn _)) da_nil))) (da_cons (d_isX m_isinstance (da_cons (dv 0) (da_cons (d_glob (HM.c "Stopped" (by decide +kernel)) (v := .ref (He.ga K "Stopped")) rfl (fun _ => .fn _)) da_nil))) da_nil))))))))
    (dss_cons (ds_set (i := 1) sc__law_flags.nd rfl (.inl rfl) (d_op o_add (dv 1) (d_lst (da_cons (d_isX m_isinstance (da_cons (dv 0) (da_cons (d_glob (HM.c "InvalidLimit" (by decide +kernel)) (v := .ref (He.ga K "InvalidLimit")) rfl (fun _ => .fn _)) da_nil))) (da_cons (d_isX m_isinstance (da_cons (dv 0) (da_cons (d_glob (HM.c "ParseError" (by decide +kernel)) (v := .ref (He.ga K "ParseError")) rfl (fun _ => .fn _)) da_nil))) (da_cons (d_isX m_isinstance (da_cons (dv 0) (da_cons (d_glob (HM.c "UnknownName" (by decide +kernel)) (v := .ref (He.ga K "UnknownName")) rfl (fun _ => .fn _)) da_nil))) (da_cons (d_isX m_isinstance (da_cons (dv 0) (da_cons (d_glob (HM.c "UnknownClaim" (by decide +kernel)) (v := .ref (He.ga K "UnknownClaim")) rfl (fun _ => .fn _)) da_nil))) (da_cons (d_isX m_isinstance (da_cons (dv 0) (da_cons (d_glob (HM.c "NothingLeft" (by decide +kernel)) (v := .ref (He.ga K "NothingLeft")) rfl (fun _ => .fn _)) da_nil))) da_nil))))))))
    (dss_one (ds_ret (dv 1)))))))), fun ws m Qd Qx h => ?_⟩) [] []) G (fun _ _ _ _ _ _ us hl => match us, hl with | [_], _ => rfl)
  · obtain ⟨C, fs, k, rfl, _⟩ := h
    rfl
  obtain ⟨C, fs, k, rfl, xc, kk, q⟩ := h
  refine ⟨_, xc, kk 0 _ rfl, _, xc, kk 1 _ rfl, _, xc, kk 2 _ rfl, _, xc, kk 3 _ rfl, _, xc, kk 4 _ rfl, (by show 5 ≤ sizeLine; decide), ?_⟩
  refine ⟨_, xc, kk 5 _ rfl, _, xc, kk 6 _ rfl, _, xc, kk 7 _ rfl, _, xc, kk 8 _ rfl, _, xc, kk 9 _ rfl, (by show 5 ≤ sizeLine; decide), (by show 10 ≤ sizeLine; decide), ?_⟩
  refine ⟨_, xc, kk 10 _ rfl, _, xc, kk 11 _ rfl, _, xc, kk 12 _ rfl, _, xc, kk 13 _ rfl, _, xc, kk 14 _ rfl, (by show 5 ≤ sizeLine; decide), (by show 15 ≤ sizeLine; decide), ?_⟩
  refine ⟨_, xc, kk 15 _ rfl, _, xc, kk 16 _ rfl, _, xc, kk 17 _ rfl, _, xc, kk 18 _ rfl, _, xc, kk 19 _ rfl, (by show 5 ≤ sizeLine; decide), (by show 20 ≤ sizeLine; decide), ?_⟩
  refine ⟨_, xc, kk 20 _ rfl, _, xc, kk 21 _ rfl, _, xc, kk 22 _ rfl, _, xc, kk 23 _ rfl, _, xc, kk 24 _ rfl, (by show 5 ≤ sizeLine; decide), (by show 25 ≤ sizeLine; decide), ?_⟩
  exact ⟨List.prefix_refl _, q⟩
def spFieldD (K : Frag) : SpD := fun ws m Q _ => ∃ C n u e, ws = [.v (.exc C (fsE n u e))] ∧ ExK K C ∧ e ∈ tbl25 ∧ Q (.v (fldR n u e.2)) m

theorem dd__law_field (G : Gs K mg "_law_field" s__law_field) : Gd P w K mg base (L2.CX P w) 1 "_law_field" P__law_field (lift K (spFieldD K)) := by
  refine Fo.gd (fo_d sc__law_field (fun ws m Q Qx h => ?_) (fun f cdv A outer s H E hr => ⟨_, (dss_cons (ds_if (dt_cmp (o_in (u65 hr)) (d_xfld (dv 0)) (d_lst (da_cons d_str (da_cons d_str da_nil))) (by rfl))
      (dss_one (ds_ret (d_xfld (dv 0))))
      dss_nil)
    (dss_cons (ds_if (dt_cmp (o_in (u65 hr)) (d_xfld (dv 0)) (d_lst (da_cons d_str (da_cons d_str (da_cons d_str (da_cons d_str (da_cons d_str (da_cons d_str da_nil))))))) (by rfl))
      (dss_one (ds_ret (d_xfld (dv 0))))
      dss_nil)
    (dss_cons (ds_if (dt_cmp (o_eq (u64 hr)) (d_xfld (dv 0)) d_str (nomark _))
      (dss_one (ds_ret (d_xfld (dv 0))))
      dss_nil)
    (dss_cons (ds_if (dt_cmp (o_eq (u64 hr)) (d_xfld (dv 0)) d_str (nomark _))
      (dss_one (ds_ret (d_xfld (dv 0))))
      dss_nil)
    (dss_cons (ds_if (dt_cmp (o_in (u65 hr)) (d_xfld (dv 0)) (d_lst (da_cons d_str (da_cons d_str da_nil))) (by rfl))
      (dss_one (ds_ret (d_xfld (dv 0))))
      dss_nil)
    (dss_cons (ds_if (dt_cmp (o_eq (u64 hr)) (d_xfld (dv 0)) d_str (nomark _))
      (dss_one (ds_ret (d_xfld (dv 0))))
      dss_nil)
    (dss_cons (ds_if (dt_cmp (o_eq (u64 hr)) (d_xfld (dv 0)) d_str (nomark _))
      (dss_one (ds_ret (d_tup (da_cons (d_xfld (dv 0)) (da_cons (d_xfld (dv 0)) da_nil)))))
      dss_nil)
    (dss_cons (ds_if (dt_cmp (o_eq (u64 hr)) (d_xfld (dv 0)) d_str (nomark _))
      (dss_one (ds_ret (d_xfld (dv 0))))
      dss_nil)
    (dss_one (ds_ret (d_if (dt_cmp (o_eq (u64 hr)) (d_xfld (dv 0)) d_str (nomark _)) (d_xfld (dv 0)) d_non))))))))))), fun ws m Qd Qx h => ?_⟩) [] []) G (fun _ _ _ _ _ _ us hl => match us, hl with | [_], _ => rfl)
  · obtain ⟨C, n, u, e, rfl, _⟩ := h
    rfl
  obtain ⟨C, n, u, e, rfl, xk, he, q⟩ := h
  have nc := xk.no "code" (by simp [namesE])
  simp only [tbl25, List.mem_cons, List.not_mem_nil, or_false] at he
  rcases he with rfl | rfl | rfl | rfl | rfl | rfl | rfl | rfl | rfl | rfl | rfl | rfl | rfl | rfl | rfl | rfl | rfl | rfl | rfl | rfl | rfl | rfl | rfl | rfl | rfl
  · exact ⟨xk.xf, nc, _, rfl, (by show 2 ≤ sizeLine; decide), rfl, rfl, (by decide), (by decide), xk.xf, nc, _, rfl, (by show 6 ≤ sizeLine; decide), rfl, rfl, (by decide), (by decide), xk.xf, nc, _, rfl, rfl, rfl, (by decide), (by decide), xk.xf, nc, _, rfl, rfl, rfl, (by decide), (by decide), xk.xf, nc, _, rfl, (by show 2 ≤ sizeLine; decide), rfl, rfl, (by decide), (by decide), xk.xf, nc, _, rfl, rfl, rfl, (by decide), (by decide), xk.xf, nc, _, rfl, rfl, rfl, (by decide), (by decide), xk.xf, nc, _, rfl, rfl, rfl, (by decide), (by decide), xk.xf, nc, _, rfl, rfl, rfl, (by decide), (by decide), List.prefix_refl _, q⟩
  · exact ⟨xk.xf, nc, _, rfl, (by show 2 ≤ sizeLine; decide), rfl, rfl, (by decide), (by decide), xk.xf, nc, _, rfl, (by show 6 ≤ sizeLine; decide), rfl, rfl, (by decide), (by decide), xk.xf, nc, _, rfl, rfl, rfl, (by decide), (by decide), xk.xf, nc, _, rfl, rfl, rfl, (by decide), (by decide), xk.xf, nc, _, rfl, (by show 2 ≤ sizeLine; decide), rfl, rfl, (by decide), (by decide), xk.xf, nc, _, rfl, rfl, rfl, (by decide), (by decide), xk.xf, nc, _, rfl, rfl, rfl, (by decide), (by decide), xk.xf, nc, _, rfl, rfl, rfl, (by decide), (by decide), xk.xf, nc, _, rfl, rfl, rfl, (by decide), (by decide), List.prefix_refl _, q⟩
  · exact ⟨xk.xf, nc, _, rfl, (by show 2 ≤ sizeLine; decide), rfl, rfl, (by decide), (by decide), xk.xf, xk.no "most" (by simp [namesE]), _, rfl, List.prefix_refl _, q⟩
  · exact ⟨xk.xf, nc, _, rfl, (by show 2 ≤ sizeLine; decide), rfl, rfl, (by decide), (by decide), xk.xf, nc, _, rfl, (by show 6 ≤ sizeLine; decide), rfl, rfl, (by decide), (by decide), xk.xf, xk.no "name" (by simp [namesE]), _, rfl, List.prefix_refl _, q⟩
  · exact ⟨xk.xf, nc, _, rfl, (by show 2 ≤ sizeLine; decide), rfl, rfl, (by decide), (by decide), xk.xf, nc, _, rfl, (by show 6 ≤ sizeLine; decide), rfl, rfl, (by decide), (by decide), xk.xf, nc, _, rfl, rfl, rfl, (by decide), (by decide), xk.xf, nc, _, rfl, rfl, rfl, (by decide), (by decide), xk.xf, nc, _, rfl, (by show 2 ≤ sizeLine; decide), rfl, rfl, (by decide), (by decide), xk.xf, nc, _, rfl, rfl, rfl, (by decide), (by decide), xk.xf, nc, _, rfl, rfl, rfl, (by decide), (by decide), xk.xf, nc, _, rfl, rfl, rfl, (by decide), (by decide), xk.xf, nc, _, rfl, rfl, rfl, (by decide), (by decide), List.prefix_refl _, q⟩
  · exact ⟨xk.xf, nc, _, rfl, (by show 2 ≤ sizeLine; decide), rfl, rfl, (by decide), (by decide), xk.xf, nc, _, rfl, (by show 6 ≤ sizeLine; decide), rfl, rfl, (by decide), (by decide), xk.xf, nc, _, rfl, rfl, rfl, (by decide), (by decide), xk.xf, xk.no "index" (by simp [namesE]), _, rfl, List.prefix_refl _, q⟩
  · exact ⟨xk.xf, nc, _, rfl, (by show 2 ≤ sizeLine; decide), rfl, rfl, (by decide), (by decide), xk.xf, nc, _, rfl, (by show 6 ≤ sizeLine; decide), rfl, rfl, (by decide), (by decide), xk.xf, nc, _, rfl, rfl, rfl, (by decide), (by decide), xk.xf, nc, _, rfl, rfl, rfl, (by decide), (by decide), xk.xf, nc, _, rfl, (by show 2 ≤ sizeLine; decide), rfl, rfl, (by decide), (by decide), xk.xf, nc, _, rfl, rfl, rfl, (by decide), (by decide), xk.xf, nc, _, rfl, rfl, rfl, (by decide), (by decide), xk.xf, nc, _, rfl, rfl, rfl, (by decide), (by decide), xk.xf, nc, _, rfl, rfl, rfl, (by decide), (by decide), List.prefix_refl _, q⟩
  · exact ⟨xk.xf, nc, _, rfl, (by show 2 ≤ sizeLine; decide), rfl, rfl, (by decide), (by decide), xk.xf, nc, _, rfl, (by show 6 ≤ sizeLine; decide), rfl, rfl, (by decide), (by decide), xk.xf, nc, _, rfl, rfl, rfl, (by decide), (by decide), xk.xf, nc, _, rfl, rfl, rfl, (by decide), (by decide), xk.xf, nc, _, rfl, (by show 2 ≤ sizeLine; decide), rfl, rfl, (by decide), (by decide), xk.xf, nc, _, rfl, rfl, rfl, (by decide), (by decide), xk.xf, nc, _, rfl, rfl, rfl, (by decide), (by decide), xk.xf, nc, _, rfl, rfl, rfl, (by decide), (by decide), xk.xf, nc, _, rfl, rfl, rfl, (by decide), (by decide), List.prefix_refl _, q⟩
  · exact ⟨xk.xf, nc, _, rfl, (by show 2 ≤ sizeLine; decide), rfl, rfl, (by decide), (by decide), xk.xf, nc, _, rfl, (by show 6 ≤ sizeLine; decide), rfl, rfl, (by decide), (by decide), xk.xf, xk.no "name" (by simp [namesE]), _, rfl, List.prefix_refl _, q⟩
  · exact ⟨xk.xf, nc, _, rfl, (by show 2 ≤ sizeLine; decide), rfl, rfl, (by decide), (by decide), xk.xf, nc, _, rfl, (by show 6 ≤ sizeLine; decide), rfl, rfl, (by decide), (by decide), xk.xf, nc, _, rfl, rfl, rfl, (by decide), (by decide), xk.xf, nc, _, rfl, rfl, rfl, (by decide), (by decide), xk.xf, nc, _, rfl, (by show 2 ≤ sizeLine; decide), rfl, rfl, (by decide), (by decide), xk.xf, nc, _, rfl, rfl, rfl, (by decide), (by decide), xk.xf, nc, _, rfl, rfl, rfl, (by decide), (by decide), xk.xf, nc, _, rfl, rfl, rfl, (by decide), (by decide), xk.xf, nc, _, rfl, rfl, rfl, (by decide), (by decide), List.prefix_refl _, q⟩
  · exact ⟨xk.xf, nc, _, rfl, (by show 2 ≤ sizeLine; decide), rfl, rfl, (by decide), (by decide), xk.xf, nc, _, rfl, (by show 6 ≤ sizeLine; decide), rfl, rfl, (by decide), (by decide), xk.xf, nc, _, rfl, rfl, rfl, (by decide), (by decide), xk.xf, nc, _, rfl, rfl, rfl, (by decide), (by decide), xk.xf, nc, _, rfl, (by show 2 ≤ sizeLine; decide), rfl, rfl, (by decide), (by decide), xk.xf, nc, _, rfl, rfl, rfl, (by decide), (by decide), xk.xf, nc, _, rfl, rfl, rfl, (by decide), (by decide), xk.xf, nc, _, rfl, rfl, rfl, (by decide), (by decide), xk.xf, nc, _, rfl, rfl, rfl, (by decide), (by decide), List.prefix_refl _, q⟩
  · exact ⟨xk.xf, nc, _, rfl, (by show 2 ≤ sizeLine; decide), rfl, rfl, (by decide), (by decide), xk.xf, nc, _, rfl, (by show 6 ≤ sizeLine; decide), rfl, rfl, (by decide), (by decide), xk.xf, nc, _, rfl, rfl, rfl, (by decide), (by decide), xk.xf, nc, _, rfl, rfl, rfl, (by decide), (by decide), xk.xf, nc, _, rfl, (by show 2 ≤ sizeLine; decide), rfl, rfl, (by decide), (by decide), xk.xf, nc, _, rfl, rfl, rfl, (by decide), (by decide), xk.xf, nc, _, rfl, rfl, rfl, (by decide), (by decide), xk.xf, nc, _, rfl, rfl, rfl, (by decide), (by decide), xk.xf, nc, _, rfl, rfl, rfl, (by decide), (by decide), List.prefix_refl _, q⟩
  · exact ⟨xk.xf, nc, _, rfl, (by show 2 ≤ sizeLine; decide), rfl, rfl, (by decide), (by decide), xk.xf, nc, _, rfl, (by show 6 ≤ sizeLine; decide), rfl, rfl, (by decide), (by decide), xk.xf, nc, _, rfl, rfl, rfl, (by decide), (by decide), xk.xf, nc, _, rfl, rfl, rfl, (by decide), (by decide), xk.xf, xk.no "at" (by simp [namesE]), _, rfl, List.prefix_refl _, q⟩
  · exact ⟨xk.xf, nc, _, rfl, (by show 2 ≤ sizeLine; decide), rfl, rfl, (by decide), (by decide), xk.xf, nc, _, rfl, (by show 6 ≤ sizeLine; decide), rfl, rfl, (by decide), (by decide), xk.xf, xk.no "name" (by simp [namesE]), _, rfl, List.prefix_refl _, q⟩
  · exact ⟨xk.xf, nc, _, rfl, (by show 2 ≤ sizeLine; decide), rfl, rfl, (by decide), (by decide), xk.xf, nc, _, rfl, (by show 6 ≤ sizeLine; decide), rfl, rfl, (by decide), (by decide), xk.xf, xk.no "name" (by simp [namesE]), _, rfl, List.prefix_refl _, q⟩
  · exact ⟨xk.xf, nc, _, rfl, (by show 2 ≤ sizeLine; decide), rfl, rfl, (by decide), (by decide), xk.xf, nc, _, rfl, (by show 6 ≤ sizeLine; decide), rfl, rfl, (by decide), (by decide), xk.xf, xk.no "name" (by simp [namesE]), _, rfl, List.prefix_refl _, q⟩
  · exact ⟨xk.xf, nc, _, rfl, (by show 2 ≤ sizeLine; decide), rfl, rfl, (by decide), (by decide), xk.xf, nc, _, rfl, (by show 6 ≤ sizeLine; decide), rfl, rfl, (by decide), (by decide), xk.xf, nc, _, rfl, rfl, rfl, (by decide), (by decide), xk.xf, nc, _, rfl, rfl, rfl, (by decide), (by decide), xk.xf, nc, _, rfl, (by show 2 ≤ sizeLine; decide), rfl, rfl, (by decide), (by decide), xk.xf, xk.no "claim" (by simp [namesE]), _, rfl, List.prefix_refl _, q⟩
  · exact ⟨xk.xf, nc, _, rfl, (by show 2 ≤ sizeLine; decide), rfl, rfl, (by decide), (by decide), xk.xf, xk.no "most" (by simp [namesE]), _, rfl, List.prefix_refl _, q⟩
  · exact ⟨xk.xf, nc, _, rfl, (by show 2 ≤ sizeLine; decide), rfl, rfl, (by decide), (by decide), xk.xf, nc, _, rfl, (by show 6 ≤ sizeLine; decide), rfl, rfl, (by decide), (by decide), xk.xf, nc, _, rfl, rfl, rfl, (by decide), (by decide), xk.xf, nc, _, rfl, rfl, rfl, (by decide), (by decide), xk.xf, nc, _, rfl, (by show 2 ≤ sizeLine; decide), rfl, rfl, (by decide), (by decide), xk.xf, nc, _, rfl, rfl, rfl, (by decide), (by decide), xk.xf, xk.no "word" (by simp [namesE]), _, rfl, List.prefix_refl _, q⟩
  · exact ⟨xk.xf, nc, _, rfl, (by show 2 ≤ sizeLine; decide), rfl, rfl, (by decide), (by decide), xk.xf, nc, _, rfl, (by show 6 ≤ sizeLine; decide), rfl, rfl, (by decide), (by decide), xk.xf, nc, _, rfl, rfl, rfl, (by decide), (by decide), xk.xf, nc, _, rfl, rfl, rfl, (by decide), (by decide), xk.xf, nc, _, rfl, (by show 2 ≤ sizeLine; decide), rfl, rfl, (by decide), (by decide), xk.xf, nc, _, rfl, rfl, rfl, (by decide), (by decide), xk.xf, nc, _, rfl, rfl, rfl, (by decide), (by decide), xk.xf, xk.no "index" (by simp [namesE]), _, rfl, xk.xf, xk.no "cause" (by simp [namesE]), _, rfl, (by show 2 ≤ sizeLine; decide), List.prefix_refl _, q⟩
  · exact ⟨xk.xf, nc, _, rfl, (by show 2 ≤ sizeLine; decide), rfl, rfl, (by decide), (by decide), xk.xf, nc, _, rfl, (by show 6 ≤ sizeLine; decide), rfl, rfl, (by decide), (by decide), xk.xf, nc, _, rfl, rfl, rfl, (by decide), (by decide), xk.xf, nc, _, rfl, rfl, rfl, (by decide), (by decide), xk.xf, nc, _, rfl, (by show 2 ≤ sizeLine; decide), rfl, rfl, (by decide), (by decide), xk.xf, nc, _, rfl, rfl, rfl, (by decide), (by decide), xk.xf, nc, _, rfl, rfl, rfl, (by decide), (by decide), xk.xf, nc, _, rfl, rfl, rfl, (by decide), (by decide), xk.xf, xk.no "limit" (by simp [namesE]), _, rfl, List.prefix_refl _, q⟩
  · exact ⟨xk.xf, nc, _, rfl, (by show 2 ≤ sizeLine; decide), rfl, rfl, (by decide), (by decide), xk.xf, nc, _, rfl, (by show 6 ≤ sizeLine; decide), rfl, rfl, (by decide), (by decide), xk.xf, nc, _, rfl, rfl, rfl, (by decide), (by decide), xk.xf, nc, _, rfl, rfl, rfl, (by decide), (by decide), xk.xf, nc, _, rfl, (by show 2 ≤ sizeLine; decide), rfl, rfl, (by decide), (by decide), xk.xf, nc, _, rfl, rfl, rfl, (by decide), (by decide), xk.xf, nc, _, rfl, rfl, rfl, (by decide), (by decide), xk.xf, nc, _, rfl, rfl, rfl, (by decide), (by decide), xk.xf, nc, _, rfl, rfl, rfl, (by decide), (by decide), xk.xf, xk.no "line" (by simp [namesE]), _, rfl, List.prefix_refl _, q⟩
  · exact ⟨xk.xf, nc, _, rfl, (by show 2 ≤ sizeLine; decide), rfl, rfl, (by decide), (by decide), xk.xf, nc, _, rfl, (by show 6 ≤ sizeLine; decide), rfl, rfl, (by decide), (by decide), xk.xf, xk.no "name" (by simp [namesE]), _, rfl, List.prefix_refl _, q⟩
  · exact ⟨xk.xf, nc, _, rfl, (by show 2 ≤ sizeLine; decide), rfl, rfl, (by decide), (by decide), xk.xf, nc, _, rfl, (by show 6 ≤ sizeLine; decide), rfl, rfl, (by decide), (by decide), xk.xf, nc, _, rfl, rfl, rfl, (by decide), (by decide), xk.xf, nc, _, rfl, rfl, rfl, (by decide), (by decide), xk.xf, nc, _, rfl, (by show 2 ≤ sizeLine; decide), rfl, rfl, (by decide), (by decide), xk.xf, xk.no "claim" (by simp [namesE]), _, rfl, List.prefix_refl _, q⟩
  · exact ⟨xk.xf, nc, _, rfl, (by show 2 ≤ sizeLine; decide), rfl, rfl, (by decide), (by decide), xk.xf, nc, _, rfl, (by show 6 ≤ sizeLine; decide), rfl, rfl, (by decide), (by decide), xk.xf, nc, _, rfl, rfl, rfl, (by decide), (by decide), xk.xf, nc, _, rfl, rfl, rfl, (by decide), (by decide), xk.xf, nc, _, rfl, (by show 2 ≤ sizeLine; decide), rfl, rfl, (by decide), (by decide), xk.xf, nc, _, rfl, rfl, rfl, (by decide), (by decide), xk.xf, nc, _, rfl, rfl, rfl, (by decide), (by decide), xk.xf, nc, _, rfl, rfl, rfl, (by decide), (by decide), xk.xf, nc, _, rfl, rfl, rfl, (by decide), (by decide), List.prefix_refl _, q⟩
end
end Fs
set_option Elab.async false
set_option linter.all false
set_option maxRecDepth 100000
set_option maxHeartbeats 8000000
namespace Fs
open PySem PySem.Spec PyProof.Rows L2
def bilF : Int := 10 ^ 9
theorem d_bil {X : Cx} {E : XK} {F : Int} (hF : F = bilF) {k1 k2 : Nat} {p1 p2 pos : Pos} : DE X E (.BinOp (.Constant (.int 10) k1 p1) .Pow (.Constant (.int 9) k2 p2) pos) (tK (.int F)) := by
  obtain ⟨t, p, k⟩ := (d_op o_pow (d_int (i := 10)) (d_int (i := 9)) : DE X E (.BinOp (.Constant (.int 10) k1 p1) .Pow (.Constant (.int 9) k2 p2) pos) _).ex
  refine ⟨t, p, k.imp fun en m Q Qx q => ?_⟩
  subst hF
  exact ⟨⟨by decide, by decide⟩, q⟩
/-- what the written part says of the classes -/
structure ErrI (K : Frag) : Prop where
  at_ : ∀ (k : Nat) (e : Str × Ek), tbl25[k]? = some e → ExcC K (He.ga K e.1) ∧ ExK K (He.ga K e.1) ∧ (∀ (j : Nat) (x : Str), names25[j]? = some x → PySem.W.kitOne K (.ref (He.ga K e.1)) (.ref (He.ga K x)) = some (decide (j = k))) ∧
    PySem.W.kitOne K (.ref (He.ga K e.1)) (.ref (He.ga K "FrameError")) = some (decide (k < 22)) ∧ PySem.W.kitOne K (.ref (He.ga K e.1)) (.type "ValueError") = some (decide (k < 22)) ∧ PySem.W.kitOne K (.ref (He.ga K e.1)) (.ref (He.ga K "Missing")) = some (decide (21 < k) && decide (k < 24)) ∧
    PySem.W.kitOne K (.ref (He.ga K e.1)) (.type "LookupError") = some (decide (21 < k)) ∧ PySem.W.kitOne K (.ref (He.ga K e.1)) (.type "IndexError") = some (decide (k = 24))
def kit1B (K : Frag) (C : Addr) (c : Value) (b : Bool) : Bool := decide (PySem.W.kitOne K (.ref C) c = some b)
def errIB1 (K : Frag) (k : Nat) (e : Str × Ek) : Bool := excCB K (He.ga K e.1) && (xfB K (He.ga K e.1) && ((namesE.all fun n => decide (PySem.W.findIn K (.ref (He.ga K e.1)) n = some none)) &&
  (((List.range 25).all fun j => match names25[j]? with
    | some x => kit1B K (He.ga K e.1) (.ref (He.ga K x)) (decide (j = k))
    | none => true) && (kit1B K (He.ga K e.1) (.ref (He.ga K "FrameError")) (decide (k < 22)) && (kit1B K (He.ga K e.1) (.type "ValueError") (decide (k < 22)) && (kit1B K (He.ga K e.1) (.ref (He.ga K "Missing")) (decide (21 < k) && decide (k < 24)) &&
  (kit1B K (He.ga K e.1) (.type "LookupError") (decide (21 < k)) && kit1B K (He.ga K e.1) (.type "IndexError") (decide (k = 24)))))))))
def errIB (K : Frag) : Bool := (List.range 25).all fun k => match tbl25[k]? with
  | some e => errIB1 K k e
  | none => true
theorem kit1B_ok {K : Frag} {C : Addr} {c : Value} {b : Bool} (h : kit1B K C c b = true) : PySem.W.kitOne K (.ref C) c = some b := of_decide_eq_true h
theorem errIB_ok {K : Frag} (h : errIB K = true) : ErrI K := by
  refine ⟨fun k e he => ?_⟩
  have hk : k < 25 := (List.getElem?_eq_some_iff.mp he).1
  have z := List.all_eq_true.mp h k (List.mem_range.mpr hk)
  rw [he] at z
  have z : errIB1 K k e = true := z
  unfold errIB1 at z
  simp only [Bool.and_eq_true] at z
  obtain ⟨z1, z2, z3, z4, z5, z6, z7, z8, z9⟩ := z
  refine ⟨excCB_ok z1, ⟨xfB_ok z2, fun n hn => of_decide_eq_true (List.all_eq_true.mp z3 n hn)⟩, fun j x hx => ?_, kit1B_ok z5, kit1B_ok z6, kit1B_ok z7, kit1B_ok z8, kit1B_ok z9⟩
  have hj : j < 25 := (List.getElem?_eq_some_iff.mp hx).1
  have y := List.all_eq_true.mp z4 j (List.mem_range.mpr hj)
  rw [hx] at y
  exact kit1B_ok y
theorem fsE_code {e : Str × Ek} (he : e ∈ tbl25) (n u : D) : (fsE n u e).lookup ("code" : Str) = some (.str e.1) := by
  simp only [tbl25, List.mem_cons, List.not_mem_nil, or_false] at he
  rcases he with rfl | rfl | rfl | rfl | rfl | rfl | rfl | rfl | rfl | rfl | rfl | rfl | rfl | rfl | rfl | rfl | rfl | rfl | rfl | rfl | rfl | rfl | rfl | rfl | rfl <;> rfl
theorem tblF {e : Str × Ek} (he : e ∈ tbl25) : (plainsD.any fun y => deq y (.str e.1)) = (match e.2 with | .z => true | _ => false) ∧ deq (.str e.1) (.str "Stopped") = (match e.2 with | .two => true | _ => false) := by
  simp only [tbl25, List.mem_cons, List.not_mem_nil, or_false] at he
  rcases he with rfl | rfl | rfl | rfl | rfl | rfl | rfl | rfl | rfl | rfl | rfl | rfl | rfl | rfl | rfl | rfl | rfl | rfl | rfl | rfl | rfl | rfl | rfl | rfl | rfl <;> decide +kernel
theorem fit_flat {n : Nat} {d : D} (h : flatA d = true) : fitD (n + 1) d := by
  cases d <;> first | exact h | cases h
section
variable {P : Program} {w : World} {K : Frag} {mg : Str → Option Value} {base : Heap}
theorem fo_law (HM : ErrsM P w K mg base) (HI : ErrI K) (c_FrameError : mg "FrameError" = some (.ref (He.ga K "FrameError"))) (c_Missing : mg "Missing" = some (.ref (He.ga K "Missing"))) (m_ValueError : mg "ValueError" = none) (m_LookupError : mg "LookupError" = none) (m_IndexError : mg "IndexError" = none) (m_isinstance : mg "isinstance" = none) (m_range : mg "range" = none) (m_int : mg "int" = none) (g__law_bag : Gd P w K mg base CX0 1 "_law_bag" P__law_bag (spBag K)) (g__law_pull : Gd P w K mg base (L2.CX P w) 1 "_law_pull" P__law_pull (lift K spPullD)) (g__law_of : Gd P w K mg base (L2.CX P w) 2 "_law_of" P__law_of (lift K spOfD)) (g__law_codes : Gd P w K mg base (L2.CX P w) 1 "_law_codes" P__law_codes (lift K sp_codesD)) (g__law_plain_codes : Gd P w K mg base (L2.CX P w) 1 "_law_plain_codes" P__law_plain_codes (lift K sp_plainsD)) (g__law_errors : Gd P w K mg base (L2.CX P w) 3 "_law_errors" P__law_errors (lift K (spErrs K)))
    (g__law_same : Gd P w K mg base (L2.CX P w) 4 "_law_same" P__law_same (lift K (spSameD 3))) (g__law_flags : Gd P w K mg base (L2.CX P w) 1 "_law_flags" P__law_flags (lift K (spFlags K))) (g__law_field : Gd P w K mg base (L2.CX P w) 1 "_law_field" P__law_field (lift K (spFieldD K))) :
    Fo P w K mg base CX0 12 "law" s_law [] [] ["_law_script"] (spLaw K) := by
  refine fo_ok sc_law (fun vs H Q E h => ?_) (fun f cdv A outer s H vs Q E hr h => ?_)
  · obtain ⟨a, ns, rfl, _⟩ := h
    rfl
  obtain ⟨a, ns, rfl, hS, hl, q⟩ := h
  obtain ⟨F, hF⟩ : ∃ F : Int, F = bilF := ⟨_, rfl⟩
  have F0 : 0 < F := by rw [hF]; decide
  have F1 : F < 2 ^ 100 := by rw [hF]; decide
  have body : DSs (cxOf CX0 P w K mg base N_law "law" (defScope s_law) f cdv A outer s H E).nox E0 ((defBody s_law).drop 1) _ := (dss_cons (ds_par (i := 2) (j := 3) rfl sc_law.nd rfl rfl (by decide) rfl rfl (da_cons (d_call g__law_pull (hr.mono (by omega)) passF (da_cons (dv 1) (da_cons (d_bil hF) da_nil))) (da_cons (d_call g__law_of (hr.mono (by omega)) passF (da_cons (dv 1) (da_cons (d_lst (da_cons d_str (da_cons d_str (da_cons d_non (da_cons d_int da_nil))))) da_nil))) da_nil)) (by rfl))
    (dss_cons (ds_par (i := 4) (j := 5) rfl sc_law.nd rfl rfl (by decide) rfl rfl (da_cons (d_call g__law_errors (hr.mono (by omega)) passF (da_cons (dv 2) (da_cons (dv 3) da_nil))) (da_cons (d_call0 g__law_codes (hr.mono (by omega)) passF) da_nil)) (by rfl))
    (dss_cons (ds_set (i := 6) sc_law.nd rfl (.inl rfl) (d_call g__law_pull (hr.mono (by omega)) passF (da_cons (dv 1) (da_cons d_int da_nil))))
    (dss_cons (ds_for PassesOwn.never rfl (di_range1 m_range (da_cons d_int da_nil)) (dg_name (i := 7) sc_law.nd rfl (.inl rfl))
      (dss_cons (ds_set (i := 8) sc_law.nd rfl (.inr rfl) (d_op o_mod (d_toInt m_int (da_cons (d_op o_add (dv 6) (d_op o_mul d_int (dv 7))) da_nil)) d_int))
      (dss_cons (ds_set (i := 9) sc_law.nd rfl (.inl rfl) (d_ix (dv 4) (dv 8)))
      (dss_cons (ds_if (DW.dt (dw_or (dt_not (dt_val (d_call g__law_same (hr.mono (by omega)) passF (da_cons (d_call g__law_flags (hr.mono (by omega)) passF (da_cons (dv 9) da_nil)) (da_cons (d_lc (own := O_law_0) rfl sc_law.nd (di_range1 m_range (da_cons d_int da_nil)) (blkOk_by (own := O_law_0) (N := N_law) (sc := defScope s_law) (by decide +kernel)) (fun _ _ _ _ _ => (dg_name (i := 12) sc_law.nd rfl (.inl rfl))) (fun _ _ _ _ _ => dts_nil) (fun _ _ _ _ _ => (d_cmp (o_eq (u64 hr)) (dv 12) (dv 8) (nomark _)))) da_nil))))) (dw_or1 (dt_cmp (o_ne (u64 hr)) (d_xfld (dv 9)) (d_ix (dv 5) (dv 8)) (nomark _)))))
        (dss_one (ds_ret d_bl))
        dss_nil)
      (dss_cons (ds_set (i := 10) sc_law.nd rfl (.inl rfl) (d_lst (da_cons (d_isX m_isinstance (da_cons (dv 9) (da_cons (d_glob c_FrameError (v := .ref (He.ga K "FrameError")) rfl (fun _ => .fn _)) da_nil))) (da_cons (d_isX m_isinstance (da_cons (dv 9) (da_cons (d_ty (n := "ValueError") m_ValueError (by decide +kernel)) da_nil))) (da_cons (d_isX m_isinstance (da_cons (dv 9) (da_cons (d_glob c_Missing (v := .ref (He.ga K "Missing")) rfl (fun _ => .fn _)) da_nil))) (da_cons (d_isX m_isinstance (da_cons (dv 9) (da_cons (d_ty (n := "LookupError") m_LookupError (by decide +kernel)) da_nil))) (da_cons (d_isX m_isinstance (da_cons (dv 9) (da_cons (d_ty (n := "IndexError") m_IndexError (by decide +kernel)) da_nil))) da_nil)))))))
      (dss_cons (ds_if (dt_not (dt_val (d_call g__law_same (hr.mono (by omega)) passF (da_cons (dv 10) (da_cons (d_lst (da_cons (d_cmp o_lt (dv 8) d_int (nomark _)) (da_cons (d_cmp o_lt (dv 8) d_int (nomark _)) (da_cons (d_chain o_lt o_lt d_int (dv 8) d_int) (da_cons (d_cmp o_gt (dv 8) d_int (nomark _)) (da_cons (d_cmp (o_eq (u64 hr)) (dv 8) d_int (nomark _)) da_nil)))))) da_nil)))))
        (dss_one (ds_ret d_bl))
        dss_nil)
      (dss_cons (ds_set (i := 11) sc_law.nd rfl (.inl rfl) (d_if (dt_cmp (o_in (u65 hr)) (d_ix (dv 5) (dv 8)) (d_call0 g__law_plain_codes (hr.mono (by omega)) passF) (by rfl)) d_non (d_if (dt_cmp (o_eq (u64 hr)) (d_ix (dv 5) (dv 8)) d_str (nomark _)) (d_tup (da_cons (dv 2) (da_cons (dv 3) da_nil))) (dv 2))))
      (dss_one (ds_if (dt_not (dt_val (d_call g__law_same (hr.mono (by omega)) passF (da_cons (d_call g__law_field (hr.mono (by omega)) passF (da_cons (dv 9) da_nil)) (da_cons (dv 11) da_nil)))))
        (dss_one (ds_ret d_bl))
        dss_nil)))))))))
    (dss_one (ds_ret d_bl))))))
  obtain ⟨t2, p2, k2⟩ := body.ex
  refine ⟨_, pss_cons (ps_set (i := 1) sc_law.nd rfl (.inl rfl) (pe_g g__law_bag (hr.mono (by omega)) pass0 (pa_cons (pv 0) pa_nil))) p2, ?_⟩
  refine ⟨_, rfl, a, ns, rfl, hS, fun p l H1 np s1 B1 => ?_⟩
  refine law_start (en := bagE 11) k2 B1 rfl (fun i x e => bagE_at e rfl) ?_ q _ rfl
  have ln := sizeLine_eq
  clear k2 p2 body
  refine ⟨0, F, rfl, rfl, F0, F1, fun r r0 r1 => ?_⟩
  refine ⟨by show 4 ≤ sizeLine; omega, 0, _, _, rfl, rfl, .inl rfl, by simp, by decide, fun u hu => ?_⟩
  refine ⟨_, _, rfl, rfl, ?_⟩
  refine ⟨0, 25, rfl, rfl, by decide, by decide, fun f0 f1 f2 => ?_⟩
  have fu : flatA u = true := by
    simp only [List.mem_cons, List.not_mem_nil, or_false] at hu
    rcases hu with rfl | rfl | rfl | rfl <;> rfl
  refine ⟨by decide, by decide, ?_⟩
  refine sFor0 (fun i en m => ∃ v7 v8 v9 v10 v11 v12, en = [none, some (.loc 0), some (.v (.int r)), some (.v u), some (.v (.lst (tbl25.map (excE K (.int r) u)))), some (.v (.lst codesD)), some (.v (.int f0)), v7, v8, v9, v10, v11, v12] ∧ m = [MO.bag]) ⟨none, none, none, none, none, none, rfl, rfl⟩ ?_ ?_
  · rintro j d en m N' hd ⟨v7, v8, v9, v10, v11, v12, rfl, rfl⟩ r1 r2 r3 hn
    obtain ⟨rfl, hj⟩ := rngD_at hd
    obtain ⟨k, hk, ek⟩ : ∃ k : Nat, k < 25 ∧ (f0 + 7 * (0 + (j : Nat))) % 25 = (k : Int) := ⟨((f0 + 7 * (0 + (j : Nat))) % 25).toNat, by omega, by omega⟩
    obtain ⟨e, he⟩ : ∃ e, tbl25[k]? = some e := by
      have z : k < tbl25.length := hk
      exact ⟨_, List.getElem?_eq_getElem z⟩
    obtain ⟨xc, xk, kk, k1, k2', k3, k4, k5⟩ := HI.at_ k e he
    have cm : ∀ j : Nat, j < 25 → (7 : Int).natAbs.log2 + (0 + (j : Int)).natAbs.log2 < 1000000 := by decide +kernel
    refine ⟨cm j hj, by decide, excE K (.int r) u e, by rw [ek]; exact atI_nat (by rw [List.getElem?_map, he]; rfl), ?_⟩
    rw [ek]
    refine ⟨_, _, k, rfl, xc, kk, ?_⟩
    have c1 : decide (k < 22) = decide ((k : Int) < 22) := by rw [decide_eq_decide]; omega
    have c2 : decide (21 < k) = decide ((21 : Int) < (k : Int)) := by rw [decide_eq_decide]; omega
    have c3 : decide (k < 24) = decide ((k : Int) < 24) := by rw [decide_eq_decide]; omega
    have c4 : decide (k = 24) = decide ((k : Int) = 24) := by rw [decide_eq_decide]; omega
    rw [c1] at k1 k2'
    rw [c2, c3] at k3
    rw [c2] at k4
    rw [c4] at k5
    refine ⟨by decide, by decide, ?_⟩
    refine lcL_map (fun d => .bl (deq d (.int (k : Int)))) (by show 0 + 25 ≤ sizeLine; omega) (fun d Qt hd q => ?_) ?_
    · obtain ⟨i, hi, rfl⟩ := List.mem_map.mp hd
      exact ⟨rfl, rfl, (by show 0 ≤ 64; decide), (by show 0 ≤ 64; decide), q⟩
    have fl : (rngD 0 25).map (fun d => D.bl (deq d (.int (k : Int)))) = flagsD k := by
      unfold rngD flagsD
      rw [List.map_map]
      refine List.map_congr_left fun i hi => ?_
      show D.bl (decide (0 + (i : Int) = (k : Int))) = D.bl (decide (i = k))
      congr 1
      rw [decide_eq_decide]
      omega
    rw [List.nil_append]
    rw [show Int.toNat 25 = 25 from rfl, fl]
    refine ⟨.lst (flagsD k), rfl, ⟨by show 25 < 2 ^ 20; decide, fun d hd => ?_⟩, ?_⟩
    · obtain ⟨i, _, rfl⟩ := List.mem_map.mp hd
      exact rfl
    have em : e ∈ tbl25 := List.mem_of_getElem? he
    have hn1 : atI codesD (k : Int) = some (.str e.1) := by
      refine atI_nat ?_
      show (names25.map D.str)[k]? = _
      rw [show names25 = tbl25.map (·.1) from rfl, List.getElem?_map, List.getElem?_map, he]
      rfl
    have dq : deq (.str e.1) (.str e.1) = true := by simp [deq]
    refine ⟨xk.xf, xk.no "code" (by simp [namesE]), .str e.1, fsE_code em _ _, .str e.1, hn1, rfl, rfl, (by show 0 ≤ 64; decide), (by show 0 ≤ 64; decide), ?_⟩
    rw [dq]
    refine ⟨_, xc, k1, _, xc, k2', _, xc, k3, _, xc, k4, _, xc, k5, by show 5 ≤ sizeLine; omega, ?_⟩
    refine iteB (fun t => ?_) (fun t => ?_)
    all_goals
      refine ⟨rfl, rfl, (by show 0 ≤ 64; decide), (by show 0 ≤ 64; decide), by show 5 ≤ sizeLine; omega, ?_⟩
      have t' : decide ((21 : Int) < (k : Int)) = _ := t
      simp only [t', Bool.true_and, Bool.false_and]
      refine ⟨_, rfl, ⟨by show 5 < 2 ^ 20; decide, fun d hd => ?_⟩, ?_⟩
      · simp only [List.mem_cons, List.not_mem_nil, or_false] at hd
        rcases hd with rfl | rfl | rfl | rfl | rfl <;> exact rfl
      obtain ⟨f1', f2'⟩ := tblF em
      refine ⟨.str e.1, hn1, rfl, rfl, rfl, (by show 0 ≤ 64; decide), (by decide), ?_⟩
      obtain ⟨x, ek'⟩ := e
      cases ek' with
      | z =>
        refine iteB (fun t2 => ?_) (fun t2 => ?_)
        · refine ⟨_, _, _, _, rfl, xk, em, ?_⟩
          refine ⟨.non, rfl, rfl, ?_⟩
          exact (hn _ _ ⟨_, _, _, _, _, _, rfl, rfl⟩).1
        · exact absurd (show true = false from f1'.symm.trans t2) (by decide)
      | o f =>
        refine iteB (fun t2 => ?_) (fun t2 => ?_)
        · exact absurd (show false = true from f1'.symm.trans t2) (by decide)
        refine ⟨_, hn1, rfl, rfl, (by show 0 ≤ 64; decide), (by show 0 ≤ 64; decide), ?_⟩
        refine iteB (fun t3 => ?_) (fun t3 => ?_)
        · exact absurd (show false = true from f2'.symm.trans t3) (by decide)
        refine ⟨_, _, _, _, rfl, xk, em, ?_⟩
        refine ⟨.int r, rfl, rfl, ?_⟩
        exact (hn _ _ ⟨_, _, _, _, _, _, rfl, rfl⟩).1
      | two =>
        refine iteB (fun t2 => ?_) (fun t2 => ?_)
        · exact absurd (show false = true from f1'.symm.trans t2) (by decide)
        refine ⟨_, hn1, rfl, rfl, (by show 0 ≤ 64; decide), (by show 0 ≤ 64; decide), ?_⟩
        refine iteB (fun t3 => ?_) (fun t3 => ?_)
        · refine ⟨by show 2 ≤ sizeLine; omega, ?_⟩
          refine ⟨_, _, _, _, rfl, xk, em, ?_⟩
          refine ⟨.tup [.int r, u], rfl, ⟨by show 2 < 2 ^ 20; decide, fun d hd => ?_⟩, ?_⟩
          · simp only [List.mem_cons, List.not_mem_nil, or_false] at hd
            rcases hd with rfl | rfl
            · exact rfl
            · exact fit_flat fu
          exact (hn _ _ ⟨_, _, _, _, _, _, rfl, rfl⟩).1
        · exact absurd (show true = false from f2'.symm.trans t3) (by decide)
  · rintro en m ⟨v7, v8, v9, v10, v11, v12, rfl, rfl⟩
    exact rfl
end
end Fs
set_option Elab.async false
set_option linter.all false
set_option maxRecDepth 100000
set_option maxHeartbeats 0
namespace Fs
open PySem PySem.Spec PyProof.Rows L2
def fn : List He.DefD := [dD "_law_bag" s__law_bag, dD "_law_pull" s__law_pull, dD "_law_of" s__law_of, dD "_law_same" s__law_same, dD "_law_field" s__law_field, dD "_law_errors" s__law_errors, dD "_law_codes" s__law_codes, dD "_law_plain_codes" s__law_plain_codes, dD "_law_flags" s__law_flags, dD "law" s_law, dI "InvalidRatio" "InvalidRatio.__init__" s_InvalidRatio___init__, dI "InvalidFrame" "InvalidFrame.__init__" s_InvalidFrame___init__, dI "TooMany" "TooMany.__init__" s_TooMany___init__, dI "InvalidSizes" "InvalidSizes.__init__" s_InvalidSizes___init__, dI "InvalidExpression" "InvalidExpression.__init__" s_InvalidExpression___init__, dI "InvalidFact" "InvalidFact.__init__" s_InvalidFact___init__, dI "NoSizes" "NoSizes.__init__" s_NoSizes___init__, dI "InvalidClaim" "InvalidClaim.__init__" s_InvalidClaim___init__, dI "UnknownThing" "UnknownThing.__init__" s_UnknownThing___init__, dI "NotHeld" "NotHeld.__init__" s_NotHeld___init__, dI "OtherThings" "OtherThings.__init__" s_OtherThings___init__, dI "TooLarge" "TooLarge.__init__" s_TooLarge___init__, dI "InvalidText" "InvalidText.__init__" s_InvalidText___init__, dI "InvalidName" "InvalidName.__init__" s_InvalidName___init__, dI "DuplicateName" "DuplicateName.__init__" s_DuplicateName___init__, dI "WrongKind" "WrongKind.__init__" s_WrongKind___init__, dI "InUse" "InUse.__init__" s_InUse___init__, dI "Full" "Full.__init__" s_Full___init__, dI "InvalidCommand" "InvalidCommand.__init__" s_InvalidCommand___init__, dI "Stopped" "Stopped.__init__" s_Stopped___init__, dI "InvalidLimit" "InvalidLimit.__init__" s_InvalidLimit___init__, dI "ParseError" "ParseError.__init__" s_ParseError___init__, dI "UnknownName" "UnknownName.__init__" s_UnknownName___init__, dI "UnknownClaim" "UnknownClaim.__init__" s_UnknownClaim___init__, dI "NothingLeft" "NothingLeft.__init__" s_NothingLeft___init__]
def fa : List He.Fa := [.glo "_law_bag", .glo "_law_pull", .glo "_law_of", .glo "_law_same", .glo "_law_field", .glo "_law_errors", .glo "_law_codes", .glo "_law_plain_codes", .glo "_law_flags", .glo "law", .glo "FrameError", .glo "Missing", .glo "InvalidRatio", .glo "InvalidFrame", .glo "TooMany", .glo "InvalidSizes", .glo "InvalidExpression", .glo "InvalidFact", .glo "NoSizes", .glo "InvalidClaim", .glo "UnknownThing", .glo "NotHeld", .glo "OtherThings", .glo "TooLarge", .glo "InvalidText", .glo "InvalidName", .glo "DuplicateName", .glo "WrongKind", .glo "InUse", .glo "Full", .glo "InvalidCommand", .glo "Stopped", .glo "InvalidLimit", .glo "ParseError", .glo "UnknownName", .glo "UnknownClaim", .glo "NothingLeft", .free "int", .free "list", .free "len", .free "isinstance", .free "tuple", .free "all", .free "range", .free "dict", .free "bool", .free "str", .free "ValueError", .free "LookupError", .free "IndexError"]
def exB (K : Frag) : Bool := (errsB K ["InvalidRatio", "InvalidFrame", "TooMany", "InvalidSizes", "InvalidExpression", "InvalidFact", "NoSizes", "InvalidClaim", "UnknownThing", "NotHeld", "OtherThings", "TooLarge", "InvalidText", "InvalidName", "DuplicateName", "WrongKind", "InUse", "Full", "InvalidCommand", "Stopped", "InvalidLimit", "ParseError"]) && ((iniB K "UnknownName" && lookB K (He.ga K "UnknownName"))) && ((iniB K "UnknownClaim" && lookB K (He.ga K "UnknownClaim"))) && ((iniB K "NothingLeft" && indxB K (He.ga K "NothingLeft"))) && (errIB K)
abbrev R : PySem.W.OpenRow := PySem.W.OpenLaw.row PySem.Challenge.rw_framesure_k64_error_classes
def tf : List He.Defn := []
def tsL : List He.Tab := []
abbrev hk : PySem.W.Hook := He.hookX 6 fa fn tsL tf exB
def ob (s : PySem.W.SharedT) : He.AlX := He.obsX 6 fa fn tsL tf exB (HandSHeadRun.getT s)
theorem ob_eq (s : PySem.W.SharedT) : ob s = hk.obs s.abs := He.obsX_eq (HandSHeadRun.getT_eq s)
def loose : List Str := (["FrameError", "InvalidRatio", "InvalidFrame", "TooMany", "InvalidSizes", "InvalidExpression", "InvalidFact", "NoSizes", "InvalidClaim", "UnknownThing", "NotHeld", "OtherThings", "TooLarge", "InvalidText", "InvalidName", "DuplicateName", "WrongKind", "InUse", "Full", "InvalidCommand", "Stopped", "InvalidLimit", "ParseError", "Missing", "UnknownName", "UnknownClaim", "NothingLeft", "_law_bag", "_law_pull", "_law_of"] : List Str) ++ (["_law_same", "_law_field", "_law_errors", "_law_codes", "_law_plain_codes", "_law_flags"] : List Str)
theorem run (w : World) : HandSHeadRun.RunEq R (PySem.W.view R.prog [38]) hk ob 12000 loose w := by
  intro os
  kernel_rfl
theorem facts {P : Program} {w : World} {K : Frag} {h : Heap} {mg : Str → Option Value} {f : Addr} (X : K.In h) (G : h.Ns mainGlobals mg) (hfa : mg ("law" : Str) = some (.ref f)) (c : He.SaysX fa fn tsL tf exB w h K) :
    ∃ fd : FuncData, (∀ (s : Shared) (v : Value), BindsTo s fd ⟨[v], []⟩ [("_law_script", v)]) ∧ ∀ base : Heap, K.In base → base.Ns mainGlobals mg → FnOk P w K mg base CX0 12 f fd ["_law_script"] (spLaw K) := by
  have d := c.t.d
  obtain ⟨fd, FL⟩ := d.def_ 9 (d := dD "law" s_law) rfl
  have e := hfa.symm.trans (He.glo_ok X G (d.fact 9 (f := .glo "law") rfl))
  cases e
  have b := FunD.bindsA (ps := ["_law_script"]) FL fun _ _ _ _ _ _ us hl => match us, hl with | [_], _ => rfl
  refine ⟨fd, fun s v => b s [v] rfl, fun base _ _ => ?_⟩
  have G__law_bag := gs_of X G d 0 0 "_law_bag" s__law_bag rfl rfl
  have G__law_pull := gs_of X G d 1 1 "_law_pull" s__law_pull rfl rfl
  have G__law_of := gs_of X G d 2 2 "_law_of" s__law_of rfl rfl
  have G__law_same := gs_of X G d 3 3 "_law_same" s__law_same rfl rfl
  have G__law_field := gs_of X G d 4 4 "_law_field" s__law_field rfl rfl
  have G__law_errors := gs_of X G d 5 5 "_law_errors" s__law_errors rfl rfl
  have G__law_codes := gs_of X G d 6 6 "_law_codes" s__law_codes rfl rfl
  have G__law_plain_codes := gs_of X G d 7 7 "_law_plain_codes" s__law_plain_codes rfl rfl
  have G__law_flags := gs_of X G d 8 8 "_law_flags" s__law_flags rfl rfl
  have c_FrameError := He.glo_ok X G (d.fact 10 (f := .glo "FrameError") rfl)
  have c_Missing := He.glo_ok X G (d.fact 11 (f := .glo "Missing") rfl)
  have c_InvalidRatio := He.glo_ok X G (d.fact 12 (f := .glo "InvalidRatio") rfl)
  have c_InvalidFrame := He.glo_ok X G (d.fact 13 (f := .glo "InvalidFrame") rfl)
  have c_TooMany := He.glo_ok X G (d.fact 14 (f := .glo "TooMany") rfl)
  have c_InvalidSizes := He.glo_ok X G (d.fact 15 (f := .glo "InvalidSizes") rfl)
  have c_InvalidExpression := He.glo_ok X G (d.fact 16 (f := .glo "InvalidExpression") rfl)
  have c_InvalidFact := He.glo_ok X G (d.fact 17 (f := .glo "InvalidFact") rfl)
  have c_NoSizes := He.glo_ok X G (d.fact 18 (f := .glo "NoSizes") rfl)
  have c_InvalidClaim := He.glo_ok X G (d.fact 19 (f := .glo "InvalidClaim") rfl)
  have c_UnknownThing := He.glo_ok X G (d.fact 20 (f := .glo "UnknownThing") rfl)
  have c_NotHeld := He.glo_ok X G (d.fact 21 (f := .glo "NotHeld") rfl)
  have c_OtherThings := He.glo_ok X G (d.fact 22 (f := .glo "OtherThings") rfl)
  have c_TooLarge := He.glo_ok X G (d.fact 23 (f := .glo "TooLarge") rfl)
  have c_InvalidText := He.glo_ok X G (d.fact 24 (f := .glo "InvalidText") rfl)
  have c_InvalidName := He.glo_ok X G (d.fact 25 (f := .glo "InvalidName") rfl)
  have c_DuplicateName := He.glo_ok X G (d.fact 26 (f := .glo "DuplicateName") rfl)
  have c_WrongKind := He.glo_ok X G (d.fact 27 (f := .glo "WrongKind") rfl)
  have c_InUse := He.glo_ok X G (d.fact 28 (f := .glo "InUse") rfl)
  have c_Full := He.glo_ok X G (d.fact 29 (f := .glo "Full") rfl)
  have c_InvalidCommand := He.glo_ok X G (d.fact 30 (f := .glo "InvalidCommand") rfl)
  have c_Stopped := He.glo_ok X G (d.fact 31 (f := .glo "Stopped") rfl)
  have c_InvalidLimit := He.glo_ok X G (d.fact 32 (f := .glo "InvalidLimit") rfl)
  have c_ParseError := He.glo_ok X G (d.fact 33 (f := .glo "ParseError") rfl)
  have c_UnknownName := He.glo_ok X G (d.fact 34 (f := .glo "UnknownName") rfl)
  have c_UnknownClaim := He.glo_ok X G (d.fact 35 (f := .glo "UnknownClaim") rfl)
  have c_NothingLeft := He.glo_ok X G (d.fact 36 (f := .glo "NothingLeft") rfl)
  have m_int := free_of X G d 37 "int" rfl
  have m_list := free_of X G d 38 "list" rfl
  have m_len := free_of X G d 39 "len" rfl
  have m_isinstance := free_of X G d 40 "isinstance" rfl
  have m_tuple := free_of X G d 41 "tuple" rfl
  have m_all := free_of X G d 42 "all" rfl
  have m_range := free_of X G d 43 "range" rfl
  have m_dict := free_of X G d 44 "dict" rfl
  have m_bool := free_of X G d 45 "bool" rfl
  have m_str := free_of X G d 46 "str" rfl
  have m_ValueError := free_of X G d 47 "ValueError" rfl
  have m_LookupError := free_of X G d 48 "LookupError" rfl
  have m_IndexError := free_of X G d 49 "IndexError" rfl
  have more := c.more
  unfold exB at more
  simp only [Bool.and_eq_true] at more
  obtain ⟨⟨⟨⟨x1, x2, x3⟩, x4, x5⟩, x6, x7⟩, x8⟩ := more
  obtain ⟨fd0, FI0⟩ := d.def_ 10 rfl
  obtain ⟨TE0, i0, j0⟩ := errsB_at x1 "InvalidRatio" (by simp)
  have M0 : OexV P w K mg base 1 (He.ga K "InvalidRatio") (spIni (He.ga K "InvalidRatio") 0 fun _ => [("code", .str "InvalidRatio")]) := ⟨exG TE0.ox, _, _, ["self"], i0, j0, ini_InvalidRatio FI0 TE0, FI0.bindsN fun _ _ _ _ _ _ us hl => match us, hl with | [_], _ => rfl⟩
  obtain ⟨fd1, FI1⟩ := d.def_ 11 rfl
  obtain ⟨TE1, i1, j1⟩ := errsB_at x1 "InvalidFrame" (by simp)
  have M1 : OexV P w K mg base 1 (He.ga K "InvalidFrame") (spIni (He.ga K "InvalidFrame") 0 fun _ => [("code", .str "InvalidFrame")]) := ⟨exG TE1.ox, _, _, ["self"], i1, j1, ini_InvalidFrame FI1 TE1, FI1.bindsN fun _ _ _ _ _ _ us hl => match us, hl with | [_], _ => rfl⟩
  obtain ⟨fd2, FI2⟩ := d.def_ 12 rfl
  obtain ⟨TE2, i2, j2⟩ := errsB_at x1 "TooMany" (by simp)
  have M2 : OexV P w K mg base 1 (He.ga K "TooMany") (spIni (He.ga K "TooMany") 1 fun vs => [(("most" : Str), vs.headD .non), (("code" : Str), V.str "TooMany")]) := ⟨exG TE2.ox, _, _, ["self", "most"], i2, j2, ini_TooMany FI2 TE2, FI2.bindsN fun _ _ _ _ _ _ us hl => match us, hl with | [_, _], _ => rfl⟩
  obtain ⟨fd3, FI3⟩ := d.def_ 13 rfl
  obtain ⟨TE3, i3, j3⟩ := errsB_at x1 "InvalidSizes" (by simp)
  have M3 : OexV P w K mg base 1 (He.ga K "InvalidSizes") (spIni (He.ga K "InvalidSizes") 1 fun vs => [(("name" : Str), vs.headD .non), (("code" : Str), V.str "InvalidSizes")]) := ⟨exG TE3.ox, _, _, ["self", "name"], i3, j3, ini_InvalidSizes FI3 TE3, FI3.bindsN fun _ _ _ _ _ _ us hl => match us, hl with | [_, _], _ => rfl⟩
  obtain ⟨fd4, FI4⟩ := d.def_ 14 rfl
  obtain ⟨TE4, i4, j4⟩ := errsB_at x1 "InvalidExpression" (by simp)
  have M4 : OexV P w K mg base 1 (He.ga K "InvalidExpression") (spIni (He.ga K "InvalidExpression") 0 fun _ => [("code", .str "InvalidExpression")]) := ⟨exG TE4.ox, _, _, ["self"], i4, j4, ini_InvalidExpression FI4 TE4, FI4.bindsN fun _ _ _ _ _ _ us hl => match us, hl with | [_], _ => rfl⟩
  obtain ⟨fd5, FI5⟩ := d.def_ 15 rfl
  obtain ⟨TE5, i5, j5⟩ := errsB_at x1 "InvalidFact" (by simp)
  have M5 : OexV P w K mg base 1 (He.ga K "InvalidFact") (spIni (He.ga K "InvalidFact") 1 fun vs => [(("index" : Str), vs.headD .non), (("code" : Str), V.str "InvalidFact")]) := ⟨exG TE5.ox, _, _, ["self", "index"], i5, j5, ini_InvalidFact FI5 TE5, FI5.bindsN fun _ _ _ _ _ _ us hl => match us, hl with | [_, _], _ => rfl⟩
  obtain ⟨fd6, FI6⟩ := d.def_ 16 rfl
  obtain ⟨TE6, i6, j6⟩ := errsB_at x1 "NoSizes" (by simp)
  have M6 : OexV P w K mg base 1 (He.ga K "NoSizes") (spIni (He.ga K "NoSizes") 0 fun _ => [("code", .str "NoSizes")]) := ⟨exG TE6.ox, _, _, ["self"], i6, j6, ini_NoSizes FI6 TE6, FI6.bindsN fun _ _ _ _ _ _ us hl => match us, hl with | [_], _ => rfl⟩
  obtain ⟨fd7, FI7⟩ := d.def_ 17 rfl
  obtain ⟨TE7, i7, j7⟩ := errsB_at x1 "InvalidClaim" (by simp)
  have M7 : OexV P w K mg base 1 (He.ga K "InvalidClaim") (spIni (He.ga K "InvalidClaim") 0 fun _ => [("code", .str "InvalidClaim")]) := ⟨exG TE7.ox, _, _, ["self"], i7, j7, ini_InvalidClaim FI7 TE7, FI7.bindsN fun _ _ _ _ _ _ us hl => match us, hl with | [_], _ => rfl⟩
  obtain ⟨fd8, FI8⟩ := d.def_ 18 rfl
  obtain ⟨TE8, i8, j8⟩ := errsB_at x1 "UnknownThing" (by simp)
  have M8 : OexV P w K mg base 1 (He.ga K "UnknownThing") (spIni (He.ga K "UnknownThing") 1 fun vs => [(("name" : Str), vs.headD .non), (("code" : Str), V.str "UnknownThing")]) := ⟨exG TE8.ox, _, _, ["self", "name"], i8, j8, ini_UnknownThing FI8 TE8, FI8.bindsN fun _ _ _ _ _ _ us hl => match us, hl with | [_, _], _ => rfl⟩
  obtain ⟨fd9, FI9⟩ := d.def_ 19 rfl
  obtain ⟨TE9, i9, j9⟩ := errsB_at x1 "NotHeld" (by simp)
  have M9 : OexV P w K mg base 1 (He.ga K "NotHeld") (spIni (He.ga K "NotHeld") 0 fun _ => [("code", .str "NotHeld")]) := ⟨exG TE9.ox, _, _, ["self"], i9, j9, ini_NotHeld FI9 TE9, FI9.bindsN fun _ _ _ _ _ _ us hl => match us, hl with | [_], _ => rfl⟩
  obtain ⟨fd10, FI10⟩ := d.def_ 20 rfl
  obtain ⟨TE10, i10, j10⟩ := errsB_at x1 "OtherThings" (by simp)
  have M10 : OexV P w K mg base 1 (He.ga K "OtherThings") (spIni (He.ga K "OtherThings") 0 fun _ => [("code", .str "OtherThings")]) := ⟨exG TE10.ox, _, _, ["self"], i10, j10, ini_OtherThings FI10 TE10, FI10.bindsN fun _ _ _ _ _ _ us hl => match us, hl with | [_], _ => rfl⟩
  obtain ⟨fd11, FI11⟩ := d.def_ 21 rfl
  obtain ⟨TE11, i11, j11⟩ := errsB_at x1 "TooLarge" (by simp)
  have M11 : OexV P w K mg base 1 (He.ga K "TooLarge") (spIni (He.ga K "TooLarge") 0 fun _ => [("code", .str "TooLarge")]) := ⟨exG TE11.ox, _, _, ["self"], i11, j11, ini_TooLarge FI11 TE11, FI11.bindsN fun _ _ _ _ _ _ us hl => match us, hl with | [_], _ => rfl⟩
  obtain ⟨fd12, FI12⟩ := d.def_ 22 rfl
  obtain ⟨TE12, i12, j12⟩ := errsB_at x1 "InvalidText" (by simp)
  have M12 : OexV P w K mg base 1 (He.ga K "InvalidText") (spIni (He.ga K "InvalidText") 1 fun vs => [(("at" : Str), vs.headD .non), (("code" : Str), V.str "InvalidText")]) := ⟨exG TE12.ox, _, _, ["self", "at"], i12, j12, ini_InvalidText FI12 TE12, FI12.bindsN fun _ _ _ _ _ _ us hl => match us, hl with | [_, _], _ => rfl⟩
  obtain ⟨fd13, FI13⟩ := d.def_ 23 rfl
  obtain ⟨TE13, i13, j13⟩ := errsB_at x1 "InvalidName" (by simp)
  have M13 : OexV P w K mg base 1 (He.ga K "InvalidName") (spIni (He.ga K "InvalidName") 1 fun vs => [(("name" : Str), vs.headD .non), (("code" : Str), V.str "InvalidName")]) := ⟨exG TE13.ox, _, _, ["self", "name"], i13, j13, ini_InvalidName FI13 TE13, FI13.bindsN fun _ _ _ _ _ _ us hl => match us, hl with | [_, _], _ => rfl⟩
  obtain ⟨fd14, FI14⟩ := d.def_ 24 rfl
  obtain ⟨TE14, i14, j14⟩ := errsB_at x1 "DuplicateName" (by simp)
  have M14 : OexV P w K mg base 1 (He.ga K "DuplicateName") (spIni (He.ga K "DuplicateName") 1 fun vs => [(("name" : Str), vs.headD .non), (("code" : Str), V.str "DuplicateName")]) := ⟨exG TE14.ox, _, _, ["self", "name"], i14, j14, ini_DuplicateName FI14 TE14, FI14.bindsN fun _ _ _ _ _ _ us hl => match us, hl with | [_, _], _ => rfl⟩
  obtain ⟨fd15, FI15⟩ := d.def_ 25 rfl
  obtain ⟨TE15, i15, j15⟩ := errsB_at x1 "WrongKind" (by simp)
  have M15 : OexV P w K mg base 1 (He.ga K "WrongKind") (spIni (He.ga K "WrongKind") 1 fun vs => [(("name" : Str), vs.headD .non), (("code" : Str), V.str "WrongKind")]) := ⟨exG TE15.ox, _, _, ["self", "name"], i15, j15, ini_WrongKind FI15 TE15, FI15.bindsN fun _ _ _ _ _ _ us hl => match us, hl with | [_, _], _ => rfl⟩
  obtain ⟨fd16, FI16⟩ := d.def_ 26 rfl
  obtain ⟨TE16, i16, j16⟩ := errsB_at x1 "InUse" (by simp)
  have M16 : OexV P w K mg base 1 (He.ga K "InUse") (spIni (He.ga K "InUse") 1 fun vs => [(("claim" : Str), vs.headD .non), (("code" : Str), V.str "InUse")]) := ⟨exG TE16.ox, _, _, ["self", "claim"], i16, j16, ini_InUse FI16 TE16, FI16.bindsN fun _ _ _ _ _ _ us hl => match us, hl with | [_, _], _ => rfl⟩
  obtain ⟨fd17, FI17⟩ := d.def_ 27 rfl
  obtain ⟨TE17, i17, j17⟩ := errsB_at x1 "Full" (by simp)
  have M17 : OexV P w K mg base 1 (He.ga K "Full") (spIni (He.ga K "Full") 1 fun vs => [(("most" : Str), vs.headD .non), (("code" : Str), V.str "Full")]) := ⟨exG TE17.ox, _, _, ["self", "most"], i17, j17, ini_Full FI17 TE17, FI17.bindsN fun _ _ _ _ _ _ us hl => match us, hl with | [_, _], _ => rfl⟩
  obtain ⟨fd18, FI18⟩ := d.def_ 28 rfl
  obtain ⟨TE18, i18, j18⟩ := errsB_at x1 "InvalidCommand" (by simp)
  have M18 : OexV P w K mg base 1 (He.ga K "InvalidCommand") (spIni (He.ga K "InvalidCommand") 1 fun vs => [(("word" : Str), vs.headD .non), (("code" : Str), V.str "InvalidCommand")]) := ⟨exG TE18.ox, _, _, ["self", "word"], i18, j18, ini_InvalidCommand FI18 TE18, FI18.bindsN fun _ _ _ _ _ _ us hl => match us, hl with | [_, _], _ => rfl⟩
  obtain ⟨fd19, FI19⟩ := d.def_ 29 rfl
  obtain ⟨TE19, i19, j19⟩ := errsB_at x1 "Stopped" (by simp)
  have M19 : OexV P w K mg base 1 (He.ga K "Stopped") (spIni (He.ga K "Stopped") 2 fun vs => [(("cause" : Str), vs.tail.headD .non), (("index" : Str), vs.headD .non), (("code" : Str), V.str "Stopped")]) := ⟨exG TE19.ox, _, _, ["self", "index", "cause"], i19, j19, inig_Stopped FI19 (errG TE19), FI19.bindsN fun _ _ _ _ _ _ us hl => match us, hl with | [_, _, _], _ => rfl⟩
  obtain ⟨fd20, FI20⟩ := d.def_ 30 rfl
  obtain ⟨TE20, i20, j20⟩ := errsB_at x1 "InvalidLimit" (by simp)
  have M20 : OexV P w K mg base 1 (He.ga K "InvalidLimit") (spIni (He.ga K "InvalidLimit") 1 fun vs => [(("limit" : Str), vs.headD .non), (("code" : Str), V.str "InvalidLimit")]) := ⟨exG TE20.ox, _, _, ["self", "limit"], i20, j20, ini_InvalidLimit FI20 TE20, FI20.bindsN fun _ _ _ _ _ _ us hl => match us, hl with | [_, _], _ => rfl⟩
  obtain ⟨fd21, FI21⟩ := d.def_ 31 rfl
  obtain ⟨TE21, i21, j21⟩ := errsB_at x1 "ParseError" (by simp)
  have M21 : OexV P w K mg base 1 (He.ga K "ParseError") (spIni (He.ga K "ParseError") 1 fun vs => [(("line" : Str), vs.headD .non), (("code" : Str), V.str "ParseError")]) := ⟨exG TE21.ox, _, _, ["self", "line"], i21, j21, ini_ParseError FI21 TE21, FI21.bindsN fun _ _ _ _ _ _ us hl => match us, hl with | [_, _], _ => rfl⟩
  obtain ⟨fd22, FI22⟩ := d.def_ 32 rfl
  have TE22 := lookB_ok x3
  obtain ⟨i22, j22⟩ := Bool.and_eq_true_iff.mp (show (_ && _) = true from x2)
  have M22 : OexV P w K mg base 1 (He.ga K "UnknownName") (spIni (He.ga K "UnknownName") 1 fun vs => [(("name" : Str), vs.headD .non), (("code" : Str), V.str "UnknownName")]) := ⟨TE22.og, _, _, ["self", "name"], of_decide_eq_true i22, of_decide_eq_true j22, inig_UnknownName FI22 TE22, FI22.bindsN fun _ _ _ _ _ _ us hl => match us, hl with | [_, _], _ => rfl⟩
  obtain ⟨fd23, FI23⟩ := d.def_ 33 rfl
  have TE23 := lookB_ok x5
  obtain ⟨i23, j23⟩ := Bool.and_eq_true_iff.mp (show (_ && _) = true from x4)
  have M23 : OexV P w K mg base 1 (He.ga K "UnknownClaim") (spIni (He.ga K "UnknownClaim") 1 fun vs => [(("claim" : Str), vs.headD .non), (("code" : Str), V.str "UnknownClaim")]) := ⟨TE23.og, _, _, ["self", "claim"], of_decide_eq_true i23, of_decide_eq_true j23, inig_UnknownClaim FI23 TE23, FI23.bindsN fun _ _ _ _ _ _ us hl => match us, hl with | [_, _], _ => rfl⟩
  obtain ⟨fd24, FI24⟩ := d.def_ 34 rfl
  have TE24 := indxB_ok x7
  obtain ⟨i24, j24⟩ := Bool.and_eq_true_iff.mp (show (_ && _) = true from x6)
  have M24 : OexV P w K mg base 1 (He.ga K "NothingLeft") (spIni (He.ga K "NothingLeft") 0 fun _ => [("code", .str "NothingLeft")]) := ⟨TE24.og, _, _, ["self"], of_decide_eq_true i24, of_decide_eq_true j24, inig_NothingLeft FI24 TE24, FI24.bindsN fun _ _ _ _ _ _ us hl => match us, hl with | [_], _ => rfl⟩
  have HM : ErrsM P w K mg base := by
    refine ⟨fun x hx => ?_, fun x hx => ?_, fun x f hx => ?_, M19⟩
    · simp only [names25, List.mem_cons, List.not_mem_nil, or_false] at hx
      rcases hx with rfl | rfl | rfl | rfl | rfl | rfl | rfl | rfl | rfl | rfl | rfl | rfl | rfl | rfl | rfl | rfl | rfl | rfl | rfl | rfl | rfl | rfl | rfl | rfl | rfl
      · exact c_InvalidRatio
      · exact c_InvalidFrame
      · exact c_TooMany
      · exact c_InvalidSizes
      · exact c_InvalidExpression
      · exact c_InvalidFact
      · exact c_NoSizes
      · exact c_InvalidClaim
      · exact c_UnknownThing
      · exact c_NotHeld
      · exact c_OtherThings
      · exact c_TooLarge
      · exact c_InvalidText
      · exact c_InvalidName
      · exact c_DuplicateName
      · exact c_WrongKind
      · exact c_InUse
      · exact c_Full
      · exact c_InvalidCommand
      · exact c_Stopped
      · exact c_InvalidLimit
      · exact c_ParseError
      · exact c_UnknownName
      · exact c_UnknownClaim
      · exact c_NothingLeft
    · simp only [tbl25, List.mem_cons, List.not_mem_nil, or_false, Prod.mk.injEq, reduceCtorEq, and_false, and_true, false_or] at hx
      rcases hx with rfl | rfl | rfl | rfl | rfl | rfl | rfl | rfl | rfl
      · exact M0
      · exact M1
      · exact M4
      · exact M6
      · exact M7
      · exact M9
      · exact M10
      · exact M11
      · exact M24
    · simp only [tbl25, List.mem_cons, List.not_mem_nil, or_false, Prod.mk.injEq, reduceCtorEq, and_false, and_true, false_or, Ek.o.injEq] at hx
      rcases hx with ⟨rfl, rfl⟩ | ⟨rfl, rfl⟩ | ⟨rfl, rfl⟩ | ⟨rfl, rfl⟩ | ⟨rfl, rfl⟩ | ⟨rfl, rfl⟩ | ⟨rfl, rfl⟩ | ⟨rfl, rfl⟩ | ⟨rfl, rfl⟩ | ⟨rfl, rfl⟩ | ⟨rfl, rfl⟩ | ⟨rfl, rfl⟩ | ⟨rfl, rfl⟩ | ⟨rfl, rfl⟩ | ⟨rfl, rfl⟩
      · exact M2
      · exact M3
      · exact M5
      · exact M8
      · exact M12
      · exact M13
      · exact M14
      · exact M15
      · exact M16
      · exact M17
      · exact M18
      · exact M20
      · exact M21
      · exact M22
      · exact M23
  have gBag := ok__law_bag (P := P) (w := w) (base := base) G__law_bag m_int m_list
  have gPull := pullD (ok__law_pull (P := P) (w := w) (base := base) G__law_pull m_int m_len)
  have gOf := dd__law_of G__law_of gPull m_len
  have gSame := dd__law_same (P := P) (w := w) (base := base) G__law_same m_isinstance m_tuple m_list m_all m_range m_len m_dict m_int m_bool m_str 3
  exact fo_law HM (errIB_ok x8) c_FrameError c_Missing m_ValueError m_LookupError m_IndexError m_isinstance m_range m_int gBag gPull gOf (dd__law_codes G__law_codes) (dd__law_plain_codes G__law_plain_codes) (dd__law_errors G__law_errors HM) gSame (dd__law_flags G__law_flags HM m_isinstance) (dd__law_field G__law_field) _ _ FL
end Fs
open PySem PySem.W PySem.Calls PyProof.Rows
theorem PySem.Challenge.cw_framesure_k64_error_classes_holds : PySem.Challenge.rw_framesure_k64_error_classes.Holds := by
  w_on; o_law
  refine HandSHeadRun.head_any (r := OpenLaw.row PySem.Challenge.rw_framesure_k64_error_classes) (q := view (OpenLaw.row PySem.Challenge.rw_framesure_k64_error_classes).prog [38]) (H := Fs.hk) (ob := Fs.ob) (M := 12000) (loose := Fs.loose) (d := HandSHeadRun.topDef (OpenLaw.row PySem.Challenge.rw_framesure_k64_error_classes).prog 38) (kwd := []) Fs.ob_eq
    (by kernel_rfl) (fun s => by kernel_rfl) Fs.run (by kernel_rfl) (by kernel_rfl) (by kernel_rfl) (by rfl) (by first | assumption | decide +kernel) (by decide +kernel) ⟨rfl, rfl, rfl, rfl, rfl, by decide +kernel⟩ ?hw ?hc
  case hw => w_witness2
  case hc =>
    refine L2.walk_ofE (l := PySem.Challenge.rw_framesure_k64_error_classes) (n := 63) (k := 12) (x := "_law_script") (CX := L2.CX0) rfl (by decide) (by kernel_rfl) ⟨rfl, by decide, by decide⟩ ?F (fun _ _ _ _ z => z)
    intro w mg fa h Y G hmg0
    obtain ⟨K, KX, c⟩ := Y
    have hmg : mg ("law" : PySem.Str) = some (.ref fa) := by
      have e : (HandSHeadRun.topDef (OpenLaw.row PySem.Challenge.rw_framesure_k64_error_classes).prog 38).name = ("law" : PySem.Str) := by kernel_rfl
      rw [← e]
      exact hmg0
    obtain ⟨fd, hb, hF⟩ := Fs.facts (P := (PySem.Challenge.rw_framesure_k64_error_classes).prog) (w := w) KX G hmg c
    exact ⟨K, fd, Fs.spLaw K, KX, hb, fun H a ns hl _ hS => ⟨a, ns, rfl, hS, hl, fun _ => rfl⟩, hF⟩
